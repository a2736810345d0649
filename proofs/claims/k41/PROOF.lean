import PyProof.Rows.All
import Wide.All
import OpenK.AllK
import Wide.FinOn
import HandS.ForMost
import HandS.IsInst
import HandS.Wide
import HandS.HotCalls
import KE.KDictKeyed
import KE.KeyNested
import HandS.Lambda
import HandS.Exc
import HandS.WordsExc
import KE.DataCmp
import KE.DataFind
import HandS.Deep
import HandS.Style
import HandS.Strs
import HandS.ExcIs
import HandS.SetBool
import KE.GoesMore
import KE.GoesEnum
import HandS.DictComp
import HandS.Conv
import HandS.Sort
import HandS.Rev
import HandS.SortKw
import HandS.SortInts
import HandS.SortRule
import KE.KSortTup
import HandS.Gcd
import KE.KMathGC
import KE.RegKIsAll
import PySem.Challenge.RW_guardwords_k41_followed_repeated_backwar
set_option Elab.async false
set_option linter.all false
set_option maxRecDepth 100000
namespace DL
open PySem PySem.Spec PyProof.Rows L2
inductive D where
  | non | bl (b : Bool) | int (i : Int) | str (x : Str) | tup (xs : List D) | lis (xs : List D) | scr (ns : List Int) | ref (a : Addr) | ty (n : String)
inductive DO where
  | lst (xs : List D)
  | hid
  | dct (ps : List (Key × D))
  | dlk (ps : List (Key × D))
  | ho (u : HO)
  | ded (ps : List (D × D))
  | tab (q : Str)
abbrev DH := Addr → Option DO
def put (h : DH) (a : Addr) (o : DO) : DH := fun b => if b = a then some o else h b
def del (h : DH) (a : Addr) : DH := fun b => if b = a then none else h b
theorem put_same {h : DH} {a : Addr} {o : DO} : put h a o a = some o := if_pos rfl
theorem put_ne {h : DH} {a b : Addr} {o : DO} (e : b ≠ a) : put h a o b = h b := if_neg e
theorem del_same {h : DH} {a : Addr} : del h a a = none := if_pos rfl
theorem del_ne {h : DH} {a b : Addr} (e : b ≠ a) : del h a b = h b := if_neg e
theorem put_put {h : DH} {a : Addr} {o u : DO} : put (put h a o) a u = put h a u := by
  funext b; unfold put; split <;> rfl
theorem put_comm {h : DH} {a b : Addr} {o u : DO} (e : a ≠ b) : put (put h a o) b u = put (put h b u) a o := by
  funext c; unfold put
  by_cases h1 : c = b
  · rw [if_pos h1, if_neg (fun h2 => e (h2.symm.trans h1)), if_pos h1]
  · rw [if_neg h1, if_neg h1]
theorem del_put {h : DH} {a : Addr} {o : DO} (n : h a = none) : del (put h a o) a = h := by
  funext b; unfold del put
  by_cases e : b = a
  · rw [if_pos e, e, n]
  · rw [if_neg e, if_neg e]
theorem put_get {h : DH} {a : Addr} {o : DO} (e : h a = some o) : put h a o = h := by
  funext b; unfold put
  by_cases q : b = a
  · rw [if_pos q, q, e]
  · rw [if_neg q]
def TupAt (K : PySem.W.Frag) (h : DH) (H : Hp) (a : Addr) (vs : List V) : Prop :=
  (h a = none ∧ ∃ ob : Obj, ob.dict = none ∧ H a = some (.frz ob (.tup vs))) ∨
    ∃ (o : Obj) (its : Array Value) (n : Nat), K.lookup a = some o ∧ o.cls = .type "tuple" ∧ o.dict = none ∧ o.data = .seq its n ∧ its.size ≤ sizeLine ∧ Vals vs its.toList
def ScrAt (K : PySem.W.Frag) (h : DH) (H : Hp) (a : Addr) (vs : List V) : Prop :=
  (h a = none ∧ Rd H a (.lst vs)) ∨
    ∃ (o : Obj) (its : Array Value) (n : Nat), K.lookup a = some o ∧ o.cls = .type "list" ∧ o.dict = none ∧ o.data = .seq its n ∧ its.size ≤ sizeLine ∧ Vals vs its.toList
theorem TupAt.sq {K : PySem.W.Frag} {h : DH} {H : Hp} {a : Addr} {vs : List V} (t : TupAt K h H a vs) : SqT K H a vs := t.elim (fun ⟨_, ob, _, e⟩ => .inl (.inr ⟨ob, e⟩)) fun ⟨o, its, n, a, b, _, c⟩ => .inr ⟨o, its, n, a, b, c⟩
theorem ScrAt.sq {K : PySem.W.Frag} {h : DH} {H : Hp} {a : Addr} {vs : List V} (t : ScrAt K h H a vs) : SqL K H a vs := t.elim (fun z => .inl z.2) .inr
variable {K : PySem.W.Frag}
mutual
/-- v, in the heap H, is the data d -/
def RD (K : PySem.W.Frag) (h : DH) (H : Hp) : D → V → Prop
  | .non, v => v = .non
  | .bl b, v => v = .bl b
  | .int i, v => v = .int i
  | .str x, v => v = .str x
  | .ref a, v => v = .ref a
  | .ty n, v => v = .ty n
  | .tup ds, v => ∃ a vs, v = .ref a ∧ TupAt K h H a vs ∧ RDs K h H ds vs
  | .lis ds, v => ∃ a vs, v = .ref a ∧ h a = none ∧ H a = some (.lst vs) ∧ RDs K h H ds vs
  | .scr ns, v => ∃ a, v = .ref a ∧ ScrAt K h H a (ns.map V.int)
def RDs (K : PySem.W.Frag) (h : DH) (H : Hp) : List D → List V → Prop
  | [], vs => vs = []
  | d :: ds, vs => ∃ v r, vs = v :: r ∧ RD K h H d v ∧ RDs K h H ds r
end
def still : Option DO → Bool
  | none => true
  | some .hid => true
  | some (.lst _) => false
  | some (.dct _) => false
  | some (.dlk _) => true
  | some (.ho _) => false
  | some (.ded _) => false
  | some (.tab _) => false
def KP (h : DH) (H : Hp) (h' : DH) (H' : Hp) : Prop := ∀ a o, still (h a) = true → H a = some o → h' a = h a ∧ H' a = some o
theorem KP.refl {h : DH} {H : Hp} : KP h H h H := fun _ _ _ e => ⟨rfl, e⟩
theorem KP.trans {h h1 h2 : DH} {H H1 H2 : Hp} (k : KP h H h1 H1) (l : KP h1 H1 h2 H2) : KP h H h2 H2 := fun a o s e => by
  obtain ⟨e1, e2⟩ := k a o s e
  obtain ⟨e3, e4⟩ := l a o (by rw [e1]; exact s) e2
  exact ⟨e3.trans e1, e4⟩
theorem KP.rd {h h' : DH} {H H' : Hp} {a : Addr} {u : HO} (k : KP h H h' H') (n : h a = none) (r : Rd H a u) : h' a = none ∧ Rd H' a u := by
  have s : still (h a) = true := by rw [n]; rfl
  rcases r with e | ⟨o, e⟩
  · obtain ⟨e1, e2⟩ := k a _ s e
    exact ⟨e1.trans n, .inl e2⟩
  · obtain ⟨e1, e2⟩ := k a _ s e
    exact ⟨e1.trans n, .inr ⟨o, e2⟩⟩
def KN (h : DH) (H : Hp) (h' : DH) (H' : Hp) : Prop := ∀ a o, h a = none → H a = some o → h' a = none ∧ H' a = some o
theorem KP.kn {h h' : DH} {H H' : Hp} (k : KP h H h' H') : KN h H h' H' := fun a o n e => by
  obtain ⟨e1, e2⟩ := k a o (by rw [n]; rfl) e
  exact ⟨e1.trans n, e2⟩
theorem KN.rd {h h' : DH} {H H' : Hp} {a : Addr} {u : HO} (k : KN h H h' H') (n : h a = none) (r : Rd H a u) : h' a = none ∧ Rd H' a u := by
  rcases r with e | ⟨o, e⟩
  · exact ⟨(k a _ n e).1, .inl (k a _ n e).2⟩
  · exact ⟨(k a _ n e).1, .inr ⟨o, (k a _ n e).2⟩⟩
theorem KN.tup {h h' : DH} {H H' : Hp} {a : Addr} {vs : List V} (k : KN h H h' H') (t : TupAt K h H a vs) : TupAt K h' H' a vs := t.elim (fun ⟨n, ob, d, e⟩ => .inl ⟨(k a _ n e).1, ob, d, (k a _ n e).2⟩) .inr
theorem KN.scr {h h' : DH} {H H' : Hp} {a : Addr} {vs : List V} (k : KN h H h' H') (t : ScrAt K h H a vs) : ScrAt K h' H' a vs := t.elim (fun z => .inl (k.rd z.1 z.2)) .inr
theorem KP.tup {h h' : DH} {H H' : Hp} {a : Addr} {vs : List V} (k : KP h H h' H') (t : TupAt K h H a vs) : TupAt K h' H' a vs := k.kn.tup t
theorem KP.scr {h h' : DH} {H H' : Hp} {a : Addr} {vs : List V} (k : KP h H h' H') (t : ScrAt K h H a vs) : ScrAt K h' H' a vs := t.elim (fun z => .inl (k.rd z.1 z.2)) .inr
mutual
theorem RD.monoN {h h' : DH} {H H' : Hp} (k : KN h H h' H') : ∀ (d : D) (v : V), RD K h H d v → RD K h' H' d v
  | .non, _, r => r
  | .bl _, _, r => r
  | .int _, _, r => r
  | .str _, _, r => r
  | .ref _, _, r => r
  | .ty _, _, r => r
  | .tup ds, v, r => by
    obtain ⟨a, vs, e, t, q⟩ := r
    exact ⟨a, vs, e, k.tup t, RDs.monoN k ds vs q⟩
  | .lis ds, v, r => by
    obtain ⟨a, vs, e, n, t, q⟩ := r
    obtain ⟨n', t'⟩ := k a _ n t
    exact ⟨a, vs, e, n', t', RDs.monoN k ds vs q⟩
  | .scr ns, v, r => by
    obtain ⟨a, e, t⟩ := r
    exact ⟨a, e, k.scr t⟩
theorem RDs.monoN {h h' : DH} {H H' : Hp} (k : KN h H h' H') : ∀ (ds : List D) (vs : List V), RDs K h H ds vs → RDs K h' H' ds vs
  | [], _, r => r
  | d :: ds, vs, r => by
    obtain ⟨v, w, e, q1, q2⟩ := r
    exact ⟨v, w, e, RD.monoN k d v q1, RDs.monoN k ds w q2⟩
end
theorem RD.mono {h h' : DH} {H H' : Hp} (k : KP h H h' H') (d : D) (v : V) (r : RD K h H d v) : RD K h' H' d v := RD.monoN k.kn d v r
theorem RDs.mono {h h' : DH} {H H' : Hp} (k : KP h H h' H') (ds : List D) (vs : List V) (r : RDs K h H ds vs) : RDs K h' H' ds vs := RDs.monoN k.kn ds vs r
theorem RDs.length {h : DH} {H : Hp} : ∀ {ds : List D} {vs : List V}, RDs K h H ds vs → vs.length = ds.length
  | [], vs, r => by rw [show vs = [] from r]; rfl
  | d :: ds, vs, r => by
    obtain ⟨v, w, e, _, q2⟩ := r
    rw [e, List.length_cons, List.length_cons, RDs.length q2]
theorem RDs.nil {h : DH} {H : Hp} : RDs K h H [] [] := rfl
theorem RDs.cons {h : DH} {H : Hp} {d : D} {v : V} {ds : List D} {vs : List V} (a : RD K h H d v) (b : RDs K h H ds vs) : RDs K h H (d :: ds) (v :: vs) := ⟨v, vs, rfl, a, b⟩
theorem RDs.append {h : DH} {H : Hp} : ∀ {ds es : List D} {vs ws : List V}, RDs K h H ds vs → RDs K h H es ws → RDs K h H (ds ++ es) (vs ++ ws)
  | [], _, _, _, r, s => by rw [show _ = [] from r]; exact s
  | d :: ds, _, _, _, r, s => by
    obtain ⟨v, w, rfl, q1, q2⟩ := r
    exact ⟨v, _, rfl, q1, RDs.append q2 s⟩
theorem RDs.get {h : DH} {H : Hp} : ∀ {ds : List D} {vs : List V} {i : Nat} {d : D}, RDs K h H ds vs → ds[i]? = some d → ∃ v, vs[i]? = some v ∧ RD K h H d v
  | [], _, i, _, _, e => by simp at e
  | d :: ds, vs, 0, d', r, e => by
    obtain ⟨v, w, rfl, q1, q2⟩ := r
    have e' : d = d' := by simpa using e
    subst e'
    exact ⟨v, rfl, q1⟩
  | d :: ds, vs, i + 1, d', r, e => by
    obtain ⟨v, w, rfl, q1, q2⟩ := r
    obtain ⟨u, e1, e2⟩ := RDs.get (i := i) (d := d') q2 (by simpa using e)
    exact ⟨u, by simpa using e1, e2⟩
theorem RDs.drop {h : DH} {H : Hp} : ∀ (n : Nat) {ds : List D} {vs : List V}, RDs K h H ds vs → RDs K h H (ds.drop n) (vs.drop n)
  | 0, _, _, r => r
  | n + 1, [], vs, r => by rw [show vs = [] from r]; exact rfl
  | n + 1, d :: ds, vs, r => by
    obtain ⟨v, w, rfl, q1, q2⟩ := r
    exact RDs.drop n q2
theorem RDs.take {h : DH} {H : Hp} : ∀ (n : Nat) {ds : List D} {vs : List V}, RDs K h H ds vs → RDs K h H (ds.take n) (vs.take n)
  | 0, _, _, _ => rfl
  | n + 1, [], vs, r => by rw [show vs = [] from r]; exact rfl
  | n + 1, d :: ds, vs, r => by
    obtain ⟨v, w, rfl, q1, q2⟩ := r
    exact ⟨v, _, rfl, q1, RDs.take n q2⟩
theorem RDs.set {h : DH} {H : Hp} {d : D} {v : V} (q : RD K h H d v) : ∀ (n : Nat) {ds : List D} {vs : List V}, RDs K h H ds vs → RDs K h H (ds.set n d) (vs.set n v)
  | _, [], vs, r => by rw [show vs = [] from r]; exact rfl
  | 0, d' :: ds, vs, r => by
    obtain ⟨v', w, rfl, q1, q2⟩ := r
    exact ⟨v, w, rfl, q, q2⟩
  | n + 1, d' :: ds, vs, r => by
    obtain ⟨v', w, rfl, q1, q2⟩ := r
    exact ⟨v', _, rfl, q1, RDs.set q n q2⟩
def RDd (K : PySem.W.Frag) (h : DH) (H : Hp) (ps : List (Key × D)) (kvs : List (Key × V)) : Prop := kvs.map (·.1) = ps.map (·.1) ∧ RDs K h H (ps.map (·.2)) (kvs.map (·.2))
mutual
/-- the key that data is: whole numbers, truths, None, tuples of these -/
def nkD : D → Option NestedKey
  | .non => some .none
  | .bl b => some (.num (if b = true then 1 else 0))
  | .int i => some (.num i)
  | .tup xs => (nkDs xs).map .tup
  | _ => none
def nkDs : List D → Option (List NestedKey)
  | [] => some []
  | x :: xs => match nkD x, nkDs xs with
    | some k, some ks => some (k :: ks)
    | _, _ => none
end
def DedOb (ob : Obj) (xs : List (NestedKey × Addr × Value)) : Prop :=
  ob.ExactDict ∧ (∃ es ep, ob.data = .dict es ep ∧ ∀ P w, es.toList = xs.map (entryOfKey (nestedKind P w))) ∧ (∀ x ∈ xs, x.1.depth ≤ 8) ∧ (xs.map (·.1)).Nodup
def TabAt (h : DH) (H : Hp) (a : Addr) (q : Str) : Prop :=
  ∃ ps, H a = some (.tbl ps) ∧ TriplesOk ps.toList ∧ ∀ (pos : Pos) (cv : Value), codeAmong pos ps.toList = some cv → ∃ c, cv = Value.ref c ∧ h c = none ∧ H c = some (LamX.CodeO c q)
def HeldAt (K : PySem.W.Frag) (h : DH) (H : Hp) (a : Addr) : DO → Prop
  | .lst ds => ∃ vs, H a = some (.lst vs) ∧ RDs K h H ds vs
  | .hid => ∃ u, H a = some u
  | .dct ps => ∃ kvs, H a = some (.dK kvs) ∧ RDd K h H ps kvs
  | .dlk ps => ∃ od kvs, H a = some (.frz od (.dK kvs)) ∧ RDd K h H ps kvs
  | .ho u => H a = some u
  | .ded ps => ∃ (ob : Obj) (xs : List (NestedKey × Addr × Value)) (vs : List V), H a = some (.ext fun hp => hp.get? a = some ob) ∧ a ≠ sysModules ∧ DedOb ob xs ∧ ps.map (fun p => nkD p.1) = xs.map (fun x => some x.1) ∧ RDs K h H (ps.map (·.1)) (xs.map fun x => V.ref x.2.1) ∧ Vals vs (xs.map (·.2.2)) ∧ RDs K h H (ps.map (·.2)) vs
  | .tab q => TabAt h H a q
def HR (K : PySem.W.Frag) (h : DH) (H : Hp) : Prop := ∀ a o, h a = some o → HeldAt K h H a o
theorem HeldAt.on {h h' : DH} {H H' : Hp} {a : Addr} {o : DO} (q : HeldAt K h H a o) (k : KN h H h' H') (e : ∀ u, H a = some u → H' a = some u) : HeldAt K h' H' a o := by
  cases o with
  | lst ds => obtain ⟨vs, e1, r⟩ := q; exact ⟨vs, e _ e1, RDs.monoN k _ _ r⟩
  | hid => obtain ⟨u, e1⟩ := q; exact ⟨u, e _ e1⟩
  | dct ps => obtain ⟨kvs, e1, ek, r⟩ := q; exact ⟨kvs, e _ e1, ek, RDs.monoN k _ _ r⟩
  | dlk ps => obtain ⟨od, kvs, e1, ek, r⟩ := q; exact ⟨od, kvs, e _ e1, ek, RDs.monoN k _ _ r⟩
  | ho u => exact e _ q
  | ded ps => obtain ⟨ob, xs, vs, e1, en, od, ek, r1, rv, r2⟩ := q; exact ⟨ob, xs, vs, e _ e1, en, od, ek, RDs.monoN k _ _ r1, rv, RDs.monoN k _ _ r2⟩
  | tab s => obtain ⟨ps, e1, t, c⟩ := q; exact ⟨ps, e _ e1, t, fun pos cv z => let ⟨c', z1, z2, z3⟩ := c pos cv z; ⟨c', z1, (k c' _ z2 z3).1, (k c' _ z2 z3).2⟩⟩
theorem HeldAt.some {h : DH} {H : Hp} {a : Addr} {o : DO} (q : HeldAt K h H a o) : ∃ u, H a = Option.some u := by
  cases o with
  | lst ds => obtain ⟨vs, e1, r⟩ := q; exact ⟨_, e1⟩
  | hid => exact q
  | dct ps => obtain ⟨kvs, e1, r⟩ := q; exact ⟨_, e1⟩
  | dlk ps => obtain ⟨od, kvs, e1, r⟩ := q; exact ⟨_, e1⟩
  | ho u => exact ⟨_, q⟩
  | ded ps => obtain ⟨ob, xs, vs, e1, _⟩ := q; exact ⟨_, e1⟩
  | tab s => obtain ⟨ps, e1, _⟩ := q; exact ⟨_, e1⟩
theorem HR.fresh {h : DH} {H : Hp} {p : Addr} (r : HR K h H) (n : H p = none) : h p = none := by
  cases e : h p with
  | none => rfl
  | some o => obtain ⟨u, e1⟩ := (r p o e).some; rw [n] at e1; cases e1
theorem HR.dct {h : DH} {H : Hp} {a : Addr} {ps : List (Key × D)} (r : HR K h H) (e : h a = some (.dct ps)) : ∃ kvs, H a = some (.dK kvs) ∧ RDd K h H ps kvs := r a _ e
def dctAt (h : DH) (a : Addr) (ps : List (Key × D)) : Prop := h a = some (.dct ps) ∨ h a = some (.dlk ps)
theorem HR.dctAt {h : DH} {H : Hp} {a : Addr} {ps : List (Key × D)} (r : HR K h H) (e : DL.dctAt h a ps) : ∃ kvs, Rd H a (.dK kvs) ∧ RDd K h H ps kvs := by
  rcases e with e | e
  · obtain ⟨kvs, e1, q⟩ := r a _ e; exact ⟨kvs, .inl e1, q⟩
  · obtain ⟨od, kvs, e1, q⟩ := r a _ e; exact ⟨kvs, .inr ⟨od, e1⟩, q⟩
theorem HR.lst {h : DH} {H : Hp} {a : Addr} {ds : List D} (r : HR K h H) (e : h a = some (.lst ds)) : ∃ vs, H a = some (.lst vs) ∧ RDs K h H ds vs := r a _ e
theorem KP.new {h : DH} {H : Hp} {p : Addr} {o : HO} (n : H p = none) : KP h H h (upd H p o) := fun a u _ e => ⟨rfl, by rw [upd_ne (ne_of_none e n)]; exact e⟩
theorem HR.new {h : DH} {H : Hp} {p : Addr} {o : HO} (r : HR K h H) (n : H p = none) : HR K h (upd H p o) := fun a u e =>
  (r a u e).on (KP.new n).kn fun v e1 => by rw [upd_ne (ne_of_none e1 n)]; exact e1
theorem KP.newL {h : DH} {H : Hp} {p : Addr} {o : HO} {u : DO} (n : H p = none) : KP h H (put h p u) (upd H p o) := fun a v _ e =>
  ⟨put_ne (ne_of_none e n), by rw [upd_ne (ne_of_none e n)]; exact e⟩
theorem HR.newL {h : DH} {H : Hp} {p : Addr} {ds : List D} {vs : List V} (r : HR K h H) (n : H p = none) (q : RDs K h H ds vs) : HR K (put h p (.lst ds)) (upd H p (.lst vs)) := fun a u e => by
  by_cases ea : a = p
  · subst ea
    rw [put_same] at e
    cases e
    exact ⟨vs, upd_same, RDs.mono (KP.newL n) ds vs q⟩
  · rw [put_ne ea] at e
    exact (r a u e).on (KP.newL n).kn fun v e1 => by rw [upd_ne ea]; exact e1
theorem HR.newH {h : DH} {H : Hp} {p : Addr} {o : HO} (r : HR K h H) (n : H p = none) : HR K (put h p .hid) (upd H p o) := fun a u e => by
  by_cases ea : a = p
  · subst ea
    rw [put_same] at e
    cases e
    exact ⟨_, upd_same⟩
  · rw [put_ne ea] at e
    exact (r a u e).on (KP.newL n).kn fun v e1 => by rw [upd_ne ea]; exact e1
theorem KP.wrO {h : DH} {H : Hp} {p : Addr} {o : HO} {u : DO} (e : still (h p) = false) : KP h H (put h p u) (upd H p o) := fun a v s ea => by
  have ne : a ≠ p := fun z => by rw [z, e] at s; cases s
  exact ⟨put_ne ne, by rw [upd_ne ne]; exact ea⟩
theorem KP.wr {h : DH} {H : Hp} {p : Addr} {o : HO} {u : DO} {ds : List D} (e : h p = some (.lst ds)) : KP h H (put h p u) (upd H p o) := KP.wrO (by rw [e]; rfl)
theorem HR.wr {h : DH} {H : Hp} {p : Addr} {ds es : List D} {vs : List V} (r : HR K h H) (e : h p = some (.lst ds)) (q : RDs K h H es vs) : HR K (put h p (.lst es)) (upd H p (.lst vs)) := fun a u ea => by
  by_cases eq : a = p
  · subst eq
    rw [put_same] at ea
    cases ea
    exact ⟨vs, upd_same, RDs.mono (KP.wr e) es vs q⟩
  · rw [put_ne eq] at ea
    exact (r a u ea).on (KP.wr e).kn fun v e1 => by rw [upd_ne eq]; exact e1
def Sub (h2 h1 : DH) : Prop := ∀ a, h2 a = h1 a ∨ (h2 a = none ∧ still (h1 a) = false)
theorem Sub.refl {h : DH} : Sub h h := fun _ => .inl rfl
theorem Sub.delO {h : DH} {a : Addr} (n : still (h a) = false) : Sub (del h a) h := fun b => by
  by_cases e : b = a
  · exact .inr (by rw [e]; exact ⟨del_same, n⟩)
  · exact .inl (del_ne e)
theorem Sub.del {h : DH} {a : Addr} {ds : List D} (n : h a = some (.lst ds)) : Sub (del h a) h := Sub.delO (by rw [n]; rfl)
theorem Sub.trans {h1 h2 h3 : DH} (a : Sub h3 h2) (b : Sub h2 h1) : Sub h3 h1 := fun c => by
  rcases a c with e | ⟨e, e2⟩
  · rcases b c with f | ⟨f, f2⟩
    · exact .inl (e.trans f)
    · exact .inr ⟨e.trans f, f2⟩
  · rcases b c with f | ⟨f, f2⟩
    · exact .inr ⟨e, f ▸ e2⟩
    · exact .inr ⟨e, f2⟩
theorem Sub.none {h h2 : DH} {a : Addr} (s : Sub h2 h) (n : h a = Option.none) : h2 a = Option.none := by
  rcases s a with z | ⟨z, _⟩
  · exact z.trans n
  · exact z
theorem Sub.putO {h h' : DH} {p : Addr} {o : DO} (s : Sub h' h) (n : h' p = Option.none) (f : still (some o) = false) : Sub h' (DL.put h p o) := fun a => by
  by_cases e : a = p
  · exact .inr (by rw [e]; exact ⟨n, by rw [put_same]; exact f⟩)
  · rw [put_ne e]; exact s a
theorem Sub.put {h h' : DH} {p : Addr} {ds : List D} (s : Sub h' h) (n : h' p = Option.none) : Sub h' (DL.put h p (.lst ds)) := s.putO n rfl
mutual
theorem RD.sub {h h2 : DH} {H : Hp} (s : Sub h2 h) : ∀ (d : D) (v : V), RD K h H d v → RD K h2 H d v
  | .non, _, r => r
  | .bl _, _, r => r
  | .int _, _, r => r
  | .str _, _, r => r
  | .ref _, _, r => r
  | .ty _, _, r => r
  | .tup ds, v, ⟨a, vs, e, t, q⟩ => ⟨a, vs, e, t.elim (fun w => .inl ⟨s.none w.1, w.2⟩) .inr, RDs.sub s ds vs q⟩
  | .scr ns, v, ⟨a, e, t⟩ => ⟨a, e, t.elim (fun w => .inl ⟨s.none w.1, w.2⟩) .inr⟩
  | .lis ds, v, ⟨a, vs, e, n, t, q⟩ => ⟨a, vs, e, s.none n, t, RDs.sub s ds vs q⟩
theorem RDs.sub {h h2 : DH} {H : Hp} (s : Sub h2 h) : ∀ (ds : List D) (vs : List V), RDs K h H ds vs → RDs K h2 H ds vs
  | [], _, r => r
  | d :: ds, vs, ⟨v, w, e, q1, q2⟩ => ⟨v, w, e, RD.sub s d v q1, RDs.sub s ds w q2⟩
end
theorem HR.sub {h h2 : DH} {H : Hp} (s : Sub h2 h) (r : HR K h H) : HR K h2 H := fun a o e => by
  have e1 : h a = some o := by
    rcases s a with z | ⟨z, _⟩
    · rw [← z]; exact e
    · rw [z] at e; cases e
  exact (r a o e1).on (fun b u n ub => ⟨s.none n, ub⟩) fun _ z => z
theorem KP.sub {h h1 h2 : DH} {H H1 : Hp} (k : KP h H h1 H1) (s : Sub h2 h1) : KP h H h2 H1 := fun a o st e => by
  obtain ⟨e1, e2⟩ := k a o st e
  rcases s a with z | ⟨z, z2⟩
  · exact ⟨z.trans e1, e2⟩
  · rw [e1] at z2
    rw [z2] at st
    cases st
abbrev St' := List (Option D)
abbrev VK' := D → DH → Prop
abbrev TE' := St' → DH → VK' → Prop
abbrev TT' := St' → DH → (Bool → DH → Prop) → Prop
abbrev TA' := St' → DH → (List D → DH → Prop) → Prop
structure Ends' where
  nx : St' → DH → Prop
  rt : VK'
  bk : St' → DH → Prop := fun _ _ => False
  ct : St' → DH → Prop := fun _ _ => False
abbrev TS' := Ends' → St' → DH → Prop
def SR (K : PySem.W.Frag) (h : DH) (H : Hp) (σ : L2.St) (τ : St') : Prop := ∀ (i : Nat) (d : D), τ[i]? = some (some d) → ∃ v, σ[i]? = some (some v) ∧ RD K h H d v
theorem SR.mono {h h' : DH} {H H' : Hp} {σ : L2.St} {τ : St'} (k : KP h H h' H') (r : SR K h H σ τ) : SR K h' H' σ τ := fun i d e => by
  obtain ⟨v, e1, q⟩ := r i d e
  exact ⟨v, e1, RD.mono k d v q⟩
theorem SR.sub {h h2 : DH} {H : Hp} {σ : L2.St} {τ : St'} (s : Sub h2 h) (r : SR K h H σ τ) : SR K h2 H σ τ := fun i d e => by
  obtain ⟨v, e1, q⟩ := r i d e
  exact ⟨v, e1, RD.sub s d v q⟩
theorem SR.set {h : DH} {H : Hp} {σ : L2.St} {τ : St'} {i : Nat} {d : D} {v : V} (r : SR K h H σ τ) (hl : τ.length = σ.length) (q : RD K h H d v) : SR K h H (σ.set i (some v)) (τ.set i (some d)) := fun j e ej => by
  by_cases hij : i = j
  · subst hij
    by_cases hi : i < τ.length
    · rw [List.getElem?_set_self hi] at ej
      cases ej
      exact ⟨v, List.getElem?_set_self (by omega), q⟩
    · rw [List.getElem?_eq_none (by rw [List.length_set]; omega)] at ej
      cases ej
  · rw [List.getElem?_set_ne hij] at ej
    obtain ⟨u, e1, q1⟩ := r j e ej
    exact ⟨u, by rw [List.getElem?_set_ne hij]; exact e1, q1⟩
def Fin (K : PySem.W.Frag) (h : DH) (H : Hp) (Q' : VK') (Q : VK) : Prop := ∀ d h' v H', KP h H h' H' → HR K h' H' → RD K h' H' d v → Q' d h' → Q v H'
def FinT (K : PySem.W.Frag) (h : DH) (H : Hp) (Q' : Bool → DH → Prop) (Q : Bool → Hp → Prop) : Prop := ∀ b h' H', KP h H h' H' → HR K h' H' → Q' b h' → Q b H'
def FinA (K : PySem.W.Frag) (h : DH) (H : Hp) (Q' : List D → DH → Prop) (Q : List V → Hp → Prop) : Prop := ∀ ds h' vs H', KP h H h' H' → HR K h' H' → RDs K h' H' ds vs → Q' ds h' → Q vs H'
def FinN (K : PySem.W.Frag) (h : DH) (H : Hp) (Q' : St' → DH → Prop) (Q : L2.St → Hp → Prop) : Prop := ∀ τ h' σ H', KP h H h' H' → HR K h' H' → τ.length = σ.length → SR K h' H' σ τ → Q' τ h' → Q σ H'
theorem Fin.after {h h1 : DH} {H H1 : Hp} {Q' : VK'} {Q : VK} (k : KP h H h1 H1) (f : Fin K h H Q' Q) : Fin K h1 H1 Q' Q := fun d h' v H' k' => f d h' v H' (k.trans k')
theorem FinT.after {h h1 : DH} {H H1 : Hp} {Q' : Bool → DH → Prop} {Q : Bool → Hp → Prop} (k : KP h H h1 H1) (f : FinT K h H Q' Q) : FinT K h1 H1 Q' Q := fun d h' H' k' => f d h' H' (k.trans k')
theorem FinA.after {h h1 : DH} {H H1 : Hp} {Q' : List D → DH → Prop} {Q : List V → Hp → Prop} (k : KP h H h1 H1) (f : FinA K h H Q' Q) : FinA K h1 H1 Q' Q := fun d h' v H' k' => f d h' v H' (k.trans k')
theorem FinN.after {h h1 : DH} {H H1 : Hp} {Q' : St' → DH → Prop} {Q : L2.St → Hp → Prop} (k : KP h H h1 H1) (f : FinN K h H Q' Q) : FinN K h1 H1 Q' Q := fun d h' v H' k' => f d h' v H' (k.trans k')
structure FinS (K : PySem.W.Frag) (h : DH) (H : Hp) (D' : Ends') (D : Ends) : Prop where
  nx : FinN K h H D'.nx D.nx
  rt : Fin K h H D'.rt D.rt
  bk : FinN K h H D'.bk D.bk
  ct : FinN K h H D'.ct D.ct
theorem FinS.after {h h1 : DH} {H H1 : Hp} {D' : Ends'} {D : Ends} (k : KP h H h1 H1) (f : FinS K h H D' D) : FinS K h1 H1 D' D := ⟨f.nx.after k, f.rt.after k, f.bk.after k, f.ct.after k⟩
abbrev XK' := Value → DH → Prop
def FinX (K : PySem.W.Frag) (h : DH) (H : Hp) (E' : XK') (E : XK) : Prop := ∀ c h' H', KP h H h' H' → HR K h' H' → E' c h' → E c none H'
theorem FinX.after {h h1 : DH} {H H1 : Hp} {E' : XK'} {E : XK} (k : KP h H h1 H1) (f : FinX K h H E' E) : FinX K h1 H1 E' E := fun c h' H' k' => f c h' H' (k.trans k')
structure Wsh where
  d : XK'
  v : XK
structure At (K : PySem.W.Frag) (Y : Wsh) (h : DH) (H : Hp) (σ : L2.St) (τ : St') : Prop where
  len : τ.length = σ.length
  sr : SR K h H σ τ
  hr : HR K h H
  fx : FinX K h H Y.d Y.v
theorem At.after {Y : Wsh} {h h1 : DH} {H H1 : Hp} {σ : L2.St} {τ : St'} (a : At K Y h H σ τ) (k : KP h H h1 H1) (r : HR K h1 H1) : At K Y h1 H1 σ τ := ⟨a.len, a.sr.mono k, r, a.fx.after k⟩
theorem At.next {Y : Wsh} {h h1 : DH} {H H1 : Hp} {σ σ1 : L2.St} {τ τ1 : St'} (a : At K Y h H σ τ) (k : KP h H h1 H1) (r : HR K h1 H1) (l : τ1.length = σ1.length) (s : SR K h1 H1 σ1 τ1) : At K Y h1 H1 σ1 τ1 := ⟨l, s, r, a.fx.after k⟩
def lE (K : PySem.W.Frag) (Y : Wsh) (t : TE') : TE := fun σ H Q => ∃ τ h Q', At K Y h H σ τ ∧ t τ h Q' ∧ Fin K h H Q' Q
def lT (K : PySem.W.Frag) (Y : Wsh) (t : TT') : TT := fun σ H Q => ∃ τ h Q', At K Y h H σ τ ∧ t τ h Q' ∧ FinT K h H Q' Q
def lA (K : PySem.W.Frag) (Y : Wsh) (t : TA') : TA := fun σ H Q => ∃ τ h Q', At K Y h H σ τ ∧ t τ h Q' ∧ FinA K h H Q' Q
def lS (K : PySem.W.Frag) (Y : Wsh) (t : TS') : TS := fun D σ H => ∃ τ h D', At K Y h H σ τ ∧ t D' τ h ∧ FinS K h H D' D
abbrev TG' := D → St' → DH → (St' → DH → Prop) → Prop
def lG (K : PySem.W.Frag) (Y : Wsh) (t : TG') : TG := fun v σ H Q => ∃ d τ h Q', At K Y h H σ τ ∧ RD K h H d v ∧ t d τ h Q' ∧ FinN K h H Q' Q
abbrev TGs' := List D → St' → DH → (St' → DH → Prop) → Prop
def lGs (K : PySem.W.Frag) (Y : Wsh) (t : TGs') : TGs := fun vs σ H Q => ∃ ds τ h Q', At K Y h H σ τ ∧ RDs K h H ds vs ∧ t ds τ h Q' ∧ FinN K h H Q' Q
def DG (X : Cx) (Y : Wsh) (e : Expr) (t : TG') : Prop := PG X e (lG X.K Y t)
def DGs (X : Cx) (Y : Wsh) (es : List Expr) (t : TGs') : Prop := PGs X es (lGs X.K Y t)
def DE (X : Cx) (Y : Wsh) (e : Expr) (t : TE') : Prop := PE X e (lE X.K Y t)
def DT (X : Cx) (Y : Wsh) (e : Expr) (t : TT') : Prop := PT X e (lT X.K Y t)
def DW (X : Cx) (Y : Wsh) (e : Expr) (t : TT') : Prop := PW X e (lT X.K Y t)
def DA (X : Cx) (Y : Wsh) (es : List Expr) (t : TA') : Prop := PA X es (lA X.K Y t)
def DS (X : Cx) (Y : Wsh) (st : Stmt) (t : TS') : Prop := PS X st (lS X.K Y t)
def DSs (X : Cx) (Y : Wsh) (st : List Stmt) (t : TS') : Prop := PSs X st (lS X.K Y t)
theorem _root_.L2.PE.imp {X : Cx} {e : Expr} {t u : TE} (p : PE X e t) (h : ∀ σ H Q, u σ H Q → t σ H Q) : PE X e u := ⟨fun pins s σ H Q I q => p.run pins s σ H Q I (h σ H Q q)⟩
theorem _root_.L2.PT.imp {X : Cx} {e : Expr} {t u : TT} (p : PT X e t) (h : ∀ σ H Q, u σ H Q → t σ H Q) : PT X e u := ⟨fun pins s σ H Q I q => p.run pins s σ H Q I (h σ H Q q)⟩
theorem _root_.L2.PW.imp {X : Cx} {e : Expr} {t u : TT} (p : PW X e t) (h : ∀ σ H Q, u σ H Q → t σ H Q) : PW X e u := ⟨fun wh pins s σ H Q I q => p.run wh pins s σ H Q I (h σ H Q q)⟩
theorem _root_.L2.PA.imp {X : Cx} {es : List Expr} {t u : TA} (p : PA X es t) (h : ∀ σ H Q, u σ H Q → t σ H Q) : PA X es u := ⟨fun pos pins s σ H Q I q => p.run pos pins s σ H Q I (h σ H Q q)⟩
theorem _root_.L2.PS.imp {X : Cx} {st : Stmt} {t u : TS} (p : PS X st t) (h : ∀ D σ H, u D σ H → t D σ H) : PS X st u := ⟨fun pins s σ H D I q => p.run pins s σ H D I (h D σ H q)⟩
theorem _root_.L2.PG.imp {X : Cx} {e : Expr} {t u : TG} (p : PG X e t) (h : ∀ v σ H Q, u v σ H Q → t v σ H Q) : PG X e u := ⟨fun pins s σ H v w Q I r q => p.run pins s σ H v w Q I r (h v σ H Q q)⟩
theorem _root_.L2.PGs.imp {X : Cx} {es : List Expr} {t u : TGs} (p : PGs X es t) (h : ∀ v σ H Q, u v σ H Q → t v σ H Q) : PGs X es u := ⟨fun pins s σ H v w Q I r q => p.run pins s σ H v w Q I r (h v σ H Q q)⟩
theorem _root_.L2.PSs.imp {X : Cx} {st : List Stmt} {t u : TS} (p : PSs X st t) (h : ∀ D σ H, u D σ H → t D σ H) : PSs X st u := ⟨fun pins s σ H D I q => p.run pins s σ H D I (h D σ H q)⟩
end DL
set_option Elab.async false
set_option linter.all false
set_option maxRecDepth 100000
namespace DL
open PySem PySem.Spec PyProof.Rows L2
section
variable {X : Cx} {Y : Wsh} {K : PySem.W.Frag} {pos : Pos}
def tv (i : Nat) : TE' := fun τ h Q => ∃ d, τ[i]? = some (some d) ∧ Q d h
def tc (d : D) : TE' := fun _ h Q => Q d h
theorem de_var (i : Nat) {x : Str} (hN : X.N[i]? = some x := by rfl) (hv : Vis X.env.scope x := by first | exact Or.inl rfl | exact Or.inr (Or.inl rfl) | exact Or.inr (Or.inr rfl)) (hd : (x == ("__debug__" : Str)) = false := by decide)
    (hcd : (x == ("__classdict__" : Str)) = false := by decide) : DE X Y (.Name x pos) (tv i) := (pe_var hN hv hd hcd).imp fun σ H Q ⟨τ, h, Q', a, ⟨d, e, q⟩, f⟩ => by
  obtain ⟨v, e1, r⟩ := a.sr i d e
  exact ⟨v, e1, f d h v H .refl a.hr r q⟩
theorem de_c {e : Expr} {d : D} {v : V} (p : PE X e (tC v)) (r : ∀ h H, RD X.K h H d v) : DE X Y e (tc d) := p.imp fun σ H Q ⟨τ, h, Q', a, q, f⟩ => f d h v H .refl a.hr (r h H) q
theorem de_int {i : Int} {j : Nat} : DE X Y (.Constant (.int i) j pos) (tc (.int i)) := de_c pe_int fun _ _ => rfl
theorem de_bl {b : Bool} {j : Nat} : DE X Y (.Constant (.bool b) j pos) (tc (.bl b)) := de_c pe_bl fun _ _ => rfl
theorem de_str {x : Str} {j : Nat} : DE X Y (.Constant (.str x) j pos) (tc (.str x)) := de_c pe_str fun _ _ => rfl
theorem de_blt {x : Str} {n : String} (hg : Gl X x) (hm : X.mg x = none) (hv : bootBuiltins x = some (.type n)) (hn : x ≠ "__name__" := by decide) (hd : (x == ("__debug__" : Str)) = false := by decide) : DE X Y (.Name x pos) (tc (.ty n)) :=
  de_c (pe_bltn (v := .ty n) hg hm hv rfl hn hd) fun _ _ => rfl
abbrev DR2 := D → D → DH → VK' → Prop
abbrev DR1 := D → DH → VK' → Prop
def to (r : DR2) (ta tb : TE') : TE' := fun τ h Q => ta τ h fun x h1 => tb τ h1 fun y h2 => r x y h2 Q
def tu (r : DR1) (ta : TE') : TE' := fun τ h Q => ta τ h fun x h1 => r x h1 Q
def OpL (K : PySem.W.Frag) (r : R2) (r' : DR2) : Prop := ∀ x y v u h H Q' Q, RD K h H x v → RD K h H y u → HR K h H → r' x y h Q' → Fin K h H Q' Q → r v u H Q
def UnL (K : PySem.W.Frag) (r : V → Hp → VK → Prop) (r' : DR1) : Prop := ∀ x v h H Q' Q, RD K h H x v → HR K h H → r' x h Q' → Fin K h H Q' Q → r v H Q
def CallL (K : PySem.W.Frag) (r : List V → Hp → VK → Prop) (r' : List D → DH → VK' → Prop) : Prop := ∀ ds vs h H Q' Q, RDs K h H ds vs → HR K h H → r' ds h Q' → Fin K h H Q' Q → r vs H Q
theorem bin_imp {r : R2} {r' : DR2} {ta tb : TE'} (hl : OpL K r r') {σ : L2.St} {H : Hp} {Q : VK} (q : lE K Y (to r' ta tb) σ H Q) : tOp r (lE K Y ta) (lE K Y tb) σ H Q := by
  obtain ⟨τ, h, Q', a, q, f⟩ := q
  exact ⟨τ, h, fun x h1 => tb τ h1 fun y h2 => r' x y h2 Q', a, q, fun x h1 v H1 k1 hr1 rx q1 => ⟨τ, h1, fun y h2 => r' x y h2 Q', a.after k1 hr1, q1, fun y h2 u H2 k2 hr2 ry q2 =>
    hl x y v u h2 H2 Q' Q (RD.mono k2 _ _ rx) ry hr2 q2 (f.after (k1.trans k2))⟩⟩
theorem un_imp {r : V → Hp → VK → Prop} {r' : DR1} {ta : TE'} (hl : UnL K r r') {σ : L2.St} {H : Hp} {Q : VK} (q : lE K Y (tu r' ta) σ H Q) : tUn r (lE K Y ta) σ H Q := by
  obtain ⟨τ, h, Q', a, q, f⟩ := q
  exact ⟨τ, h, fun x h1 => r' x h1 Q', a, q, fun x h1 v H1 k1 hr1 rx q1 => hl x v h1 H1 Q' Q rx hr1 q1 (f.after k1)⟩
variable {a b c : Expr} {ta tb tc' : TE'}
theorem de_op {op : Operator} {r : R2} {r' : DR2} (ho : OpR X (binaryOp op) r) (hl : OpL X.K r r') (ha : DE X Y a ta) (hb : DE X Y b tb) : DE X Y (.BinOp a op b pos) (to r' ta tb) := (pe_op ho ha hb).imp fun _ _ _ q => bin_imp hl q
theorem de_un {op : UnaryOp} {r : V → Hp → VK → Prop} {r' : DR1} (ho : UnR X (unaryOp op) r) (hl : UnL X.K r r') (ha : DE X Y a ta) : DE X Y (.UnaryOp op a pos) (tu r' ta) := (pe_un ho ha).imp fun _ _ _ q => un_imp hl q
theorem de_cmp {op : CmpOp} {r : R2} {r' : DR2} (ho : OpR X (compareOp op) r) (hl : OpL X.K r r') (hm : behindInMarks op b = false) (ha : DE X Y a ta) (hb : DE X Y b tb) : DE X Y (.Compare a [op] [b] pos) (to r' ta tb) := (pe_cmpR ho ha hb hm).imp fun _ _ _ q => bin_imp hl q
def isB (x : D) (k : Bool → Prop) : Prop := match x with | .bl c => k c | _ => False
def tb' (t : TE') : TT' := fun τ h Q => t τ h fun x h1 => isB x fun c => Q c h1
theorem tb_imp {t : TE'} {σ : L2.St} {H : Hp} {Q : Bool → Hp → Prop} (q : lT K Y (tb' t) σ H Q) : tTest (lE K Y t) σ H Q := by
  obtain ⟨τ, h, Q', a, q, f⟩ := q
  refine ⟨τ, h, _, a, q, fun x h1 v H1 k1 hr1 rx q1 => ?_⟩
  cases x with
  | bl c => exact ⟨c, rx, f c h1 H1 k1 hr1 q1⟩
  | _ => exact q1.elim
theorem dt_cmp {op : CmpOp} {r : R2} {r' : DR2} (ho : OpR X (compareOp op) r) (hl : OpL X.K r r') (hm : behindInMarks op b = false) (ha : DE X Y a ta) (hb : DE X Y b tb) : DT X Y (.Compare a [op] [b] pos) (tb' (to r' ta tb)) :=
  (pt_cmpR ho ha hb hm).imp fun _ _ _ q => by
    obtain ⟨τ, h, Q', a, q, f⟩ := q
    refine bin_imp (Y := Y) hl ⟨τ, h, _, a, q, fun x h1 v H1 k1 hr1 rx q1 => ?_⟩
    cases x with
    | bl c => exact ⟨c, rx, f c h1 H1 k1 hr1 q1⟩
    | _ => exact q1.elim
theorem dt_val {e : Expr} {t : TE'} (h : DE X Y e t) (he : ∀ whole, isTrue e X.env whole = (do let v ← whole; standAt e.pos; holding [v] (truthy v)) := by intro _; rfl) : DT X Y e (tb' t) :=
  (pt_val h he).imp fun _ _ _ q => tb_imp q
def tch (r r' : DR2) (ta tb tc : TE') : TE' := fun τ h Q => ta τ h fun x h1 => tb τ h1 fun y h2 => r x y h2 fun z h3 => isB z fun k => if k = true then tc τ h3 fun w h4 => r' y w h4 Q else Q (.bl false) h3
def tand (t u : TT') : TT' := fun τ h Q => t τ h fun c h1 => if c = true then u τ h1 Q else Q false h1
def tor (t u : TT') : TT' := fun τ h Q => t τ h fun c h1 => if c = true then Q true h1 else u τ h1 Q
def tnot (t : TT') : TT' := fun τ h Q => t τ h fun c h1 => Q (!c) h1
variable {tA tB : TT'} {rest : List Expr}
theorem dw_and1 (ha : DT X Y a tA) : DW X Y (.BoolOp .And [a] pos) tA := pw_and1 ha
theorem dw_or1 (ha : DT X Y a tA) : DW X Y (.BoolOp .Or [a] pos) tA := pw_or1 ha
theorem dw_and (ha : DT X Y a tA) (hb : DW X Y (.BoolOp .And (b :: rest) pos) tB) : DW X Y (.BoolOp .And (a :: b :: rest) pos) (tand tA tB) := (pw_and ha hb).imp fun σ H Q ⟨τ, h, Q', at', q, f⟩ => by
  refine ⟨τ, h, _, at', q, fun c h1 H1 k1 hr1 q1 => ?_⟩
  cases c with
  | true => rw [if_pos rfl] at q1 ⊢; exact ⟨τ, h1, Q', at'.after k1 hr1, q1, f.after k1⟩
  | false => rw [if_neg Bool.false_ne_true] at q1 ⊢; exact f _ h1 H1 k1 hr1 q1
theorem dw_or (ha : DT X Y a tA) (hb : DW X Y (.BoolOp .Or (b :: rest) pos) tB) : DW X Y (.BoolOp .Or (a :: b :: rest) pos) (tor tA tB) := (pw_or ha hb).imp fun σ H Q ⟨τ, h, Q', at', q, f⟩ => by
  refine ⟨τ, h, _, at', q, fun c h1 H1 k1 hr1 q1 => ?_⟩
  cases c with
  | true => rw [if_pos rfl] at q1 ⊢; exact f _ h1 H1 k1 hr1 q1
  | false => rw [if_neg Bool.false_ne_true] at q1 ⊢; exact ⟨τ, h1, Q', at'.after k1 hr1, q1, f.after k1⟩
theorem dw_pt {e : Expr} {t : TT'} (h : DW X Y e t) : DT X Y e t := PW.pt h
theorem dt_not (ha : DT X Y a tA) : DT X Y (.UnaryOp .Not a pos) (tnot tA) := (pt_not ha).imp fun σ H Q ⟨τ, h, Q', at', q, f⟩ => ⟨τ, h, _, at', q, fun c h1 H1 k1 hr1 q1 => f _ h1 H1 k1 hr1 q1⟩
def tandv (ta tb : TE') : TE' := fun τ h Q => ta τ h fun x h1 => isB x fun c => if c = true then tb τ h1 Q else Q (.bl false) h1
def torv (ta tb : TE') : TE' := fun τ h Q => ta τ h fun x h1 => isB x fun c => if c = true then Q (.bl true) h1 else tb τ h1 Q
def tnotv (ta : TE') : TE' := fun τ h Q => ta τ h fun x h1 => isB x fun c => Q (.bl (!c)) h1
theorem de_one {op : BoolOp} {t : TE'} (h : DE X Y a t) : DE X Y (.BoolOp op [a] pos) t := pe_one h
theorem de_and (ha : DE X Y a ta) (hb : DE X Y (.BoolOp .And (b :: rest) pos) tb) : DE X Y (.BoolOp .And (a :: b :: rest) pos) (tandv ta tb) := (pe_and ha hb).imp fun σ H Q ⟨τ, h, Q', at', q, f⟩ => by
  refine ⟨τ, h, _, at', q, fun x h1 v H1 k1 hr1 rx q1 => ?_⟩
  cases x with
  | bl c =>
    refine ⟨c, rx, ?_⟩
    have q1 : if c = true then tb τ h1 Q' else Q' (.bl false) h1 := q1
    cases c with
    | true => rw [if_pos rfl] at q1 ⊢; exact ⟨τ, h1, Q', at'.after k1 hr1, q1, f.after k1⟩
    | false => rw [if_neg Bool.false_ne_true] at q1 ⊢; exact f (.bl false) h1 _ H1 k1 hr1 rfl q1
  | _ => exact q1.elim
theorem de_or (ha : DE X Y a ta) (hb : DE X Y (.BoolOp .Or (b :: rest) pos) tb) : DE X Y (.BoolOp .Or (a :: b :: rest) pos) (torv ta tb) := (pe_or ha hb).imp fun σ H Q ⟨τ, h, Q', at', q, f⟩ => by
  refine ⟨τ, h, _, at', q, fun x h1 v H1 k1 hr1 rx q1 => ?_⟩
  cases x with
  | bl c =>
    refine ⟨c, rx, ?_⟩
    have q1 : if c = true then Q' (.bl true) h1 else tb τ h1 Q' := q1
    cases c with
    | true => rw [if_pos rfl] at q1 ⊢; exact f (.bl true) h1 _ H1 k1 hr1 rfl q1
    | false => rw [if_neg Bool.false_ne_true] at q1 ⊢; exact ⟨τ, h1, Q', at'.after k1 hr1, q1, f.after k1⟩
  | _ => exact q1.elim
theorem de_not (ha : DE X Y a ta) : DE X Y (.UnaryOp .Not a pos) (tnotv ta) := (pe_not ha).imp fun σ H Q ⟨τ, h, Q', at', q, f⟩ => by
  refine ⟨τ, h, _, at', q, fun x h1 v H1 k1 hr1 rx q1 => ?_⟩
  cases x with
  | bl c => exact ⟨c, rx, f (.bl (!c)) h1 _ H1 k1 hr1 rfl q1⟩
  | _ => exact q1.elim
def tif (t : TT') (ta tb : TE') : TE' := fun τ h Q => t τ h fun c h1 => if c = true then ta τ h1 Q else tb τ h1 Q
def tan : TA' := fun _ h Q => Q [] h
def tac (ta : TE') (tr : TA') : TA' := fun τ h Q => ta τ h fun x h1 => tr τ h1 fun xs h2 => Q (x :: xs) h2
variable {es : List Expr} {tr : TA'}
theorem da_nil : DA X Y [] tan := pa_nil.imp fun σ H Q ⟨τ, h, Q', at', q, f⟩ => f [] h [] H .refl at'.hr rfl q
theorem da_cons (ha : DE X Y a ta) (hr : DA X Y es tr) (hs : starEach (a :: es) X.env = (false, eval a X.env) :: starEach es X.env := by rfl) : DA X Y (a :: es) (tac ta tr) := (pa_cons ha hr hs).imp fun σ H Q ⟨τ, h, Q', at', q, f⟩ =>
  ⟨τ, h, _, at', q, fun x h1 v H1 k1 hr1 rx q1 => ⟨τ, h1, _, at'.after k1 hr1, q1, fun xs h2 vs H2 k2 hr2 rs q2 => f _ h2 _ H2 (k1.trans k2) hr2 (.cons (RD.mono k2 _ _ rx) rs) q2⟩⟩
def ttup (t : TA') : TE' := fun τ h Q => t τ h fun xs h1 => xs.length ≤ sizeLine ∧ Q (.tup xs) h1
def tlis (t : TA') : TE' := fun τ h Q => t τ h fun xs h1 => xs.length ≤ sizeLine ∧ Q (.lis xs) h1
def town (t : TA') : TE' := fun τ h Q => t τ h fun xs h1 => xs.length ≤ sizeLine ∧ ∀ p, h1 p = none → Q (.ref p) (put h1 p (.lst xs))
def Nt (Q : VK) (H : Hp) (vs : List V) : Prop := ∀ p ob, ob.dict = none → H p = none → Q (.ref p) (upd H p (.frz ob (.tup vs)))
def tTupF (t : TA) : TE := fun σ H Q => t σ H fun vs H1 => vs.length ≤ sizeLine ∧ Nt Q H1 vs
theorem pe_tupF {k1 : Nat} {t : TA} (ht : PA X es t) : PE X (.Tuple es k1 pos) (tTupF t) := by
  refine ⟨fun pins s σ H Q I hq => ?_⟩
  refine wpAny_Tuple_spliced (thn (ht.run pos pins s σ H _ I hq) fun us s2 ⟨vs, H2, J, r, hz, q⟩ => ?_)
  refine ⟨by rw [← r.length]; exact hz, .ref s2.heap.objs.size, _, J.laid (o := .frz ⟨.type "tuple", none, .seq us.toArray 0, #[]⟩ (.tup vs)) (t' := s2.toks) (fun b u e => Heap.get?_push_of_some _ e) (Nat.le_refl _) ?_, rfl, q _ _ rfl (J.hok.fresh (Nat.le_refl _))⟩
  exact ⟨Heap.get?_push_size _ rfl, hz, us, r, _, Heap.get?_push_size _ rfl, rfl, _, rfl⟩
theorem Fin.tup {h : DH} {H : Hp} {Q' : VK'} {Q : VK} (f : Fin K h H Q' Q) (r : HR K h H) {ds : List D} {vs : List V} (rs : RDs K h H ds vs) (q : Q' (.tup ds) h) : Nt Q H vs := fun p ob d n =>
  f (.tup ds) h _ _ (KP.new n) (r.new n) ⟨p, vs, rfl, .inl ⟨r.fresh n, ob, d, upd_same⟩, RDs.mono (KP.new n) _ _ rs⟩ q
theorem Fin.lis {h : DH} {H : Hp} {Q' : VK'} {Q : VK} (f : Fin K h H Q' Q) (r : HR K h H) {ds : List D} {vs : List V} (rs : RDs K h H ds vs) (q : Q' (.lis ds) h) : ∀ p, H p = none → Q (.ref p) (upd H p (.lst vs)) := fun p n =>
  f (.lis ds) h _ _ (KP.new n) (r.new n) ⟨p, vs, rfl, r.fresh n, upd_same, RDs.mono (KP.new n) _ _ rs⟩ q
theorem Fin.own {h : DH} {H : Hp} {Q' : VK'} {Q : VK} (f : Fin K h H Q' Q) (r : HR K h H) {ds : List D} {vs : List V} (rs : RDs K h H ds vs) (q : ∀ p, h p = none → Q' (.ref p) (put h p (.lst ds))) : ∀ p, H p = none → Q (.ref p) (upd H p (.lst vs)) := fun p n =>
  f (.ref p) _ _ _ (KP.newL n) (r.newL n rs) rfl (q p (r.fresh n))
theorem de_tup {x1 : Nat} (p : DA X Y es tr) : DE X Y (.Tuple es x1 pos) (ttup tr) := (pe_tupF p).imp fun σ H Q ⟨τ, h, Q', at', q, f⟩ => ⟨τ, h, _, at', q, fun xs h1 vs H1 k1 hr1 rs q1 => ⟨by rw [rs.length]; exact q1.1, (f.after k1).tup hr1 rs q1.2⟩⟩
theorem de_lis (p : DA X Y es tr) : DE X Y (.List es pos) (tlis tr) := (pe_lst p).imp fun σ H Q ⟨τ, h, Q', at', q, f⟩ => ⟨τ, h, _, at', q, fun xs h1 vs H1 k1 hr1 rs q1 => ⟨by rw [rs.length]; exact q1.1, (f.after k1).lis hr1 rs q1.2⟩⟩
theorem de_own (p : DA X Y es tr) : DE X Y (.List es pos) (town tr) := (pe_lst p).imp fun σ H Q ⟨τ, h, Q', at', q, f⟩ => ⟨τ, h, _, at', q, fun xs h1 vs H1 k1 hr1 rs q1 => ⟨by rw [rs.length]; exact q1.1, (f.after k1).own hr1 rs q1.2⟩⟩
theorem KP.del {h : DH} {H : Hp} {p : Addr} {ds : List D} (e : h p = some (.lst ds)) : KP h H (del h p) H := fun a o s ea => by
  have ne : a ≠ p := fun z => by rw [z, e] at s; cases s
  exact ⟨del_ne ne, ea⟩
abbrev Sp' := List D → DH → VK' → XK' → Prop
def lSp (K : PySem.W.Frag) (sp : Sp') : Sp := fun vs H Q E => ∃ ds h Q' E', RDs K h H ds vs ∧ HR K h H ∧ sp ds h Q' E' ∧ Fin K h H Q' Q ∧ FinX K h H E' E
def tcall (sp : Sp') (E : XK') (t : TA') : TE' := fun τ h Q => t τ h fun ds h1 => sp ds h1 Q E
abbrev FnD (P : Program) (w : World) (K : PySem.W.Frag) (mg : Str → Option Value) (base : Heap) (k : Nat) (f : Addr) (fd : FuncData) (ps : List Str) (sp : Sp') : Prop := FnOk P w K mg base (L2N.CX P w) k f fd ps (lSp K sp)
theorem passN : Passes (L2N.CX X.prog X.w) X (fun _ _ _ => False) := fun _ _ _ _ _ _ _ h => by
  obtain ⟨_, _, _, _, _, _, _, _, _, _, _, _, z⟩ := h
  exact z.elim
section
variable {k : Nat} {f : Addr} {fd : FuncData} {ps : List Str} {sp : Sp'} {x : Str} {p : Pos}
theorem de_call (F : FnD X.prog X.w X.K X.mg X.base k f fd ps sp) (hr : Room k X.A) (hg : Gl X x) (hm : X.mg x = some (.ref f)) (hk : PySem.W.keepIn X.K (.ref f) = true) (hb : Binds X.K fd ps [])
    (ha : DA X Y (a :: es) tr) (hdb : (x == ("__debug__" : Str)) = false := by decide) (he : starEach (a :: es) X.env = (false, eval a X.env) :: starEach es X.env := by rfl) (hpl : (backTo pos (starEach es X.env)).any (·.1) = false := by rfl) :
    DE X Y (.Call (.Name x p) (a :: es) [] pos) (tcall sp (fun _ _ => False) tr) := (pe_call F hr hg hm hk hb .nil passN ha hdb he hpl).imp fun σ H Q ⟨τ, h, Q', at', q, f⟩ =>
  ⟨τ, h, _, at', q, fun ds h1 vs H1 k1 hr1 rs q1 => ⟨ds, h1, Q', fun _ _ => False, by rw [List.append_nil]; exact rs, hr1, q1, f.after k1, fun _ _ _ _ _ z => z⟩⟩
theorem de_callX (F : FnD X.prog X.w X.K X.mg X.base k f fd ps sp) (hr : Room k X.A) (hg : Gl X x) (hm : X.mg x = some (.ref f)) (hk : PySem.W.keepIn X.K (.ref f) = true) (hb : Binds X.K fd ps []) (hx : Passes (L2N.CX X.prog X.w) X Y.v)
    (ha : DA X Y (a :: es) tr) (hdb : (x == ("__debug__" : Str)) = false := by decide) (he : starEach (a :: es) X.env = (false, eval a X.env) :: starEach es X.env := by rfl) (hpl : (backTo pos (starEach es X.env)).any (·.1) = false := by rfl) :
    DE X Y (.Call (.Name x p) (a :: es) [] pos) (tcall sp Y.d tr) := (pe_call F hr hg hm hk hb .nil hx ha hdb he hpl).imp fun σ H Q ⟨τ, h, Q', at', q, f⟩ =>
  ⟨τ, h, _, at', q, fun ds h1 vs H1 k1 hr1 rs q1 => ⟨ds, h1, Q', Y.d, by rw [List.append_nil]; exact rs, hr1, q1, f.after k1, at'.fx.after k1⟩⟩
end
def tcb (r : List D → DH → VK' → Prop) (t : TA') : TE' := fun τ h Q => t τ h fun ds h1 => r ds h1 Q
section
variable {r : List V → Hp → VK → Prop} {r' : List D → DH → VK' → Prop} {x : Str} {p : Pos} {id T : String}
theorem cb_imp (hl : CallL K r r') {σ : L2.St} {H : Hp} {Q : VK} (q : lE K Y (tcb r' tr) σ H Q) : tCB r (lA K Y tr) σ H Q := by
  obtain ⟨τ, h, Q', at', q, f⟩ := q
  exact ⟨τ, h, _, at', q, fun ds h1 vs H1 k1 hr1 rs q1 => hl ds vs h1 H1 Q' Q rs hr1 q1 (f.after k1)⟩
theorem de_callB (hc : CallR X (.builtin id) r) (hl : CallL X.K r r') (hg : Gl X x) (hm : X.mg x = none) (hv : bootBuiltins x = some (.builtin id)) (ha : DA X Y (a :: es) tr) (hn : x ≠ "__name__" := by decide) (hdb : (x == ("__debug__" : Str)) = false := by decide)
    (he : starEach (a :: es) X.env = (false, eval a X.env) :: starEach es X.env := by rfl) (hpl : (backTo pos (starEach es X.env)).any (·.1) = false := by rfl) : DE X Y (.Call (.Name x p) (a :: es) [] pos) (tcb r' tr) :=
  (pe_callB hc hg hm hv ha hn hdb he hpl).imp fun _ _ _ q => cb_imp hl q
theorem de_callTy (hc : CallR X (.type T) r) (hl : CallL X.K r r') (hg : Gl X x) (hm : X.mg x = none) (hv : bootBuiltins x = some (.type T)) (ha : DA X Y (a :: es) tr) (hn : x ≠ "__name__" := by decide) (hdb : (x == ("__debug__" : Str)) = false := by decide)
    (he : starEach (a :: es) X.env = (false, eval a X.env) :: starEach es X.env := by rfl) (hpl : (backTo pos (starEach es X.env)).any (·.1) = false := by rfl) : DE X Y (.Call (.Name x p) (a :: es) [] pos) (tcb r' tr) :=
  (pe_callTy hc hg hm hv ha hn hdb he hpl).imp fun _ _ _ q => cb_imp hl q
end
theorem de_ix {r : R2} {r' : DR2} (hr : IxR X r) (hl : OpL X.K r r') (hs : PlainIx b) (ha : DE X Y a ta) (hb : DE X Y b tb) : DE X Y (.Subscript a b pos) (to r' ta tb) := (pe_ix hr ha hb hs).imp fun _ _ _ q => bin_imp hl q
end
end DL
set_option Elab.async false
set_option linter.all false
set_option maxRecDepth 100000
namespace DL
open PySem PySem.Spec PyProof.Rows L2
section
variable {X : Cx} {Y : Wsh} {K : PySem.W.Frag}
abbrev rOr (r s : R2) : R2 := fun x y H Q => r x y H Q ∨ s x y H Q
def opAdd : DR2 := fun x y h Q => match x, y with
  | .int i, .int j => Q (.int (i + j)) h
  | .int i, .bl b => Q (.int (i + b2i b)) h
  | .str a, .str b => a.length + b.length ≤ sizeLine ∧ Q (.str (a ++ b)) h
  | .tup a, .tup b => a.length + b.length ≤ sizeLine ∧ Q (.tup (a ++ b)) h
  | .lis a, .lis b => a.length + b.length ≤ sizeLine ∧ Q (.lis (a ++ b)) h
  | _, _ => False
def rTT (K : PySem.W.Frag) : R2 := fun x y H Q => ∃ a b xs ys, x = .ref a ∧ y = .ref b ∧ SqT K H a xs ∧ SqT K H b ys ∧ xs.length + ys.length ≤ sizeLine ∧
  (xs = [] → Q (.ref b) H) ∧ (ys = [] → Q (.ref a) H) ∧ Nt Q H (xs ++ ys)
theorem op_TT : OpR X (binaryOp .Add) (rTT X.K) := by
  intro pins s σ H x y v u Q I rx ry h
  obtain ⟨a, b, xs, ys, rfl, rfl, ha, hb, hz, q0, q1, q2⟩ := h
  by_cases hx : xs = []
  · cases rx
    cases ry
    obtain ⟨its, r1, p1, _⟩ := I.tuple ha
    obtain ⟨its2, r2, p2, _⟩ := I.tuple hb
    obtain ⟨⟨c1, d1, t1, l1⟩, g1, e1, n1, w1⟩ := id p1
    obtain ⟨⟨c2, d2, t2, l2⟩, g2, e2, n2, w2⟩ := id p2
    simp only at e1 w1 e2 w2
    subst e1 w1 e2 w2
    have hi : its = [] := r1.nil_iff.mpr hx
    exact concat_meets ⟨_, g1, rfl⟩ ⟨_, g2, rfl⟩ noFill_tuple_add seq_tuple_add F.slot_tuple_add
      F.entry_tuple_add (F.args_tuple_add_2 _ _)
      (tuple_addW0 a b its.toArray its2.toArray n1 n2 d1 d2 l1 l2 (by simp [hi]))
      ⟨g1, g2, V.ref b, H, I, rfl, q0 hx⟩
  · cases rx
    cases ry
    obtain ⟨its, r1, p1, _⟩ := I.tuple ha
    obtain ⟨its2, r2, p2, _⟩ := I.tuple hb
    refine HT.cat_tup p1 p2 (fun z => hx (r1.nil_iff.mp z)) (fun z => ⟨V.ref a, H, I, rfl, q1 (r2.nil_iff.mp z)⟩) (fun _ => ?_) (by rw [← r1.length, ← r2.length]; exact hz)
    refine ⟨V.ref s.heap.objs.size, _, I.laid (o := .frz ⟨.type "tuple", none, .seq (its ++ its2).toArray 0, #[]⟩ (.tup (xs ++ ys))) (t' := s.toks) (fun b u e => Heap.get?_push_of_some _ e) (Nat.le_refl _) ?_, rfl, q2 _ _ rfl (I.hok.fresh (Nat.le_refl _))⟩
    exact ⟨Heap.get?_push_size _ rfl, by rw [List.length_append]; exact hz, _, r1.append r2, IsTup.new _ _⟩
def rAdd (K : PySem.W.Frag) : R2 := rOr (rI0 fun i j => .int (i + j)) (rOr (fun x y H Q => ∃ i j, x = .str i ∧ y = .str j ∧ i.length + j.length ≤ sizeLine ∧ Q (.str (i ++ j)) H) (rOr (rTT K) (rOr rCat fun x y H Q => ∃ i k, x = .int i ∧ y = .bl k ∧ Q (.int (i + b2i k)) H)))
theorem opr_add : OpR X (binaryOp .Add) (rAdd X.K) := op_add.or (op_add_str.or (op_TT.or (op_cat.or op_add_ib)))
theorem opl_add : OpL K (rAdd K) opAdd := by
  intro x y v u h H Q' Q rx ry hr q f
  unfold opAdd at q
  split at q
  · exact .inl ⟨_, _, rx, ry, f (.int _) h _ H .refl hr rfl q⟩
  · exact .inr (.inr (.inr (.inr ⟨_, _, rx, ry, f (.int _) h _ H .refl hr rfl q⟩)))
  · exact .inr (.inl ⟨_, _, rx, ry, q.1, f (.str _) h _ H .refl hr rfl q.2⟩)
  · rename_i xs ys
    have rx' := rx
    have ry' := ry
    obtain ⟨a, vs, e1, t1, r1⟩ := rx
    obtain ⟨b, ws, e2, t2, r2⟩ := ry
    refine .inr (.inr (.inl ⟨a, b, vs, ws, e1, e2, t1.sq, t2.sq, by rw [r1.length, r2.length]; exact q.1, fun z => ?_, fun z => ?_, f.tup hr (r1.append r2) q.2⟩))
    · have e : xs = [] := List.length_eq_zero_iff.mp (by rw [← r1.length, z]; rfl)
      exact f (.tup (xs ++ ys)) h _ H .refl hr (by rw [e]; exact e2 ▸ ry') q.2
    · have e : ys = [] := List.length_eq_zero_iff.mp (by rw [← r2.length, z]; rfl)
      exact f (.tup (xs ++ ys)) h _ H .refl hr (by rw [e, List.append_nil]; exact e1 ▸ rx') q.2
  · obtain ⟨a, vs, e1, n1, t1, r1⟩ := rx
    obtain ⟨b, ws, e2, n2, t2, r2⟩ := ry
    exact .inr (.inr (.inr (.inl ⟨a, b, vs, ws, e1, e2, t1, t2, by rw [r1.length, r2.length]; exact q.1, f.lis hr (r1.append r2) q.2⟩)))
  · exact q.elim
def opI2 (C : Int → Int → Prop) (g : Int → Int → D) : DR2 := fun x y h Q => match x, y with
  | .int i, .int j => C i j ∧ Q (g i j) h
  | _, _ => False
theorem opl_I {C C' : Int → Int → Prop} {g : Int → Int → V} {g' : Int → Int → D} (hC : ∀ i j, C' i j → C i j) (hg : ∀ h H i j, C' i j → RD K h H (g' i j) (g i j)) : OpL K (rI C g) (opI2 C' g') := by
  intro x y v u h H Q' Q rx ry hr q f
  unfold opI2 at q
  split at q
  · exact ⟨_, _, rx, ry, hC _ _ q.1, f _ h _ H .refl hr (hg h H _ _ q.1) q.2⟩
  · exact q.elim
theorem opl_I0 {g : Int → Int → V} {g' : Int → Int → D} (hg : ∀ h H i j, RD K h H (g' i j) (g i j)) : OpL K (rI0 g) (opI2 (fun _ _ => True) g') := by
  intro x y v u h H Q' Q rx ry hr q f
  unfold opI2 at q
  split at q
  · exact ⟨_, _, rx, ry, f _ h _ H .refl hr (hg h H _ _) q.2⟩
  · exact q.elim
abbrev opSub : DR2 := opI2 (fun _ _ => True) fun i j => .int (i - j)
theorem opl_sub : OpL K (rI0 fun i j => .int (i - j)) opSub := opl_I0 fun _ _ _ _ => rfl
def mulOk (i j : Int) : Prop := (-18446744073709551616 < i ∧ i < 18446744073709551616) ∨ (-18446744073709551616 < j ∧ j < 18446744073709551616)
abbrev opMul : DR2 := opI2 mulOk fun i j => .int (i * j)
theorem opl_mul : OpL K (rI CMul fun i j => .int (i * j)) opMul := opl_I (fun i j h => by
  have e : (2 : Int) ^ 64 = 18446744073709551616 := by decide
  unfold CMul
  rw [e]
  exact h) fun _ _ _ _ _ => rfl
abbrev opDiv : DR2 := opI2 (fun _ j => 0 < j ∧ j < 1606938044258990275541962092341162602522202993782792835301376) fun i j => .int (i / j)
theorem opl_div : OpL K (rI CDivW fun i j => .int (i / j)) opDiv := opl_I (fun i j h => wide_div (b := 200) h.1 (by
  have e : (2 : Nat) ^ 200 = 1606938044258990275541962092341162602522202993782792835301376 := by decide +kernel
  rw [e]
  have := h.1
  have := h.2
  omega) (by decide) (by decide)) fun _ _ _ _ _ => rfl
abbrev opMod : DR2 := opI2 (fun _ j => 0 < j) fun i j => .int (i % j)
theorem opl_mod : OpL K (rI (fun _ j => 0 < j) fun i j => .int (i % j)) opMod := opl_I (fun _ _ h => h) fun _ _ _ _ _ => rfl
abbrev opPow : DR2 := opI2 (fun i j => 0 ≤ j ∧ j ≤ 1000000 ∧ -18446744073709551616 < i ∧ i < 18446744073709551616) fun i j => .int (i ^ j.toNat)
theorem opl_pow : OpL K (rI CPow fun i j => .int (i ^ j.toNat)) opPow := opl_I (fun i j h => by
  have e : (2 : Nat) ^ 64 = 18446744073709551616 := by decide
  unfold CPow
  rw [e]
  exact ⟨h.1, h.2.1, by omega⟩) fun _ _ _ _ _ => rfl
def unNeg : DR1 := fun x h Q => match x with | .int i => Q (.int (-i)) h | _ => False
theorem unl_neg : UnL K (rU fun i => .int (-i)) unNeg := by
  intro x v h H Q' Q rx hr q f
  cases x with
  | int i => exact ⟨i, rx, f (.int (-i)) h _ H .refl hr rfl q⟩
  | _ => exact q.elim
abbrev opLt : DR2 := opI2 (fun _ _ => True) fun i j => .bl (decide (i < j))
abbrev opLe : DR2 := opI2 (fun _ _ => True) fun i j => .bl (decide (i ≤ j))
abbrev opGt : DR2 := opI2 (fun _ _ => True) fun i j => .bl (decide (j < i))
abbrev opGe : DR2 := opI2 (fun _ _ => True) fun i j => .bl (decide (j ≤ i))
theorem opl_lt : OpL K (rI0 fun i j => .bl (decide (i < j))) opLt := opl_I0 fun _ _ _ _ => rfl
theorem opl_le : OpL K (rI0 fun i j => .bl (decide (i ≤ j))) opLe := opl_I0 fun _ _ _ _ => rfl
theorem opl_gt : OpL K (rI0 fun i j => .bl (decide (j < i))) opGt := opl_I0 fun _ _ _ _ => rfl
theorem opl_ge : OpL K (rI0 fun i j => .bl (decide (j ≤ i))) opGe := opl_I0 fun _ _ _ _ => rfl
mutual
def toPy : D → Option PyData
  | .non => some .none
  | .bl b => some (.bool b)
  | .int i => some (.int i)
  | .str x => some (.str x)
  | .tup xs => (toPys xs).map .tuple
  | .lis xs => (toPys xs).map .list
  | .scr _ => none
  | .ref _ => none
  | .ty _ => none
def toPys : List D → Option (List PyData)
  | [] => some []
  | x :: xs => match toPy x, toPys xs with
    | some a, some b => some (a :: b)
    | _, _ => none
end
mutual
theorem dp_of {h : DH} {H : Hp} : ∀ (d : D) (p : PyData) (v : V), toPy d = some p → RD K h H d v → Dp K H v p
  | .non, p, v, e, r => by cases e; cases (show v = .non from r); exact .non
  | .bl b, p, v, e, r => by cases e; cases (show v = .bl b from r); exact .bl b
  | .int i, p, v, e, r => by cases e; cases (show v = .int i from r); exact .int i
  | .str x, p, v, e, r => by cases e; cases (show v = .str x from r); exact .str x
  | .tup xs, p, v, e, r => by
    obtain ⟨a, vs, rfl, t, q⟩ := r
    unfold toPy at e
    cases ep : toPys xs with
    | none => rw [ep] at e; cases e
    | some ps => rw [ep] at e; cases e; exact .tup t.sq (dps_of xs ps vs ep q)
  | .lis xs, p, v, e, r => by
    obtain ⟨a, vs, rfl, n, t, q⟩ := r
    unfold toPy at e
    cases ep : toPys xs with
    | none => rw [ep] at e; cases e
    | some ps => rw [ep] at e; cases e; exact .lst (SqL.of t) (dps_of xs ps vs ep q)
  | .scr _, p, v, e, r => by cases e
  | .ref _, p, v, e, r => by cases e
  | .ty _, p, v, e, r => by cases e
theorem dps_of {h : DH} {H : Hp} : ∀ (ds : List D) (ps : List PyData) (vs : List V), toPys ds = some ps → RDs K h H ds vs → DpAll K H vs ps
  | [], ps, vs, e, r => by cases e; cases (show vs = [] from r); exact .nil
  | d :: ds, ps, vs, e, r => by
    obtain ⟨v, w, rfl, r1, r2⟩ := r
    unfold toPys at e
    cases e1 : toPy d with
    | none => rw [e1] at e; cases e
    | some a =>
      cases e2 : toPys ds with
      | none => rw [e1, e2] at e; cases e
      | some b => rw [e1, e2] at e; cases e; exact .cons (dp_of d a v e1 r1) (dps_of ds b w e2 r2)
end
def deq (x y : D) : Bool := match toPy x, toPy y with
  | some a, some b => PyData.eqv a b
  | _, _ => false
def dOk (x : D) : Prop := match toPy x with
  | some a => SeqAt.shaped a = true
  | none => False
def sc : D → D → Option Bool
  | .int i, .int j => some (decide (i = j))
  | .str a, .str b => some (decide (a = b))
  | .bl a, .bl b => some (decide (a = b))
  | .non, .non => some true
  | .non, .int _ => some false
  | .non, .bl _ => some false
  | .non, .str _ => some false
  | .int _, .non => some false
  | .bl _, .non => some false
  | .str _, .non => some false
  | .int _, .str _ => some false
  | .str _, .int _ => some false
  | .bl _, .str _ => some false
  | .str _, .bl _ => some false
  | _, _ => none
def opEq : DR2 := fun x y h Q => match sc x y with
  | some b => Q (.bl b) h
  | none => dOk x ∧ dOk y ∧ Q (.bl (deq x y)) h
def opNe : DR2 := fun x y h Q => match sc x y with
  | some b => Q (.bl (!b)) h
  | none => dOk x ∧ dOk y ∧ Q (.bl (!deq x y)) h
theorem sc_of {h : DH} {H : Hp} {x y : D} {v u : V} {b : Bool} (e : sc x y = some b) (rx : RD K h H x v) (ry : RD K h H y u) : scal v u = true ∧ decide (v = u) = b := by
  cases x <;> cases y <;> first
    | cases (show none = some b from e)
    | (have e' := Option.some.inj e
       subst e'
       simp only [RD] at rx ry
       subst rx ry
       exact ⟨rfl, by simp⟩)
theorem opr_eq (hu : X.A.units + 64 < cLine) : OpR X (compareOp .Eq) (rOr rEq (rEqD X.K)) := op_eq.or (op_eqD hu)
theorem opr_ne (hu : X.A.units + 64 < cLine) : OpR X (compareOp .NotEq) (rOr rNe (rNeD X.K)) := op_ne.or (op_neD hu)
theorem dok_get {x : D} (q : dOk x) : ∃ a, toPy x = some a ∧ SeqAt.shaped a = true := by
  unfold dOk at q
  cases e : toPy x with
  | none => rw [e] at q; exact q.elim
  | some a => rw [e] at q; exact ⟨a, rfl, q⟩
theorem deq_of {x y : D} {a b : PyData} (ea : toPy x = some a) (eb : toPy y = some b) : deq x y = PyData.eqv a b := by
  unfold deq; rw [ea, eb]
theorem opl_eq : OpL K (rOr rEq (rEqD K)) opEq := by
  intro x y v u h H Q' Q rx ry hr q f
  unfold opEq at q
  split at q
  · rename_i b e
    obtain ⟨e1, e2⟩ := sc_of e rx ry
    exact .inl ⟨e1, f (.bl b) h _ H .refl hr (show _ = _ by rw [e2]) q⟩
  · obtain ⟨a, ea, sa⟩ := dok_get q.1
    obtain ⟨b, eb, sb⟩ := dok_get q.2.1
    exact .inr ⟨a, b, dp_of _ _ _ ea rx, dp_of _ _ _ eb ry, sa, sb, f (.bl _) h _ H .refl hr (show _ = _ by rw [deq_of ea eb]) q.2.2⟩
theorem opl_ne : OpL K (rOr rNe (rNeD K)) opNe := by
  intro x y v u h H Q' Q rx ry hr q f
  unfold opNe at q
  split at q
  · rename_i b e
    obtain ⟨e1, e2⟩ := sc_of e rx ry
    exact .inl ⟨e1, f (.bl (!b)) h _ H .refl hr (show _ = _ by rw [e2]) q⟩
  · obtain ⟨a, ea, sa⟩ := dok_get q.1
    obtain ⟨b, eb, sb⟩ := dok_get q.2.1
    exact .inr ⟨a, b, dp_of _ _ _ ea rx, dp_of _ _ _ eb ry, sa, sb, f (.bl _) h _ H .refl hr (show _ = _ by rw [deq_of ea eb]) q.2.2⟩
def toV : D → V
  | .bl b => .bl b
  | .int i => .int i
  | .str x => .str x
  | _ => .non
def flatD : D → Bool
  | .non => true | .bl _ => true | .int _ => true | .str _ => true | _ => false
theorem flat_v {h : DH} {H : Hp} {d : D} {v : V} (r : RD K h H d v) (f : flatD d = true) : v = toV d ∧ flatV v = true := by
  cases d with
  | non => cases (show v = .non from r); exact ⟨rfl, rfl⟩
  | bl b => cases (show v = .bl b from r); exact ⟨rfl, rfl⟩
  | int b => cases (show v = .int b from r); exact ⟨rfl, rfl⟩
  | str b => cases (show v = .str b from r); exact ⟨rfl, rfl⟩
  | _ => cases f
theorem flat_vs {h : DH} {H : Hp} : ∀ {ds : List D} {vs : List V}, RDs K h H ds vs → ds.all flatD = true → vs = ds.map toV ∧ vs.all flatV = true
  | [], vs, r, _ => by cases (show vs = [] from r); exact ⟨rfl, rfl⟩
  | d :: ds, vs, r, f => by
    obtain ⟨v, w, rfl, r1, r2⟩ := r
    rw [List.all_cons, Bool.and_eq_true] at f
    obtain ⟨e1, f1⟩ := flat_v r1 f.1
    obtain ⟨e2, f2⟩ := flat_vs r2 f.2
    exact ⟨by rw [e1, e2]; rfl, by rw [List.all_cons, f1, f2]; rfl⟩
def inD (x : D) (ds : List D) : Bool := inV (toV x) (ds.map toV)
def opIn (neg : Bool) : DR2 := fun x y h Q => match y with
  | .tup ds => flatD x = true ∧ ds.all flatD = true ∧ Q (.bl (if neg then !inD x ds else inD x ds)) h
  | .lis ds => flatD x = true ∧ ds.all flatD = true ∧ Q (.bl (if neg then !inD x ds else inD x ds)) h
  | .ref a => ∃ ds, h a = some (.lst ds) ∧ flatD x = true ∧ ds.all flatD = true ∧ Q (.bl (if neg then !inD x ds else inD x ds)) h
  | _ => False
theorem opl_in {neg : Bool} : OpL K (rIn K neg) (opIn neg) := by
  intro x y v u h H Q' Q rx ry hr q f
  cases y with
  | tup ds =>
    obtain ⟨f1, f2, q⟩ := q
    obtain ⟨a, vs, e, t, r⟩ := ry
    obtain ⟨e1, g1⟩ := flat_v rx f1
    obtain ⟨e2, g2⟩ := flat_vs r f2
    exact ⟨a, vs, e, .inr t.sq, g1, g2, f (.bl _) h _ H .refl hr (by subst e1 e2; rfl) q⟩
  | lis ds =>
    obtain ⟨f1, f2, q⟩ := q
    obtain ⟨a, vs, e, n, t, r⟩ := ry
    obtain ⟨e1, g1⟩ := flat_v rx f1
    obtain ⟨e2, g2⟩ := flat_vs r f2
    exact ⟨a, vs, e, .inl (SqL.of t), g1, g2, f (.bl _) h _ H .refl hr (by subst e1 e2; rfl) q⟩
  | ref a =>
    obtain ⟨ds, e, f1, f2, q⟩ := q
    obtain ⟨vs, t, r⟩ := hr.lst e
    obtain ⟨e1, g1⟩ := flat_v rx f1
    obtain ⟨e2, g2⟩ := flat_vs r f2
    exact ⟨a, vs, ry, .inl (SqL.of t), g1, g2, f (.bl _) h _ H .refl hr (by subst e1 e2; rfl) q⟩
  | _ => exact q.elim
def isNon : D → Bool | .non => true | _ => false
def opIsN (neg : Bool) : DR2 := fun x y h Q => match y with
  | .non => Q (.bl (if neg then !isNon x else isNon x)) h
  | _ => False
theorem atI_RD {h : DH} {H : Hp} {ds : List D} {vs : List V} {i : Int} {d : D} (r : RDs K h H ds vs) (e : atI ds i = some d) : ∃ v, atI vs i = some v ∧ RD K h H d v := by
  unfold atI at e ⊢
  rw [r.length]
  cases ej : ixN ds.length i with
  | none => rw [ej] at e; cases e
  | some j =>
    rw [ej] at e
    exact r.get (i := j) e
theorem atI_map {α β : Type} (g : α → β) {xs : List α} {i : Int} {x : α} (e : atI xs i = some x) : atI (xs.map g) i = some (g x) := by
  unfold atI at e ⊢
  rw [List.length_map]
  cases ej : ixN xs.length i with
  | none => rw [ej] at e; cases e
  | some j =>
    rw [ej] at e
    have e : xs[j]? = some x := e
    show (xs.map g)[j]? = some (g x)
    rw [List.getElem?_map, e]
    rfl
def opIx : DR2 := fun x y h Q => match y with
  | .int i => match x with
    | .tup ds => ∃ d, atI ds i = some d ∧ Q d h
    | .lis ds => ∃ d, atI ds i = some d ∧ Q d h
    | .scr ns => ∃ n, atI ns i = some n ∧ Q (.int n) h
    | .ref a => ∃ ds, h a = some (.lst ds) ∧ ∃ d, atI ds i = some d ∧ Q d h
    | .str z => z.length ≤ sizeLine ∧ ∃ c, atI z.cps.toList i = some c ∧ Q (.str ⟨#[c]⟩) h
    | _ => False
  | _ => False
theorem opl_ix : OpL K (rIx K) opIx := by
  intro x y v u h H Q' Q rx ry hr q f
  cases y with
  | int i =>
    cases x with
    | tup ds =>
      obtain ⟨d, e, q⟩ := q
      obtain ⟨a, vs, e1, t, r⟩ := rx
      obtain ⟨w, e2, rd⟩ := atI_RD r e
      exact .inr (.inl ⟨a, vs, i, w, e1, ry, t.sq, e2, f d h w H .refl hr rd q⟩)
    | lis ds =>
      obtain ⟨d, e, q⟩ := q
      obtain ⟨a, vs, e1, n, t, r⟩ := rx
      obtain ⟨w, e2, rd⟩ := atI_RD r e
      exact .inl ⟨a, vs, i, w, e1, ry, SqL.of t, e2, f d h w H .refl hr rd q⟩
    | scr ns =>
      obtain ⟨d, e, q⟩ := q
      obtain ⟨a, e1, t⟩ := rx
      exact .inl ⟨a, _, i, _, e1, ry, t.sq, atI_map V.int e, f (.int d) h _ H .refl hr rfl q⟩
    | ref a =>
      obtain ⟨ds, e0, d, e, q⟩ := q
      obtain ⟨vs, t, r⟩ := hr.lst e0
      obtain ⟨w, e2, rd⟩ := atI_RD r e
      exact .inl ⟨a, vs, i, w, rx, ry, SqL.of t, e2, f d h w H .refl hr rd q⟩
    | str z =>
      obtain ⟨hz, c, e, q⟩ := q
      exact .inr (.inr ⟨z, i, c, rx, ry, hz, e, f (.str _) h _ H .refl hr rfl q⟩)
    | _ => exact q.elim
  | _ => exact q.elim
def caLen : List D → DH → VK' → Prop := fun ds h Q => match ds with
  | [.tup xs] => Q (.int xs.length) h
  | [.lis xs] => Q (.int xs.length) h
  | [.scr xs] => Q (.int xs.length) h
  | [.ref a] => ∃ xs, h a = some (.lst xs) ∧ Q (.int xs.length) h
  | [.str z] => z.length ≤ sizeLine ∧ Q (.int z.length) h
  | _ => False
def rLen (K : PySem.W.Frag) : List V → Hp → VK → Prop := fun xs H Q => (∃ p ys, xs = [.ref p] ∧ (SqL K H p ys ∨ SqT K H p ys) ∧ Q (.int ys.length) H) ∨ ∃ z, xs = [.str z] ∧ z.length ≤ sizeLine ∧ Q (.int z.length) H
theorem cr_len : CallR X (.builtin "len") (rLen X.K) := call_len_seq.or call_len_str
theorem RDs.one {h : DH} {H : Hp} {d : D} {vs : List V} (r : RDs K h H [d] vs) : ∃ v, vs = [v] ∧ RD K h H d v := by
  obtain ⟨v, w, e, q, z⟩ := r
  cases (show w = [] from z)
  exact ⟨v, e, q⟩
theorem RDs.two {h : DH} {H : Hp} {d e : D} {vs : List V} (r : RDs K h H [d, e] vs) : ∃ v u, vs = [v, u] ∧ RD K h H d v ∧ RD K h H e u := by
  obtain ⟨v, w, e1, q, z⟩ := r
  obtain ⟨u, e2, q2⟩ := z.one
  exact ⟨v, u, by rw [e1, e2], q, q2⟩
theorem cl_len : CallL K (rLen K) caLen := by
  intro ds vs h H Q' Q r hr q f
  unfold caLen at q
  split at q
  · obtain ⟨v, rfl, a, ws, rfl, t, rs⟩ := r.one
    exact .inl ⟨a, ws, rfl, .inr t.sq, f (.int _) h _ H .refl hr (show _ = _ by rw [rs.length]) q⟩
  · obtain ⟨v, rfl, a, ws, rfl, n, t, rs⟩ := r.one
    exact .inl ⟨a, ws, rfl, .inl (SqL.of t), f (.int _) h _ H .refl hr (show _ = _ by rw [rs.length]) q⟩
  · obtain ⟨v, rfl, a, rfl, t⟩ := r.one
    exact .inl ⟨a, _, rfl, .inl t.sq, f (.int _) h _ H .refl hr (show _ = _ by rw [List.length_map]) q⟩
  · obtain ⟨v, rfl, r1⟩ := r.one
    obtain ⟨xs, e, q⟩ := q
    obtain ⟨ws, t, rs⟩ := hr.lst e
    exact .inl ⟨_, ws, by rw [show v = _ from r1], .inl (SqL.of t), f (.int _) h _ H .refl hr (show _ = _ by rw [rs.length]) q⟩
  · obtain ⟨v, rfl, r1⟩ := r.one
    exact .inr ⟨_, by rw [show v = _ from r1], q.1, f (.int _) h _ H .refl hr rfl q.2⟩
  · exact q.elim
def instD (x : D) (n : String) : Bool := match x with
  | .non => false
  | .bl _ => n == "bool" || n == "int"
  | .int _ => n == "int"
  | .str _ => n == "str"
  | .tup _ => n == "tuple"
  | .lis _ => n == "list"
  | _ => false
def isTy (n : String) : Bool := n == "int" || n == "bool" || n == "str" || n == "tuple" || n == "list"
def plainD : D → Bool | .non => true | .bl _ => true | .int _ => true | .str _ => true | .tup _ => true | .lis _ => true | _ => false
def caIs : List D → DH → VK' → Prop := fun ds h Q => match ds with
  | [x, .ty n] => isTy n = true ∧ plainD x = true ∧ Q (.bl (instD x n)) h
  | _ => False
theorem kit_all {n : String} (t : isTy n = true) : (PySem.W.kitOne K (.type "NoneType") (.type n) = some false) ∧ (PySem.W.kitOne K (.type "bool") (.type n) = some (n == "bool" || n == "int")) ∧ (PySem.W.kitOne K (.type "int") (.type n) = some (n == "int")) ∧
    (PySem.W.kitOne K (.type "str") (.type n) = some (n == "str")) ∧ (PySem.W.kitOne K (.type "tuple") (.type n) = some (n == "tuple")) ∧ (PySem.W.kitOne K (.type "list") (.type n) = some (n == "list")) := by
  simp only [isTy, Bool.or_eq_true, beq_iff_eq] at t
  rcases t with (((rfl | rfl) | rfl) | rfl) | rfl <;>
    exact ⟨kit_ty (by decide +kernel), kit_ty (by decide +kernel), kit_ty (by decide +kernel), kit_ty (by decide +kernel), kit_ty (by decide +kernel), kit_ty (by decide +kernel)⟩
theorem cl_is : CallL K (rIsi K) caIs := by
  intro ds vs h H Q' Q r hr q f
  unfold caIs at q
  split at q
  · rename_i x n
    obtain ⟨v, u, rfl, r1, r2⟩ := r.two
    cases (show u = .ty n from r2)
    obtain ⟨t, p, q⟩ := q
    obtain ⟨k1, k2, k3, k4, k5, k6⟩ := kit_all (K := K) t
    have fin : ∀ b, b = instD x n → Q (.bl b) H := fun b e => f (.bl _) h _ H .refl hr (show _ = _ by rw [e]) q
    cases x with
    | non => cases (show v = .non from r1); exact ⟨_, _, _, _, _, rfl, .ty n, .base .non, k1, fin _ rfl⟩
    | bl b => cases (show v = .bl b from r1); exact ⟨_, _, _, _, _, rfl, .ty n, .base (.bl b), k2, fin _ rfl⟩
    | int b => cases (show v = .int b from r1); exact ⟨_, _, _, _, _, rfl, .ty n, .base (.int b), k3, fin _ rfl⟩
    | str b => cases (show v = .str b from r1); exact ⟨_, _, _, _, _, rfl, .ty n, .base (.str b), k4, fin _ rfl⟩
    | tup b =>
      obtain ⟨a, ws, rfl, t, rs⟩ := r1
      refine ⟨_, _, _, _, _, rfl, .ty n, ?_, k5, fin _ rfl⟩
      rcases t with ⟨_, o, _, t⟩ | ⟨o, its, m, e, c, _⟩
      · exact .fTuple t
      · exact .kTuple e c
    | lis b =>
      obtain ⟨a, ws, rfl, _, t, rs⟩ := r1
      exact ⟨_, _, _, _, _, rfl, .ty n, .base (.lst t), k6, fin _ rfl⟩
    | _ => cases p
  · exact q.elim
def caInt : List D → DH → VK' → Prop := fun ds h Q => match ds with
  | [.int i] => Q (.int i) h
  | [.bl b] => Q (.int (if b then 1 else 0)) h
  | _ => False
theorem cl_int : CallL K (fun xs H Q => (∃ i, xs = [.int i] ∧ Q (.int i) H) ∨ ∃ k, xs = [.bl k] ∧ Q (.int (if k then 1 else 0)) H) caInt := by
  intro ds vs h H Q' Q r hr q f
  unfold caInt at q
  split at q
  · obtain ⟨v, rfl, r1⟩ := r.one
    exact .inl ⟨_, by rw [show v = _ from r1], f (.int _) h _ H .refl hr rfl q⟩
  · obtain ⟨v, rfl, r1⟩ := r.one
    exact .inr ⟨_, by rw [show v = _ from r1], f (.int _) h _ H .refl hr rfl q⟩
  · exact q.elim
def caAbs : List D → DH → VK' → Prop := fun ds h Q => match ds with
  | [.int i] => Q (.int (i.natAbs : Int)) h
  | _ => False
theorem cl_abs : CallL K (fun xs H Q => ∃ i, xs = [.int i] ∧ Q (.int (if i < 0 then -i else i)) H) caAbs := by
  intro ds vs h H Q' Q r hr q f
  unfold caAbs at q
  split at q
  · rename_i i
    obtain ⟨v, rfl, r1⟩ := r.one
    have e : (if i < 0 then -i else i) = (i.natAbs : Int) := by split <;> omega
    exact ⟨i, by rw [show v = _ from r1], by rw [e]; exact f (.int _) h _ H .refl hr rfl q⟩
  · exact q.elim
def caMax : List D → DH → VK' → Prop := fun ds h Q => match ds with
  | [.int i, .int j] => Q (.int (max i j)) h
  | _ => False
theorem cl_max : CallL K (fun xs H Q => ∃ i j, xs = [.int i, .int j] ∧ Q (.int (if j > i then j else i)) H) caMax := by
  intro ds vs h H Q' Q r hr q f
  unfold caMax at q
  split at q
  · rename_i i j
    obtain ⟨v, u, rfl, r1, r2⟩ := r.two
    have e : (if j > i then j else i) = max i j := by split <;> omega
    exact ⟨i, j, by rw [show v = _ from r1, show u = _ from r2], by rw [e]; exact f (.int _) h _ H .refl hr rfl q⟩
  · exact q.elim
def caMin : List D → DH → VK' → Prop := fun ds h Q => match ds with
  | [.int i, .int j] => Q (.int (min i j)) h
  | _ => False
theorem cl_min : CallL K (fun xs H Q => ∃ i j, xs = [.int i, .int j] ∧ Q (.int (if j < i then j else i)) H) caMin := by
  intro ds vs h H Q' Q r hr q f
  unfold caMin at q
  split at q
  · rename_i i j
    obtain ⟨v, u, rfl, r1, r2⟩ := r.two
    have e : (if j < i then j else i) = min i j := by split <;> omega
    exact ⟨i, j, by rw [show v = _ from r1, show u = _ from r2], by rw [e]; exact f (.int _) h _ H .refl hr rfl q⟩
  · exact q.elim
def itemsK (h : DH) (x : D) (k : List D → Prop) : Prop := match x with
  | .tup xs => k xs
  | .lis xs => k xs
  | .scr ns => k (ns.map .int)
  | .ref a => ∃ xs, h a = some (.lst xs) ∧ k xs
  | _ => False
theorem rds_ints {h : DH} {H : Hp} : ∀ ns : List Int, RDs K h H (ns.map D.int) (ns.map V.int)
  | [] => rfl
  | n :: ns => ⟨.int n, _, rfl, rfl, rds_ints ns⟩
theorem items_of {h : DH} {H : Hp} {x : D} {v : V} {k : List D → Prop} (r : RD K h H x v) (hr : HR K h H) (q : itemsK h x k) : ∃ a ds vs, v = .ref a ∧ (SqL K H a vs ∨ SqT K H a vs) ∧ RDs K h H ds vs ∧ k ds := by
  cases x with
  | tup xs =>
    obtain ⟨a, vs, e, t, rs⟩ := r
    exact ⟨a, xs, vs, e, .inr t.sq, rs, q⟩
  | lis xs =>
    obtain ⟨a, vs, e, n, t, rs⟩ := r
    exact ⟨a, xs, vs, e, .inl (SqL.of t), rs, q⟩
  | scr ns =>
    obtain ⟨a, e, t⟩ := r
    exact ⟨a, _, _, e, .inl t.sq, rds_ints ns, q⟩
  | ref a =>
    obtain ⟨xs, e, q⟩ := q
    obtain ⟨vs, t, rs⟩ := hr.lst e
    exact ⟨a, xs, vs, r, .inl (SqL.of t), rs, q⟩
  | _ => exact q.elim
def caList : List D → DH → VK' → Prop := fun ds h Q => match ds with
  | [x] => itemsK h x fun xs => Q (.lis xs) h
  | _ => False
def caListO : List D → DH → VK' → Prop := fun ds h Q => match ds with
  | [x] => itemsK h x fun xs => ∀ p, h p = none → Q (.ref p) (put h p (.lst xs))
  | _ => False
def rListOf (K : PySem.W.Frag) : List V → Hp → VK → Prop := fun xs H Q => ∃ p ys, xs = [.ref p] ∧ (SqL K H p ys ∨ SqT K H p ys) ∧ ∀ l, H l = none → Q (.ref l) (upd H l (.lst ys))
theorem cl_list : CallL K (rListOf K) caList := by
  intro ds vs h H Q' Q r hr q f
  unfold caList at q
  split at q
  · obtain ⟨v, rfl, r1⟩ := r.one
    obtain ⟨a, xs, ws, rfl, t, rs, q⟩ := items_of r1 hr q
    exact ⟨a, ws, rfl, t, f.lis hr rs q⟩
  · exact q.elim
theorem cl_listO : CallL K (rListOf K) caListO := by
  intro ds vs h H Q' Q r hr q f
  unfold caListO at q
  split at q
  · obtain ⟨v, rfl, r1⟩ := r.one
    obtain ⟨a, xs, ws, rfl, t, rs, q⟩ := items_of r1 hr q
    exact ⟨a, ws, rfl, t, f.own hr rs q⟩
  · exact q.elim
def caTup : List D → DH → VK' → Prop := fun ds h Q => match ds with
  | [x] => itemsK h x fun xs => Q (.tup xs) h
  | _ => False
def rTupOf (K : PySem.W.Frag) : List V → Hp → VK → Prop := fun xs H Q => ∃ p ys, xs = [.ref p] ∧ ((SqL K H p ys ∧ Nt Q H ys) ∨ (SqT K H p ys ∧ Q (.ref p) H))
theorem call_tupF : CallR X (.type "tuple") (rTupOf X.K) := by
  intro pins s σ H xs us Q I r h
  obtain ⟨p, ys, rfl, h⟩ := h
  obtain ⟨u, rfl, rx⟩ := vals1 r
  rcases h with ⟨hq, q⟩ | ⟨hq, q⟩
  · cases rx
    obtain ⟨its, rv, pl, hz⟩ := I.list hq
    have hlen := rv.length
    refine call_tuple_list pl.isList (fun g kp => ?_) (by simp only [List.size_toArray]; omega)
    have J : Inv X pins σ H { s with heap := g } := I.kept (t' := s.toks) kp
    refine ⟨V.ref g.objs.size, _, J.laid (o := .frz ⟨.type "tuple", none, .seq its.toArray 0, #[]⟩ (.tup ys)) (t' := s.toks) (fun b u e => Heap.get?_push_of_some _ e) (Nat.le_refl _) ?_, rfl, q _ _ rfl (J.hok.fresh (Nat.le_refl _))⟩
    exact ⟨Heap.get?_push_size _ rfl, hz, its, rv, IsTup.new _ _⟩
  · exact call_tuple_of pins s σ H _ _ Q I (.cons rx .nil) ⟨p, ys, rfl, .inr ⟨hq, q⟩⟩
theorem cl_tup : CallL K (rTupOf K) caTup := by
  intro ds vs h H Q' Q r hr q f
  unfold caTup at q
  split at q
  · rename_i x
    obtain ⟨v, rfl, r1⟩ := r.one
    cases x with
    | tup xs =>
      have r2 := r1
      obtain ⟨a, ws, rfl, t, rs⟩ := r1
      exact ⟨a, ws, rfl, .inr ⟨t.sq, f (.tup xs) h _ H .refl hr r2 q⟩⟩
    | lis xs =>
      obtain ⟨a, ws, rfl, n, t, rs⟩ := r1
      exact ⟨a, ws, rfl, .inl ⟨SqL.of t, f.tup hr rs q⟩⟩
    | scr ns =>
      obtain ⟨a, rfl, t⟩ := r1
      exact ⟨a, _, rfl, .inl ⟨t.sq, f.tup hr (rds_ints ns) q⟩⟩
    | ref a =>
      obtain ⟨xs, e, q⟩ := q
      obtain ⟨ws, t, rs⟩ := hr.lst e
      exact ⟨a, ws, by rw [show v = _ from r1], .inl ⟨SqL.of t, f.tup hr rs q⟩⟩
    | _ => exact q.elim
  · exact q.elim
def caSum : List D → DH → VK' → Prop := fun ds h Q => match ds with
  | [.lis xs] => ∃ ns : List Int, xs = ns.map .int ∧ Q (.int ns.sum) h
  | _ => False
theorem rds_ints_inv {h : DH} {H : Hp} : ∀ {ns : List Int} {vs : List V}, RDs K h H (ns.map D.int) vs → vs = ns.map V.int
  | [], vs, r => r
  | n :: ns, vs, r => by
    obtain ⟨v, w, rfl, r1, r2⟩ := r
    rw [show v = .int n from r1, rds_ints_inv r2]
    rfl
theorem cl_sum : CallL K (rSum K) caSum := by
  intro ds vs h H Q' Q r hr q f
  unfold caSum at q
  split at q
  · obtain ⟨ns, rfl, q⟩ := q
    obtain ⟨v, rfl, a, ws, rfl, n, t, rs⟩ := r.one
    cases rds_ints_inv rs
    exact ⟨a, ns, rfl, SqL.of t, f (.int _) h _ H .refl hr rfl q⟩
  · exact q.elim
end
end DL
set_option Elab.async false
set_option linter.all false
set_option maxRecDepth 100000
namespace DL
open PySem PySem.Spec PyProof.Rows L2
section
variable {prog : Program} {w : World} {A : Around} {E : Value → Shared → Prop} {s : Shared}
theorem tuple_whole {t sl : Addr} {items : Array Value} {vl vu : Value} {lo hi : Option Int} {Q : Value → Shared → Prop}
    (ht : IsTup s.heap t items) (hs : s.heap.IsSliceOf sl vl vu .none) (pl : IsPart vl lo) (pu : IsPart vu hi)
    (w1 : HT.sIx items.size 0 lo = 0) (w2 : HT.sIx items.size items.size hi = items.size)
    (h : Q (.ref t) s) : wpAny (model prog w) A (getItem (.ref t) (.ref sl)) Q E s := by
  obtain ⟨os, hos, hcs, hds⟩ := id hs
  have tS : s.TypeIs (.ref sl) "slice" := ⟨os, hos, hcs⟩
  unfold getItem
  try with_reducible refine wpAny_holding ?_
  first
    | refine wpAny_bind (wpAny_pure ?_)
    | skip
  refine wpAny_bind (wpAny_sequenceKey ht.typeIs
    (by decide) ?_)
  refine wpAny_bind (wpAny_callSpecial?_slot
    (name := Str.ofString "__getitem__") ht.typeIs slot_tuple_getitem
    (wpAny_call_entry slot_tuple_getitem ht.typeIs
      entry_tuple_getitem ?_ (args_tuple_getitem _ _)))
  show wpAny _ _ (Builtin.Tuple.tupleItemsOf (.ref t)
    >>= _) _ _ s
  refine wpAny_bind (tupleItemsOf_ ht
    ?_)
  refine wpAny_bind (wpAny_typeOf tS ?_)
  rw [if_pos (by
    decide)]
  refine wpAny_bind (HT.sliceApplied_gen hs pl pu ?_)
  rw [w1, w2]
  have yes : ((((0 : Nat) : Int) == 0 && (1 : Int) == 1 && (items.size - 0) == items.size) = true) := by simp
  show wpAny _ _ (if ((((0 : Nat) : Int) == 0 && (1 : Int) == 1 && (items.size - 0) == items.size) = true) then _ else _) _ _ s
  rw [if_pos yes]
  refine wpAny_bind ?_
  unfold Builtin.Tuple.tupleIsExact
  refine wpAny_bind (wpAny_typeOf ht.typeIs (wpAny_pure ?_))
  rw [if_pos (by decide)]
  exact wpAny_bind (wpAny_rule (wpAny_pure ⟨_, rfl, wpAny_pure h⟩))
end
section
variable {X : Cx} {Y : Wsh} {K : PySem.W.Frag} {pos : Pos}
def rSlW (K : PySem.W.Frag) : V → Option Int → Option Int → Hp → VK → Prop := fun x lo hi H Q => ∃ a xs, x = .ref a ∧ SqT K H a xs ∧
  (HT.sIx xs.length 0 lo = 0 ∧ HT.sIx xs.length xs.length hi = xs.length → Q (.ref a) H) ∧ Nt Q H (cutV xs lo hi)
theorem sl_W : SlR X (rSlW X.K) := by
  intro pins s σ H x v vl vu lo hi sl Q I rx hs pl pu h
  obtain ⟨a, xs, rfl, hx, q1, q2⟩ := h
  by_cases hw : HT.sIx xs.length 0 lo = 0 ∧ HT.sIx xs.length xs.length hi = xs.length
  · cases rx
    obtain ⟨its, r, ht, hz⟩ := I.tuple hx
    have hlen : its.toArray.size = xs.length := by rw [List.size_toArray]; exact r.length.symm
    refine ⟨"tuple", _, slot_tuple_getitem.lookup, ht.typeIs, ?_⟩
    exact tuple_whole ht hs pl pu (by rw [hlen]; exact hw.1) (by rw [hlen]; exact hw.2) ⟨.ref a, H, I, rfl, q1 hw⟩
  · cases rx
    obtain ⟨its, r, ht, hz⟩ := I.tuple hx
    have hlen : its.toArray.size = xs.length := by rw [List.size_toArray]; exact r.length.symm
    refine ⟨"tuple", _, slot_tuple_getitem.lookup, ht.typeIs, ?_⟩
    refine HT.getItem_tuple_cut ht hs pl pu (by rw [hlen]; exact hw) ?_ (by rw [hlen]; exact hz)
    rw [hlen]
    refine ⟨V.ref s.heap.objs.size, _, I.laid (o := .frz ⟨.type "tuple", none, .seq (List.take (HT.sIx xs.length xs.length hi - HT.sIx xs.length 0 lo) (its.drop (HT.sIx xs.length 0 lo))).toArray 0, #[]⟩ (.tup (cutV xs lo hi))) (t' := s.toks) (fun b u e => Heap.get?_push_of_some _ e) (Nat.le_refl _) ?_, rfl, q2 _ _ rfl (I.hok.fresh (Nat.le_refl _))⟩
    exact ⟨Heap.get?_push_size _ rfl, Nat.le_trans (cutV_length xs lo hi) hz, _, (r.drop (HT.sIx xs.length 0 lo)).take (HT.sIx xs.length xs.length hi - HT.sIx xs.length 0 lo), IsTup.new _ _⟩
abbrev TO' := St' → DH → (Option Int → DH → Prop) → Prop
def lO (K : PySem.W.Frag) (Y : Wsh) (t : TO') : TO := fun σ H Q => ∃ τ h Q', At K Y h H σ τ ∧ t τ h Q' ∧ ∀ o h' H', KP h H h' H' → HR K h' H' → Q' o h' → Q o H'
def DO' (X : Cx) (Y : Wsh) (e : Option Expr) (t : TO') : Prop := PO X e (lO X.K Y t)
def tpn : TO' := fun _ h Q => Q none h
def isI (x : D) (k : Int → Prop) : Prop := match x with | .int i => k i | _ => False
def tpe (t : TE') : TO' := fun τ h Q => t τ h fun x h1 => isI x fun i => Q (some i) h1
theorem PO.imp {e : Option Expr} {t u : TO} (p : PO X e t) (h : ∀ σ H Q, u σ H Q → t σ H Q) : PO X e u := ⟨fun pins s σ H Q I q => p.run pins s σ H Q I (h σ H Q q)⟩
theorem do_none : DO' X Y none tpn := PO.imp po_none fun σ H Q ⟨τ, h, Q', at', q, f⟩ => f none h H .refl at'.hr q
theorem do_some {e : Expr} {te : TE'} (p : DE X Y e te) : DO' X Y (some e) (tpe te) := PO.imp (po_some p) fun σ H Q ⟨τ, h, Q', at', q, f⟩ => ⟨τ, h, _, at', q, fun x h1 v H1 k1 hr1 rx q1 => by
  cases x with
  | int i => exact ⟨i, rx, f (some i) h1 H1 k1 hr1 q1⟩
  | _ => exact q1.elim⟩
def cutD (xs : List D) (lo hi : Option Int) : List D := (xs.drop (HT.sIx xs.length 0 lo)).take (HT.sIx xs.length xs.length hi - HT.sIx xs.length 0 lo)
theorem RDs.cut {h : DH} {H : Hp} {ds : List D} {vs : List V} (r : RDs K h H ds vs) (lo hi : Option Int) : RDs K h H (cutD ds lo hi) (cutV vs lo hi) := by
  unfold cutD cutV
  rw [r.length]
  exact RDs.take _ (RDs.drop _ r)
theorem cutD_all {xs : List D} {lo hi : Option Int} (h : HT.sIx xs.length 0 lo = 0 ∧ HT.sIx xs.length xs.length hi = xs.length) : cutD xs lo hi = xs := by
  unfold cutD
  rw [h.1, h.2]
  simp
def slD (x : D) (lo hi : Option Int) (h : DH) (Q : VK') : Prop := match x with
  | .tup ds => Q (.tup (cutD ds lo hi)) h
  | .lis ds => Q (.lis (cutD ds lo hi)) h
  | .ref a => ∃ ds, h a = some (.lst ds) ∧ Q (.lis (cutD ds lo hi)) h
  | _ => False
def rSlA (K : PySem.W.Frag) : V → Option Int → Option Int → Hp → VK → Prop := fun x lo hi H Q => rSlW K x lo hi H Q ∨ rSlL K x lo hi H Q
theorem sl_A : SlR X (rSlA X.K) := sl_W.or sl_list
def tsl (te : TE') (tl th : TO') : TE' := fun τ h Q => te τ h fun x h1 => tl τ h1 fun l h2 => th τ h2 fun u h3 => slD x l u h3 Q
theorem de_slice {e : Expr} {lo hi : Option Expr} {te : TE'} {tl th : TO'} {p2 : Pos} (he : DE X Y e te) (hl : DO' X Y lo tl) (hu : DO' X Y hi th) : DE X Y (.Subscript e (.Slice lo hi none p2) pos) (tsl te tl th) :=
  (pe_slice sl_A he hl hu).imp fun σ H Q ⟨τ, h, Q', at', q, f⟩ => ⟨τ, h, _, at', q, fun x h1 v H1 k1 hr1 rx q1 => ⟨τ, h1, _, at'.after k1 hr1, q1, fun l h2 H2 k2 hr2 q2 => ⟨τ, h2, _, at'.after (k1.trans k2) hr2, q2, fun u h3 H3 k3 hr3 q3 => by
    have f3 := f.after (k1.trans (k2.trans k3))
    have rx3 := RD.mono (k2.trans k3) _ _ rx
    cases x with
    | tup ds =>
      have r0 := rx3
      obtain ⟨a, vs, rfl, t, r⟩ := rx3
      refine .inl ⟨a, vs, rfl, t.sq, fun z => ?_, f3.tup hr3 (r.cut l u) q3⟩
      rw [r.length] at z
      exact f3 (.tup (cutD ds l u)) h3 _ H3 .refl hr3 (by rw [cutD_all z]; exact r0) q3
    | lis ds =>
      obtain ⟨a, vs, rfl, n, t, r⟩ := rx3
      exact .inr ⟨a, vs, rfl, SqL.of t, f3.lis hr3 (r.cut l u) q3⟩
    | ref a =>
      obtain ⟨ds, e, q3⟩ := q3
      obtain ⟨vs, t, r⟩ := hr3.lst e
      exact .inr ⟨a, vs, rx3, SqL.of t, f3.lis hr3 (r.cut l u) q3⟩
    | _ => exact q3.elim⟩⟩⟩
variable {st : Stmt} {rest : List Stmt} {t u : TS'} {e : Expr} {te : TE'}
def tnx : TS' := fun D τ h => D.nx τ h
def tseq (t u : TS') : TS' := fun D τ h => t { D with nx := u D } τ h
theorem dss_nil : DSs X Y [] tnx := pss_nil.imp fun D σ H ⟨τ, h, D', at', q, f⟩ => f.nx τ h σ H .refl at'.hr at'.len at'.sr q
theorem dss_cons (h1 : DS X Y st t) (h2 : DSs X Y rest u) : DSs X Y (st :: rest) (tseq t u) := (pss_cons h1 h2).imp fun D σ H ⟨τ, h, D', at', q, f⟩ =>
  ⟨τ, h, { D' with nx := u D' }, at', q, ⟨fun τ2 h2 σ2 H2 k2 hr2 l2 s2 q2 => ⟨τ2, h2, D', at'.next k2 hr2 l2 s2, q2, f.after k2⟩, f.rt, f.bk, f.ct⟩⟩
theorem dss_one (h1 : DS X Y st t) : DSs X Y [st] t := pss_one h1
def tbr : TS' := fun D τ h => D.bk τ h
def tct : TS' := fun D τ h => D.ct τ h
def tdrop (te : TE') : TS' := fun D τ h => te τ h fun _ h1 => D.nx τ h1
theorem ds_expr (he : DE X Y e te) (hs : swapsWith e none pos.line X.env = pure false := by rfl) : DS X Y (.Expr e pos) (tdrop te) := (ps_expr he hs).imp fun D σ H ⟨τ, h, D', at', q, f⟩ =>
  ⟨τ, h, _, at', q, fun _ h1 _ H1 k1 hr1 _ q1 => f.nx τ h1 σ H1 k1 hr1 at'.len (at'.sr.mono k1) q1⟩
def tret (te : TE') : TS' := fun D τ h => te τ h D.rt
theorem ds_ret (he : DE X Y e te) : DS X Y (.Return (some e) pos) (tret te) := (ps_ret he).imp fun D σ H ⟨τ, h, D', at', q, f⟩ => ⟨τ, h, _, at', q, f.rt⟩
def tretn : TS' := fun D _ h => D.rt .non h
def tifs (c : TT') (t u : TS') : TS' := fun D τ h => c τ h fun b h1 => if b = true then t D τ h1 else u D τ h1
theorem ds_if {c : Expr} {a b : List Stmt} {tc : TT'} (hc : DT X Y c tc) (ha : DSs X Y a t) (hb : DSs X Y b u) : DS X Y (.If c a b pos) (tifs tc t u) := (ps_if hc ha hb).imp fun D σ H ⟨τ, h, D', at', q, f⟩ =>
  ⟨τ, h, _, at', q, fun b h1 H1 k1 hr1 q1 => by
    cases b with
    | true => rw [if_pos rfl] at q1 ⊢; exact ⟨τ, h1, D', at'.after k1 hr1, q1, f.after k1⟩
    | false => rw [if_neg Bool.false_ne_true] at q1 ⊢; exact ⟨τ, h1, D', at'.after k1 hr1, q1, f.after k1⟩⟩
def PuE (t : TE') : Prop := ∀ τ h Q, t τ h Q → ∃ d, Q d h
def PuT (t : TT') : Prop := ∀ τ h R, t τ h R → ∃ d, R d h
def PuR (r : DR2) : Prop := ∀ x y h Q, r x y h Q → ∃ d, Q d h
theorem pu_tv {i : Nat} : PuE (tv i) := fun _ _ _ ⟨d, _, q⟩ => ⟨d, q⟩
theorem pu_tc {d : D} : PuE (tc d) := fun _ _ _ q => ⟨d, q⟩
theorem pu_to {r : DR2} {ta tb : TE'} (hr : PuR r) (ha : PuE ta) (hb : PuE tb) : PuE (to r ta tb) := fun τ h Q q => by
  obtain ⟨x, q⟩ := ha τ h _ q
  obtain ⟨y, q⟩ := hb τ h _ q
  exact hr x y h _ q
theorem pu_I2 {C : Int → Int → Prop} {g : Int → Int → D} : PuR (opI2 C g) := fun x y h Q q => by
  unfold opI2 at q
  split at q
  · exact ⟨_, q.2⟩
  · exact q.elim
theorem pu_eq : PuR opEq := fun x y h Q q => by
  unfold opEq at q
  split at q
  · exact ⟨_, q⟩
  · exact ⟨_, q.2.2⟩
theorem pu_tb {t : TE'} (h : PuE t) : PuT (tb' t) := fun τ g R q => by
  obtain ⟨x, q⟩ := h τ g _ q
  cases x with
  | bl c => exact ⟨c, q⟩
  | _ => exact q.elim
def torp (t u : TT') : TT' := fun τ h R => t τ h fun c h1 => u τ h1 fun d h2 => R (c || d) h2
theorem pu_orp {t u : TT'} (ht : PuT t) (hu : PuT u) : PuT (torp t u) := fun τ h R q => by
  obtain ⟨c, q⟩ := ht τ h _ q
  obtain ⟨d, q⟩ := hu τ h _ q
  exact ⟨_, q⟩
theorem dw_orp {a b : Expr} {rs : List Expr} {tA tB : TT'} (pu : PuT tB) (ha : DT X Y a tA) (hb : DW X Y (.BoolOp .Or (b :: rs) pos) tB) : DW X Y (.BoolOp .Or (a :: b :: rs) pos) (torp tA tB) := L2.PW.imp (pw_or ha hb) fun σ H Q ⟨τ, h, Q', at', q, f⟩ => by
  refine ⟨τ, h, _, at', q, fun c h1 H1 k1 hr1 q1 => ?_⟩
  cases c with
  | true =>
    rw [if_pos rfl]
    obtain ⟨d, q2⟩ := pu τ h1 _ q1
    exact f _ h1 H1 k1 hr1 q2
  | false =>
    rw [if_neg Bool.false_ne_true]
    exact ⟨τ, h1, _, at'.after k1 hr1, q1, fun d h2 H2 k2 hr2 q2 => f _ h2 H2 (k1.trans k2) hr2 (by rw [Bool.false_or] at q2; exact q2)⟩
def tmid (t : TS') : TS' := fun D τ h => ∃ M : St' → DH → Prop, t { D with nx := M } τ h ∧ ∀ τ' h', M τ' h' → D.nx τ' h'
theorem ds_mid (p : DS X Y st t) : DS X Y st (tmid t) := L2.PS.imp p fun D σ H ⟨τ, h, E, at', ⟨M, q, m⟩, f⟩ =>
  ⟨τ, h, { E with nx := M }, at', q, ⟨fun τ2 h2 σ2 H2 k2 hr2 l2 s2 q2 => f.nx τ2 h2 σ2 H2 k2 hr2 l2 s2 (m τ2 h2 q2), f.rt, f.bk, f.ct⟩⟩
def gn (i : Nat) : TG' := fun d τ h Q => Q (τ.set i (some d)) h
theorem dg_name {i : Nat} {x : Str} (hN : X.N.Nodup) (hi : X.N[i]? = some x) (hx : Loc X.env.scope x) (hf : X.fn x = true ∨ X.env.scope.names.lookup x = some .local := by first | exact .inl rfl | exact .inr rfl | assumption) : DG X Y (.Name x pos) (gn i) :=
  (pg_name hN hi hx hf).imp fun v σ H Q ⟨d, τ, h, Q', at', r, q, f⟩ => f _ h _ H .refl at'.hr (by rw [List.length_set, List.length_set]; exact at'.len) (at'.sr.set at'.len r) q
def gni : TGs' := fun ds τ h Q => ds = [] ∧ Q τ h
def gco (t : TG') (u : TGs') : TGs' := fun ds τ h Q => ∃ d r, ds = d :: r ∧ t d τ h fun τ1 h1 => u r τ1 h1 Q
theorem dgs_nil : DGs X Y [] gni := pgs_nil.imp fun v σ H Q ⟨ds, τ, h, Q', at', r, ⟨e, q⟩, f⟩ => by
  subst e
  cases (show v = [] from r)
  exact ⟨rfl, f τ h σ H .refl at'.hr at'.len at'.sr q⟩
theorem dgs_cons {e : Expr} {es : List Expr} {t : TG'} {u : TGs'} (h1 : DG X Y e t) (h2 : DGs X Y es u) (hs : (assignEach (e :: es) X.env).map (·.2) = assign e X.env :: (assignEach es X.env).map (·.2) := by rfl) : DGs X Y (e :: es) (gco t u) :=
  (pgs_cons h1 h2 hs).imp fun vs σ H Q ⟨ds, τ, h, Q', at', r, ⟨d, ds', e, q⟩, f⟩ => by
    subst e
    obtain ⟨v, ws, rfl, r1, r2⟩ := r
    exact ⟨v, ws, rfl, d, τ, h, _, at', r1, q, fun τ1 h1 σ1 H1 k1 hr1 l1 s1 q1 => ⟨ds', τ1, h1, Q', at'.next k1 hr1 l1 s1, RDs.mono k1 _ _ r2, q1, f.after k1⟩⟩
def gtup (n : Nat) (t : TGs') : TG' := fun d τ h Q => match d with | .tup ds => ds.length = n ∧ t ds τ h Q | _ => False
theorem dg_tup {es : List Expr} {k : Nat} {t : TGs'} {n : Nat} (hc : X.calm = true) (p : DGs X Y es t) (hn : (assignEach es X.env).length = n := by rfl) (hst : (assignEach es X.env).findIdx? (·.1) = none := by rfl) : DG X Y (.Tuple es k pos) (gtup n t) :=
  (pg_tup hc p hn hst).imp fun v σ H Q ⟨d, τ, h, Q', at', r, q, f⟩ => by
    cases d with
    | tup ds =>
      obtain ⟨a, vs, rfl, t, rs⟩ := r
      exact ⟨a, vs, rfl, t.sq, by rw [rs.length]; exact q.1, ds, τ, h, Q', at', rs, q.2, f⟩
    | _ => exact q.elim
def setD (o i d : D) (h : DH) (Q : DH → Prop) : Prop := match o with
  | .ref a => isI i fun k => ∃ ds, h a = some (.lst ds) ∧ ∃ j, ixN ds.length k = some j ∧ Q (put h a (.lst (ds.set j d)))
  | _ => False
def gsub (to ti : TE') : TG' := fun d τ h Q => to τ h fun o h1 => ti τ h1 fun i h2 => setD o i d h2 fun h3 => Q τ h3
theorem dg_sub {o i : Expr} {to ti : TE'} (ho : DE X Y o to) (hi : DE X Y i ti) (ha : ∀ v, assign (.Subscript o i pos) X.env v = (do
      let ov ← holding [v] (eval o X.env)
      let iv ← holding [v, ov] (eval i X.env)
      standAt pos
      holding [v, ov, iv] (setItem ov iv v)
      release [v, ov, iv] []) := by intro _; rfl) : DG X Y (.Subscript o i pos) (gsub to ti) :=
  (pg_sub ho hi set_list ha).imp fun v σ H Q ⟨d, τ, h, Q', at', r, q, f⟩ => ⟨τ, h, _, at', q, fun x h1 xv H1 k1 hr1 rx q1 => ⟨τ, h1, _, at'.after k1 hr1, q1, fun y h2 yv H2 k2 hr2 ry q2 => by
    cases x with
    | ref a =>
      cases y with
      | int k =>
        obtain ⟨ds, e, j, ej, q2⟩ := q2
        obtain ⟨vs, t, rs⟩ := hr2.lst e
        have r2 := RD.mono (k1.trans k2) _ _ r
        have kw : KP h2 H2 (put h2 a (.lst (ds.set j d))) (upd H2 a (.lst (vs.set j v))) := KP.wr e
        refine ⟨a, vs, k, j, rx, ry, t, by rw [rs.length]; exact ej, ?_⟩
        exact f τ _ σ _ (k1.trans (k2.trans kw)) (hr2.wr e (rs.set r2 j)) at'.len (at'.sr.mono (k1.trans (k2.trans kw))) q2
      | _ => exact q2.elim
    | _ => exact q2.elim⟩⟩
def tasg (te : TE') (g : TG') : TS' := fun D τ h => te τ h fun x h1 => g x τ h1 D.nx
theorem asg_imp {g : TG'} {D : Ends} {σ : L2.St} {H : Hp} (q : lS K Y (tasg te g) D σ H) : tAsg (lE K Y te) (lG K Y g) D σ H := by
  obtain ⟨τ, h, D', at', q, f⟩ := q
  exact ⟨τ, h, _, at', q, fun x h1 v H1 k1 hr1 rx q1 => ⟨x, τ, h1, _, at'.after k1 hr1, rx, q1, f.nx.after k1⟩⟩
theorem ds_asg {tg e : Expr} {g : TG'} (he : DE X Y e te) (hg : DG X Y tg g) (hs : swapsWithSole [tg] e pos.line X.env = pure false := by rfl) (hw : swappedStores [tg] e X.env = pure none := by rfl)
    (h1 : (assignEach [tg] X.env).map (·.2) = [assign tg X.env] := by rfl) : DS X Y (.Assign [tg] e pos) (tasg te g) := (ps_asg he hg hs hw h1).imp fun _ _ _ q => asg_imp q
theorem ds_set {i : Nat} {x : Str} {e : Expr} {pos' : Pos} (hN : X.N.Nodup) (hi : X.N[i]? = some x) (hx : Loc X.env.scope x) (he : DE X Y e te) (hs : swapsWith e (some (.Name x pos')) pos.line X.env = pure false := by rfl) (hf : X.fn x = true ∨ X.env.scope.names.lookup x = some .local := by first | exact .inl rfl | exact .inr rfl | assumption) :
    DS X Y (.Assign [.Name x pos'] e pos) (tasg te (gn i)) := (ps_set hN hi hx he hs hf).imp fun D σ H ⟨τ, h, D', at', q, f⟩ =>
  ⟨τ, h, _, at', q, fun x h1 v H1 k1 hr1 rx q1 => f.nx _ h1 _ H1 k1 hr1 (by rw [List.length_set, List.length_set]; exact at'.len) ((at'.sr.mono k1).set at'.len rx) q1⟩
end
end DL
set_option Elab.async false
set_option linter.all false
set_option maxRecDepth 100000
namespace DL
open PySem PySem.Spec PyProof.Rows L2
section
variable {X : Cx} {Y : Wsh} {K : PySem.W.Frag} {pos : Pos}
abbrev DM := D → List D → DH → VK' → Prop
def MtL (K : PySem.W.Frag) (r : V → List V → Hp → VK → Prop) (r' : DM) : Prop := ∀ x ds v vs h H Q' Q, RD K h H x v → RDs K h H ds vs → HR K h H → r' x ds h Q' → Fin K h H Q' Q → r v vs H Q
def TyL (K : PySem.W.Frag) (T : String) (t : D → DH → Prop) : Prop := ∀ x v h H, RD K h H x v → HR K h H → t x h → tyV K T v H
def tbm (t : D → DH → Prop) (r : DM) (to : TE') (ta : TA') : TE' := fun τ h Q => to τ h fun x h1 => t x h1 ∧ ta τ h1 fun ds h2 => r x ds h2 Q
def isLs (x : D) (h : DH) : Prop := match x with | .ref a => ∃ ds, h a = some (.lst ds) | .lis _ => True | .scr _ => True | _ => False
theorem ty_lst : TyL K "list" isLs := by
  intro x v h H r hr t
  cases x with
  | ref a =>
    obtain ⟨ds, e⟩ := t
    obtain ⟨vs, e2, _⟩ := hr.lst e
    cases (show v = .ref a from r)
    exact .inl ⟨rfl, vs, SqL.of e2⟩
  | lis ds => obtain ⟨a, vs, rfl, n, e, _⟩ := r; exact .inl ⟨rfl, vs, SqL.of e⟩
  | scr ns => obtain ⟨a, rfl, e⟩ := r; exact .inl ⟨rfl, _, e.sq⟩
  | _ => exact t.elim
theorem bm_imp {T : String} {t : D → DH → Prop} {r : V → List V → Hp → VK → Prop} {r' : DM} {to : TE'} {ta : TA'} (hT : TyL K T t) (hl : MtL K r r') {σ : L2.St} {H : Hp} {Q : VK} (q : lE K Y (tbm t r' to ta) σ H Q) : tBM K T r (lE K Y to) (lA K Y ta) σ H Q := by
  obtain ⟨τ, h, Q', at', q, f⟩ := q
  exact ⟨τ, h, _, at', q, fun x h1 v H1 k1 hr1 rx q1 => ⟨hT x v h1 H1 rx hr1 q1.1, τ, h1, _, at'.after k1 hr1, q1.2, fun ds h2 vs H2 k2 hr2 rs q2 => hl x ds v vs h2 H2 Q' Q (RD.mono k2 _ _ rx) rs hr2 q2 (f.after (k1.trans k2))⟩⟩
def mApp : DM := fun x ds h Q => match x, ds with
  | .ref a, [y] => ∃ xs, h a = some (.lst xs) ∧ xs.length < sizeLine ∧ Q .non (put h a (.lst (xs ++ [y])))
  | _, _ => False
theorem ml_app : MtL K rAppend mApp := by
  intro x ds v vs h H Q' Q rx rs hr q f
  unfold mApp at q
  split at q
  · obtain ⟨xs, e, z, q⟩ := q
    obtain ⟨w, rfl, r1⟩ := rs.one
    obtain ⟨ws, t, r⟩ := hr.lst e
    exact ⟨_, ws, w, rx, rfl, t, by rw [r.length]; exact z, f .non _ _ _ (KP.wr e) (hr.wr e (r.append (.cons r1 .nil))) rfl q⟩
  · exact q.elim
def mExt : DM := fun x ds h Q => match x, ds with
  | .ref a, [.lis ys] => ∃ xs, h a = some (.lst xs) ∧ xs.length + ys.length ≤ sizeLine ∧ Q .non (put h a (.lst (xs ++ ys)))
  | .ref a, [.ref b] => ∃ xs ys, h a = some (.lst xs) ∧ h b = some (.lst ys) ∧ xs.length + ys.length ≤ sizeLine ∧ Q .non (put h a (.lst (xs ++ ys)))
  | _, _ => False
section
variable {o e : Expr} {es : List Expr} {to' : TE'} {ta : TA'} {nm : Str} {T id : String} {r : V → List V → Hp → VK → Prop} {r' : DM} {t : D → DH → Prop} {ap : Pos}
end
structure WalksD (K : PySem.W.Frag) (J : It) (xs : List D) (C : DH → Prop) (h1 : DH) (H1 : Hp) : Prop where
  stop : ∀ h H, KP h1 H1 h H → HR K h H → C h → J.stop xs.length H
  go : ∀ h H (i : Nat) d, KP h1 H1 h H → HR K h H → C h → xs[i]? = some d → J.go i H
  yld : ∀ h H (i : Nat) d x H', KP h1 H1 h H → HR K h H → C h → xs[i]? = some d → J.yld i H x H' → KP h H h H' ∧ HR K h H' ∧ RD K h H' d x
abbrev TI' := St' → DH → (List D → (DH → Prop) → DH → Prop) → Prop
def lI (K : PySem.W.Frag) (Y : Wsh) (t : TI') : TI := fun σ H R => ∃ τ h Q', At K Y h H σ τ ∧ t τ h Q' ∧ ∀ xs C h1 H1 J, KP h H h1 H1 → HR K h1 H1 → WalksD K J xs C h1 H1 → Q' xs C h1 → R J H1
def DI (X : Cx) (Y : Wsh) (tg iter : Expr) (t : TI') : Prop := PI X tg iter (lI X.K Y t)
theorem PI.imp {tg iter : Expr} {t u : TI} (p : PI X tg iter t) (h : ∀ σ H R, u σ H R → t σ H R) : PI X tg iter u := ⟨fun pins s σ H R I q => p.run pins s σ H R I (h σ H R q)⟩
def iSeq (K : PySem.W.Frag) (tl : TE) : TI := fun σ H R => tl σ H fun x H1 => (∃ a, x = .ref a ∧ (∃ xs, SqL K H1 a xs) ∧ R (Itl K a) H1) ∨ (∃ a, x = .ref a ∧ (∃ xs, SqT K H1 a xs) ∧ R (Itt K a) H1)
theorem pi_seq {tg l : Expr} {tl : TE} (hl : PE X l tl) : PI X tg l (iSeq X.K tl) := by
  refine ⟨fun pins s σ H R I h => ?_⟩
  refine thn (hl.run pins s σ H _ I h) fun v s1 ⟨x, H1, I1, r1, q1⟩ => ?_
  have fp : ∀ b ∈ [s1.heap.objs.size], FpOk X pins H1 b := fun b hb => by
    cases (show b = s1.heap.objs.size by simpa using hb)
    exact I1.fpOk (Nat.le_refl _) (I1.hok.fresh (Nat.le_refl _))
  rcases q1 with ⟨a, rfl, ⟨xs, hq⟩, q⟩ | ⟨a, rfl, ⟨xs, hq⟩, q⟩
  · cases r1
    obtain ⟨its, rv, p, hz⟩ := I1.list hq
    refine wpAny_pyIter_list p.isList ⟨s1.heap.objs.size, [s1.heap.objs.size], _, _, H1, rfl, ?_,
      turn_list a _, ⟨_, Heap.get?_push_size _ rfl, rfl, rfl⟩, fp, q⟩
    exact I1.kept (t' := s1.toks) fun b o e => Heap.get?_push_of_some _ e
  · cases r1
    obtain ⟨its, rv, p, hz⟩ := I1.tuple hq
    refine wpAny_pyIter_tuple (show s1.heap.IsTuple a its.toArray from p) ⟨s1.heap.objs.size, [s1.heap.objs.size], _, _, H1, rfl, ?_,
      turn_tuple a _, ⟨_, Heap.get?_push_size _ rfl, rfl, rfl⟩, fp, q⟩
    exact I1.kept (t' := s1.toks) fun b o e => Heap.get?_push_of_some _ e
def tse (t : TE') : TI' := fun τ h Q => t τ h fun x h1 => match x with
  | .tup xs => Q xs (fun _ => True) h1
  | .lis xs => Q xs (fun _ => True) h1
  | .scr ns => Q (ns.map .int) (fun _ => True) h1
  | .ref a => ∃ xs, h1 a = some (.lst xs) ∧ Q xs (fun h => h a = some (.lst xs)) h1
  | _ => False
theorem get_lt {α : Type} {xs : List α} {i : Nat} {d : α} (e : xs[i]? = some d) : i < xs.length := (List.getElem?_eq_some_iff.mp e).1
theorem walks_list {a : Addr} {xs : List D} {C : DH → Prop} {h1 : DH} {H1 : Hp} (c : ∀ h H, KP h1 H1 h H → HR K h H → C h → ∃ vs, SqL K H a vs ∧ RDs K h H xs vs) : WalksD K (Itl K a) xs C h1 H1 where
  stop := fun h H k hr hc => by
    obtain ⟨vs, s, r⟩ := c h H k hr hc
    exact ⟨vs, s, by rw [r.length]; exact Nat.le_refl _⟩
  go := fun h H i d k hr hc e => by
    obtain ⟨vs, s, r⟩ := c h H k hr hc
    obtain ⟨v, ev, _⟩ := r.get e
    exact ⟨vs, v, s, ev⟩
  yld := fun h H i d x H' k hr hc e y => by
    obtain ⟨vs, s, r⟩ := c h H k hr hc
    obtain ⟨v, ev, rv⟩ := r.get e
    obtain ⟨rfl, y2⟩ := y
    have := y2 vs s
    rw [ev] at this
    cases this
    exact ⟨.refl, hr, rv⟩
theorem walks_tup {a : Addr} {xs : List D} {h1 : DH} {H1 : Hp} {vs : List V} (t : TupAt K h1 H1 a vs) (r1 : RDs K h1 H1 xs vs) : WalksD K (Itt K a) xs (fun _ => True) h1 H1 where
  stop := fun h H k hr hc => ⟨vs, (k.tup t).sq, by rw [r1.length]; exact Nat.le_refl _⟩
  go := fun h H i d k hr hc e => by
    obtain ⟨v, ev, _⟩ := r1.get e
    exact ⟨vs, v, (k.tup t).sq, ev⟩
  yld := fun h H i d x H' k hr hc e y => by
    obtain ⟨v, ev, rv⟩ := r1.get e
    obtain ⟨rfl, y2⟩ := y
    have := y2 vs (k.tup t).sq
    rw [ev] at this
    cases this
    exact ⟨.refl, hr, RD.mono k _ _ rv⟩
theorem di_seq {tg l : Expr} {tl : TE'} (p : DE X Y l tl) : DI X Y tg l (tse tl) := PI.imp (pi_seq p) fun σ H R ⟨τ, h, Q', at', q, f⟩ => ⟨τ, h, _, at', q, fun x h1 v H1 k1 hr1 rx q1 => by
  cases x with
  | tup xs =>
    obtain ⟨a, vs, e, t, r⟩ := rx
    exact .inr ⟨a, e, ⟨vs, t.sq⟩, f _ _ _ _ _ k1 hr1 (walks_tup t r) q1⟩
  | lis xs =>
    obtain ⟨a, vs, e, n, t, r⟩ := rx
    exact .inl ⟨a, e, ⟨vs, SqL.of t⟩, f _ _ _ _ _ k1 hr1 (walks_list fun h2 H2 k2 hr2 _ => ⟨vs, SqL.of (k2 a _ (by rw [n]; rfl) t).2, RDs.mono k2 _ _ r⟩) q1⟩
  | scr ns =>
    obtain ⟨a, e, t⟩ := rx
    exact .inl ⟨a, e, ⟨_, t.sq⟩, f _ _ _ _ _ k1 hr1 (walks_list fun h2 H2 k2 hr2 _ => ⟨_, (k2.scr t).sq, rds_ints ns⟩) q1⟩
  | ref a =>
    obtain ⟨xs, e, q1⟩ := q1
    obtain ⟨vs, t, r⟩ := hr1.lst e
    exact .inl ⟨a, rx, ⟨vs, SqL.of t⟩, f _ _ _ _ _ k1 hr1 (walks_list fun h2 H2 k2 hr2 c => by
      obtain ⟨ws, t2, r2⟩ := hr2.lst c
      exact ⟨ws, SqL.of t2, r2⟩) q1⟩
  | _ => exact q1.elim⟩
def rngD (lo : Int) (n : Nat) : List D := (List.range n).map fun (i : Nat) => D.int (lo + i)
theorem walks_range {lo : Int} {n : Nat} {h1 : DH} {H1 : Hp} : WalksD K (Itr lo n) (rngD lo n) (fun _ => True) h1 H1 := by
  have len : (rngD lo n).length = n := by unfold rngD; rw [List.length_map, List.length_range]
  have get : ∀ (i : Nat) d, (rngD lo n)[i]? = some d → i < n ∧ d = .int (lo + i) := fun i d e => by
    have hi := get_lt e
    rw [len] at hi
    refine ⟨hi, ?_⟩
    unfold rngD at e
    rw [List.getElem?_map, List.getElem?_range hi] at e
    exact (Option.some.inj e).symm
  refine ⟨fun h H k hr hc => by rw [len]; exact Nat.le_refl _, fun h H i d k hr hc e => (get i d e).1, fun h H i d x H' k hr hc e y => ?_⟩
  obtain ⟨rfl, rfl⟩ := y
  rw [(get i d e).2]
  exact ⟨.refl, hr, rfl⟩
def trg1 (ta : TA') : TI' := fun τ h Q => ta τ h fun ds h1 => match ds with
  | [.int j] => -4611686018427387904 ≤ j ∧ j < 4611686018427387904 ∧ Q (rngD 0 j.toNat) (fun _ => True) h1
  | _ => False
theorem di_rng1 {tg a : Expr} {ta : TA'} {p : Pos} (hg : Gl X "range") (hm : X.mg "range" = none) (ha : DA X Y [a] ta) (hs : starEach [a] X.env = [(false, eval a X.env)] := by rfl) : DI X Y tg (.Call (.Name "range" p) [a] [] pos) (trg1 ta) :=
  PI.imp (pi_range1 hg hm ha hs) fun σ H R ⟨τ, h, Q', at', q, f⟩ => ⟨τ, h, _, at', q, fun ds h1 vs H1 k1 hr1 rs q1 => by
    split at q1
    · obtain ⟨v, rfl, r1⟩ := rs.one
      cases (show v = _ from r1)
      have e : (2 : Int) ^ 62 = 4611686018427387904 := by decide
      exact ⟨_, rfl, by rw [e]; exact q1.1, by rw [e]; exact q1.2.1, f _ _ _ _ _ k1 hr1 walks_range q1.2.2⟩
    · exact q1.elim⟩
def trg2 (ta : TA') : TI' := fun τ h Q => ta τ h fun ds h1 => match ds with
  | [.int i, .int j] => (-4611686018427387904 ≤ i ∧ i < 4611686018427387904 ∧ -4611686018427387904 ≤ j ∧ j < 4611686018427387904) ∧ Q (rngD i (j - i).toNat) (fun _ => True) h1
  | _ => False
theorem di_rng2 {tg a b : Expr} {ta : TA'} {p : Pos} (hg : Gl X "range") (hm : X.mg "range" = none) (ha : DA X Y [a, b] ta) (hs : starEach [a, b] X.env = [(false, eval a X.env), (false, eval b X.env)] := by rfl) (hs2 : starEach [b] X.env = [(false, eval b X.env)] := by rfl) : DI X Y tg (.Call (.Name "range" p) [a, b] [] pos) (trg2 ta) :=
  PI.imp (pi_range2 hg hm ha hs hs2) fun σ H R ⟨τ, h, Q', at', q, f⟩ => ⟨τ, h, _, at', q, fun ds h1 vs H1 k1 hr1 rs q1 => by
    split at q1
    · obtain ⟨v, u, rfl, r1, r2⟩ := rs.two
      cases (show v = _ from r1)
      cases (show u = _ from r2)
      have e : (2 : Int) ^ 62 = 4611686018427387904 := by decide
      exact ⟨_, _, rfl, by rw [e]; exact q1.1, f _ _ _ _ _ k1 hr1 walks_range q1.2⟩
    · exact q1.elim⟩
def forS (g : TG') (tb : TS') (C : DH → Prop) (E : Ends') : List D → St' → DH → Prop
  | [], τ, h => C h ∧ E.nx τ h
  | x :: xs, τ, h => C h ∧ g x τ h fun τ1 h1 => tb { nx := fun τ2 h2 => forS g tb C E xs τ2 h2, rt := E.rt, bk := E.nx, ct := fun τ2 h2 => forS g tb C E xs τ2 h2 } τ1 h1
def tfor (ti : TI') (g : TG') (tb : TS') : TS' := fun E τ h => ti τ h fun xs C h1 => forS g tb C E xs τ h1
theorem drop_cons {α : Type} {xs r : List α} {i : Nat} {x : α} (e : xs.drop i = x :: r) : xs[i]? = some x ∧ xs.drop (i + 1) = r ∧ i < xs.length := by
  have h0 : (xs.drop i)[0]? = some x := by rw [e]; rfl
  rw [List.getElem?_drop] at h0
  refine ⟨h0, ?_, get_lt h0⟩
  rw [← List.tail_drop, e]
  rfl
theorem ds_for {tg iter : Expr} {body : List Stmt} {ti : TI'} {g : TG'} {tb : TS'} (hp : PassesOwn (model X.prog X.w) X.A X.env X.xe) (hc : X.calm = true) (hi : DI X Y tg iter ti) (hg : DG X Y tg g) (hb : DSs X Y body tb)
    (hs : ∀ x, foldedSetIterable iter X.env x = pure x := by intro _; rfl) : DS X Y (.For tg iter body [] pos) (tfor ti g tb) := (ps_for hp hc hi hg hb hs).imp fun D0 σ H ⟨τ, h, E, at', q, f⟩ => by
  refine ⟨τ, h, _, at', q, fun xs C h1 H1 J k1 hr1 wd q1 => ?_⟩
  refine ⟨fun i m σ2 H2 => ∃ τ2 h2, KP h H h2 H2 ∧ KP h1 H1 h2 H2 ∧ HR X.K h2 H2 ∧ τ2.length = σ2.length ∧ SR X.K h2 H2 σ2 τ2 ∧ i + m = xs.length ∧ forS g tb C E (xs.drop i) τ2 h2,
    ⟨xs.length, τ, h1, k1, .refl, hr1, at'.len, at'.sr.mono k1, Nat.zero_add _, q1⟩, fun i m σ2 H2 hW => ?_⟩
  obtain ⟨τ2, h2, k2, kk, hr2, l2, s2, em, q2⟩ := hW
  cases ed : xs.drop i with
  | nil =>
    rw [ed] at q2
    have hl : xs.length ≤ i := by
      have := congrArg List.length ed
      rw [List.length_drop] at this
      simp only [List.length_nil] at this
      omega
    have hi : i = xs.length := by omega
    rw [hi]
    exact .inl ⟨wd.stop h2 H2 kk hr2 q2.1, f.nx τ2 h2 σ2 H2 k2 hr2 l2 s2 q2.2⟩
  | cons x r =>
    rw [ed] at q2
    obtain ⟨ex, er, hlt⟩ := drop_cons ed
    refine .inr ⟨wd.go h2 H2 i x kk hr2 q2.1 ex, fun σ' H' => ∃ τ' h', KP h H h' H' ∧ KP h1 H1 h' H' ∧ HR X.K h' H' ∧ τ'.length = σ'.length ∧ SR X.K h' H' σ' τ' ∧ forS g tb C E (xs.drop (i + 1)) τ' h',
      fun σ' H' ⟨τ', h', a1, a2, a3, a4, a5, a6⟩ => ⟨m - 1, by omega, τ', h', a1, a2, a3, a4, a5, by omega, a6⟩, fun v H3 hy => ?_⟩
    obtain ⟨k3, hr3, rv⟩ := wd.yld h2 H2 i x v H3 kk hr2 q2.1 ex hy
    refine ⟨x, τ2, h2, _, at'.next (k2.trans k3) hr3 l2 (s2.mono k3), rv, q2.2, fun τ4 h4 σ4 H4 k4 hr4 l4 s4 q4 => ?_⟩
    have kb : KP h H h4 H4 := (k2.trans k3).trans k4
    have kc : KP h1 H1 h4 H4 := (kk.trans k3).trans k4
    refine ⟨τ4, h4, _, at'.next kb hr4 l4 s4, q4, ?_⟩
    have again : FinN X.K h4 H4 (fun τ2 h2 => forS g tb C E r τ2 h2) fun σ' H' => ∃ τ' h', KP h H h' H' ∧ KP h1 H1 h' H' ∧ HR X.K h' H' ∧ τ'.length = σ'.length ∧ SR X.K h' H' σ' τ' ∧ forS g tb C E (xs.drop (i + 1)) τ' h' :=
      fun τ5 h5 σ5 H5 k5 hr5 l5 s5 q5 => ⟨τ5, h5, kb.trans k5, kc.trans k5, hr5, l5, s5, by rw [er]; exact q5⟩
    exact ⟨again, f.rt.after kb, f.nx.after kb, again⟩
end
end DL
set_option Elab.async false
set_option linter.all false
set_option maxRecDepth 100000
namespace DL
open PySem PySem.Spec PyProof.Rows L2
section
variable {X : Cx} {Y : Wsh} {K : PySem.W.Frag} {pos : Pos}
theorem de_bm {o e : Expr} {es : List Expr} {to' : TE'} {ta : TA'} {name : Str} {T id : String} {r : V → List V → Hp → VK → Prop} {r' : DM} {t : D → DH → Prop} {apos cpos : Pos}
    (pa : PlainAttrs T) (slot : Slot T name id) (hty : typeOf (.builtin id) = pure (.type "method_descriptor")) (hm : MtR X id r) (hl : MtL X.K r r') (hT : TyL X.K T t) (ho : DE X Y o to') (ha : DA X Y (e :: es) ta)
    (hbase : attributeBase o name X.env (eval o X.env) = eval o X.env := by rfl)
    (hfew : ((backTo cpos (starEach (e :: es) X.env)).all (fun x => !x.1) && (backToKw cpos (keywordEach [] X.env)).all (fun x => x.1.isSome) && decide ((e :: es).length + ([] : List Keyword).length + (if ([] : List Keyword).isEmpty then 0 else 1) < 30)) = true := by rfl)
    (hline : (apos.endLine == cpos.line) = true := by rfl) (hs : starEach (e :: es) X.env = (false, eval e X.env) :: starEach es X.env := by rfl) (hplain : (backTo cpos (starEach es X.env)).any (·.1) = false := by rfl) :
    DE X Y (.Call (.Attribute o name apos) (e :: es) [] cpos) (tbm t r' to' ta) := (pe_bm pa slot hty hm ho ha hbase hfew hline hs hplain).imp fun _ _ _ q => bm_imp hT hl q
theorem de_append {o e : Expr} {to' : TE'} {ta : TA'} {apos cpos : Pos} (ho : DE X Y o to') (ha : DA X Y [e] ta)
    (hbase : attributeBase o "append" X.env (eval o X.env) = eval o X.env := by rfl)
    (hfew : ((backTo cpos (starEach [e] X.env)).all (fun x => !x.1) && (backToKw cpos (keywordEach [] X.env)).all (fun x => x.1.isSome) && decide (([e] : List Expr).length + ([] : List Keyword).length + (if ([] : List Keyword).isEmpty then 0 else 1) < 30)) = true := by rfl)
    (hline : (apos.endLine == cpos.line) = true := by rfl) (hs : starEach [e] X.env = (false, eval e X.env) :: starEach [] X.env := by rfl) (hplain : (backTo cpos (starEach [] X.env)).any (·.1) = false := by rfl) :
    DE X Y (.Call (.Attribute o "append" apos) [e] [] cpos) (tbm isLs mApp to' ta) := de_bm F.plainAttrs_list F.slot_list_append F.type_list_append mt_append ml_app ty_lst ho ha hbase hfew hline hs hplain
def lcS (i : Nat) (tt : TT') (te : TE') (C : DH → Prop) (τ : St') (Q : List D → DH → Prop) : List D → List D → DH → Prop
  | [], acc, h => C h ∧ Q acc h
  | x :: xs, acc, h => C h ∧ tt (τ.set i (some x)) h fun b h1 => if b = true then te (τ.set i (some x)) h1 fun y h2 => acc.length < sizeLine ∧ lcS i tt te C τ Q xs (acc ++ [y]) h2 else lcS i tt te C τ Q xs acc h1
def tlc (ti : TI') (i : Nat) (tt : TT') (te : TE') : TE' := fun τ h Q => ti τ h fun xs C h1 => ∀ p, h1 p = none → lcS i tt te C τ (fun ds h2 => Q (.lis ds) (del h2 p)) xs [] (put h1 p .hid)
def tyes : TT' := fun _ h Q => Q true h
def DTs (X : Cx) (Y : Wsh) (es : List Expr) (t : TT') : Prop := PTs X es (lT X.K Y t)
theorem dts_nil : DTs X Y [] tyes := ⟨fun pins s σ H Q I ⟨τ, h, Q', at', q, f⟩ => pts_nil.run pins s σ H Q I (f true h H .refl at'.hr q)⟩
theorem dts_one {c : Expr} {t : TT'} (p : DT X Y c t) : DTs X Y [c] t := pts_one p
theorem wipe1 (σ : L2.St) (i : Nat) : wipe σ [i] = σ.set i none := rfl
theorem sr_wipe {h : DH} {H : Hp} {σ : L2.St} {τ : St'} {i : Nat} {d : D} {v : V} (r : SR K h H σ τ) (l : τ.length = σ.length) (q : RD K h H d v) : SR K h H ((wipe σ [i]).set i (some v)) (τ.set i (some d)) := by
  rw [wipe1, List.set_set]
  exact r.set l q
theorem lc_imp {ti : TI'} {i : Nat} {tt : TT'} {te : TE'} {σ : L2.St} {H : Hp} {Q : VK} (q : lE K Y (tlc ti i tt te) σ H Q) : tLc (lI K Y ti) (gName i) (lT K Y tt) (lE K Y te) [i] σ H Q := by
  obtain ⟨τ, h, Q', at', q, f⟩ := q
  refine ⟨τ, h, _, at', q, fun xs C h1 H1 J k1 hr1 wd q1 p np => ?_⟩
  have np' : h1 p = none := hr1.fresh np
  have q1 := q1 p np'
  refine ⟨fun j m H2 => ∃ h2 acc accV, KP h1 H1 h2 H2 ∧ HR K h2 H2 ∧ h2 p = some .hid ∧ H2 p = some (.lst accV) ∧ RDs K h2 H2 acc accV ∧ j + m = xs.length ∧ lcS i tt te C τ (fun ds h2 => Q' (.lis ds) (del h2 p)) (xs.drop j) acc h2,
    ⟨xs.length, put h1 p .hid, [], [], KP.newL np, hr1.newH np, put_same, upd_same, rfl, Nat.zero_add _, q1⟩, fun j m H2 hW => ?_⟩
  obtain ⟨h2, acc, accV, k2, hr2, hp, Hp2, ra, em, q2⟩ := hW
  cases ed : xs.drop j with
  | nil =>
    rw [ed] at q2
    have hl : xs.length ≤ j := by
      have := congrArg List.length ed
      rw [List.length_drop] at this
      simp only [List.length_nil] at this
      omega
    have hj : j = xs.length := by omega
    rw [hj]
    refine .inl ⟨wd.stop h2 H2 k2 hr2 q2.1, f (.lis acc) (del h2 p) (.ref p) H2 (fun a o st e => ?_) (fun a o e => ?_) ?_ q2.2⟩
    · obtain ⟨e1, e2⟩ := (k1.trans k2) a o st e
      obtain ⟨_, e3⟩ := k1 a o st e
      have ne : a ≠ p := fun z => by rw [z, np] at e3; cases e3
      exact ⟨by rw [del_ne ne]; exact e1, e2⟩
    · have ne : a ≠ p := fun z => by rw [z, del_same] at e; cases e
      rw [del_ne ne] at e
      exact (hr2 a o e).on (fun b u nb eb => ⟨by by_cases z : b = p; rw [z]; exact del_same; rw [del_ne z]; exact nb, eb⟩) fun _ z => z
    · exact ⟨p, accV, rfl, del_same, Hp2, RDs.monoN (fun b u nb eb => ⟨by by_cases z : b = p; rw [z]; exact del_same; rw [del_ne z]; exact nb, eb⟩) _ _ ra⟩
  | cons x r =>
    rw [ed] at q2
    obtain ⟨ex, er, hlt⟩ := drop_cons ed
    refine .inr ⟨wd.go h2 H2 j x k2 hr2 q2.1 ex, fun H' => ∃ h2 acc accV, KP h1 H1 h2 H' ∧ HR K h2 H' ∧ h2 p = some .hid ∧ H' p = some (.lst accV) ∧ RDs K h2 H' acc accV ∧ lcS i tt te C τ (fun ds h2 => Q' (.lis ds) (del h2 p)) r acc h2,
      fun H' ⟨h', a', v', a1, a2, a3, a4, a5, a6⟩ => ⟨m - 1, by omega, h', a', v', a1, a2, a3, a4, a5, by omega, by rw [er]; exact a6⟩, fun v H3 hy => ?_⟩
    obtain ⟨k3, hr3, rv⟩ := wd.yld h2 H2 j x v H3 k2 hr2 q2.1 ex hy
    have pst : still (h2 p) = true := by rw [hp]; rfl
    have Hp3 := (k3 p _ pst Hp2).2
    have kk := k2.trans k3
    have ra3 := RDs.mono k3 _ _ ra
    refine ⟨by simp only [wipe1, List.set_set], τ.set i (some x), h2, _, at'.next (k1.trans kk) hr3 (by rw [List.length_set, List.length_set, wipe_length]; exact at'.len) (sr_wipe (at'.sr.mono (k1.trans kk)) at'.len rv), q2.2, fun b h4 H4 k4 hr4 q4 => ?_⟩
    have e4 := k4 p _ pst Hp3
    have k14 := kk.trans k4
    have ra4 := RDs.mono k4 _ _ ra3
    cases b with
    | false =>
      rw [if_neg Bool.false_ne_true] at q4
      exact iteF ⟨h4, acc, accV, k14, hr4, e4.1.trans hp, e4.2, ra4, q4⟩
    | true =>
      rw [if_pos rfl] at q4
      refine iteT ⟨τ.set i (some x), h4, _, at'.next (k1.trans k14) hr4 (by rw [List.length_set, List.length_set, wipe_length]; exact at'.len) (sr_wipe (at'.sr.mono (k1.trans k14)) at'.len (RD.mono k4 _ _ rv)), q4, fun y h5 u H5 k5 hr5 ry q5 => ?_⟩
      have pst4 : still (h4 p) = true := by rw [e4.1, hp]; rfl
      have e5 := k5 p _ pst4 e4.2
      have hp5 : h5 p = some .hid := e5.1.trans (e4.1.trans hp)
      have kn : KN h5 H5 h5 (upd H5 p (.lst (accV ++ [u]))) := fun b o nb eb => by
        have ne : b ≠ p := fun z => by rw [z, hp5] at nb; cases nb
        exact ⟨nb, by rw [upd_ne ne]; exact eb⟩
      refine ⟨accV, e5.2, by rw [ra.length]; exact q5.1, h5, acc ++ [y], accV ++ [u], fun a o st e => ?_, fun a o e => ?_, hp5, upd_same, ?_, q5.2⟩
      · obtain ⟨z1, z2⟩ := (k14.trans k5) a o st e
        have ne : a ≠ p := fun z => by rw [z, np] at e; cases e
        exact ⟨z1, by rw [upd_ne ne]; exact z2⟩
      · by_cases z : a = p
        · rw [z, hp5] at e; cases e; rw [z]; exact ⟨_, upd_same⟩
        · exact (hr5 a o e).on kn fun u e1 => by rw [upd_ne z]; exact e1
      · exact RDs.monoN kn _ _ ((RDs.mono k5 _ _ ra4).append (.cons ry .nil))
section
variable {elt iter : Expr} {x : Str} {px : Pos} {ifs : List Expr} {scope : Scope} {i : Nat} {ti : TI'} {tt : TT'} {te : TE'}
theorem de_lc (hc : X.calm = true) (hN : X.N.Nodup) (hi : DI X Y (.Name x px) iter ti) (ok : BlkOk X.N X.env.scope scope [(x, i)])
    (hg : ∀ (s : Shared) (H : Hp) (C : Addr) (cl : List (Str × Addr)) (fp : List Addr), PG (X.blk s H scope (compEnvC scope cl C X.env) fp) (.Name x px) (gName i))
    (ht : ∀ (s : Shared) (H : Hp) (C : Addr) (cl : List (Str × Addr)) (fp : List Addr), DTs (X.blk s H scope (compEnvC scope cl C X.env) fp) Y ifs tt)
    (he : ∀ (s : Shared) (H : Hp) (C : Addr) (cl : List (Str × Addr)) (fp : List Addr), DE (X.blk s H scope (compEnvC scope cl C X.env) fp) Y elt te) (hs : ∀ x, foldedSetIterable iter X.env x = pure x := by intro _; rfl) :
    DE X Y (.ListComp elt [⟨.Name x px, iter, ifs, 0⟩] scope pos) (tlc ti i tt te) := (pe_lc (own := [(x, i)]) (g := gName i) (tt := lT X.K Y tt) (te := lE X.K Y te) hc hN hi ok hg ht he hs).imp fun _ _ _ q => lc_imp q
theorem ds_setlc {j : Nat} {y : Str} {py spos : Pos} (hc : X.calm = true) (hN : X.N.Nodup) (hy : X.N[j]? = some y) (hyl : X.env.scope.names.lookup y = some .local)
    (hsw : swapsWith (.ListComp elt [⟨.Name x px, iter, ifs, 0⟩] scope pos) (some (.Name y py)) spos.line X.env = pure true) (hi : DI X Y (.Name x px) iter ti) (ok : BlkOk X.N X.env.scope scope [(x, i)])
    (hg : ∀ (s : Shared) (H : Hp) (C : Addr) (cl : List (Str × Addr)) (fp : List Addr), PG (X.blk s H scope (compEnvC scope cl C X.env) fp) (.Name x px) (gName i))
    (ht : ∀ (s : Shared) (H : Hp) (C : Addr) (cl : List (Str × Addr)) (fp : List Addr), DTs (X.blk s H scope (compEnvC scope cl C X.env) fp) Y ifs tt)
    (he : ∀ (s : Shared) (H : Hp) (C : Addr) (cl : List (Str × Addr)) (fp : List Addr), DE (X.blk s H scope (compEnvC scope cl C X.env) fp) Y elt te) (hs : ∀ x, foldedSetIterable iter X.env x = pure x := by intro _; rfl) :
    DS X Y (.Assign [.Name y py] (.ListComp elt [⟨.Name x px, iter, ifs, 0⟩] scope pos) spos) (tasg (tlc ti i tt te) (gn j)) :=
  (ps_setLc (own := [(x, i)]) (g := gName i) (tt := lT X.K Y tt) (te := lE X.K Y te) hc hN hy hyl hsw hi ok hg ht he hs).imp fun D σ H ⟨τ, h, D', at', q, f⟩ => lc_imp (Y := Y) ⟨τ, h, _, at', q, fun x h1 v H1 k1 hr1 rx q1 => f.nx _ h1 _ H1 k1 hr1 (by rw [List.length_set, List.length_set]; exact at'.len) ((at'.sr.mono k1).set at'.len rx) q1⟩
end
end
section
variable {P : Program} {w : World} {K : PySem.W.Frag} {mg : Str → Option Value} {base : Heap}
def ends (Q : VK') : Ends' where
  nx := fun _ h => ∃ h2, Sub h2 h ∧ Q .non h2
  rt := fun d h => ∃ h2, Sub h2 h ∧ Q d h2
def slots (N : List Str) (ds : List D) : St' := ds.map some ++ List.replicate (N.length - ds.length) none
abbrev cxD (P : Program) (w : World) (K : PySem.W.Frag) (mg : Str → Option Value) (base : Heap) (N : List Str) (qual : Str) (st : Stmt) (f : Addr) (cdv : Value) (A : Around) (outer : List Env) (s : Shared) (H : Hp) (E : XK) : Cx :=
  cxOf (L2N.CX P w) P w K mg base N qual (defScope st) f cdv A outer s H E
theorem fnD {x qual : Str} {st : Stmt} {f : Addr} {fd : FuncData} {N ps : List Str} {k : Nat} {sp : Sp'} (F : Fun K x qual st f fd) (S : FnScope N ps (defScope st)) (len : ∀ ds h Q E, sp ds h Q E → ds.length = ps.length)
    (hb : ∀ (cdv : Value) (A : Around) (outer : List Env) (s : Shared) (H : Hp) (E : XK), Room k (A.deeper (envOfC qual (defScope st) s.heap.objs.size f cdv)) → ∀ E' : XK',
      ∃ t, DSs (cxD P w K mg base N qual st f cdv A outer s H E) ⟨E', E⟩ (defBody st) t ∧ ∀ ds h Q, sp ds h Q E' → t (ends Q) (slots N ds) h) : FnD P w K mg base (k + 1) f fd ps sp := by
  obtain ⟨oc, od, kV, doc, pm, an, cdv, ct, osl, rfl, lk, hcd⟩ := F.ex
  refine fn_of lk hcd S (fun vs H Q E h => ?_) fun A outer s H vs Q E hr h => ?_
  · obtain ⟨ds, h, Q', E', rs, _, q, _⟩ := h
    rw [rs.length]
    exact len ds h Q' E' q
  · obtain ⟨ds, h, Q', E', rs, hr', q, fn, fx⟩ := h
    obtain ⟨t, ht, hq⟩ := hb cdv A outer s H E hr E'
    refine ⟨_, ht, slots N ds, h, ends Q', ⟨?_, ?_, hr', fx⟩, hq ds h Q' q, ?_⟩
    · unfold slots L2.start
      rw [List.length_append, List.length_append, List.length_map, List.length_map, List.length_replicate, List.length_replicate, rs.length]
    · intro i d e
      unfold slots at e
      unfold L2.start
      by_cases hi : i < ds.length
      · rw [List.getElem?_append_left (by rw [List.length_map]; exact hi), List.getElem?_map] at e
        cases ed : ds[i]? with
        | none => rw [ed] at e; cases e
        | some d' =>
          rw [ed] at e
          cases e
          obtain ⟨v, ev, rv⟩ := rs.get ed
          refine ⟨v, ?_, rv⟩
          rw [List.getElem?_append_left (by rw [List.length_map, rs.length]; exact hi), List.getElem?_map, ev]
          rfl
      · rw [List.getElem?_append_right (by rw [List.length_map]; omega), List.getElem?_replicate] at e
        split at e <;> cases e
    · refine ⟨fun τ h' σ H' k' hr2 _ _ q2 => ?_, fun d h' v H' k' hr2 rd q2 => ?_, fun _ _ _ _ _ _ _ _ z => z, fun _ _ _ _ _ _ _ _ z => z⟩
      · obtain ⟨h2, sb, q2⟩ := q2
        exact fn .non h2 .non H' (k'.sub sb) (hr2.sub sb) rfl q2
      · obtain ⟨h2, sb, q2⟩ := q2
        exact fn d h2 v H' (k'.sub sb) (hr2.sub sb) (RD.sub sb _ _ rd) q2
theorem FnD.mono {j k : Nat} {f : Addr} {fd : FuncData} {ps : List Str} {sp : Sp'} (F : FnD P w K mg base j f fd ps sp) (h : j ≤ k) : FnD P w K mg base k f fd ps sp := FnOk.mono F h
theorem FnD.imp {k : Nat} {f : Addr} {fd : FuncData} {ps : List Str} {sp sp' : Sp'} (F : FnD P w K mg base k f fd ps sp) (h : ∀ ds g Q E, sp' ds g Q E → sp ds g Q E) : FnD P w K mg base k f fd ps sp' :=
  FnOk.imp F fun vs H Q E ⟨ds, g, Q', E', a, b, c, d⟩ => ⟨ds, g, Q', E', a, b, h _ _ _ _ c, d⟩
theorem FnD.none {f : Addr} {fd : FuncData} {ps : List Str} {k : Nat} {sp : Sp'} (no : ∀ ds h Q E, ¬ sp ds h Q E) : FnD P w K mg base k f fd ps sp :=
  ⟨fun vs H Q E ⟨ds, g, Q', E', _, _, c, _⟩ => (no _ _ _ _ c).elim, fun _ _ _ _ _ _ _ _ _ _ _ _ _ ⟨ds, g, Q', E', _, _, c, _⟩ => (no _ _ _ _ c).elim⟩
end
def spLaw : Sp' := fun ds h Q _ => ∃ ns : List Int, ds = [.scr ns] ∧ ns.length ≤ 63 ∧ (∀ a, h a = none) ∧ ∀ h', Q (.bl true) h'
end DL
namespace DL
open PySem
theorem boot'_len : bootBuiltins "len" = some (.builtin "len") := by first | exact PySem.boot_len | exact PyProof.Rows.boot_len | decide +kernel
theorem boot'_isinstance : bootBuiltins "isinstance" = some (.builtin "isinstance") := by first | exact PySem.boot_isinstance | exact PyProof.Rows.boot_isinstance | decide +kernel
theorem boot'_abs : bootBuiltins "abs" = some (.builtin "abs") := by first | exact PySem.boot_abs | exact PyProof.Rows.boot_abs | decide +kernel
theorem boot'_max : bootBuiltins "max" = some (.builtin "max") := by first | exact PySem.boot_max | exact PyProof.Rows.boot_max | decide +kernel
theorem boot'_min : bootBuiltins "min" = some (.builtin "min") := by first | exact PySem.boot_min | exact PyProof.Rows.boot_min | decide +kernel
theorem boot'_sum : bootBuiltins "sum" = some (.builtin "sum") := by first | exact PySem.boot_sum | exact PyProof.Rows.boot_sum | decide +kernel
theorem boot'_int : bootBuiltins "int" = some (.type "int") := by first | exact PySem.boot_int | exact PyProof.Rows.boot_int | decide +kernel
theorem boot'_bool : bootBuiltins "bool" = some (.type "bool") := by first | exact PySem.boot_bool | exact PyProof.Rows.boot_bool | decide +kernel
theorem boot'_str : bootBuiltins "str" = some (.type "str") := by first | exact PySem.boot_str | exact PyProof.Rows.boot_str | decide +kernel
theorem boot'_tuple : bootBuiltins "tuple" = some (.type "tuple") := by first | exact PySem.boot_tuple | exact PyProof.Rows.boot_tuple | decide +kernel
theorem boot'_list : bootBuiltins "list" = some (.type "list") := by first | exact PySem.boot_list | exact PyProof.Rows.boot_list | decide +kernel
end DL
set_option Elab.async false
set_option linter.all false
set_option maxRecDepth 100000
namespace DL
open PySem PySem.Spec PyProof.Rows L2
structure Tag (A B : Prop) : Type where
def sif (c : Bool) (A B : Prop) (_ : Tag A B) : Prop := if c = true then A else B
structure TagQ (Q : VK') : Type where
def pcall (sp : Sp') (ds : List D) (h : DH) (Q : VK') (E : XK') (_ : TagQ Q) : Prop := sp ds h Q E
theorem sif_t {A B : Prop} : sif true A B ⟨⟩ = A := if_pos rfl
theorem sif_f {A B : Prop} : sif false A B ⟨⟩ = B := if_neg Bool.false_ne_true
theorem sif_i {c : Bool} {A B : Prop} (h1 : c = true → A) (h2 : c = false → B) : sif c A B ⟨⟩ := by
  cases c with
  | true => exact h1 rfl
  | false => exact h2 rfl
section
variable {D' : Ends'} {τ : St'} {h : DH} {Q : VK'} {R : Bool → DH → Prop} {S : List D → DH → Prop} {N : St' → DH → Prop} {d x y : D} {i j : Int} {a : Addr}
theorem q_nx : tnx D' τ h = D'.nx τ h := id rfl
theorem q_seq {t u : TS'} : tseq t u D' τ h = t { D' with nx := u D' } τ h := id rfl
theorem q_br : tbr D' τ h = D'.bk τ h := id rfl
theorem q_ct : tct D' τ h = D'.ct τ h := id rfl
theorem q_drop {te : TE'} : tdrop te D' τ h = te τ h fun _ h1 => D'.nx τ h1 := id rfl
theorem q_ret {te : TE'} : tret te D' τ h = te τ h D'.rt := id rfl
theorem q_retn : tretn D' τ h = D'.rt .non h := id rfl
theorem q_ifs {c : TT'} {t u : TS'} : tifs c t u D' τ h = c τ h fun b h1 => sif b (t D' τ h1) (u D' τ h1) ⟨⟩ := id rfl
theorem q_asg {te : TE'} {g : TG'} : tasg te g D' τ h = te τ h fun x h1 => g x τ h1 D'.nx := id rfl
theorem q_gn {n : Nat} : gn n d τ h N = N (τ.set n (some d)) h := id rfl
theorem q_gsub {to ti : TE'} : gsub to ti d τ h N = to τ h fun o h1 => ti τ h1 fun i h2 => setD o i d h2 fun h3 => N τ h3 := id rfl
theorem q_gtup {n : Nat} {t : TGs'} {ds : List D} : gtup n t (.tup ds) τ h N = (ds.length = n ∧ t ds τ h N) := id rfl
theorem q_gco {t : TG'} {u : TGs'} {ds : List D} : gco t u (d :: ds) τ h N ↔ t d τ h fun τ1 h1 => u ds τ1 h1 N :=
  ⟨fun ⟨_, _, e, q⟩ => by cases e; exact q, fun q => ⟨_, _, rfl, q⟩⟩
theorem q_gni : gni [] τ h N ↔ N τ h := ⟨fun q => q.2, fun q => ⟨rfl, q⟩⟩
theorem q_for {ti : TI'} {g : TG'} {tb : TS'} : tfor ti g tb D' τ h = ti τ h fun xs C h1 => forS g tb C D' xs τ h1 := id rfl
theorem q_fnil {g : TG'} {tb : TS'} {C : DH → Prop} : forS g tb C D' [] τ h = (C h ∧ D'.nx τ h) := id rfl
theorem q_fcons {g : TG'} {tb : TS'} {C : DH → Prop} {xs : List D} : forS g tb C D' (x :: xs) τ h = (C h ∧ g x τ h fun τ1 h1 =>
  tb { nx := fun τ2 h2 => forS g tb C D' xs τ2 h2, rt := D'.rt, bk := D'.nx, ct := fun τ2 h2 => forS g tb C D' xs τ2 h2 } τ1 h1) := id rfl
theorem q_lc {ti : TI'} {n : Nat} {tt : TT'} {te : TE'} : tlc ti n tt te τ h Q = ti τ h fun xs C h1 => ∀ p, h1 p = none → lcS n tt te C τ (fun ds h2 => Q (.lis ds) (del h2 p)) xs [] (put h1 p .hid) := id rfl
theorem q_lnil {n : Nat} {tt : TT'} {te : TE'} {C : DH → Prop} {acc : List D} : lcS n tt te C τ S [] acc h = (C h ∧ S acc h) := id rfl
theorem q_lcons {n : Nat} {tt : TT'} {te : TE'} {C : DH → Prop} {acc xs : List D} : lcS n tt te C τ S (x :: xs) acc h = (C h ∧ tt (τ.set n (some x)) h fun b h1 =>
  sif b (te (τ.set n (some x)) h1 fun y h2 => acc.length < sizeLine ∧ lcS n tt te C τ S xs (acc ++ [y]) h2) (lcS n tt te C τ S xs acc h1) ⟨⟩) := id rfl
theorem q_yes : tyes τ h R = R true h := id rfl
theorem q_c : tc d τ h Q = Q d h := id rfl
theorem q_to {r : DR2} {ta tb : TE'} : to r ta tb τ h Q = ta τ h fun x h1 => tb τ h1 fun y h2 => r x y h2 Q := id rfl
theorem q_tu {r : DR1} {ta : TE'} : tu r ta τ h Q = ta τ h fun x h1 => r x h1 Q := id rfl
theorem q_tb {t : TE'} : tb' t τ h R = t τ h fun x h1 => isB x fun c => R c h1 := id rfl
theorem q_isB {c : Bool} {k : Bool → Prop} : isB (.bl c) k = k c := id rfl
theorem q_isI {k : Int → Prop} : isI (.int i) k = k i := id rfl
theorem q_ch {r r' : DR2} {ta tb tc : TE'} : tch r r' ta tb tc τ h Q = ta τ h fun x h1 => tb τ h1 fun y h2 => r x y h2 fun z h3 => isB z fun k => sif k (tc τ h3 fun w h4 => r' y w h4 Q) (Q (.bl false) h3) ⟨⟩ := id rfl
theorem q_and {t u : TT'} : tand t u τ h R = t τ h fun c h1 => sif c (u τ h1 R) (R false h1) ⟨⟩ := id rfl
theorem q_or {t u : TT'} : tor t u τ h R = t τ h fun c h1 => sif c (R true h1) (u τ h1 R) ⟨⟩ := id rfl
theorem q_orp {t u : TT'} : torp t u τ h R = t τ h fun c h1 => u τ h1 fun d h2 => R (c || d) h2 := id rfl
theorem q_not {t : TT'} : tnot t τ h R = t τ h fun c h1 => R (!c) h1 := id rfl
theorem q_andv {ta tb : TE'} : tandv ta tb τ h Q = ta τ h fun x h1 => isB x fun c => sif c (tb τ h1 Q) (Q (.bl false) h1) ⟨⟩ := id rfl
theorem q_orv {ta tb : TE'} : torv ta tb τ h Q = ta τ h fun x h1 => isB x fun c => sif c (Q (.bl true) h1) (tb τ h1 Q) ⟨⟩ := id rfl
theorem q_notv {ta : TE'} : tnotv ta τ h Q = ta τ h fun x h1 => isB x fun c => Q (.bl (!c)) h1 := id rfl
theorem q_if {t : TT'} {ta tb : TE'} : tif t ta tb τ h Q = t τ h fun c h1 => sif c (ta τ h1 Q) (tb τ h1 Q) ⟨⟩ := id rfl
theorem q_an : tan τ h S = S [] h := id rfl
theorem q_ac {ta : TE'} {tr : TA'} : tac ta tr τ h S = ta τ h fun x h1 => tr τ h1 fun xs h2 => S (x :: xs) h2 := id rfl
theorem q_tup {t : TA'} : ttup t τ h Q = t τ h fun xs h1 => xs.length ≤ sizeLine ∧ Q (.tup xs) h1 := id rfl
theorem q_lis {t : TA'} : tlis t τ h Q = t τ h fun xs h1 => xs.length ≤ sizeLine ∧ Q (.lis xs) h1 := id rfl
theorem q_own {t : TA'} : town t τ h Q = t τ h fun xs h1 => xs.length ≤ sizeLine ∧ ∀ p, h1 p = none → Q (.ref p) (put h1 p (.lst xs)) := id rfl
theorem q_call {sp : Sp'} {E : XK'} {t : TA'} : tcall sp E t τ h Q = t τ h fun ds h1 => pcall sp ds h1 Q E ⟨⟩ := id rfl
theorem q_cb {r : List D → DH → VK' → Prop} {t : TA'} : tcb r t τ h Q = t τ h fun ds h1 => r ds h1 Q := id rfl
theorem q_bm {t : D → DH → Prop} {r : DM} {to : TE'} {ta : TA'} : tbm t r to ta τ h Q = to τ h fun x h1 => t x h1 ∧ ta τ h1 fun ds h2 => r x ds h2 Q := id rfl
theorem q_sl {te : TE'} {tl th : TO'} : tsl te tl th τ h Q = te τ h fun x h1 => tl τ h1 fun l h2 => th τ h2 fun u h3 => slD x l u h3 Q := id rfl
theorem q_slt {ds : List D} {lo hi : Option Int} : slD (.tup ds) lo hi h Q = Q (.tup (cutD ds lo hi)) h := id rfl
theorem q_sll {ds : List D} {lo hi : Option Int} : slD (.lis ds) lo hi h Q = Q (.lis (cutD ds lo hi)) h := id rfl
theorem q_pn {T : Option Int → DH → Prop} : tpn τ h T = T none h := id rfl
theorem q_pe {t : TE'} {T : Option Int → DH → Prop} : tpe t τ h T = t τ h fun x h1 => isI x fun i => T (some i) h1 := id rfl
theorem q_addi : opAdd (.int i) (.int j) h Q = Q (.int (i + j)) h := id rfl
theorem q_adds {u v : Str} : opAdd (.str u) (.str v) h Q = (u.length + v.length ≤ sizeLine ∧ Q (.str (u ++ v)) h) := id rfl
theorem q_addt {u v : List D} : opAdd (.tup u) (.tup v) h Q = (u.length + v.length ≤ sizeLine ∧ Q (.tup (u ++ v)) h) := id rfl
theorem q_addl {u v : List D} : opAdd (.lis u) (.lis v) h Q = (u.length + v.length ≤ sizeLine ∧ Q (.lis (u ++ v)) h) := id rfl
theorem q_I2 {C : Int → Int → Prop} {g : Int → Int → D} : opI2 C g (.int i) (.int j) h Q = (C i j ∧ Q (g i j) h) := id rfl
theorem q_neg : unNeg (.int i) h Q = Q (.int (-i)) h := id rfl
theorem q_eqi : opEq (.int i) (.int j) h Q = Q (.bl (decide (i = j))) h := id rfl
theorem q_eqs {u v : Str} : opEq (.str u) (.str v) h Q = Q (.bl (decide (u = v))) h := id rfl
theorem q_eqb {b c : Bool} : opEq (.bl b) (.bl c) h Q = Q (.bl (decide (b = c))) h := id rfl
theorem q_neb {b c : Bool} : opNe (.bl b) (.bl c) h Q = Q (.bl (!decide (b = c))) h := id rfl
theorem q_nei : opNe (.int i) (.int j) h Q = Q (.bl (!decide (i = j))) h := id rfl
theorem q_nes {u v : Str} : opNe (.str u) (.str v) h Q = Q (.bl (!decide (u = v))) h := id rfl
theorem q_eq_non_int : opEq .non (.int i) h Q = Q (.bl false) h := id rfl
theorem q_ne_non_int : opNe .non (.int i) h Q = Q (.bl true) h := id rfl
theorem q_eq_non_bl {b : Bool} : opEq .non (.bl b) h Q = Q (.bl false) h := id rfl
theorem q_ne_non_bl {b : Bool} : opNe .non (.bl b) h Q = Q (.bl true) h := id rfl
theorem q_eq_non_str {u : Str} : opEq .non (.str u) h Q = Q (.bl false) h := id rfl
theorem q_ne_non_str {u : Str} : opNe .non (.str u) h Q = Q (.bl true) h := id rfl
theorem q_eq_int_non : opEq (.int i) .non h Q = Q (.bl false) h := id rfl
theorem q_ne_int_non : opNe (.int i) .non h Q = Q (.bl true) h := id rfl
theorem q_eq_bl_non {b : Bool} : opEq (.bl b) .non h Q = Q (.bl false) h := id rfl
theorem q_ne_bl_non {b : Bool} : opNe (.bl b) .non h Q = Q (.bl true) h := id rfl
theorem q_eq_str_non {u : Str} : opEq (.str u) .non h Q = Q (.bl false) h := id rfl
theorem q_ne_str_non {u : Str} : opNe (.str u) .non h Q = Q (.bl true) h := id rfl
theorem q_eq_int_str {u : Str} : opEq (.int i) (.str u) h Q = Q (.bl false) h := id rfl
theorem q_ne_int_str {u : Str} : opNe (.int i) (.str u) h Q = Q (.bl true) h := id rfl
theorem q_eq_str_int {u : Str} : opEq (.str u) (.int i) h Q = Q (.bl false) h := id rfl
theorem q_ne_str_int {u : Str} : opNe (.str u) (.int i) h Q = Q (.bl true) h := id rfl
theorem q_eq_bl_str {u : Str} {b : Bool} : opEq (.bl b) (.str u) h Q = Q (.bl false) h := id rfl
theorem q_ne_bl_str {u : Str} {b : Bool} : opNe (.bl b) (.str u) h Q = Q (.bl true) h := id rfl
theorem q_eq_str_bl {u : Str} {b : Bool} : opEq (.str u) (.bl b) h Q = Q (.bl false) h := id rfl
theorem q_ne_str_bl {u : Str} {b : Bool} : opNe (.str u) (.bl b) h Q = Q (.bl true) h := id rfl
theorem q_eq_non_non : opEq .non .non h Q = Q (.bl true) h := id rfl
theorem q_ne_non_non : opNe .non .non h Q = Q (.bl false) h := id rfl
theorem q_isnon_bl {b : Bool} : isNon (.bl b) = false := by rfl
theorem q_isnon_int : isNon (.int i) = false := by rfl
theorem q_isnon_str {s : Str} : isNon (.str s) = false := by rfl
theorem q_isnon_tup {l : List D} : isNon (.tup l) = false := by rfl
theorem q_isnon_lis {l : List D} : isNon (.lis l) = false := by rfl
theorem q_isnon_non : isNon .non = true := by rfl
theorem q_int {n : Bool} {ds : List D} : opIn n x (.tup ds) h Q = (flatD x = true ∧ ds.all flatD = true ∧ Q (.bl (if n then !inD x ds else inD x ds)) h) := id rfl
theorem q_inl {n : Bool} {ds : List D} : opIn n x (.lis ds) h Q = (flatD x = true ∧ ds.all flatD = true ∧ Q (.bl (if n then !inD x ds else inD x ds)) h) := id rfl
theorem q_isn {n : Bool} : opIsN n x .non h Q = Q (.bl (if n then !isNon x else isNon x)) h := id rfl
theorem q_ixt {ds : List D} : opIx (.tup ds) (.int i) h Q = ∃ d, atI ds i = some d ∧ Q d h := id rfl
theorem q_ixl {ds : List D} : opIx (.lis ds) (.int i) h Q = ∃ d, atI ds i = some d ∧ Q d h := id rfl
theorem q_ixs {z : Str} : opIx (.str z) (.int i) h Q = (z.length ≤ sizeLine ∧ ∃ c, atI z.cps.toList i = some c ∧ Q (.str ⟨#[c]⟩) h) := id rfl
theorem q_ixc {ns : List Int} : opIx (.scr ns) (.int i) h Q = ∃ n, atI ns i = some n ∧ Q (.int n) h := id rfl
theorem q_lent {xs : List D} : caLen [.tup xs] h Q = Q (.int xs.length) h := id rfl
theorem q_lenl {xs : List D} : caLen [.lis xs] h Q = Q (.int xs.length) h := id rfl
theorem q_lenc {xs : List Int} : caLen [.scr xs] h Q = Q (.int xs.length) h := id rfl
theorem q_lens {z : Str} : caLen [.str z] h Q = (z.length ≤ sizeLine ∧ Q (.int z.length) h) := id rfl
theorem q_is {n : String} : caIs [x, .ty n] h Q = (isTy n = true ∧ plainD x = true ∧ Q (.bl (instD x n)) h) := id rfl
theorem q_toi : caInt [.int i] h Q = Q (.int i) h := id rfl
theorem q_tob {b : Bool} : caInt [.bl b] h Q = Q (.int (if b then 1 else 0)) h := id rfl
theorem q_abs : caAbs [.int i] h Q = Q (.int (i.natAbs : Int)) h := id rfl
theorem q_max : caMax [.int i, .int j] h Q = Q (.int (max i j)) h := id rfl
theorem q_min : caMin [.int i, .int j] h Q = Q (.int (min i j)) h := id rfl
theorem q_list : caList [x] h Q = itemsK h x fun xs => Q (.lis xs) h := id rfl
theorem q_listo : caListO [x] h Q = itemsK h x fun xs => ∀ p, h p = none → Q (.ref p) (put h p (.lst xs)) := id rfl
theorem q_tuple : caTup [x] h Q = itemsK h x fun xs => Q (.tup xs) h := id rfl
theorem q_sum {xs : List D} : caSum [.lis xs] h Q = ∃ ns : List Int, xs = ns.map .int ∧ Q (.int ns.sum) h := id rfl
theorem q_kt {xs : List D} {k : List D → Prop} : itemsK h (.tup xs) k = k xs := id rfl
theorem q_kl {xs : List D} {k : List D → Prop} : itemsK h (.lis xs) k = k xs := id rfl
theorem q_kc {xs : List Int} {k : List D → Prop} : itemsK h (.scr xs) k = k (xs.map .int) := id rfl
theorem q_tv0 {l : St'} : tv 0 (some d :: l) h Q ↔ Q d h := ⟨fun ⟨_, e, q⟩ => by cases e; exact q, fun q => ⟨d, rfl, q⟩⟩
theorem q_st0 {z0 : Option D} {o : Option D} {l : St'} : (z0 :: l).set 0 o = o :: l := id rfl
theorem q_tv1 {z0 : Option D} {l : St'} : tv 1 (z0 :: some d :: l) h Q ↔ Q d h := ⟨fun ⟨_, e, q⟩ => by cases e; exact q, fun q => ⟨d, rfl, q⟩⟩
theorem q_st1 {z0 z1 : Option D} {o : Option D} {l : St'} : (z0 :: z1 :: l).set 1 o = z0 :: o :: l := id rfl
theorem q_tv2 {z0 z1 : Option D} {l : St'} : tv 2 (z0 :: z1 :: some d :: l) h Q ↔ Q d h := ⟨fun ⟨_, e, q⟩ => by cases e; exact q, fun q => ⟨d, rfl, q⟩⟩
theorem q_st2 {z0 z1 z2 : Option D} {o : Option D} {l : St'} : (z0 :: z1 :: z2 :: l).set 2 o = z0 :: z1 :: o :: l := id rfl
theorem q_tv3 {z0 z1 z2 : Option D} {l : St'} : tv 3 (z0 :: z1 :: z2 :: some d :: l) h Q ↔ Q d h := ⟨fun ⟨_, e, q⟩ => by cases e; exact q, fun q => ⟨d, rfl, q⟩⟩
theorem q_st3 {z0 z1 z2 z3 : Option D} {o : Option D} {l : St'} : (z0 :: z1 :: z2 :: z3 :: l).set 3 o = z0 :: z1 :: z2 :: o :: l := id rfl
theorem q_tv4 {z0 z1 z2 z3 : Option D} {l : St'} : tv 4 (z0 :: z1 :: z2 :: z3 :: some d :: l) h Q ↔ Q d h := ⟨fun ⟨_, e, q⟩ => by cases e; exact q, fun q => ⟨d, rfl, q⟩⟩
theorem q_st4 {z0 z1 z2 z3 z4 : Option D} {o : Option D} {l : St'} : (z0 :: z1 :: z2 :: z3 :: z4 :: l).set 4 o = z0 :: z1 :: z2 :: z3 :: o :: l := id rfl
theorem q_tv5 {z0 z1 z2 z3 z4 : Option D} {l : St'} : tv 5 (z0 :: z1 :: z2 :: z3 :: z4 :: some d :: l) h Q ↔ Q d h := ⟨fun ⟨_, e, q⟩ => by cases e; exact q, fun q => ⟨d, rfl, q⟩⟩
theorem q_st5 {z0 z1 z2 z3 z4 z5 : Option D} {o : Option D} {l : St'} : (z0 :: z1 :: z2 :: z3 :: z4 :: z5 :: l).set 5 o = z0 :: z1 :: z2 :: z3 :: z4 :: o :: l := id rfl
theorem q_tv6 {z0 z1 z2 z3 z4 z5 : Option D} {l : St'} : tv 6 (z0 :: z1 :: z2 :: z3 :: z4 :: z5 :: some d :: l) h Q ↔ Q d h := ⟨fun ⟨_, e, q⟩ => by cases e; exact q, fun q => ⟨d, rfl, q⟩⟩
theorem q_st6 {z0 z1 z2 z3 z4 z5 z6 : Option D} {o : Option D} {l : St'} : (z0 :: z1 :: z2 :: z3 :: z4 :: z5 :: z6 :: l).set 6 o = z0 :: z1 :: z2 :: z3 :: z4 :: z5 :: o :: l := id rfl
theorem q_tv7 {z0 z1 z2 z3 z4 z5 z6 : Option D} {l : St'} : tv 7 (z0 :: z1 :: z2 :: z3 :: z4 :: z5 :: z6 :: some d :: l) h Q ↔ Q d h := ⟨fun ⟨_, e, q⟩ => by cases e; exact q, fun q => ⟨d, rfl, q⟩⟩
theorem q_st7 {z0 z1 z2 z3 z4 z5 z6 z7 : Option D} {o : Option D} {l : St'} : (z0 :: z1 :: z2 :: z3 :: z4 :: z5 :: z6 :: z7 :: l).set 7 o = z0 :: z1 :: z2 :: z3 :: z4 :: z5 :: z6 :: o :: l := id rfl
theorem q_tv8 {z0 z1 z2 z3 z4 z5 z6 z7 : Option D} {l : St'} : tv 8 (z0 :: z1 :: z2 :: z3 :: z4 :: z5 :: z6 :: z7 :: some d :: l) h Q ↔ Q d h := ⟨fun ⟨_, e, q⟩ => by cases e; exact q, fun q => ⟨d, rfl, q⟩⟩
theorem q_st8 {z0 z1 z2 z3 z4 z5 z6 z7 z8 : Option D} {o : Option D} {l : St'} : (z0 :: z1 :: z2 :: z3 :: z4 :: z5 :: z6 :: z7 :: z8 :: l).set 8 o = z0 :: z1 :: z2 :: z3 :: z4 :: z5 :: z6 :: z7 :: o :: l := id rfl
theorem q_tv9 {z0 z1 z2 z3 z4 z5 z6 z7 z8 : Option D} {l : St'} : tv 9 (z0 :: z1 :: z2 :: z3 :: z4 :: z5 :: z6 :: z7 :: z8 :: some d :: l) h Q ↔ Q d h := ⟨fun ⟨_, e, q⟩ => by cases e; exact q, fun q => ⟨d, rfl, q⟩⟩
theorem q_st9 {z0 z1 z2 z3 z4 z5 z6 z7 z8 z9 : Option D} {o : Option D} {l : St'} : (z0 :: z1 :: z2 :: z3 :: z4 :: z5 :: z6 :: z7 :: z8 :: z9 :: l).set 9 o = z0 :: z1 :: z2 :: z3 :: z4 :: z5 :: z6 :: z7 :: z8 :: o :: l := id rfl
theorem q_tv10 {z0 z1 z2 z3 z4 z5 z6 z7 z8 z9 : Option D} {l : St'} : tv 10 (z0 :: z1 :: z2 :: z3 :: z4 :: z5 :: z6 :: z7 :: z8 :: z9 :: some d :: l) h Q ↔ Q d h := ⟨fun ⟨_, e, q⟩ => by cases e; exact q, fun q => ⟨d, rfl, q⟩⟩
theorem q_st10 {z0 z1 z2 z3 z4 z5 z6 z7 z8 z9 z10 : Option D} {o : Option D} {l : St'} : (z0 :: z1 :: z2 :: z3 :: z4 :: z5 :: z6 :: z7 :: z8 :: z9 :: z10 :: l).set 10 o = z0 :: z1 :: z2 :: z3 :: z4 :: z5 :: z6 :: z7 :: z8 :: z9 :: o :: l := id rfl
theorem q_tv11 {z0 z1 z2 z3 z4 z5 z6 z7 z8 z9 z10 : Option D} {l : St'} : tv 11 (z0 :: z1 :: z2 :: z3 :: z4 :: z5 :: z6 :: z7 :: z8 :: z9 :: z10 :: some d :: l) h Q ↔ Q d h := ⟨fun ⟨_, e, q⟩ => by cases e; exact q, fun q => ⟨d, rfl, q⟩⟩
theorem q_st11 {z0 z1 z2 z3 z4 z5 z6 z7 z8 z9 z10 z11 : Option D} {o : Option D} {l : St'} : (z0 :: z1 :: z2 :: z3 :: z4 :: z5 :: z6 :: z7 :: z8 :: z9 :: z10 :: z11 :: l).set 11 o = z0 :: z1 :: z2 :: z3 :: z4 :: z5 :: z6 :: z7 :: z8 :: z9 :: z10 :: o :: l := id rfl
theorem q_tv12 {z0 z1 z2 z3 z4 z5 z6 z7 z8 z9 z10 z11 : Option D} {l : St'} : tv 12 (z0 :: z1 :: z2 :: z3 :: z4 :: z5 :: z6 :: z7 :: z8 :: z9 :: z10 :: z11 :: some d :: l) h Q ↔ Q d h := ⟨fun ⟨_, e, q⟩ => by cases e; exact q, fun q => ⟨d, rfl, q⟩⟩
theorem q_st12 {z0 z1 z2 z3 z4 z5 z6 z7 z8 z9 z10 z11 z12 : Option D} {o : Option D} {l : St'} : (z0 :: z1 :: z2 :: z3 :: z4 :: z5 :: z6 :: z7 :: z8 :: z9 :: z10 :: z11 :: z12 :: l).set 12 o = z0 :: z1 :: z2 :: z3 :: z4 :: z5 :: z6 :: z7 :: z8 :: z9 :: z10 :: z11 :: o :: l := id rfl
theorem q_tv13 {z0 z1 z2 z3 z4 z5 z6 z7 z8 z9 z10 z11 z12 : Option D} {l : St'} : tv 13 (z0 :: z1 :: z2 :: z3 :: z4 :: z5 :: z6 :: z7 :: z8 :: z9 :: z10 :: z11 :: z12 :: some d :: l) h Q ↔ Q d h := ⟨fun ⟨_, e, q⟩ => by cases e; exact q, fun q => ⟨d, rfl, q⟩⟩
theorem q_st13 {z0 z1 z2 z3 z4 z5 z6 z7 z8 z9 z10 z11 z12 z13 : Option D} {o : Option D} {l : St'} : (z0 :: z1 :: z2 :: z3 :: z4 :: z5 :: z6 :: z7 :: z8 :: z9 :: z10 :: z11 :: z12 :: z13 :: l).set 13 o = z0 :: z1 :: z2 :: z3 :: z4 :: z5 :: z6 :: z7 :: z8 :: z9 :: z10 :: z11 :: z12 :: o :: l := id rfl
theorem q_tv14 {z0 z1 z2 z3 z4 z5 z6 z7 z8 z9 z10 z11 z12 z13 : Option D} {l : St'} : tv 14 (z0 :: z1 :: z2 :: z3 :: z4 :: z5 :: z6 :: z7 :: z8 :: z9 :: z10 :: z11 :: z12 :: z13 :: some d :: l) h Q ↔ Q d h := ⟨fun ⟨_, e, q⟩ => by cases e; exact q, fun q => ⟨d, rfl, q⟩⟩
theorem q_st14 {z0 z1 z2 z3 z4 z5 z6 z7 z8 z9 z10 z11 z12 z13 z14 : Option D} {o : Option D} {l : St'} : (z0 :: z1 :: z2 :: z3 :: z4 :: z5 :: z6 :: z7 :: z8 :: z9 :: z10 :: z11 :: z12 :: z13 :: z14 :: l).set 14 o = z0 :: z1 :: z2 :: z3 :: z4 :: z5 :: z6 :: z7 :: z8 :: z9 :: z10 :: z11 :: z12 :: z13 :: o :: l := id rfl
theorem q_tv15 {z0 z1 z2 z3 z4 z5 z6 z7 z8 z9 z10 z11 z12 z13 z14 : Option D} {l : St'} : tv 15 (z0 :: z1 :: z2 :: z3 :: z4 :: z5 :: z6 :: z7 :: z8 :: z9 :: z10 :: z11 :: z12 :: z13 :: z14 :: some d :: l) h Q ↔ Q d h := ⟨fun ⟨_, e, q⟩ => by cases e; exact q, fun q => ⟨d, rfl, q⟩⟩
theorem q_st15 {z0 z1 z2 z3 z4 z5 z6 z7 z8 z9 z10 z11 z12 z13 z14 z15 : Option D} {o : Option D} {l : St'} : (z0 :: z1 :: z2 :: z3 :: z4 :: z5 :: z6 :: z7 :: z8 :: z9 :: z10 :: z11 :: z12 :: z13 :: z14 :: z15 :: l).set 15 o = z0 :: z1 :: z2 :: z3 :: z4 :: z5 :: z6 :: z7 :: z8 :: z9 :: z10 :: z11 :: z12 :: z13 :: z14 :: o :: l := id rfl
theorem q_ixt0 {l : List D} : opIx (.tup (d :: l)) (.int 0) h Q ↔ Q d h := by
  have e : atI (d :: l) 0 = some d := atI_nat (j := 0) rfl
  exact ⟨fun ⟨_, e2, q⟩ => by rw [e] at e2; cases e2; exact q, fun q => ⟨d, e, q⟩⟩
theorem q_ixl0 {l : List D} : opIx (.lis (d :: l)) (.int 0) h Q ↔ Q d h := by
  have e : atI (d :: l) 0 = some d := atI_nat (j := 0) rfl
  exact ⟨fun ⟨_, e2, q⟩ => by rw [e] at e2; cases e2; exact q, fun q => ⟨d, e, q⟩⟩
theorem q_ixt1 {z0 : D} {l : List D} : opIx (.tup (z0 :: d :: l)) (.int 1) h Q ↔ Q d h := by
  have e : atI (z0 :: d :: l) 1 = some d := atI_nat (j := 1) rfl
  exact ⟨fun ⟨_, e2, q⟩ => by rw [e] at e2; cases e2; exact q, fun q => ⟨d, e, q⟩⟩
theorem q_ixl1 {z0 : D} {l : List D} : opIx (.lis (z0 :: d :: l)) (.int 1) h Q ↔ Q d h := by
  have e : atI (z0 :: d :: l) 1 = some d := atI_nat (j := 1) rfl
  exact ⟨fun ⟨_, e2, q⟩ => by rw [e] at e2; cases e2; exact q, fun q => ⟨d, e, q⟩⟩
theorem q_ixt2 {z0 z1 : D} {l : List D} : opIx (.tup (z0 :: z1 :: d :: l)) (.int 2) h Q ↔ Q d h := by
  have e : atI (z0 :: z1 :: d :: l) 2 = some d := atI_nat (j := 2) rfl
  exact ⟨fun ⟨_, e2, q⟩ => by rw [e] at e2; cases e2; exact q, fun q => ⟨d, e, q⟩⟩
theorem q_ixl2 {z0 z1 : D} {l : List D} : opIx (.lis (z0 :: z1 :: d :: l)) (.int 2) h Q ↔ Q d h := by
  have e : atI (z0 :: z1 :: d :: l) 2 = some d := atI_nat (j := 2) rfl
  exact ⟨fun ⟨_, e2, q⟩ => by rw [e] at e2; cases e2; exact q, fun q => ⟨d, e, q⟩⟩
theorem q_ixt3 {z0 z1 z2 : D} {l : List D} : opIx (.tup (z0 :: z1 :: z2 :: d :: l)) (.int 3) h Q ↔ Q d h := by
  have e : atI (z0 :: z1 :: z2 :: d :: l) 3 = some d := atI_nat (j := 3) rfl
  exact ⟨fun ⟨_, e2, q⟩ => by rw [e] at e2; cases e2; exact q, fun q => ⟨d, e, q⟩⟩
theorem q_ixl3 {z0 z1 z2 : D} {l : List D} : opIx (.lis (z0 :: z1 :: z2 :: d :: l)) (.int 3) h Q ↔ Q d h := by
  have e : atI (z0 :: z1 :: z2 :: d :: l) 3 = some d := atI_nat (j := 3) rfl
  exact ⟨fun ⟨_, e2, q⟩ => by rw [e] at e2; cases e2; exact q, fun q => ⟨d, e, q⟩⟩
theorem q_ixt4 {z0 z1 z2 z3 : D} {l : List D} : opIx (.tup (z0 :: z1 :: z2 :: z3 :: d :: l)) (.int 4) h Q ↔ Q d h := by
  have e : atI (z0 :: z1 :: z2 :: z3 :: d :: l) 4 = some d := atI_nat (j := 4) rfl
  exact ⟨fun ⟨_, e2, q⟩ => by rw [e] at e2; cases e2; exact q, fun q => ⟨d, e, q⟩⟩
theorem q_ixl4 {z0 z1 z2 z3 : D} {l : List D} : opIx (.lis (z0 :: z1 :: z2 :: z3 :: d :: l)) (.int 4) h Q ↔ Q d h := by
  have e : atI (z0 :: z1 :: z2 :: z3 :: d :: l) 4 = some d := atI_nat (j := 4) rfl
  exact ⟨fun ⟨_, e2, q⟩ => by rw [e] at e2; cases e2; exact q, fun q => ⟨d, e, q⟩⟩
def isStr (x : D) (s : Str) : Bool := match x with | .str a => decide (a = s) | _ => false
def ownK (h : DH) (a : Addr) (k : List D → Prop) : Prop := match h a with | some (.lst ds) => k ds | _ => False
theorem own_iff {k : List D → Prop} : (∃ ds, h a = some (.lst ds) ∧ k ds) ↔ ownK h a k := by
  unfold ownK
  constructor
  · rintro ⟨ds, e, q⟩
    rw [e]
    exact q
  · intro q
    split at q
    · exact ⟨_, by assumption, q⟩
    · exact q.elim
theorem q_oixr : opIx (.ref a) (.int i) h Q ↔ ownK h a fun ds => opIx (.lis ds) (.int i) h Q := by rw [← own_iff]; exact Iff.rfl
theorem q_oinr {n : Bool} : opIn n x (.ref a) h Q ↔ ownK h a fun ds => opIn n x (.lis ds) h Q := by rw [← own_iff]; exact Iff.rfl
theorem q_olen : caLen [.ref a] h Q ↔ ownK h a fun ds => Q (.int ds.length) h := by rw [← own_iff]; exact Iff.rfl
theorem q_okr {k : List D → Prop} : itemsK h (.ref a) k ↔ ownK h a k := by rw [← own_iff]; exact Iff.rfl
theorem q_oapp : mApp (.ref a) [y] h Q ↔ ownK h a fun xs => xs.length < sizeLine ∧ Q .non (put h a (.lst (xs ++ [y]))) := by rw [← own_iff]; exact Iff.rfl
theorem q_olsr : isLs (.ref a) h ↔ ownK h a fun _ => True := by rw [← own_iff]; exact ⟨fun ⟨ds, e⟩ => ⟨ds, e, trivial⟩, fun ⟨ds, e, _⟩ => ⟨ds, e⟩⟩
def setL (ds : List D) (i : Int) (d : D) (k : List D → Prop) : Prop := ∃ j, ixN ds.length i = some j ∧ k (ds.set j d)
theorem q_osetD {T : DH → Prop} : setD (.ref a) (.int i) d h T ↔ ownK h a fun ds => setL ds i d fun es => T (put h a (.lst es)) := by rw [← own_iff]; exact Iff.rfl
theorem q_ln0 : ((([] : List D).length : Nat) : Int) = 0 := id rfl
theorem q_sz0 : (0 ≤ sizeLine) = True := eq_true (by decide)
theorem q_ln1 {z0 : D} : (([z0].length : Nat) : Int) = 1 := id rfl
theorem q_sz1 : (1 ≤ sizeLine) = True := eq_true (by decide)
theorem q_ln2 {z0 z1 : D} : (([z0, z1].length : Nat) : Int) = 2 := id rfl
theorem q_sz2 : (2 ≤ sizeLine) = True := eq_true (by decide)
theorem q_ln3 {z0 z1 z2 : D} : (([z0, z1, z2].length : Nat) : Int) = 3 := id rfl
theorem q_sz3 : (3 ≤ sizeLine) = True := eq_true (by decide)
theorem q_ln4 {z0 z1 z2 z3 : D} : (([z0, z1, z2, z3].length : Nat) : Int) = 4 := id rfl
theorem q_sz4 : (4 ≤ sizeLine) = True := eq_true (by decide)
theorem q_ln5 {z0 z1 z2 z3 z4 : D} : (([z0, z1, z2, z3, z4].length : Nat) : Int) = 5 := id rfl
theorem q_sz5 : (5 ≤ sizeLine) = True := eq_true (by decide)
theorem q_ln6 {z0 z1 z2 z3 z4 z5 : D} : (([z0, z1, z2, z3, z4, z5].length : Nat) : Int) = 6 := id rfl
theorem q_sz6 : (6 ≤ sizeLine) = True := eq_true (by decide)
theorem q_ln7 {z0 z1 z2 z3 z4 z5 z6 : D} : (([z0, z1, z2, z3, z4, z5, z6].length : Nat) : Int) = 7 := id rfl
theorem q_sz7 : (7 ≤ sizeLine) = True := eq_true (by decide)
theorem q_ln8 {z0 z1 z2 z3 z4 z5 z6 z7 : D} : (([z0, z1, z2, z3, z4, z5, z6, z7].length : Nat) : Int) = 8 := id rfl
theorem q_sz8 : (8 ≤ sizeLine) = True := eq_true (by decide)
def walkD (x : D) (h : DH) (T : List D → (DH → Prop) → DH → Prop) : Prop := match x with
  | .tup xs => T xs (fun _ => True) h
  | .lis xs => T xs (fun _ => True) h
  | .scr ns => T (ns.map .int) (fun _ => True) h
  | .ref a => ∃ xs, h a = some (.lst xs) ∧ T xs (fun h => h a = some (.lst xs)) h
  | _ => False
theorem q_wseq {tl : TE'} {T : List D → (DH → Prop) → DH → Prop} : tse tl τ h T = tl τ h fun x h1 => walkD x h1 T := id rfl
theorem q_wt {xs : List D} {T : List D → (DH → Prop) → DH → Prop} : walkD (.tup xs) h T = T xs (fun _ => True) h := id rfl
theorem q_wl {xs : List D} {T : List D → (DH → Prop) → DH → Prop} : walkD (.lis xs) h T = T xs (fun _ => True) h := id rfl
theorem q_wc {xs : List Int} {T : List D → (DH → Prop) → DH → Prop} : walkD (.scr xs) h T = T (xs.map .int) (fun _ => True) h := id rfl
theorem q_wr {T : List D → (DH → Prop) → DH → Prop} : walkD (.ref a) h T ↔ ownK h a fun xs => T xs (fun h => h a = some (.lst xs)) h := by rw [← own_iff]; exact Iff.rfl
def rngK (ds : List D) (h : DH) (T : List D → (DH → Prop) → DH → Prop) : Prop := match ds with
  | [.int j] => -4611686018427387904 ≤ j ∧ j < 4611686018427387904 ∧ T (rngD 0 j.toNat) (fun _ => True) h
  | _ => False
theorem q_wr1 {ta : TA'} {T : List D → (DH → Prop) → DH → Prop} : trg1 ta τ h T = ta τ h fun ds h1 => rngK ds h1 T := id rfl
theorem q_wr1' {T : List D → (DH → Prop) → DH → Prop} : rngK [.int j] h T = (-4611686018427387904 ≤ j ∧ j < 4611686018427387904 ∧ T (rngD 0 j.toNat) (fun _ => True) h) := id rfl
theorem q_setL0 {z0 : D} {l : List D} {k : List D → Prop} : setL (z0 :: l) 0 d k ↔ k (d :: l) := by
  have e : ixN (z0 :: l).length 0 = some 0 := by
    unfold ixN
    rw [if_pos (by decide), if_pos (by simp only [List.length_cons]; omega)]
    rfl
  exact ⟨fun ⟨_, e2, q⟩ => by rw [e] at e2; cases e2; exact q, fun q => ⟨0, e, q⟩⟩
theorem q_setL1 {z0 z1 : D} {l : List D} {k : List D → Prop} : setL (z0 :: z1 :: l) 1 d k ↔ k (z0 :: d :: l) := by
  have e : ixN (z0 :: z1 :: l).length 1 = some 1 := by
    unfold ixN
    rw [if_pos (by decide), if_pos (by simp only [List.length_cons]; omega)]
    rfl
  exact ⟨fun ⟨_, e2, q⟩ => by rw [e] at e2; cases e2; exact q, fun q => ⟨1, e, q⟩⟩
theorem q_setL2 {z0 z1 z2 : D} {l : List D} {k : List D → Prop} : setL (z0 :: z1 :: z2 :: l) 2 d k ↔ k (z0 :: z1 :: d :: l) := by
  have e : ixN (z0 :: z1 :: z2 :: l).length 2 = some 2 := by
    unfold ixN
    rw [if_pos (by decide), if_pos (by simp only [List.length_cons]; omega)]
    rfl
  exact ⟨fun ⟨_, e2, q⟩ => by rw [e] at e2; cases e2; exact q, fun q => ⟨2, e, q⟩⟩
theorem q_setL3 {z0 z1 z2 z3 : D} {l : List D} {k : List D → Prop} : setL (z0 :: z1 :: z2 :: z3 :: l) 3 d k ↔ k (z0 :: z1 :: z2 :: d :: l) := by
  have e : ixN (z0 :: z1 :: z2 :: z3 :: l).length 3 = some 3 := by
    unfold ixN
    rw [if_pos (by decide), if_pos (by simp only [List.length_cons]; omega)]
    rfl
  exact ⟨fun ⟨_, e2, q⟩ => by rw [e] at e2; cases e2; exact q, fun q => ⟨3, e, q⟩⟩
theorem q_setL4 {z0 z1 z2 z3 z4 : D} {l : List D} {k : List D → Prop} : setL (z0 :: z1 :: z2 :: z3 :: z4 :: l) 4 d k ↔ k (z0 :: z1 :: z2 :: z3 :: d :: l) := by
  have e : ixN (z0 :: z1 :: z2 :: z3 :: z4 :: l).length 4 = some 4 := by
    unfold ixN
    rw [if_pos (by decide), if_pos (by simp only [List.length_cons]; omega)]
    rfl
  exact ⟨fun ⟨_, e2, q⟩ => by rw [e] at e2; cases e2; exact q, fun q => ⟨4, e, q⟩⟩
theorem q_pl_non : (plainD .non = true) = True := eq_true rfl
theorem q_in_non_int : instD .non "int" = false := by rfl
theorem q_in_non_bool : instD .non "bool" = false := by rfl
theorem q_in_non_str : instD .non "str" = false := by rfl
theorem q_in_non_tuple : instD .non "tuple" = false := by rfl
theorem q_in_non_list : instD .non "list" = false := by rfl
theorem q_pl_bl {b : Bool} : (plainD (.bl b) = true) = True := eq_true rfl
theorem q_in_bl_int {b : Bool} : instD (.bl b) "int" = true := by rfl
theorem q_in_bl_bool {b : Bool} : instD (.bl b) "bool" = true := by rfl
theorem q_in_bl_str {b : Bool} : instD (.bl b) "str" = false := by rfl
theorem q_in_bl_tuple {b : Bool} : instD (.bl b) "tuple" = false := by rfl
theorem q_in_bl_list {b : Bool} : instD (.bl b) "list" = false := by rfl
theorem q_pl_int : (plainD (.int i) = true) = True := eq_true rfl
theorem q_in_int_int : instD (.int i) "int" = true := by rfl
theorem q_in_int_bool : instD (.int i) "bool" = false := by rfl
theorem q_in_int_str : instD (.int i) "str" = false := by rfl
theorem q_in_int_tuple : instD (.int i) "tuple" = false := by rfl
theorem q_in_int_list : instD (.int i) "list" = false := by rfl
theorem q_pl_str {s : Str} : (plainD (.str s) = true) = True := eq_true rfl
theorem q_in_str_int {s : Str} : instD (.str s) "int" = false := by rfl
theorem q_in_str_bool {s : Str} : instD (.str s) "bool" = false := by rfl
theorem q_in_str_str {s : Str} : instD (.str s) "str" = true := by rfl
theorem q_in_str_tuple {s : Str} : instD (.str s) "tuple" = false := by rfl
theorem q_in_str_list {s : Str} : instD (.str s) "list" = false := by rfl
theorem q_pl_tup {l : List D} : (plainD (.tup l) = true) = True := eq_true rfl
theorem q_in_tup_int {l : List D} : instD (.tup l) "int" = false := by rfl
theorem q_in_tup_bool {l : List D} : instD (.tup l) "bool" = false := by rfl
theorem q_in_tup_str {l : List D} : instD (.tup l) "str" = false := by rfl
theorem q_in_tup_tuple {l : List D} : instD (.tup l) "tuple" = true := by rfl
theorem q_in_tup_list {l : List D} : instD (.tup l) "list" = false := by rfl
theorem q_pl_lis {l : List D} : (plainD (.lis l) = true) = True := eq_true rfl
theorem q_in_lis_int {l : List D} : instD (.lis l) "int" = false := by rfl
theorem q_in_lis_bool {l : List D} : instD (.lis l) "bool" = false := by rfl
theorem q_in_lis_str {l : List D} : instD (.lis l) "str" = false := by rfl
theorem q_in_lis_tuple {l : List D} : instD (.lis l) "tuple" = false := by rfl
theorem q_in_lis_list {l : List D} : instD (.lis l) "list" = true := by rfl
theorem q_ty_int : (isTy "int" = true) = True := eq_true rfl
theorem q_ty_bool : (isTy "bool" = true) = True := eq_true rfl
theorem q_ty_str : (isTy "str" = true) = True := eq_true rfl
theorem q_ty_tuple : (isTy "tuple" = true) = True := eq_true rfl
theorem q_ty_list : (isTy "list" = true) = True := eq_true rfl
end
theorem ofStr_inj {a b : String} : (Str.ofString a = Str.ofString b) ↔ a = b := by
  constructor
  · intro e
    rw [Str.ofString_eq_toList, Str.ofString_eq_toList] at e
    have e1 : a.toList.map Char.toNat = b.toList.map Char.toNat := by
      have := congrArg (fun s : Str => s.cps.toList) e
      simpa using this
    have inj : ∀ (l m : List Char), l.map Char.toNat = m.map Char.toNat → l = m := by
      intro l
      induction l with
      | nil => intro m h; cases m with
        | nil => rfl
        | cons c m => simp at h
      | cons c l ih => intro m h; cases m with
        | nil => simp at h
        | cons c' m =>
          simp only [List.map_cons, List.cons.injEq] at h
          rw [ih m h.2, Char.toNat_inj.mp h.1]
    exact String.toList_inj.mp (inj _ _ e1)
  · intro e; rw [e]
theorem sok_of (s : String) : PyData.strOk (Str.ofString s) = true := by
  rw [Str.ofString_eq_toList]
  show (List.map Char.toNat s.toList).toArray.all (fun a => decide (a < 1114112)) = true
  rw [List.all_toArray, List.all_map, List.all_eq_true]
  intro c _
  refine decide_eq_true ?_
  have v := c.valid
  show _ < 1114112
  rcases v with v | v
  · exact Nat.lt_trans v (by decide)
  · exact v.2
end DL
set_option Elab.async false
set_option linter.all false
set_option maxRecDepth 100000
namespace DL
open PySem PySem.Spec PyProof.Rows L2
mutual
def val : D → Nat → Bool
  | .non, _ => true
  | .bl _, _ => true
  | .int _, _ => true
  | .str x, _ => PyData.strOk x
  | .tup xs, n + 1 => vals xs n
  | _, _ => false
def vals : List D → Nat → Bool
  | [], _ => true
  | x :: xs, n => val x n && vals xs n
end
mutual
theorem val_py : ∀ (d : D) (n : Nat), val d n = true → ∃ p, toPy d = some p ∧ p.canLay0 = true ∧ p.depth ≤ n
  | .non, n, _ => ⟨.none, rfl, by simp [PyData.canLay0], by simp [PyData.depth]⟩
  | .bl b, n, _ => ⟨.bool b, rfl, by simp [PyData.canLay0], by simp [PyData.depth]⟩
  | .int i, n, _ => ⟨.int i, rfl, by simp [PyData.canLay0], by simp [PyData.depth]⟩
  | .str x, n, h => ⟨.str x, rfl, by simpa [PyData.canLay0, val] using h, by simp [PyData.depth]⟩
  | .tup xs, 0, h => by simp [val] at h
  | .tup xs, n + 1, h => by
    obtain ⟨ps, e, c, d⟩ := vals_py xs n (by simpa [val] using h)
    exact ⟨.tuple ps, by simp only [toPy, e, Option.map_some], by simpa [PyData.canLay0] using c, by simp only [PyData.depth]; omega⟩
  | .lis _, n, h => by simp [val] at h
  | .scr _, n, h => by simp [val] at h
  | .ref _, n, h => by simp [val] at h
  | .ty _, n, h => by simp [val] at h
theorem vals_py : ∀ (ds : List D) (n : Nat), vals ds n = true → ∃ ps, toPys ds = some ps ∧ PyData.canLayAll0 ps = true ∧ PyData.depthAll ps ≤ n
  | [], n, _ => ⟨[], rfl, by simp [PyData.canLayAll0], by simp [PyData.depthAll]⟩
  | d :: ds, n, h => by
    simp only [vals, Bool.and_eq_true] at h
    obtain ⟨p, e1, c1, d1⟩ := val_py d n h.1
    obtain ⟨ps, e2, c2, d2⟩ := vals_py ds n h.2
    exact ⟨p :: ps, by simp only [toPys, e1, e2], by simp only [PyData.canLayAll0, c1, c2, Bool.and_self], by simp only [PyData.depthAll]; omega⟩
end
theorem val_ok {d : D} {n : Nat} (h : val d n = true) (hn : n ≤ 64 := by decide) : dOk d := by
  obtain ⟨p, e, c, dp⟩ := val_py d n h
  unfold dOk
  rw [e]
  show SeqAt.shaped p = true
  unfold SeqAt.shaped
  rw [c, decide_eq_true (by omega)]
  rfl
theorem vals_mem {xs : List D} {n : Nat} : vals xs n = true ↔ ∀ x ∈ xs, val x n = true := by
  induction xs with
  | nil => simp [vals]
  | cons x xs ih => simp [vals, ih]
mutual
theorem val_mono : ∀ (d : D) (n m : Nat), n ≤ m → val d n = true → val d m = true
  | .non, _, _, _, _ => rfl
  | .bl _, _, _, _, _ => rfl
  | .int _, _, _, _, _ => rfl
  | .str x, _, _, _, h => by simpa [val] using h
  | .tup xs, 0, _, _, h => by simp [val] at h
  | .tup xs, n + 1, 0, hm, h => by omega
  | .tup xs, n + 1, m + 1, hm, h => by
    simp only [val] at h ⊢
    exact vals_mono xs n m (by omega) h
  | .lis _, _, _, _, h => by simp [val] at h
  | .scr _, _, _, _, h => by simp [val] at h
  | .ref _, _, _, _, h => by simp [val] at h
  | .ty _, _, _, _, h => by simp [val] at h
theorem vals_mono : ∀ (ds : List D) (n m : Nat), n ≤ m → vals ds n = true → vals ds m = true
  | [], _, _, _, _ => rfl
  | d :: ds, n, m, hm, h => by
    simp only [vals, Bool.and_eq_true] at h ⊢
    exact ⟨val_mono d n m hm h.1, vals_mono ds n m hm h.2⟩
end
mutual
def wid : D → Nat → Bool
  | .tup xs, w => decide (xs.length ≤ w) && wids xs w
  | _, _ => true
def wids : List D → Nat → Bool
  | [], _ => true
  | x :: xs, w => wid x w && wids xs w
end
inductive Kd where
  | nm (ns : List Str) | it | pr (a b : Kd) | ei (ks : List Kd) | mb (k : Kd)
mutual
def kD : Kd → D
  | .nm ns => .tup [.str "names", .tup (ns.map .str)]
  | .it => .tup [.str "integers"]
  | .pr a b => .tup [.str "pair", kD a, kD b]
  | .ei ks => .tup [.str "either", .tup (kDs ks)]
  | .mb k => .tup [.str "maybe", kD k]
def kDs : List Kd → List D
  | [] => []
  | k :: ks => kD k :: kDs ks
end
theorem kDs_map : ∀ ks : List Kd, kDs ks = ks.map kD
  | [] => rfl
  | k :: ks => by rw [kDs, kDs_map ks]; rfl
mutual
def Kd.depth : Kd → Nat
  | .nm _ => 1
  | .it => 1
  | .pr a b => 1 + max a.depth b.depth
  | .ei ks => 1 + Kd.depths ks
  | .mb k => 1 + k.depth
def Kd.depths : List Kd → Nat
  | [] => 0
  | k :: ks => max k.depth (Kd.depths ks)
end
mutual
/-- how many kinds are in it -/
def Kd.cnt : Kd → Nat
  | .nm _ => 1
  | .it => 1
  | .pr a b => 1 + a.cnt + b.cnt
  | .ei ks => 1 + Kd.cnts ks
  | .mb k => 1 + k.cnt
def Kd.cnts : List Kd → Nat
  | [] => 0
  | k :: ks => k.cnt + Kd.cnts ks
end
theorem Kd.depth_pos (k : Kd) : 1 ≤ k.depth := by cases k <;> simp only [Kd.depth] <;> omega
theorem Kd.cnt_pos (k : Kd) : 1 ≤ k.cnt := by cases k <;> simp only [Kd.cnt] <;> omega
theorem Kd.depth_mem {ks : List Kd} {k : Kd} (h : k ∈ ks) : k.depth ≤ Kd.depths ks := by
  induction ks with
  | nil => cases h
  | cons x xs ih =>
    simp only [Kd.depths]
    rcases List.mem_cons.mp h with rfl | h
    · omega
    · have := ih h; omega
theorem Kd.cnt_mem {ks : List Kd} {k : Kd} (h : k ∈ ks) : k.cnt ≤ Kd.cnts ks := by
  induction ks with
  | nil => cases h
  | cons x xs ih =>
    simp only [Kd.cnts]
    rcases List.mem_cons.mp h with rfl | h
    · omega
    · have := ih h; omega
theorem Kd.cnts_app (xs ys : List Kd) : Kd.cnts (xs ++ ys) = Kd.cnts xs + Kd.cnts ys := by
  induction xs with
  | nil => simp [Kd.cnts]
  | cons x xs ih => simp only [List.cons_append, Kd.cnts, ih]; omega
theorem Kd.depths_app (xs ys : List Kd) : Kd.depths (xs ++ ys) = max (Kd.depths xs) (Kd.depths ys) := by
  induction xs with
  | nil => simp [Kd.depths]
  | cons x xs ih => simp only [List.cons_append, Kd.depths, ih]; omega
theorem kDs_app (xs ys : List Kd) : kDs (xs ++ ys) = kDs xs ++ kDs ys := by rw [kDs_map, kDs_map, kDs_map, List.map_append]
theorem Kd.len_cnts (ks : List Kd) : ks.length ≤ Kd.cnts ks := by
  induction ks with
  | nil => simp
  | cons x xs ih => simp only [List.length_cons, Kd.cnts]; have := x.cnt_pos; omega
def namesOk (ns : List Str) : Prop := 1 ≤ ns.length ∧ ns.length ≤ 4 ∧ ∀ x ∈ ns, PyData.strOk x = true ∧ x.length ≤ 20
mutual
def Kd.ok : Kd → Prop
  | .nm ns => namesOk ns
  | .it => True
  | .pr a b => a.ok ∧ b.ok
  | .ei ks => 1 ≤ ks.length ∧ Kd.oks ks
  | .mb k => k.ok
def Kd.oks : List Kd → Prop
  | [] => True
  | k :: ks => k.ok ∧ Kd.oks ks
end
theorem Kd.oks_mem {ks : List Kd} : Kd.oks ks ↔ ∀ k ∈ ks, k.ok := by
  induction ks with
  | nil => simp [Kd.oks]
  | cons x xs ih => simp [Kd.oks, ih]
mutual
/-- whether a value is a letter -/
def isL : Kd → D → Bool
  | .nm ns, .str x => ns.contains x
  | .nm _, _ => false
  | .it, .int _ => true
  | .it, _ => false
  | .pr a b, .tup [t, x, y] => isStr t "pair" && isL a x && isL b y
  | .pr _ _, _ => false
  | .ei ks, .tup [t, .int i, x] => isStr t "case" && (decide (0 ≤ i) && isLn ks i.toNat x)
  | .ei _, _ => false
  | .mb _, .tup [t] => isStr t "none"
  | .mb k, .tup [t, x] => isStr t "some" && isL k x
  | .mb _, _ => false
def isLn : List Kd → Nat → D → Bool
  | [], _, _ => false
  | k :: _, 0, x => isL k x
  | _ :: ks, n + 1, x => isLn ks n x
end
theorem isL_pr {a b : Kd} {xs : List D} (h : xs.length ≠ 3) : isL (.pr a b) (.tup xs) = false := by
  unfold isL; split <;> simp_all
theorem isL_ei {ks : List Kd} {xs : List D} (h : xs.length ≠ 3) : isL (.ei ks) (.tup xs) = false := by
  unfold isL; split <;> simp_all
theorem isL_mb {k : Kd} {xs : List D} (h : xs.length ≠ 1) (h2 : xs.length ≠ 2) : isL (.mb k) (.tup xs) = false := by
  unfold isL; split <;> simp_all
theorem isLn_get : ∀ (ks : List Kd) (i : Nat) (x : D), isLn ks i x = match ks[i]? with | some k => isL k x | none => false
  | [], i, x => by simp [isLn]
  | k :: ks, 0, x => by simp [isLn]
  | k :: ks, i + 1, x => by rw [isLn, isLn_get ks i x]; simp
theorem inD_str (x : Str) (ns : List Str) : inD (.str x) (ns.map .str) = ns.contains x := by
  unfold inD inV
  induction ns with
  | nil => rfl
  | cons n ns ih =>
    simp only [List.map_cons, List.any_cons, List.contains_cons]
    rw [ih]
    show (n == x || _) = (x == n || _)
    rw [BEq.comm]
theorem flat_str (ns : List Str) : (ns.map D.str).all flatD = true := by
  induction ns with
  | nil => rfl
  | cons n ns ih => simpa [flatD] using ih
theorem len_kDs (ks : List Kd) : (kDs ks).length = ks.length := by rw [kDs_map, List.length_map]
theorem atI_kDs {ks : List Kd} {i : Int} {k : Kd} (h0 : 0 ≤ i) (e : ks[i.toNat]? = some k) : atI (kDs ks) i = some (kD k) := by
  have q : atI (kDs ks) ((i.toNat : Nat) : Int) = some (kD k) := atI_nat (by rw [kDs_map, List.getElem?_map, e]; rfl)
  rwa [show ((i.toNat : Nat) : Int) = i by omega] at q
end DL
set_option Elab.async false
set_option linter.all false
set_option maxRecDepth 100000
set_option maxHeartbeats 2000000
namespace DL.Ord
open PySem PySem.SeqAt PySem.AutoSeq1 PySem.MeetsSeq PySem.MeetsSeq2 PySem.MeetsSeq3 PySem.SeqRoads2
end DL.Ord
set_option Elab.async false
set_option linter.all false
set_option maxRecDepth 100000
set_option maxHeartbeats 2000000
namespace DL.Ord
open PySem PySem.SeqAt PySem.W PySem.AutoSeq1 PySem.MeetsSeq PySem.MeetsSeq2 PySem.MeetsSeq3 PySem.SeqRoads2
end DL.Ord
set_option Elab.async false
set_option linter.all false
set_option maxRecDepth 100000
namespace DL
open PySem PySem.Spec PyProof.Rows L2
section
variable {X : Cx}
end
section
variable {K : PySem.W.Frag}
end
end DL
set_option Elab.async false
set_option linter.all false
set_option maxRecDepth 100000
namespace DL.Ord
open PySem PySem.Spec PyProof.Rows PySem.Calls
section
variable {prog : Program} {w : World} {A : Around} {E : Value → Shared → Prop} {s : Shared}
end
end DL.Ord
namespace DL
open PySem PySem.Spec PyProof.Rows L2
section
variable {X : Cx} {Y : Wsh} {K : PySem.W.Frag} {pos : Pos}
theorem RDs.reverse {h : DH} {H : Hp} : ∀ {ds : List D} {vs : List V}, RDs K h H ds vs → RDs K h H ds.reverse vs.reverse
  | [], vs, r => by cases (show vs = [] from r); exact rfl
  | d :: ds, vs, r => by
    obtain ⟨v, w, rfl, r1, r2⟩ := r
    rw [List.reverse_cons, List.reverse_cons]
    exact RDs.append (RDs.reverse r2) (.cons r1 .nil)
section
variable {o e : Expr} {es : List Expr} {to : TE} {t : TA} {name : Str} {apos cpos : Pos} {id : String} {r : V → List V → Hp → VK → Prop}
end
theorem rds_bls_inv {h : DH} {H : Hp} : ∀ {ns : List Bool} {vs : List V}, RDs K h H (ns.map D.bl) vs → vs = ns.map V.bl
  | [], vs, r => r
  | n :: ns, vs, r => by
    obtain ⟨v, w, rfl, r1, r2⟩ := r
    rw [show v = .bl n from r1, rds_bls_inv r2]
    rfl
end
end DL
set_option Elab.async false
set_option linter.all false
set_option maxRecDepth 100000
namespace DL
open PySem PySem.Spec PyProof.Rows L2
open L2H (RoomH Hot1 PinOk cxH inv_startH HotC)
section
variable {X : Cx} {Y : Wsh} {K : PySem.W.Frag} {pos : Pos}
def traise (E : XK') (c : Value) : TS' := fun _ _ h => E c h
theorem ds_raise {C : Addr} {bmB : List Value} {B newId initId : String} {x m : Str} {j : Nat} {p p2 pos' : Pos} (hc : X.calm = true) (tk : L2N.Takes X fun cls d _ H => Y.v cls d H)
    (F : ExcBaseFacts B newId initId bmB) (q : PySem.W.excIn X.K C bmB newId = true) (gC : X.mg x = some (.ref C)) (kC : PySem.W.keepIn X.K (.ref C) = true) (r : Raises X (.ref C)) (hg : Gl X x) (hd : (x == ("__debug__" : Str)) = false := by decide) :
    DS X Y (.Raise (some (.Call (.Name x p) [.Constant (.str m) j p2] [] pos)) none pos') (traise Y.d (.ref C)) :=
  (L2N.ps_raise hc tk (L2N.pmk_own F q gC kC r hg hd)).imp fun D σ H ⟨τ, h, D', at', q, f⟩ => at'.fx _ h H .refl at'.hr q
end
section
variable {P : Program} {w : World} {K : PySem.W.Frag} {mg : Str → Option Value} {base : Heap}
structure FnE (P : Program) (w : World) (K : PySem.W.Frag) (mg : Str → Option Value) (base : Heap) (k : Nat) (f : Addr) (fd : FuncData) (ps : List Str) (sp : Value → Addr → Sp') : Prop where
  len : ∀ c a ds h Q E, sp c a ds h Q E → ds.length = ps.length
  run : ∀ (A : Around) (outer : List Env) (s : Shared) (H : Hp) (args : Args) (us : List Value) (vs : List V) (Q : VK) (E : XK) (p : Addr × Obj), RoomH k A → Hot1 A p → p.2.dict = none → PinOk outer H s p → Env0 P w K mg base A outer s H → BindsTo s fd args (ps.zip us) → Vals vs us →
    lSp K (sp p.2.cls p.1) vs H Q E → codeAny (model P w) A (.call (.ref f) args) (CR (L2N.CX P w) outer P w H s Q E) s
theorem FnE.mono {j k : Nat} {f : Addr} {fd : FuncData} {ps : List Str} {sp : Value → Addr → Sp'} (F : FnE P w K mg base j f fd ps sp) (h : j ≤ k) : FnE P w K mg base k f fd ps sp :=
  ⟨F.len, fun A outer s H args us vs Q E p hr => F.run A outer s H args us vs Q E p (hr.mono h)⟩
end
end DL
set_option Elab.async false
set_option linter.all false
set_option maxRecDepth 100000
namespace DL
open PySem PySem.Spec PyProof.Rows L2
open L2H (RoomH Hot1 PinOk)
section
variable {X : Cx} {Y : Wsh} {K : PySem.W.Frag} {pos : Pos}
section
variable {k : Nat} {f : Addr} {fd : FuncData} {ps : List Str} {x : Str} {p : Pos} {a : Expr} {es : List Expr} {tr : TA'}
end
section
variable {k : Nat} {f : Addr} {fd : FuncData} {ps : List Str} {sp : Sp'} {x n g : Str} {c : Value} {i : Nat} {gp np pos' epos : Pos} {a : Expr} {es : List Expr} {b₀ : Stmt} {suite : List Stmt} {tr : TA'} {ts : Value → Addr → TS'}
end
end
theorem _root_.L2H.RoomH.units {k : Nat} {A : Around} (r : RoomH k A) : A.units + 64 < cLine := by have := r.un; omega
end DL
set_option Elab.async false
set_option linter.all false
set_option maxRecDepth 100000
namespace DL
open PySem PySem.Spec PyProof.Rows L2
section
variable {X : Cx} {Y : Wsh} {K : PySem.W.Frag} {pos : Pos}
def signs (z : Str) : List D := z.cps.toList.map fun c => D.str ⟨#[c]⟩
end
end DL
set_option Elab.async false
set_option linter.all false
set_option maxRecDepth 100000
set_option maxHeartbeats 1000000
namespace DL
open PySem PySem.Spec PyProof.Rows L2
theorem deq_nil : deq (.tup []) (.tup []) = true := by simp [deq, toPy, toPys, PyData.eqv, PyData.eqvAll]
theorem deq_cons (x y : D) (xs ys : List D) : deq (.tup (x :: xs)) (.tup (y :: ys)) = (deq x y && deq (.tup xs) (.tup ys)) := by
  unfold deq
  simp only [toPy, toPys]
  cases toPy x <;> cases toPy y <;> cases toPys xs <;> cases toPys ys <;> simp [PyData.eqv, PyData.eqvAll]
theorem deq_int (i j : Int) : deq (.int i) (.int j) = decide (i = j) := by
  show (i == j) = _
  rw [Bool.beq_eq_decide_eq]
def wr (w : Bool) (i : Int) : D := if w then .tup [.int i] else .int i
def ixf : List Str → Str → Nat
  | [], _ => 0
  | x :: xs, z => if x = z then 0 else ixf xs z + 1
def zz (i : Int) : Int := if 0 < i then 2 * i - 1 else -2 * i
mutual
def rk (w : Bool) : Kd → D → D
  | .nm ns, .str x => wr w ((ixf ns x : Nat) : Int)
  | .it, .int i => wr w (zz i)
  | .pr a b, .tup [_, x, y] => .tup [rk w a x, rk w b y]
  | .ei ks, .tup [_, .int i, x] => .tup [.int i, rkn w ks i.toNat x]
  | .mb _, .tup [_] => .tup [.int 0]
  | .mb k, .tup [_, x] => .tup [.int 1, rk w k x]
  | _, _ => .non
def rkn (w : Bool) : List Kd → Nat → D → D
  | [], _, _ => .non
  | k :: _, 0, x => rk w k x
  | _ :: ks, n + 1, x => rkn w ks n x
end
theorem isStr_eq' {t : D} {s : Str} (h : isStr t s = true) : t = .str s := by
  cases t with
  | str a => simp only [isStr, decide_eq_true_eq] at h; rw [h]
  | _ => cases h
theorem nm_form {ns : List Str} {v : D} (h : isL (.nm ns) v = true) : ∃ x, v = .str x ∧ x ∈ ns := by
  cases v with
  | str x => exact ⟨x, rfl, by simpa [isL] using h⟩
  | _ => simp [isL] at h
theorem it_form {v : D} (h : isL .it v = true) : ∃ i, v = .int i := by
  cases v with
  | int i => exact ⟨i, rfl⟩
  | _ => simp [isL] at h
theorem len1 {xs : List D} (h : xs.length = 1) : ∃ x, xs = [x] := by
  match xs, h with
  | [x], _ => exact ⟨x, rfl⟩
theorem len2 {xs : List D} (h : xs.length = 2) : ∃ x y, xs = [x, y] := by
  match xs, h with
  | [x, y], _ => exact ⟨x, y, rfl⟩
theorem len3 {xs : List D} (h : xs.length = 3) : ∃ x y z, xs = [x, y, z] := by
  match xs, h with
  | [x, y, z], _ => exact ⟨x, y, z, rfl⟩
theorem pr_form {a b : Kd} {v : D} (h : isL (.pr a b) v = true) : ∃ x y, v = .tup [.str "pair", x, y] ∧ isL a x = true ∧ isL b y = true := by
  cases v with
  | tup xs =>
    by_cases hl : xs.length = 3
    · obtain ⟨t, x, y, rfl⟩ := len3 hl
      simp only [isL, Bool.and_eq_true] at h
      exact ⟨x, y, by rw [isStr_eq' h.1.1], h.1.2, h.2⟩
    · rw [isL_pr hl] at h; cases h
  | _ => simp [isL] at h
theorem ei_form {ks : List Kd} {v : D} (h : isL (.ei ks) v = true) : ∃ i x k, v = .tup [.str "case", .int i, x] ∧ 0 ≤ i ∧ ks[i.toNat]? = some k ∧ isL k x = true := by
  cases v with
  | tup xs =>
    by_cases hl : xs.length = 3
    · obtain ⟨t, x, y, rfl⟩ := len3 hl
      cases x with
      | int i =>
        simp only [isL, Bool.and_eq_true, decide_eq_true_eq] at h
        rw [isLn_get] at h
        cases e : ks[i.toNat]? with
        | none => rw [e] at h; cases h.2.2
        | some k => rw [e] at h; exact ⟨i, y, k, by rw [isStr_eq' h.1], h.2.1, e, h.2.2⟩
      | _ => simp [isL] at h
    · rw [isL_ei hl] at h; cases h
  | _ => simp [isL] at h
theorem mb_form {k : Kd} {v : D} (h : isL (.mb k) v = true) : v = .tup [.str "none"] ∨ ∃ x, v = .tup [.str "some", x] ∧ isL k x = true := by
  cases v with
  | tup xs =>
    by_cases h1 : xs.length = 1
    · obtain ⟨t, rfl⟩ := len1 h1
      simp only [isL] at h
      exact .inl (by rw [isStr_eq' h])
    · by_cases h2 : xs.length = 2
      · obtain ⟨t, x, rfl⟩ := len2 h2
        simp only [isL, Bool.and_eq_true] at h
        exact .inr ⟨x, by rw [isStr_eq' h.1], h.2⟩
      · rw [isL_mb h1 h2] at h; cases h
  | _ => simp [isL] at h
mutual
def turn : Kd → Kd
  | .nm ns => .nm ns.reverse
  | .it => .it
  | .pr a b => .pr (turn a) (turn b)
  | .ei ks => .ei (turns ks)
  | .mb k => .mb (turn k)
def turns : List Kd → List Kd
  | [] => []
  | k :: ks => turn k :: turns ks
end
mutual
theorem turn_depth : ∀ k : Kd, (turn k).depth = k.depth
  | .nm ns => rfl
  | .it => rfl
  | .pr a b => by simp only [turn, Kd.depth, turn_depth a, turn_depth b]
  | .ei ks => by simp only [turn, Kd.depth, turns_depth ks]
  | .mb k => by simp only [turn, Kd.depth, turn_depth k]
theorem turns_depth : ∀ ks : List Kd, Kd.depths (turns ks) = Kd.depths ks
  | [] => rfl
  | k :: ks => by simp only [turns, Kd.depths, turn_depth k, turns_depth ks]
end
theorem turns_map : ∀ ks : List Kd, turns ks = ks.map turn
  | [] => rfl
  | k :: ks => by rw [turns, turns_map ks]; rfl
theorem isL_turn : ∀ (n : Nat) (k : Kd) (v : D), k.depth ≤ n → isL k v = true → isL (turn k) v = true
  | 0, k, x, h, _ => by have := k.depth_pos; omega
  | n + 1, k, x, h, hx => by
    cases k with
    | nm ns =>
      obtain ⟨u, rfl, m⟩ := nm_form hx
      simpa [turn, isL] using m
    | it => exact hx
    | pr a b =>
      simp only [Kd.depth] at h
      obtain ⟨x1, x2, rfl, p1, p2⟩ := pr_form hx
      simp only [turn, isL, isStr, decide_true, Bool.true_and, isL_turn n a x1 (by omega) p1, isL_turn n b x2 (by omega) p2]
    | ei ks =>
      simp only [Kd.depth] at h
      obtain ⟨i, u, k1, rfl, i0, e1, p1⟩ := ei_form hx
      have := Kd.depth_mem (List.mem_of_getElem? e1)
      simp only [turn, isL, isStr, decide_true, Bool.true_and, isLn_get, turns_map, List.getElem?_map, e1, Option.map_some, isL_turn n k1 u (by omega) p1, decide_eq_true i0]
    | mb k =>
      simp only [Kd.depth] at h
      rcases mb_form hx with rfl | ⟨u, rfl, p1⟩
      · simp only [turn, isL, isStr, decide_true]
      · simp only [turn, isL, isStr, decide_true, Bool.true_and, isL_turn n k u (by omega) p1]
def ov : Ordering → Int | .lt => -1 | .eq => 0 | .gt => 1
end DL
set_option Elab.async false
set_option linter.all false
set_option maxRecDepth 100000
namespace DL
open PySem PySem.Spec PyProof.Rows L2
mutual
inductive Ls where
  | nm (xs : List Str) | it (lo : Int) (bel : List Bool) (mem : List Int) (hi : Int) (abv : List Bool) | pr (r : Rw) | ei (p : Lp) | mb (b : Bool) (s : Ls)
/-- rows of a set of pairs -/
inductive Rw where
  | nil | cons (f r : Ls) (t : Rw)
inductive Lp where
  | nil | cons (s : Ls) (t : Lp)
end
mutual
def sD : Ls → D
  | .nm xs => .tup [.str "names", .tup (xs.map .str)]
  | .it lo bel mem hi abv => .tup [.str "integers", .tup [.int lo, .tup (bel.map .bl)], .tup (mem.map .int), .tup [.int hi, .tup (abv.map .bl)]]
  | .pr r => .tup [.str "pairs", .tup (rwD r)]
  | .ei p => .tup [.str "either", .tup (lpD p)]
  | .mb b s => .tup [.str "maybe", .bl b, sD s]
def rwD : Rw → List D
  | .nil => []
  | .cons f r t => .tup [sD f, sD r] :: rwD t
def lpD : Lp → List D
  | .nil => []
  | .cons s t => sD s :: lpD t
end
def atB (bs : List Bool) (i : Int) : Bool := bs.getD i.toNat false
def inI (lo : Int) (bel : List Bool) (mem : List Int) (hi : Int) (abv : List Bool) (i : Int) : Bool :=
  if hi ≤ i then atB abv ((i - hi) % abv.length) else if i ≤ lo then atB bel ((lo - i) % bel.length) else mem.contains i
mutual
/-- whether a letter is in a set -/
def inS : Ls → D → Bool
  | .nm xs, .str x => xs.contains x
  | .it lo bel mem hi abv, .int i => inI lo bel mem hi abv i
  | .pr r, .tup [_, x, y] => inRw r x y
  | .ei p, .tup [_, .int i, x] => inLp p i.toNat x
  | .mb b _, .tup [_] => b
  | .mb _ s, .tup [_, x] => inS s x
  | _, _ => false
def inRw : Rw → D → D → Bool
  | .nil, _, _ => false
  | .cons f r t, x, y => if inS f x = true then inS r y else inRw t x y
def inLp : Lp → Nat → D → Bool
  | .nil, _, _ => false
  | .cons s _, 0, x => inS s x
  | .cons _ t, n + 1, x => inLp t n x
end
def tailOk (bs : List Bool) : Prop := 1 ≤ bs.length ∧ bs.length ≤ 1000
mutual
/-- a set of letters of the kind, in form -/
def wfS : Kd → Ls → Prop
  | .nm _, .nm xs => xs.length ≤ 1000
  | .it, .it _ bel mem _ abv => tailOk bel ∧ tailOk abv ∧ mem.length ≤ 1000
  | .pr a b, .pr r => wfRw a b r
  | .ei ks, .ei p => wfLp ks p
  | .mb k, .mb _ s => wfS k s
  | _, _ => False
def wfRw : Kd → Kd → Rw → Prop
  | _, _, .nil => True
  | a, b, .cons f r t => wfS a f ∧ wfS b r ∧ wfRw a b t
def wfLp : List Kd → Lp → Prop
  | [], .nil => True
  | k :: ks, .cons s t => wfS k s ∧ wfLp ks t
  | _, _ => False
end
inductive Cn where
  | tt | ff | is (s : Str) | lt (i : Int) | eq (i : Int) | gt (i : Int) | md (m r : Int) | no | inn (s : Ls)
  | ng (c : Cn) | an (a b : Cn) | orr (a b : Cn) | fs (c : Cn) | sn (c : Cn) | so (c : Cn) | cs (i : Int) (c : Cn)
def cD : Cn → D
  | .tt => .tup [.str "true"]
  | .ff => .tup [.str "false"]
  | .is s => .tup [.str "is", .str s]
  | .lt i => .tup [.str "<", .int i]
  | .eq i => .tup [.str "=", .int i]
  | .gt i => .tup [.str ">", .int i]
  | .md m r => .tup [.str "mod", .int m, .int r]
  | .no => .tup [.str "none"]
  | .inn s => .tup [.str "in", sD s]
  | .ng c => .tup [.str "not", cD c]
  | .an a b => .tup [.str "and", cD a, cD b]
  | .orr a b => .tup [.str "or", cD a, cD b]
  | .fs c => .tup [.str "first", cD c]
  | .sn c => .tup [.str "second", cD c]
  | .so c => .tup [.str "some", cD c]
  | .cs i c => .tup [.str "case", .int i, cD c]
def Cn.cnt : Cn → Nat
  | .ng c => 1 + c.cnt
  | .an a b => 1 + a.cnt + b.cnt
  | .orr a b => 1 + a.cnt + b.cnt
  | .fs c => 1 + c.cnt
  | .sn c => 1 + c.cnt
  | .so c => 1 + c.cnt
  | .cs _ c => 1 + c.cnt
  | _ => 1
def Cn.depth : Cn → Nat
  | .ng c => 1 + c.depth
  | .an a b => 1 + max a.depth b.depth
  | .orr a b => 1 + max a.depth b.depth
  | .fs c => 1 + c.depth
  | .sn c => 1 + c.depth
  | .so c => 1 + c.depth
  | .cs _ c => 1 + c.depth
  | _ => 1
theorem Cn.depth_cnt : ∀ c : Cn, c.depth ≤ c.cnt
  | .tt | .ff | .is _ | .lt _ | .eq _ | .gt _ | .md _ _ | .no | .inn _ => Nat.le_refl _
  | .ng c => by simp only [Cn.depth, Cn.cnt]; have := c.depth_cnt; omega
  | .an a b => by simp only [Cn.depth, Cn.cnt]; have := a.depth_cnt; have := b.depth_cnt; omega
  | .orr a b => by simp only [Cn.depth, Cn.cnt]; have := a.depth_cnt; have := b.depth_cnt; omega
  | .fs c => by simp only [Cn.depth, Cn.cnt]; have := c.depth_cnt; omega
  | .sn c => by simp only [Cn.depth, Cn.cnt]; have := c.depth_cnt; omega
  | .so c => by simp only [Cn.depth, Cn.cnt]; have := c.depth_cnt; omega
  | .cs _ c => by simp only [Cn.depth, Cn.cnt]; have := c.depth_cnt; omega
def fitsC (S : Kd → Ls → Bool) : Kd → Cn → Bool
  | _, .tt => true
  | _, .ff => true
  | k, .ng c => fitsC S k c
  | k, .an a b => fitsC S k a && fitsC S k b
  | k, .orr a b => fitsC S k a && fitsC S k b
  | k, .inn s => S k s
  | .nm ns, .is s => ns.contains s
  | .it, .lt _ => true
  | .it, .eq _ => true
  | .it, .gt _ => true
  | .it, .md _ _ => true
  | .pr a _, .fs c => fitsC S a c
  | .pr _ b, .sn c => fitsC S b c
  | .ei ks, .cs i c => match ks[i.toNat]? with | some k => fitsC S k c | none => false
  | .mb _, .no => true
  | .mb k, .so c => fitsC S k c
  | _, _ => false
def domC (dm : Kd → Ls → Prop) : Kd → Cn → Prop
  | k, .inn s => dm k s
  | k, .ng c => domC dm k c
  | k, .an a b => domC dm k a ∧ domC dm k b
  | k, .orr a b => domC dm k a ∧ domC dm k b
  | .pr a _, .fs c => domC dm a c
  | .pr _ b, .sn c => domC dm b c
  | .ei ks, .cs i c => ∀ k, ks[i.toNat]? = some k → domC dm k c
  | .mb k, .so c => domC dm k c
  | _, _ => True
def metC (C : Ls → D → Bool) : Cn → D → Bool
  | .tt, _ => true
  | .inn s, v => C s v
  | .ng c, v => !metC C c v
  | .an a b, v => metC C a v && metC C b v
  | .orr a b, v => metC C a v || metC C b v
  | .lt i, .int j => decide (j < i)
  | .gt i, .int j => decide (i < j)
  | .eq i, .int j => decide (j = i)
  | .md m r, .int j => decide ((j - r) % m = 0)
  | .is s, .str x => decide (x = s)
  | .fs c, .tup [_, x, _] => metC C c x
  | .sn c, .tup [_, _, y] => metC C c y
  | .cs i c, .tup [_, .int j, x] => decide (j = i) && metC C c x
  | .no, .tup [_] => true
  | .so c, .tup [_, x] => metC C c x
  | _, _ => false
def okC : Cn → Prop
  | .cs i c => 0 ≤ i ∧ okC c
  | .md m _ => 0 < m ∧ (12 : Int) % m = 0
  | .lt i => -20 ≤ i ∧ i ≤ 20
  | .eq i => -20 ≤ i ∧ i ≤ 20
  | .gt i => -20 ≤ i ∧ i ≤ 20
  | .ng c => okC c
  | .an a b => okC a ∧ okC b
  | .orr a b => okC a ∧ okC b
  | .fs c => okC c
  | .sn c => okC c
  | .so c => okC c
  | _ => True
def fits0 (k : Kd) (c : Cn) : Prop := fitsC (fun _ _ => false) k c = true
theorem fits0_dom {dm : Kd → Ls → Prop} : ∀ (c : Cn) (k : Kd), fits0 k c → domC dm k c
  | .tt, k, _ => by cases k <;> simp [domC]
  | .ff, k, _ => by cases k <;> simp [domC]
  | .is _, k, _ => by cases k <;> simp [domC]
  | .lt _, k, _ => by cases k <;> simp [domC]
  | .eq _, k, _ => by cases k <;> simp [domC]
  | .gt _, k, _ => by cases k <;> simp [domC]
  | .md _ _, k, _ => by cases k <;> simp [domC]
  | .no, k, _ => by cases k <;> simp [domC]
  | .inn _, k, h => by simp [fits0, fitsC] at h
  | .ng c, k, h => by simp only [domC]; exact fits0_dom c k (by simpa [fits0, fitsC] using h)
  | .an a b, k, h => by
    simp only [fits0, fitsC, Bool.and_eq_true] at h
    simp only [domC]
    exact ⟨fits0_dom a k h.1, fits0_dom b k h.2⟩
  | .orr a b, k, h => by
    simp only [fits0, fitsC, Bool.and_eq_true] at h
    simp only [domC]
    exact ⟨fits0_dom a k h.1, fits0_dom b k h.2⟩
  | .fs c, .pr a b, h => by simp only [domC]; exact fits0_dom c a (by simpa [fits0, fitsC] using h)
  | .sn c, .pr a b, h => by simp only [domC]; exact fits0_dom c b (by simpa [fits0, fitsC] using h)
  | .so c, .mb a, h => by simp only [domC]; exact fits0_dom c a (by simpa [fits0, fitsC] using h)
  | .cs i c, .ei ks, h => by
    simp only [domC]
    intro k e
    simp only [fits0, fitsC, e] at h
    exact fits0_dom c k h
  | .fs c, .nm _, _ => by simp [domC]
  | .fs c, .it, _ => by simp [domC]
  | .fs c, .ei _, _ => by simp [domC]
  | .fs c, .mb _, _ => by simp [domC]
  | .sn c, .nm _, _ => by simp [domC]
  | .sn c, .it, _ => by simp [domC]
  | .sn c, .ei _, _ => by simp [domC]
  | .sn c, .mb _, _ => by simp [domC]
  | .so c, .nm _, _ => by simp [domC]
  | .so c, .it, _ => by simp [domC]
  | .so c, .ei _, _ => by simp [domC]
  | .so c, .pr _ _, _ => by simp [domC]
  | .cs _ c, .nm _, _ => by simp [domC]
  | .cs _ c, .it, _ => by simp [domC]
  | .cs _ c, .mb _, _ => by simp [domC]
  | .cs _ c, .pr _ _, _ => by simp [domC]
theorem fits_mono {S S' : Kd → Ls → Bool} (hs : ∀ k s, S k s = true → S' k s = true) : ∀ (c : Cn) (k : Kd), fitsC S k c = true → fitsC S' k c = true
  | .tt, k, _ => by cases k <;> simp [fitsC]
  | .ff, k, _ => by cases k <;> simp [fitsC]
  | .is _, k, h => by cases k <;> simp_all [fitsC]
  | .lt _, k, h => by cases k <;> simp_all [fitsC]
  | .eq _, k, h => by cases k <;> simp_all [fitsC]
  | .gt _, k, h => by cases k <;> simp_all [fitsC]
  | .md _ _, k, h => by cases k <;> simp_all [fitsC]
  | .no, k, h => by cases k <;> simp_all [fitsC]
  | .inn _, k, h => by simp only [fitsC] at h ⊢; exact hs _ _ h
  | .ng c, k, h => by simp only [fitsC] at h ⊢; exact fits_mono hs c k h
  | .an a b, k, h => by
    simp only [fitsC, Bool.and_eq_true] at h ⊢
    exact ⟨fits_mono hs a k h.1, fits_mono hs b k h.2⟩
  | .orr a b, k, h => by
    simp only [fitsC, Bool.and_eq_true] at h ⊢
    exact ⟨fits_mono hs a k h.1, fits_mono hs b k h.2⟩
  | .fs c, .pr a b, h => by simp only [fitsC] at h ⊢; exact fits_mono hs c a h
  | .sn c, .pr a b, h => by simp only [fitsC] at h ⊢; exact fits_mono hs c b h
  | .so c, .mb a, h => by simp only [fitsC] at h ⊢; exact fits_mono hs c a h
  | .cs i c, .ei ks, h => by
    simp only [fitsC] at h ⊢
    cases e : ks[i.toNat]? with
    | none => simp [e] at h
    | some k => simp only [e] at h ⊢; exact fits_mono hs c k h
  | .fs c, .nm _, h => by simp [fitsC] at h
  | .fs c, .it, h => by simp [fitsC] at h
  | .fs c, .ei _, h => by simp [fitsC] at h
  | .fs c, .mb _, h => by simp [fitsC] at h
  | .sn c, .nm _, h => by simp [fitsC] at h
  | .sn c, .it, h => by simp [fitsC] at h
  | .sn c, .ei _, h => by simp [fitsC] at h
  | .sn c, .mb _, h => by simp [fitsC] at h
  | .so c, .nm _, h => by simp [fitsC] at h
  | .so c, .it, h => by simp [fitsC] at h
  | .so c, .ei _, h => by simp [fitsC] at h
  | .so c, .pr _ _, h => by simp [fitsC] at h
  | .cs _ c, .nm _, h => by simp [fitsC] at h
  | .cs _ c, .it, h => by simp [fitsC] at h
  | .cs _ c, .mb _, h => by simp [fitsC] at h
  | .cs _ c, .pr _ _, h => by simp [fitsC] at h
theorem fits0_fits {S : Kd → Ls → Bool} {c : Cn} {k : Kd} (h : fits0 k c) : fitsC S k c = true := fits_mono (fun _ _ z => by cases z) c k h
theorem inD_sc {a b : Str} {ds : List D} : inD (.str a) (.str b :: ds) = (decide (b = a) || inD (.str a) ds) := by
  show ((b == a) || _) = _
  rw [Bool.beq_eq_decide_eq]; rfl
theorem inD_ic {a : Int} {b : Str} {ds : List D} : inD (.int a) (.str b :: ds) = inD (.int a) ds := rfl
theorem inD_ii {a b : Int} {ds : List D} : inD (.int a) (.int b :: ds) = (decide (b = a) || inD (.int a) ds) := by
  show ((b == a) || _) = _
  rw [Bool.beq_eq_decide_eq]; rfl
theorem inD_nil {a : D} : inD a [] = false := rfl
theorem Cn.depth_pos (c : Cn) : 1 ≤ c.depth := by cases c <;> simp only [Cn.depth] <;> omega
theorem Cn.cnt_pos (c : Cn) : 1 ≤ c.cnt := by cases c <;> simp only [Cn.cnt] <;> omega
end DL
set_option Elab.async false
set_option linter.all false
set_option maxRecDepth 100000
namespace DL
open PySem PySem.Spec PyProof.Rows L2
theorem lc_pure {n : Nat} {tt : TT'} {te : TE'} {C : DH → Prop} {τ : St'} {Q : List D → DH → Prop} {h : DH} (b : D → Bool) (f : D → D) (hc : C h) : ∀ (xs acc : List D), acc.length + xs.length ≤ sizeLine →
    (∀ x ∈ xs, ∀ R : Bool → DH → Prop, R (b x) h → tt (τ.set n (some x)) h R) → (∀ x ∈ xs, b x = true → ∀ R : VK', R (f x) h → te (τ.set n (some x)) h R) →
    Q (acc ++ (xs.filter b).map f) h → lcS n tt te C τ Q xs acc h
  | [], acc, _, _, _, q => ⟨hc, by simpa using q⟩
  | x :: xs, acc, hl, ht, he, q => by
    simp only [List.length_cons] at hl
    rw [q_lcons]
    refine ⟨hc, ht x List.mem_cons_self _ ?_⟩
    cases e : b x with
    | true =>
      rw [sif_t]
      refine he x List.mem_cons_self e _ ⟨by omega, lc_pure b f hc xs _ (by simp only [List.length_append, List.length_cons, List.length_nil]; omega) (fun y m => ht y (List.mem_cons_of_mem _ m)) (fun y m => he y (List.mem_cons_of_mem _ m)) ?_⟩
      rw [List.filter_cons_of_pos e] at q
      simpa using q
    | false =>
      rw [sif_f]
      refine lc_pure b f hc xs _ (by omega) (fun y m => ht y (List.mem_cons_of_mem _ m)) (fun y m => he y (List.mem_cons_of_mem _ m)) ?_
      rw [List.filter_cons_of_neg (by simp [e])] at q
      exact q
section
variable {P : Program} {w : World} {K : PySem.W.Frag} {mg : Str → Option Value} {base : Heap}
theorem FnE.or {k : Nat} {f : Addr} {fd : FuncData} {ps : List Str} {s1 s2 : Value → Addr → Sp'} (F : FnE P w K mg base k f fd ps s1) (G : FnE P w K mg base k f fd ps s2) : FnE P w K mg base k f fd ps fun c a ds h Q E => s1 c a ds h Q E ∨ s2 c a ds h Q E :=
  ⟨fun c a ds h Q E z => z.elim (F.len c a ds h Q E) (G.len c a ds h Q E), fun A outer s H args us vs Q E p hr hot nd pin e0 hb r q0 => by
    obtain ⟨ds, h, Q', E', rs, hr', q, fn, fx⟩ := q0
    exact q.elim (fun q => F.run A outer s H args us vs Q E p hr hot nd pin e0 hb r ⟨ds, h, Q', E', rs, hr', q, fn, fx⟩) fun q => G.run A outer s H args us vs Q E p hr hot nd pin e0 hb r ⟨ds, h, Q', E', rs, hr', q, fn, fx⟩⟩
end
end DL
set_option Elab.async false
set_option linter.all false
set_option maxRecDepth 100000
set_option maxHeartbeats 2000000
namespace DL
open PySem PySem.Spec PyProof.Rows L2
section
variable {X : Cx}
end
end DL
set_option Elab.async false
set_option linter.all false
set_option maxRecDepth 100000
namespace DL
open PySem PySem.Spec PyProof.Rows L2
section
variable {X : Cx} {Y : Wsh} {K : PySem.W.Frag} {pos : Pos}
end
end DL
set_option Elab.async false
set_option linter.all false
set_option maxRecDepth 100000
namespace DL
open PySem PySem.Spec PyProof.Rows L2
section
variable {X : Cx} {Y : Wsh} {K : PySem.W.Frag} {pos : Pos}
def caAny : List D → DH → VK' → Prop := fun ds h Q => match ds with
  | [.lis xs] => ∃ bs : List Bool, xs = bs.map .bl ∧ Q (.bl (bs.any id)) h
  | _ => False
def caAll : List D → DH → VK' → Prop := fun ds h Q => match ds with
  | [.lis xs] => ∃ bs : List Bool, xs = bs.map .bl ∧ Q (.bl (bs.all id)) h
  | _ => False
theorem cl_any : CallL K (rAny K) caAny := by
  intro ds vs h H Q' Q r hr q f
  unfold caAny at q
  split at q
  · obtain ⟨bs, rfl, q⟩ := q
    obtain ⟨v, rfl, a, ws, rfl, n, t, rs⟩ := r.one
    cases rds_bls_inv rs
    exact ⟨a, bs, rfl, SqL.of t, f (.bl _) h _ H .refl hr rfl q⟩
  · exact q.elim
theorem boot'_any : bootBuiltins "any" = some (.builtin "any") := by first | exact PySem.boot_any | exact PyProof.Rows.boot_any | decide +kernel
def dkey : D → Option Key
  | .int i => some (.inl i)
  | .str s => some (.inr s)
  | _ => none
def dV (ps : List (Key × D)) (k : Key) : Option D := (ps.find? fun p => decide (p.1 = k)).map (·.2)
def dPut (ps : List (Key × D)) (k : Key) (d : D) : List (Key × D) :=
  if (ps.any fun p => decide (p.1 = k)) = true then ps.map (fun p => if p.1 = k then (p.1, d) else p) else ps ++ [(k, d)]
inductive RE (K : PySem.W.Frag) (h : DH) (H : Hp) : List (Key × D) → List (Key × V) → Prop
  | nil : RE K h H [] []
  | cons {k : Key} {d : D} {v : V} {ps : List (Key × D)} {kvs : List (Key × V)} : RD K h H d v → RE K h H ps kvs → RE K h H ((k, d) :: ps) ((k, v) :: kvs)
theorem RE.of {h : DH} {H : Hp} : ∀ {ps : List (Key × D)} {kvs : List (Key × V)}, RDd K h H ps kvs → RE K h H ps kvs
  | [], kvs, ⟨e, _⟩ => by
    cases kvs with
    | nil => exact .nil
    | cons _ _ => cases e
  | (k, d) :: ps, kvs, ⟨e, r⟩ => by
    cases kvs with
    | nil => cases e
    | cons kv kvs =>
      obtain ⟨k', v⟩ := kv
      simp only [List.map_cons, List.cons.injEq] at e
      obtain ⟨rfl, e⟩ := e
      obtain ⟨v', w, e1, r1, r2⟩ := r
      simp only [List.map_cons, List.cons.injEq] at e1
      obtain ⟨rfl, rfl⟩ := e1
      exact .cons r1 (RE.of ⟨e, r2⟩)
theorem RE.to {h : DH} {H : Hp} {ps : List (Key × D)} {kvs : List (Key × V)} (r : RE K h H ps kvs) : RDd K h H ps kvs := by
  induction r with
  | nil => exact ⟨rfl, rfl⟩
  | cons r1 _ ih => exact ⟨by simp only [List.map_cons, ih.1], ⟨_, _, rfl, r1, ih.2⟩⟩
theorem RE.length {h : DH} {H : Hp} {ps : List (Key × D)} {kvs : List (Key × V)} (r : RE K h H ps kvs) : kvs.length = ps.length := by
  induction r with
  | nil => rfl
  | cons _ _ ih => simp only [List.length_cons, ih]
theorem RE.val {h : DH} {H : Hp} {ps : List (Key × D)} {kvs : List (Key × V)} (r : RE K h H ps kvs) (k : Key) : (dV ps k = none ∧ valV kvs k = none) ∨ ∃ d v, dV ps k = some d ∧ valV kvs k = some v ∧ RD K h H d v := by
  induction r with
  | nil => exact .inl ⟨rfl, rfl⟩
  | @cons k' d v ps kvs r1 _ ih =>
    by_cases e : k' = k
    · exact .inr ⟨d, v, by simp [dV, List.find?_cons, e], by simp [valV, List.find?_cons, e], r1⟩
    · have e1 : dV ((k', d) :: ps) k = dV ps k := by simp [dV, List.find?_cons, e]
      have e2 : valV ((k', v) :: kvs) k = valV kvs k := by simp [valV, List.find?_cons, e]
      rw [e1, e2]; exact ih
theorem RE.any {h : DH} {H : Hp} {ps : List (Key × D)} {kvs : List (Key × V)} (r : RE K h H ps kvs) (k : Key) : (kvs.any fun p => decide (p.1 = k)) = ps.any fun p => decide (p.1 = k) := by
  induction r with
  | nil => rfl
  | cons _ _ ih => simp only [List.any_cons, ih]
theorem RE.repl {h : DH} {H : Hp} {ps : List (Key × D)} {kvs : List (Key × V)} (r : RE K h H ps kvs) (k : Key) {d : D} {v : V} (q : RD K h H d v) : RE K h H (ps.map fun p => if p.1 = k then (p.1, d) else p) (kvs.map fun p => if p.1 = k then (p.1, v) else p) := by
  induction r with
  | nil => exact .nil
  | cons r1 _ ih =>
    simp only [List.map_cons]
    split
    · exact .cons q ih
    · exact .cons r1 ih
theorem RE.snoc {h : DH} {H : Hp} {ps : List (Key × D)} {kvs : List (Key × V)} (r : RE K h H ps kvs) (k : Key) {d : D} {v : V} (q : RD K h H d v) : RE K h H (ps ++ [(k, d)]) (kvs ++ [(k, v)]) := by
  induction r with
  | nil => exact .cons q .nil
  | cons r1 _ ih => exact .cons r1 ih
theorem RE.put {h : DH} {H : Hp} {ps : List (Key × D)} {kvs : List (Key × V)} (r : RE K h H ps kvs) (k : Key) {d : D} {v : V} (q : RD K h H d v) : RE K h H (dPut ps k d) (putK kvs k v) := by
  unfold dPut putK
  rw [r.any k]
  split
  · exact r.repl k q
  · exact r.snoc k q
def tdnew : TE' := fun _ h Q => ∀ p, h p = none → Q (.ref p) (put h p (.dct []))
def isDc (x : D) (h : DH) : Prop := match x with | .ref a => ∃ ps, dctAt h a ps | _ => False
def tdget (td ty tx : TE') : TE' := fun τ h Q => td τ h fun x h1 => isDc x h1 ∧ ty τ h1 fun y h2 => tx τ h2 fun z h3 => ∃ a ps k, x = .ref a ∧ dkey y = some k ∧ dctAt h3 a ps ∧ Q ((dV ps k).getD z) h3
def tdix (td ty : TE') : TE' := fun τ h Q => td τ h fun x h1 => ty τ h1 fun y h2 => ∃ a ps k d, x = .ref a ∧ dkey y = some k ∧ dctAt h2 a ps ∧ dV ps k = some d ∧ Q d h2
def tdput (td ty tv : TE') : TS' := fun E τ h => tv τ h fun v h1 => td τ h1 fun x h2 => ty τ h2 fun y h3 => ∃ a ps k, x = .ref a ∧ dkey y = some k ∧ h3 a = some (.dct ps) ∧ ps.length < sizeLine ∧ E.nx τ (put h3 a (.dct (dPut ps k v)))
end
end DL
set_option Elab.async false
set_option linter.all false
set_option maxRecDepth 100000
namespace DL
open PySem PySem.Spec PyProof.Rows L2
def truD (x : D) (h : DH) (k : Bool → Prop) : Prop := match x with
  | .bl c => k c
  | .int i => k (!decide (i = 0))
  | .tup xs => k (!xs.isEmpty)
  | .lis xs => k (!xs.isEmpty)
  | .ref a => ∃ xs, h a = some (.lst xs) ∧ k (!xs.isEmpty)
  | _ => False
def ttru (t : TE') : TT' := fun τ h Q => t τ h fun x h1 => truD x h1 fun c => Q c h1
section
variable {X : Cx} {Y : Wsh} {K : PySem.W.Frag} {pos : Pos}
theorem RDs.isEmpty {h : DH} {H : Hp} {ds : List D} {vs : List V} (r : RDs K h H ds vs) : vs.isEmpty = ds.isEmpty := by
  have := r.length
  cases ds <;> cases vs <;> simp_all
theorem dt_tru {e : Expr} {t : TE'} (h : DE X Y e t) (he : ∀ whole, isTrue e X.env whole = (do let v ← whole; standAt e.pos; holding [v] (truthy v)) := by intro _; rfl) : DT X Y e (ttru t) :=
  (pt_truth h he).imp fun σ H Q ⟨τ, h, Q', at', q, f⟩ => ⟨τ, h, _, at', q, fun x h1 v H1 k1 hr1 rx q1 => by
    cases x with
    | bl c => cases (show v = .bl c from rx); exact ⟨c, rfl, f c h1 H1 k1 hr1 q1⟩
    | int i =>
      cases (show v = .int i from rx)
      refine ⟨_, rfl, ?_⟩
      have e : (i != 0) = !decide (i = 0) := by
        show (!(i == 0)) = _
        rw [Bool.beq_eq_decide_eq]
      rw [e]
      exact f _ h1 H1 k1 hr1 q1
    | tup xs =>
      obtain ⟨a, vs, rfl, t, r⟩ := rx
      exact ⟨_, .inr (.inl ⟨vs, t.sq, rfl⟩), f _ h1 H1 k1 hr1 (by rw [r.isEmpty]; exact q1)⟩
    | lis xs =>
      obtain ⟨a, vs, rfl, n, t, r⟩ := rx
      exact ⟨_, .inl ⟨vs, SqL.of t, rfl⟩, f _ h1 H1 k1 hr1 (by rw [r.isEmpty]; exact q1)⟩
    | ref a =>
      obtain ⟨xs, e, q1⟩ := q1
      obtain ⟨vs, t, r⟩ := hr1.lst e
      cases (show v = .ref a from rx)
      exact ⟨_, .inl ⟨vs, SqL.of t, rfl⟩, f _ h1 H1 k1 hr1 (by rw [r.isEmpty]; exact q1)⟩
    | _ => exact q1.elim⟩
end
section
variable {D' : Ends'} {τ : St'} {h : DH} {Q : VK'} {R : Bool → DH → Prop} {x y : D} {i : Int} {a : Addr}
theorem q_tru {t : TE'} : ttru t τ h R = t τ h fun x h1 => truD x h1 fun c => R c h1 := id rfl
theorem q_truB {c : Bool} {k : Bool → Prop} : truD (.bl c) h k = k c := id rfl
theorem q_truI {k : Bool → Prop} : truD (.int i) h k = k (!decide (i = 0)) := id rfl
theorem q_truT {xs : List D} {k : Bool → Prop} : truD (.tup xs) h k = k (!xs.isEmpty) := id rfl
theorem q_truL {xs : List D} {k : Bool → Prop} : truD (.lis xs) h k = k (!xs.isEmpty) := id rfl
theorem q_any {xs : List D} : caAny [.lis xs] h Q = ∃ bs : List Bool, xs = bs.map .bl ∧ Q (.bl (bs.any id)) h := id rfl
theorem q_all {xs : List D} : caAll [.lis xs] h Q = ∃ bs : List Bool, xs = bs.map .bl ∧ Q (.bl (bs.all id)) h := id rfl
theorem q_dnew : tdnew τ h Q = ∀ p, h p = none → Q (.ref p) (put h p (.dct [])) := id rfl
theorem q_dget {td ty tx : TE'} : tdget td ty tx τ h Q = td τ h fun x h1 => isDc x h1 ∧ ty τ h1 fun y h2 => tx τ h2 fun z h3 => ∃ a ps k, x = .ref a ∧ dkey y = some k ∧ dctAt h3 a ps ∧ Q ((dV ps k).getD z) h3 := id rfl
theorem q_dix {td ty : TE'} : tdix td ty τ h Q = td τ h fun x h1 => ty τ h1 fun y h2 => ∃ a ps k d, x = .ref a ∧ dkey y = some k ∧ dctAt h2 a ps ∧ dV ps k = some d ∧ Q d h2 := id rfl
theorem q_dput {td ty tv : TE'} : tdput td ty tv D' τ h = tv τ h fun v h1 => td τ h1 fun x h2 => ty τ h2 fun y h3 => ∃ a ps k, x = .ref a ∧ dkey y = some k ∧ h3 a = some (.dct ps) ∧ ps.length < sizeLine ∧ D'.nx τ (put h3 a (.dct (dPut ps k v))) := id rfl
theorem q_ext1 {xs : List D} : mExt (.ref a) [.lis xs] h Q = ∃ ys, h a = some (.lst ys) ∧ ys.length + xs.length ≤ sizeLine ∧ Q .non (put h a (.lst (ys ++ xs))) := id rfl
end
end DL
set_option Elab.async false
set_option linter.all false
set_option maxRecDepth 100000
namespace DL
open PySem PySem.Spec PyProof.Rows L2
theorem lc_map {α : Type} {n : Nat} {tt : TT'} {te : TE'} {C : DH → Prop} {τ : St'} {Q : List D → DH → Prop} {h : DH} (g : α → D) (b : α → Bool) (f : α → D) (hc : C h) : ∀ (l : List α) (acc : List D), acc.length + l.length ≤ sizeLine →
    (∀ a ∈ l, ∀ R : Bool → DH → Prop, R (b a) h → tt (τ.set n (some (g a))) h R) → (∀ a ∈ l, b a = true → ∀ R : VK', R (f a) h → te (τ.set n (some (g a))) h R) →
    Q (acc ++ (l.filter b).map f) h → lcS n tt te C τ Q (l.map g) acc h
  | [], acc, _, _, _, q => ⟨hc, by simpa using q⟩
  | x :: xs, acc, hl, ht, he, q => by
    simp only [List.length_cons] at hl
    rw [List.map_cons, q_lcons]
    refine ⟨hc, ht x List.mem_cons_self _ ?_⟩
    cases e : b x with
    | true =>
      rw [sif_t]
      refine he x List.mem_cons_self e _ ⟨by omega, lc_map g b f hc xs _ (by simp only [List.length_append, List.length_cons, List.length_nil]; omega) (fun y m => ht y (List.mem_cons_of_mem _ m)) (fun y m => he y (List.mem_cons_of_mem _ m)) ?_⟩
      rw [List.filter_cons_of_pos e] at q
      simpa using q
    | false =>
      rw [sif_f]
      refine lc_map g b f hc xs _ (by omega) (fun y m => ht y (List.mem_cons_of_mem _ m)) (fun y m => he y (List.mem_cons_of_mem _ m)) ?_
      rw [List.filter_cons_of_neg (by simp [e])] at q
      exact q
theorem lc_all {α : Type} {n : Nat} {te : TE'} {C : DH → Prop} {τ : St'} {Q : List D → DH → Prop} {h : DH} (g : α → D) (f : α → D) (hc : C h) (l : List α) (acc : List D) (hl : acc.length + l.length ≤ sizeLine)
    (he : ∀ a ∈ l, ∀ R : VK', R (f a) h → te (τ.set n (some (g a))) h R) (q : Q (acc ++ l.map f) h) : lcS n tyes te C τ Q (l.map g) acc h :=
  lc_map g (fun _ => true) f hc l acc hl (fun _ _ _ r => r) (fun a m _ => he a m) (by rw [List.filter_eq_self.mpr (fun _ _ => rfl)]; exact q)
theorem asc_eq : ∀ (a b : List Int), a.Pairwise (· < ·) → b.Pairwise (· < ·) → (∀ x, x ∈ a ↔ x ∈ b) → a = b
  | [], [], _, _, _ => rfl
  | [], y :: ys, _, _, h => absurd ((h y).mpr List.mem_cons_self) (by simp)
  | x :: xs, [], _, _, h => absurd ((h x).mp List.mem_cons_self) (by simp)
  | x :: xs, y :: ys, ha, hb, h => by
    have ha' := List.pairwise_cons.mp ha
    have hb' := List.pairwise_cons.mp hb
    have e : x = y := by
      rcases List.mem_cons.mp ((h x).mp List.mem_cons_self) with e | m
      · exact e
      · rcases List.mem_cons.mp ((h y).mpr List.mem_cons_self) with e | m2
        · exact e.symm
        · have := hb'.1 x m; have := ha'.1 y m2; omega
    subst e
    congr 1
    refine asc_eq xs ys ha'.2 hb'.2 fun z => ⟨fun m => ?_, fun m => ?_⟩
    · rcases List.mem_cons.mp ((h z).mp (List.mem_cons_of_mem _ m)) with e | m2
      · have := ha'.1 z m; omega
      · exact m2
    · rcases List.mem_cons.mp ((h z).mpr (List.mem_cons_of_mem _ m)) with e | m2
      · have := hb'.1 z m; omega
      · exact m2
def rngI (n : Int) : List Int := (List.range n.toNat).map fun k : Nat => (k : Int)
theorem rngD_I (n : Int) : rngD 0 n.toNat = (rngI n).map D.int := by
  unfold rngD rngI
  rw [List.map_map]
  apply List.map_congr_left
  intro i _
  simp
theorem rngI_mem {n x : Int} : x ∈ rngI n ↔ 0 ≤ x ∧ x < n := by
  unfold rngI
  simp only [List.mem_map, List.mem_range]
  constructor
  · rintro ⟨k, h, rfl⟩; omega
  · intro h; exact ⟨x.toNat, by omega, by omega⟩
theorem rngI_asc (n : Int) : (rngI n).Pairwise (· < ·) := by
  unfold rngI
  rw [List.pairwise_map]
  exact List.pairwise_lt_range.imp fun h => by omega
theorem rngI_len (n : Int) : (rngI n).length = n.toNat := by unfold rngI; simp
def rg2K (ds : List D) (h : DH) (T : List D → (DH → Prop) → DH → Prop) : Prop := match ds with
  | [.int i, .int j] => (-4611686018427387904 ≤ i ∧ i < 4611686018427387904 ∧ -4611686018427387904 ≤ j ∧ j < 4611686018427387904) ∧ T (rngD i (j - i).toNat) (fun _ => True) h
  | _ => False
theorem q_rg2 {ta : TA'} {τ : St'} {h : DH} {T : List D → (DH → Prop) → DH → Prop} : trg2 ta τ h T = ta τ h fun ds h1 => rg2K ds h1 T := id rfl
theorem q_rg2K {i j : Int} {h : DH} {T : List D → (DH → Prop) → DH → Prop} : rg2K [.int i, .int j] h T = ((-4611686018427387904 ≤ i ∧ i < 4611686018427387904 ∧ -4611686018427387904 ≤ j ∧ j < 4611686018427387904) ∧ T (rngD i (j - i).toNat) (fun _ => True) h) := id rfl
section
variable {h : DH} {Q : VK'} {d : D}
theorem q_tv16 {z0 z1 z2 z3 z4 z5 z6 z7 z8 z9 z10 z11 z12 z13 z14 z15 : Option D} {l : St'} : tv 16 (z0 :: z1 :: z2 :: z3 :: z4 :: z5 :: z6 :: z7 :: z8 :: z9 :: z10 :: z11 :: z12 :: z13 :: z14 :: z15 :: some d :: l) h Q ↔ Q d h := ⟨fun ⟨_, e, q⟩ => by cases e; exact q, fun q => ⟨d, rfl, q⟩⟩
theorem q_st16 {z0 z1 z2 z3 z4 z5 z6 z7 z8 z9 z10 z11 z12 z13 z14 z15 z16 : Option D} {o : Option D} {l : St'} : (z0 :: z1 :: z2 :: z3 :: z4 :: z5 :: z6 :: z7 :: z8 :: z9 :: z10 :: z11 :: z12 :: z13 :: z14 :: z15 :: z16 :: l).set 16 o = z0 :: z1 :: z2 :: z3 :: z4 :: z5 :: z6 :: z7 :: z8 :: z9 :: z10 :: z11 :: z12 :: z13 :: z14 :: z15 :: o :: l := id rfl
theorem q_tv17 {z0 z1 z2 z3 z4 z5 z6 z7 z8 z9 z10 z11 z12 z13 z14 z15 z16 : Option D} {l : St'} : tv 17 (z0 :: z1 :: z2 :: z3 :: z4 :: z5 :: z6 :: z7 :: z8 :: z9 :: z10 :: z11 :: z12 :: z13 :: z14 :: z15 :: z16 :: some d :: l) h Q ↔ Q d h := ⟨fun ⟨_, e, q⟩ => by cases e; exact q, fun q => ⟨d, rfl, q⟩⟩
theorem q_st17 {z0 z1 z2 z3 z4 z5 z6 z7 z8 z9 z10 z11 z12 z13 z14 z15 z16 z17 : Option D} {o : Option D} {l : St'} : (z0 :: z1 :: z2 :: z3 :: z4 :: z5 :: z6 :: z7 :: z8 :: z9 :: z10 :: z11 :: z12 :: z13 :: z14 :: z15 :: z16 :: z17 :: l).set 17 o = z0 :: z1 :: z2 :: z3 :: z4 :: z5 :: z6 :: z7 :: z8 :: z9 :: z10 :: z11 :: z12 :: z13 :: z14 :: z15 :: z16 :: o :: l := id rfl
theorem q_tv18 {z0 z1 z2 z3 z4 z5 z6 z7 z8 z9 z10 z11 z12 z13 z14 z15 z16 z17 : Option D} {l : St'} : tv 18 (z0 :: z1 :: z2 :: z3 :: z4 :: z5 :: z6 :: z7 :: z8 :: z9 :: z10 :: z11 :: z12 :: z13 :: z14 :: z15 :: z16 :: z17 :: some d :: l) h Q ↔ Q d h := ⟨fun ⟨_, e, q⟩ => by cases e; exact q, fun q => ⟨d, rfl, q⟩⟩
theorem q_st18 {z0 z1 z2 z3 z4 z5 z6 z7 z8 z9 z10 z11 z12 z13 z14 z15 z16 z17 z18 : Option D} {o : Option D} {l : St'} : (z0 :: z1 :: z2 :: z3 :: z4 :: z5 :: z6 :: z7 :: z8 :: z9 :: z10 :: z11 :: z12 :: z13 :: z14 :: z15 :: z16 :: z17 :: z18 :: l).set 18 o = z0 :: z1 :: z2 :: z3 :: z4 :: z5 :: z6 :: z7 :: z8 :: z9 :: z10 :: z11 :: z12 :: z13 :: z14 :: z15 :: z16 :: z17 :: o :: l := id rfl
theorem q_tv19 {z0 z1 z2 z3 z4 z5 z6 z7 z8 z9 z10 z11 z12 z13 z14 z15 z16 z17 z18 : Option D} {l : St'} : tv 19 (z0 :: z1 :: z2 :: z3 :: z4 :: z5 :: z6 :: z7 :: z8 :: z9 :: z10 :: z11 :: z12 :: z13 :: z14 :: z15 :: z16 :: z17 :: z18 :: some d :: l) h Q ↔ Q d h := ⟨fun ⟨_, e, q⟩ => by cases e; exact q, fun q => ⟨d, rfl, q⟩⟩
theorem q_st19 {z0 z1 z2 z3 z4 z5 z6 z7 z8 z9 z10 z11 z12 z13 z14 z15 z16 z17 z18 z19 : Option D} {o : Option D} {l : St'} : (z0 :: z1 :: z2 :: z3 :: z4 :: z5 :: z6 :: z7 :: z8 :: z9 :: z10 :: z11 :: z12 :: z13 :: z14 :: z15 :: z16 :: z17 :: z18 :: z19 :: l).set 19 o = z0 :: z1 :: z2 :: z3 :: z4 :: z5 :: z6 :: z7 :: z8 :: z9 :: z10 :: z11 :: z12 :: z13 :: z14 :: z15 :: z16 :: z17 :: z18 :: o :: l := id rfl
theorem q_tv20 {z0 z1 z2 z3 z4 z5 z6 z7 z8 z9 z10 z11 z12 z13 z14 z15 z16 z17 z18 z19 : Option D} {l : St'} : tv 20 (z0 :: z1 :: z2 :: z3 :: z4 :: z5 :: z6 :: z7 :: z8 :: z9 :: z10 :: z11 :: z12 :: z13 :: z14 :: z15 :: z16 :: z17 :: z18 :: z19 :: some d :: l) h Q ↔ Q d h := ⟨fun ⟨_, e, q⟩ => by cases e; exact q, fun q => ⟨d, rfl, q⟩⟩
theorem q_st20 {z0 z1 z2 z3 z4 z5 z6 z7 z8 z9 z10 z11 z12 z13 z14 z15 z16 z17 z18 z19 z20 : Option D} {o : Option D} {l : St'} : (z0 :: z1 :: z2 :: z3 :: z4 :: z5 :: z6 :: z7 :: z8 :: z9 :: z10 :: z11 :: z12 :: z13 :: z14 :: z15 :: z16 :: z17 :: z18 :: z19 :: z20 :: l).set 20 o = z0 :: z1 :: z2 :: z3 :: z4 :: z5 :: z6 :: z7 :: z8 :: z9 :: z10 :: z11 :: z12 :: z13 :: z14 :: z15 :: z16 :: z17 :: z18 :: z19 :: o :: l := id rfl
theorem q_tv21 {z0 z1 z2 z3 z4 z5 z6 z7 z8 z9 z10 z11 z12 z13 z14 z15 z16 z17 z18 z19 z20 : Option D} {l : St'} : tv 21 (z0 :: z1 :: z2 :: z3 :: z4 :: z5 :: z6 :: z7 :: z8 :: z9 :: z10 :: z11 :: z12 :: z13 :: z14 :: z15 :: z16 :: z17 :: z18 :: z19 :: z20 :: some d :: l) h Q ↔ Q d h := ⟨fun ⟨_, e, q⟩ => by cases e; exact q, fun q => ⟨d, rfl, q⟩⟩
theorem q_st21 {z0 z1 z2 z3 z4 z5 z6 z7 z8 z9 z10 z11 z12 z13 z14 z15 z16 z17 z18 z19 z20 z21 : Option D} {o : Option D} {l : St'} : (z0 :: z1 :: z2 :: z3 :: z4 :: z5 :: z6 :: z7 :: z8 :: z9 :: z10 :: z11 :: z12 :: z13 :: z14 :: z15 :: z16 :: z17 :: z18 :: z19 :: z20 :: z21 :: l).set 21 o = z0 :: z1 :: z2 :: z3 :: z4 :: z5 :: z6 :: z7 :: z8 :: z9 :: z10 :: z11 :: z12 :: z13 :: z14 :: z15 :: z16 :: z17 :: z18 :: z19 :: z20 :: o :: l := id rfl
theorem q_tv22 {z0 z1 z2 z3 z4 z5 z6 z7 z8 z9 z10 z11 z12 z13 z14 z15 z16 z17 z18 z19 z20 z21 : Option D} {l : St'} : tv 22 (z0 :: z1 :: z2 :: z3 :: z4 :: z5 :: z6 :: z7 :: z8 :: z9 :: z10 :: z11 :: z12 :: z13 :: z14 :: z15 :: z16 :: z17 :: z18 :: z19 :: z20 :: z21 :: some d :: l) h Q ↔ Q d h := ⟨fun ⟨_, e, q⟩ => by cases e; exact q, fun q => ⟨d, rfl, q⟩⟩
theorem q_st22 {z0 z1 z2 z3 z4 z5 z6 z7 z8 z9 z10 z11 z12 z13 z14 z15 z16 z17 z18 z19 z20 z21 z22 : Option D} {o : Option D} {l : St'} : (z0 :: z1 :: z2 :: z3 :: z4 :: z5 :: z6 :: z7 :: z8 :: z9 :: z10 :: z11 :: z12 :: z13 :: z14 :: z15 :: z16 :: z17 :: z18 :: z19 :: z20 :: z21 :: z22 :: l).set 22 o = z0 :: z1 :: z2 :: z3 :: z4 :: z5 :: z6 :: z7 :: z8 :: z9 :: z10 :: z11 :: z12 :: z13 :: z14 :: z15 :: z16 :: z17 :: z18 :: z19 :: z20 :: z21 :: o :: l := id rfl
theorem q_tv23 {z0 z1 z2 z3 z4 z5 z6 z7 z8 z9 z10 z11 z12 z13 z14 z15 z16 z17 z18 z19 z20 z21 z22 : Option D} {l : St'} : tv 23 (z0 :: z1 :: z2 :: z3 :: z4 :: z5 :: z6 :: z7 :: z8 :: z9 :: z10 :: z11 :: z12 :: z13 :: z14 :: z15 :: z16 :: z17 :: z18 :: z19 :: z20 :: z21 :: z22 :: some d :: l) h Q ↔ Q d h := ⟨fun ⟨_, e, q⟩ => by cases e; exact q, fun q => ⟨d, rfl, q⟩⟩
theorem q_st23 {z0 z1 z2 z3 z4 z5 z6 z7 z8 z9 z10 z11 z12 z13 z14 z15 z16 z17 z18 z19 z20 z21 z22 z23 : Option D} {o : Option D} {l : St'} : (z0 :: z1 :: z2 :: z3 :: z4 :: z5 :: z6 :: z7 :: z8 :: z9 :: z10 :: z11 :: z12 :: z13 :: z14 :: z15 :: z16 :: z17 :: z18 :: z19 :: z20 :: z21 :: z22 :: z23 :: l).set 23 o = z0 :: z1 :: z2 :: z3 :: z4 :: z5 :: z6 :: z7 :: z8 :: z9 :: z10 :: z11 :: z12 :: z13 :: z14 :: z15 :: z16 :: z17 :: z18 :: z19 :: z20 :: z21 :: z22 :: o :: l := id rfl
theorem q_tv24 {z0 z1 z2 z3 z4 z5 z6 z7 z8 z9 z10 z11 z12 z13 z14 z15 z16 z17 z18 z19 z20 z21 z22 z23 : Option D} {l : St'} : tv 24 (z0 :: z1 :: z2 :: z3 :: z4 :: z5 :: z6 :: z7 :: z8 :: z9 :: z10 :: z11 :: z12 :: z13 :: z14 :: z15 :: z16 :: z17 :: z18 :: z19 :: z20 :: z21 :: z22 :: z23 :: some d :: l) h Q ↔ Q d h := ⟨fun ⟨_, e, q⟩ => by cases e; exact q, fun q => ⟨d, rfl, q⟩⟩
theorem q_st24 {z0 z1 z2 z3 z4 z5 z6 z7 z8 z9 z10 z11 z12 z13 z14 z15 z16 z17 z18 z19 z20 z21 z22 z23 z24 : Option D} {o : Option D} {l : St'} : (z0 :: z1 :: z2 :: z3 :: z4 :: z5 :: z6 :: z7 :: z8 :: z9 :: z10 :: z11 :: z12 :: z13 :: z14 :: z15 :: z16 :: z17 :: z18 :: z19 :: z20 :: z21 :: z22 :: z23 :: z24 :: l).set 24 o = z0 :: z1 :: z2 :: z3 :: z4 :: z5 :: z6 :: z7 :: z8 :: z9 :: z10 :: z11 :: z12 :: z13 :: z14 :: z15 :: z16 :: z17 :: z18 :: z19 :: z20 :: z21 :: z22 :: z23 :: o :: l := id rfl
theorem q_tv25 {z0 z1 z2 z3 z4 z5 z6 z7 z8 z9 z10 z11 z12 z13 z14 z15 z16 z17 z18 z19 z20 z21 z22 z23 z24 : Option D} {l : St'} : tv 25 (z0 :: z1 :: z2 :: z3 :: z4 :: z5 :: z6 :: z7 :: z8 :: z9 :: z10 :: z11 :: z12 :: z13 :: z14 :: z15 :: z16 :: z17 :: z18 :: z19 :: z20 :: z21 :: z22 :: z23 :: z24 :: some d :: l) h Q ↔ Q d h := ⟨fun ⟨_, e, q⟩ => by cases e; exact q, fun q => ⟨d, rfl, q⟩⟩
theorem q_st25 {z0 z1 z2 z3 z4 z5 z6 z7 z8 z9 z10 z11 z12 z13 z14 z15 z16 z17 z18 z19 z20 z21 z22 z23 z24 z25 : Option D} {o : Option D} {l : St'} : (z0 :: z1 :: z2 :: z3 :: z4 :: z5 :: z6 :: z7 :: z8 :: z9 :: z10 :: z11 :: z12 :: z13 :: z14 :: z15 :: z16 :: z17 :: z18 :: z19 :: z20 :: z21 :: z22 :: z23 :: z24 :: z25 :: l).set 25 o = z0 :: z1 :: z2 :: z3 :: z4 :: z5 :: z6 :: z7 :: z8 :: z9 :: z10 :: z11 :: z12 :: z13 :: z14 :: z15 :: z16 :: z17 :: z18 :: z19 :: z20 :: z21 :: z22 :: z23 :: z24 :: o :: l := id rfl
theorem q_tv26 {z0 z1 z2 z3 z4 z5 z6 z7 z8 z9 z10 z11 z12 z13 z14 z15 z16 z17 z18 z19 z20 z21 z22 z23 z24 z25 : Option D} {l : St'} : tv 26 (z0 :: z1 :: z2 :: z3 :: z4 :: z5 :: z6 :: z7 :: z8 :: z9 :: z10 :: z11 :: z12 :: z13 :: z14 :: z15 :: z16 :: z17 :: z18 :: z19 :: z20 :: z21 :: z22 :: z23 :: z24 :: z25 :: some d :: l) h Q ↔ Q d h := ⟨fun ⟨_, e, q⟩ => by cases e; exact q, fun q => ⟨d, rfl, q⟩⟩
theorem q_st26 {z0 z1 z2 z3 z4 z5 z6 z7 z8 z9 z10 z11 z12 z13 z14 z15 z16 z17 z18 z19 z20 z21 z22 z23 z24 z25 z26 : Option D} {o : Option D} {l : St'} : (z0 :: z1 :: z2 :: z3 :: z4 :: z5 :: z6 :: z7 :: z8 :: z9 :: z10 :: z11 :: z12 :: z13 :: z14 :: z15 :: z16 :: z17 :: z18 :: z19 :: z20 :: z21 :: z22 :: z23 :: z24 :: z25 :: z26 :: l).set 26 o = z0 :: z1 :: z2 :: z3 :: z4 :: z5 :: z6 :: z7 :: z8 :: z9 :: z10 :: z11 :: z12 :: z13 :: z14 :: z15 :: z16 :: z17 :: z18 :: z19 :: z20 :: z21 :: z22 :: z23 :: z24 :: z25 :: o :: l := id rfl
theorem q_tv27 {z0 z1 z2 z3 z4 z5 z6 z7 z8 z9 z10 z11 z12 z13 z14 z15 z16 z17 z18 z19 z20 z21 z22 z23 z24 z25 z26 : Option D} {l : St'} : tv 27 (z0 :: z1 :: z2 :: z3 :: z4 :: z5 :: z6 :: z7 :: z8 :: z9 :: z10 :: z11 :: z12 :: z13 :: z14 :: z15 :: z16 :: z17 :: z18 :: z19 :: z20 :: z21 :: z22 :: z23 :: z24 :: z25 :: z26 :: some d :: l) h Q ↔ Q d h := ⟨fun ⟨_, e, q⟩ => by cases e; exact q, fun q => ⟨d, rfl, q⟩⟩
theorem q_st27 {z0 z1 z2 z3 z4 z5 z6 z7 z8 z9 z10 z11 z12 z13 z14 z15 z16 z17 z18 z19 z20 z21 z22 z23 z24 z25 z26 z27 : Option D} {o : Option D} {l : St'} : (z0 :: z1 :: z2 :: z3 :: z4 :: z5 :: z6 :: z7 :: z8 :: z9 :: z10 :: z11 :: z12 :: z13 :: z14 :: z15 :: z16 :: z17 :: z18 :: z19 :: z20 :: z21 :: z22 :: z23 :: z24 :: z25 :: z26 :: z27 :: l).set 27 o = z0 :: z1 :: z2 :: z3 :: z4 :: z5 :: z6 :: z7 :: z8 :: z9 :: z10 :: z11 :: z12 :: z13 :: z14 :: z15 :: z16 :: z17 :: z18 :: z19 :: z20 :: z21 :: z22 :: z23 :: z24 :: z25 :: z26 :: o :: l := id rfl
theorem q_tv28 {z0 z1 z2 z3 z4 z5 z6 z7 z8 z9 z10 z11 z12 z13 z14 z15 z16 z17 z18 z19 z20 z21 z22 z23 z24 z25 z26 z27 : Option D} {l : St'} : tv 28 (z0 :: z1 :: z2 :: z3 :: z4 :: z5 :: z6 :: z7 :: z8 :: z9 :: z10 :: z11 :: z12 :: z13 :: z14 :: z15 :: z16 :: z17 :: z18 :: z19 :: z20 :: z21 :: z22 :: z23 :: z24 :: z25 :: z26 :: z27 :: some d :: l) h Q ↔ Q d h := ⟨fun ⟨_, e, q⟩ => by cases e; exact q, fun q => ⟨d, rfl, q⟩⟩
theorem q_st28 {z0 z1 z2 z3 z4 z5 z6 z7 z8 z9 z10 z11 z12 z13 z14 z15 z16 z17 z18 z19 z20 z21 z22 z23 z24 z25 z26 z27 z28 : Option D} {o : Option D} {l : St'} : (z0 :: z1 :: z2 :: z3 :: z4 :: z5 :: z6 :: z7 :: z8 :: z9 :: z10 :: z11 :: z12 :: z13 :: z14 :: z15 :: z16 :: z17 :: z18 :: z19 :: z20 :: z21 :: z22 :: z23 :: z24 :: z25 :: z26 :: z27 :: z28 :: l).set 28 o = z0 :: z1 :: z2 :: z3 :: z4 :: z5 :: z6 :: z7 :: z8 :: z9 :: z10 :: z11 :: z12 :: z13 :: z14 :: z15 :: z16 :: z17 :: z18 :: z19 :: z20 :: z21 :: z22 :: z23 :: z24 :: z25 :: z26 :: z27 :: o :: l := id rfl
theorem q_tv29 {z0 z1 z2 z3 z4 z5 z6 z7 z8 z9 z10 z11 z12 z13 z14 z15 z16 z17 z18 z19 z20 z21 z22 z23 z24 z25 z26 z27 z28 : Option D} {l : St'} : tv 29 (z0 :: z1 :: z2 :: z3 :: z4 :: z5 :: z6 :: z7 :: z8 :: z9 :: z10 :: z11 :: z12 :: z13 :: z14 :: z15 :: z16 :: z17 :: z18 :: z19 :: z20 :: z21 :: z22 :: z23 :: z24 :: z25 :: z26 :: z27 :: z28 :: some d :: l) h Q ↔ Q d h := ⟨fun ⟨_, e, q⟩ => by cases e; exact q, fun q => ⟨d, rfl, q⟩⟩
theorem q_st29 {z0 z1 z2 z3 z4 z5 z6 z7 z8 z9 z10 z11 z12 z13 z14 z15 z16 z17 z18 z19 z20 z21 z22 z23 z24 z25 z26 z27 z28 z29 : Option D} {o : Option D} {l : St'} : (z0 :: z1 :: z2 :: z3 :: z4 :: z5 :: z6 :: z7 :: z8 :: z9 :: z10 :: z11 :: z12 :: z13 :: z14 :: z15 :: z16 :: z17 :: z18 :: z19 :: z20 :: z21 :: z22 :: z23 :: z24 :: z25 :: z26 :: z27 :: z28 :: z29 :: l).set 29 o = z0 :: z1 :: z2 :: z3 :: z4 :: z5 :: z6 :: z7 :: z8 :: z9 :: z10 :: z11 :: z12 :: z13 :: z14 :: z15 :: z16 :: z17 :: z18 :: z19 :: z20 :: z21 :: z22 :: z23 :: z24 :: z25 :: z26 :: z27 :: z28 :: o :: l := id rfl
theorem q_tv30 {z0 z1 z2 z3 z4 z5 z6 z7 z8 z9 z10 z11 z12 z13 z14 z15 z16 z17 z18 z19 z20 z21 z22 z23 z24 z25 z26 z27 z28 z29 : Option D} {l : St'} : tv 30 (z0 :: z1 :: z2 :: z3 :: z4 :: z5 :: z6 :: z7 :: z8 :: z9 :: z10 :: z11 :: z12 :: z13 :: z14 :: z15 :: z16 :: z17 :: z18 :: z19 :: z20 :: z21 :: z22 :: z23 :: z24 :: z25 :: z26 :: z27 :: z28 :: z29 :: some d :: l) h Q ↔ Q d h := ⟨fun ⟨_, e, q⟩ => by cases e; exact q, fun q => ⟨d, rfl, q⟩⟩
theorem q_st30 {z0 z1 z2 z3 z4 z5 z6 z7 z8 z9 z10 z11 z12 z13 z14 z15 z16 z17 z18 z19 z20 z21 z22 z23 z24 z25 z26 z27 z28 z29 z30 : Option D} {o : Option D} {l : St'} : (z0 :: z1 :: z2 :: z3 :: z4 :: z5 :: z6 :: z7 :: z8 :: z9 :: z10 :: z11 :: z12 :: z13 :: z14 :: z15 :: z16 :: z17 :: z18 :: z19 :: z20 :: z21 :: z22 :: z23 :: z24 :: z25 :: z26 :: z27 :: z28 :: z29 :: z30 :: l).set 30 o = z0 :: z1 :: z2 :: z3 :: z4 :: z5 :: z6 :: z7 :: z8 :: z9 :: z10 :: z11 :: z12 :: z13 :: z14 :: z15 :: z16 :: z17 :: z18 :: z19 :: z20 :: z21 :: z22 :: z23 :: z24 :: z25 :: z26 :: z27 :: z28 :: z29 :: o :: l := id rfl
theorem q_tv31 {z0 z1 z2 z3 z4 z5 z6 z7 z8 z9 z10 z11 z12 z13 z14 z15 z16 z17 z18 z19 z20 z21 z22 z23 z24 z25 z26 z27 z28 z29 z30 : Option D} {l : St'} : tv 31 (z0 :: z1 :: z2 :: z3 :: z4 :: z5 :: z6 :: z7 :: z8 :: z9 :: z10 :: z11 :: z12 :: z13 :: z14 :: z15 :: z16 :: z17 :: z18 :: z19 :: z20 :: z21 :: z22 :: z23 :: z24 :: z25 :: z26 :: z27 :: z28 :: z29 :: z30 :: some d :: l) h Q ↔ Q d h := ⟨fun ⟨_, e, q⟩ => by cases e; exact q, fun q => ⟨d, rfl, q⟩⟩
theorem q_st31 {z0 z1 z2 z3 z4 z5 z6 z7 z8 z9 z10 z11 z12 z13 z14 z15 z16 z17 z18 z19 z20 z21 z22 z23 z24 z25 z26 z27 z28 z29 z30 z31 : Option D} {o : Option D} {l : St'} : (z0 :: z1 :: z2 :: z3 :: z4 :: z5 :: z6 :: z7 :: z8 :: z9 :: z10 :: z11 :: z12 :: z13 :: z14 :: z15 :: z16 :: z17 :: z18 :: z19 :: z20 :: z21 :: z22 :: z23 :: z24 :: z25 :: z26 :: z27 :: z28 :: z29 :: z30 :: z31 :: l).set 31 o = z0 :: z1 :: z2 :: z3 :: z4 :: z5 :: z6 :: z7 :: z8 :: z9 :: z10 :: z11 :: z12 :: z13 :: z14 :: z15 :: z16 :: z17 :: z18 :: z19 :: z20 :: z21 :: z22 :: z23 :: z24 :: z25 :: z26 :: z27 :: z28 :: z29 :: z30 :: o :: l := id rfl
theorem q_tv32 {z0 z1 z2 z3 z4 z5 z6 z7 z8 z9 z10 z11 z12 z13 z14 z15 z16 z17 z18 z19 z20 z21 z22 z23 z24 z25 z26 z27 z28 z29 z30 z31 : Option D} {l : St'} : tv 32 (z0 :: z1 :: z2 :: z3 :: z4 :: z5 :: z6 :: z7 :: z8 :: z9 :: z10 :: z11 :: z12 :: z13 :: z14 :: z15 :: z16 :: z17 :: z18 :: z19 :: z20 :: z21 :: z22 :: z23 :: z24 :: z25 :: z26 :: z27 :: z28 :: z29 :: z30 :: z31 :: some d :: l) h Q ↔ Q d h := ⟨fun ⟨_, e, q⟩ => by cases e; exact q, fun q => ⟨d, rfl, q⟩⟩
theorem q_st32 {z0 z1 z2 z3 z4 z5 z6 z7 z8 z9 z10 z11 z12 z13 z14 z15 z16 z17 z18 z19 z20 z21 z22 z23 z24 z25 z26 z27 z28 z29 z30 z31 z32 : Option D} {o : Option D} {l : St'} : (z0 :: z1 :: z2 :: z3 :: z4 :: z5 :: z6 :: z7 :: z8 :: z9 :: z10 :: z11 :: z12 :: z13 :: z14 :: z15 :: z16 :: z17 :: z18 :: z19 :: z20 :: z21 :: z22 :: z23 :: z24 :: z25 :: z26 :: z27 :: z28 :: z29 :: z30 :: z31 :: z32 :: l).set 32 o = z0 :: z1 :: z2 :: z3 :: z4 :: z5 :: z6 :: z7 :: z8 :: z9 :: z10 :: z11 :: z12 :: z13 :: z14 :: z15 :: z16 :: z17 :: z18 :: z19 :: z20 :: z21 :: z22 :: z23 :: z24 :: z25 :: z26 :: z27 :: z28 :: z29 :: z30 :: z31 :: o :: l := id rfl
theorem q_tv33 {z0 z1 z2 z3 z4 z5 z6 z7 z8 z9 z10 z11 z12 z13 z14 z15 z16 z17 z18 z19 z20 z21 z22 z23 z24 z25 z26 z27 z28 z29 z30 z31 z32 : Option D} {l : St'} : tv 33 (z0 :: z1 :: z2 :: z3 :: z4 :: z5 :: z6 :: z7 :: z8 :: z9 :: z10 :: z11 :: z12 :: z13 :: z14 :: z15 :: z16 :: z17 :: z18 :: z19 :: z20 :: z21 :: z22 :: z23 :: z24 :: z25 :: z26 :: z27 :: z28 :: z29 :: z30 :: z31 :: z32 :: some d :: l) h Q ↔ Q d h := ⟨fun ⟨_, e, q⟩ => by cases e; exact q, fun q => ⟨d, rfl, q⟩⟩
theorem q_st33 {z0 z1 z2 z3 z4 z5 z6 z7 z8 z9 z10 z11 z12 z13 z14 z15 z16 z17 z18 z19 z20 z21 z22 z23 z24 z25 z26 z27 z28 z29 z30 z31 z32 z33 : Option D} {o : Option D} {l : St'} : (z0 :: z1 :: z2 :: z3 :: z4 :: z5 :: z6 :: z7 :: z8 :: z9 :: z10 :: z11 :: z12 :: z13 :: z14 :: z15 :: z16 :: z17 :: z18 :: z19 :: z20 :: z21 :: z22 :: z23 :: z24 :: z25 :: z26 :: z27 :: z28 :: z29 :: z30 :: z31 :: z32 :: z33 :: l).set 33 o = z0 :: z1 :: z2 :: z3 :: z4 :: z5 :: z6 :: z7 :: z8 :: z9 :: z10 :: z11 :: z12 :: z13 :: z14 :: z15 :: z16 :: z17 :: z18 :: z19 :: z20 :: z21 :: z22 :: z23 :: z24 :: z25 :: z26 :: z27 :: z28 :: z29 :: z30 :: z31 :: z32 :: o :: l := id rfl
theorem q_tv34 {z0 z1 z2 z3 z4 z5 z6 z7 z8 z9 z10 z11 z12 z13 z14 z15 z16 z17 z18 z19 z20 z21 z22 z23 z24 z25 z26 z27 z28 z29 z30 z31 z32 z33 : Option D} {l : St'} : tv 34 (z0 :: z1 :: z2 :: z3 :: z4 :: z5 :: z6 :: z7 :: z8 :: z9 :: z10 :: z11 :: z12 :: z13 :: z14 :: z15 :: z16 :: z17 :: z18 :: z19 :: z20 :: z21 :: z22 :: z23 :: z24 :: z25 :: z26 :: z27 :: z28 :: z29 :: z30 :: z31 :: z32 :: z33 :: some d :: l) h Q ↔ Q d h := ⟨fun ⟨_, e, q⟩ => by cases e; exact q, fun q => ⟨d, rfl, q⟩⟩
theorem q_st34 {z0 z1 z2 z3 z4 z5 z6 z7 z8 z9 z10 z11 z12 z13 z14 z15 z16 z17 z18 z19 z20 z21 z22 z23 z24 z25 z26 z27 z28 z29 z30 z31 z32 z33 z34 : Option D} {o : Option D} {l : St'} : (z0 :: z1 :: z2 :: z3 :: z4 :: z5 :: z6 :: z7 :: z8 :: z9 :: z10 :: z11 :: z12 :: z13 :: z14 :: z15 :: z16 :: z17 :: z18 :: z19 :: z20 :: z21 :: z22 :: z23 :: z24 :: z25 :: z26 :: z27 :: z28 :: z29 :: z30 :: z31 :: z32 :: z33 :: z34 :: l).set 34 o = z0 :: z1 :: z2 :: z3 :: z4 :: z5 :: z6 :: z7 :: z8 :: z9 :: z10 :: z11 :: z12 :: z13 :: z14 :: z15 :: z16 :: z17 :: z18 :: z19 :: z20 :: z21 :: z22 :: z23 :: z24 :: z25 :: z26 :: z27 :: z28 :: z29 :: z30 :: z31 :: z32 :: z33 :: o :: l := id rfl
theorem q_tv35 {z0 z1 z2 z3 z4 z5 z6 z7 z8 z9 z10 z11 z12 z13 z14 z15 z16 z17 z18 z19 z20 z21 z22 z23 z24 z25 z26 z27 z28 z29 z30 z31 z32 z33 z34 : Option D} {l : St'} : tv 35 (z0 :: z1 :: z2 :: z3 :: z4 :: z5 :: z6 :: z7 :: z8 :: z9 :: z10 :: z11 :: z12 :: z13 :: z14 :: z15 :: z16 :: z17 :: z18 :: z19 :: z20 :: z21 :: z22 :: z23 :: z24 :: z25 :: z26 :: z27 :: z28 :: z29 :: z30 :: z31 :: z32 :: z33 :: z34 :: some d :: l) h Q ↔ Q d h := ⟨fun ⟨_, e, q⟩ => by cases e; exact q, fun q => ⟨d, rfl, q⟩⟩
theorem q_st35 {z0 z1 z2 z3 z4 z5 z6 z7 z8 z9 z10 z11 z12 z13 z14 z15 z16 z17 z18 z19 z20 z21 z22 z23 z24 z25 z26 z27 z28 z29 z30 z31 z32 z33 z34 z35 : Option D} {o : Option D} {l : St'} : (z0 :: z1 :: z2 :: z3 :: z4 :: z5 :: z6 :: z7 :: z8 :: z9 :: z10 :: z11 :: z12 :: z13 :: z14 :: z15 :: z16 :: z17 :: z18 :: z19 :: z20 :: z21 :: z22 :: z23 :: z24 :: z25 :: z26 :: z27 :: z28 :: z29 :: z30 :: z31 :: z32 :: z33 :: z34 :: z35 :: l).set 35 o = z0 :: z1 :: z2 :: z3 :: z4 :: z5 :: z6 :: z7 :: z8 :: z9 :: z10 :: z11 :: z12 :: z13 :: z14 :: z15 :: z16 :: z17 :: z18 :: z19 :: z20 :: z21 :: z22 :: z23 :: z24 :: z25 :: z26 :: z27 :: z28 :: z29 :: z30 :: z31 :: z32 :: z33 :: z34 :: o :: l := id rfl
end
end DL
set_option Elab.async false
set_option linter.all false
set_option maxRecDepth 100000
set_option maxHeartbeats 2000000
namespace DL
open PySem PySem.Spec PyProof.Rows L2
section
variable {prog : Program} {w : World} {A : Around} {E : Value → Shared → Prop} {s : Shared}
end
def enD : Nat → List D → List D
  | _, [] => []
  | i, x :: xs => .tup [.int (i : Nat), x] :: enD (i + 1) xs
section
variable {X : Cx} {Y : Wsh} {K : PySem.W.Frag}
def ten (ta : TA') : TI' := fun τ h Q => ta τ h fun ds h1 => match ds with
  | [.tup xs] => Q (enD 0 xs) (fun _ => True) h1
  | _ => False
def enK (ds : List D) (h : DH) (Q : List D → (DH → Prop) → DH → Prop) : Prop := match ds with
  | [.tup xs] => Q (enD 0 xs) (fun _ => True) h
  | _ => False
theorem q_en {ta : TA'} {τ : St'} {h : DH} {Q : List D → (DH → Prop) → DH → Prop} : ten ta τ h Q = ta τ h fun ds h1 => enK ds h1 Q := id rfl
theorem q_enK {xs : List D} {h : DH} {Q : List D → (DH → Prop) → DH → Prop} : enK [.tup xs] h Q = Q (enD 0 xs) (fun _ => True) h := id rfl
end
end DL
set_option Elab.async false
set_option linter.all false
set_option maxRecDepth 100000
namespace DL
open PySem PySem.Spec PyProof.Rows L2
section
variable {X : Cx} {Y : Wsh} {K : PySem.W.Frag} {pos : Pos}
def keyD : Key → D
  | .inl i => .int i
  | .inr s => .str s
def tkeys (td : TE') : TI' := fun τ h Q => td τ h fun x h1 => ∃ a ps, x = .ref a ∧ h1 a = some (.dlk ps) ∧ Q (ps.map fun p => keyD p.1) (fun _ => True) h1
theorem RE.get {h : DH} {H : Hp} {ps : List (Key × D)} {kvs : List (Key × V)} (r : RE K h H ps kvs) : ∀ {i : Nat} {p : Key × D}, ps[i]? = some p → ∃ v, kvs[i]? = some (p.1, v) := by
  induction r with
  | nil => intro i p e; simp at e
  | @cons k d v ps kvs r1 _ ih =>
    intro i p e
    cases i with
    | zero => simp only [List.getElem?_cons_zero, Option.some.injEq] at e; subst e; exact ⟨v, rfl⟩
    | succ i => simpa using ih (i := i) (p := p) (by simpa using e)
def caListD : List D → DH → VK' → Prop := fun ds h Q => match ds with
  | [.ref a] => ∃ ps, h a = some (.dct ps) ∧ Q (.lis (ps.map fun p => keyD p.1)) h
  | _ => False
end
section
variable {τ : St'} {h : DH} {Q : VK'} {a : Addr}
theorem q_listD : caListD [.ref a] h Q = ∃ ps, h a = some (.dct ps) ∧ Q (.lis (ps.map fun p => keyD p.1)) h := id rfl
theorem q_keys {td : TE'} {T : List D → (DH → Prop) → DH → Prop} : tkeys td τ h T = td τ h fun x h1 => ∃ a ps, x = .ref a ∧ h1 a = some (.dlk ps) ∧ T (ps.map fun p => keyD p.1) (fun _ => True) h1 := id rfl
end
end DL
set_option Elab.async false
set_option linter.all false
set_option maxRecDepth 100000
namespace DL
open PySem PySem.Spec PyProof.Rows L2
section
variable {X : Cx} {Y : Wsh} {K : PySem.W.Frag} {pos : Pos}
def caRg1 : List D → DH → VK' → Prop := fun ds h Q => match ds with
  | [.int n] => ∀ p, h p = none → Q (.ref p) (put h p (.ho (.rng 0 n)))
  | _ => False
def trgv (te : TE') : TI' := fun τ h Q => te τ h fun x h1 => ∃ a lo hi, x = .ref a ∧ h1 a = some (.ho (.rng lo hi)) ∧ (-4611686018427387904 ≤ lo ∧ lo < 4611686018427387904 ∧ -4611686018427387904 ≤ hi ∧ hi < 4611686018427387904) ∧ Q (rngD lo (hi - lo).toNat) (fun _ => True) h1
def caMinL : List D → DH → VK' → Prop := fun ds h Q => match ds with
  | [.lis xs] => ∃ ns : List Int, xs = ns.map .int ∧ 0 < ns.length ∧ ∀ m, m ∈ ns → (∀ y, y ∈ ns → m ≤ y) → Q (.int m) h
  | _ => False
end
section
variable {τ : St'} {h : DH} {Q : VK'} {a : Addr}
theorem q_caRg1 {n : Int} : caRg1 [.int n] h Q = ∀ p, h p = none → Q (.ref p) (put h p (.ho (.rng 0 n))) := id rfl
theorem q_rgv {td : TE'} {T : List D → (DH → Prop) → DH → Prop} : trgv td τ h T = td τ h fun x h1 => ∃ a lo hi, x = .ref a ∧ h1 a = some (.ho (.rng lo hi)) ∧ (-4611686018427387904 ≤ lo ∧ lo < 4611686018427387904 ∧ -4611686018427387904 ≤ hi ∧ hi < 4611686018427387904) ∧ T (rngD lo (hi - lo).toNat) (fun _ => True) h1 := id rfl
theorem q_minL {xs : List D} : caMinL [.lis xs] h Q = ∃ ns : List Int, xs = ns.map .int ∧ 0 < ns.length ∧ ∀ m, m ∈ ns → (∀ y, y ∈ ns → m ≤ y) → Q (.int m) h := id rfl
end
end DL
set_option Elab.async false
set_option linter.all false
set_option maxRecDepth 100000
namespace DL
open PySem PySem.Spec PyProof.Rows L2
section
variable {X : Cx} {Y : Wsh} {K : PySem.W.Frag} {pos : Pos}
def opInP : DR2 := fun x y h Q => match y with
  | .lis ds => dOk x ∧ dOk (.lis ds) ∧ Q (.bl (ds.any fun z => deq z x)) h
  | _ => False
def setA {α : Type} : List (Option α) → List Nat → List α → List (Option α)
  | τ, i :: is, d :: ds => setA (τ.set i (some d)) is ds
  | τ, _, _ => τ
theorem setA_len {α : Type} : ∀ (is : List Nat) (ds : List α) (τ : List (Option α)), (setA τ is ds).length = τ.length
  | [], _, _ => rfl
  | _ :: _, [], _ => rfl
  | i :: is, d :: ds, τ => by simp only [setA]; rw [setA_len is ds, List.length_set]
theorem setA_out {α : Type} : ∀ (is : List Nat) (ds : List α) (τ : List (Option α)) (j : Nat), j ∉ is → (setA τ is ds)[j]? = τ[j]?
  | [], _, _, _, _ => rfl
  | _ :: _, [], _, _, _ => rfl
  | i :: is, d :: ds, τ, j, h => by
    simp only [setA]
    rw [setA_out is ds _ j fun m => h (List.mem_cons_of_mem _ m), List.getElem?_set_ne fun e => h (by rw [e]; exact List.mem_cons_self)]
theorem setA_sr {h : DH} {H : Hp} : ∀ (is : List Nat) (ds : List D) (vs : List V) (σ : L2.St) (τ : St'), ds.length = is.length → RDs K h H ds vs → τ.length = σ.length →
    (∀ (j : Nat) (d : D), j ∉ is → τ[j]? = some (some d) → ∃ v, σ[j]? = some (some v) ∧ RD K h H d v) → SR K h H (setA σ is vs) (setA τ is ds)
  | [], [], vs, σ, τ, _, r, hl, hp => by
    cases (show vs = [] from r)
    intro j d e
    exact hp j d (by simp) e
  | i :: is, d :: ds, vs, σ, τ, hn, r, hl, hp => by
    obtain ⟨v, w, rfl, r1, r2⟩ := r
    simp only [setA]
    refine setA_sr is ds w _ _ (by simpa using hn) r2 (by rw [List.length_set, List.length_set, hl]) fun j e nj ej => ?_
    by_cases hij : i = j
    · subst hij
      by_cases hi : i < τ.length
      · rw [List.getElem?_set_self hi] at ej
        cases ej
        exact ⟨v, List.getElem?_set_self (by omega), r1⟩
      · rw [List.getElem?_eq_none (by rw [List.length_set]; omega)] at ej
        cases ej
    · rw [List.getElem?_set_ne hij] at ej
      obtain ⟨u, e1, q1⟩ := hp j e (by simp only [List.mem_cons, not_or]; exact ⟨fun z => hij z.symm, nj⟩) ej
      exact ⟨u, by rw [List.getElem?_set_ne hij]; exact e1, q1⟩
  | [], _ :: _, _, _, _, hn, _, _, _ => by simp at hn
  | _ :: _, [], _, _, _, hn, _, _, _ => by simp at hn
def gNs : List Nat → TGs
  | [] => gNil
  | i :: is => gCons (gName i) (gNs is)
theorem gNs_of : ∀ (is : List Nat) (vs : List V) (σ : L2.St) (H : Hp) (Q : L2.St → Hp → Prop), vs.length = is.length → Q (setA σ is vs) H → gNs is vs σ H Q
  | [], [], _, _, _, _, q => ⟨rfl, q⟩
  | i :: is, v :: vs, σ, H, Q, e, q => ⟨v, vs, rfl, gNs_of is vs _ H Q (by simpa using e) q⟩
  | [], _ :: _, _, _, _, e, _ => by simp at e
  | _ :: _, [], _, _, _, e, _ => by simp at e
theorem wipe_in {σ : L2.St} {j : Nat} : ∀ {is : List Nat}, j ∈ is → (wipe σ is)[j]? = σ[j]?.map fun _ => none
  | i :: is, m => by
    unfold wipe
    by_cases e : i = j
    · subst e
      by_cases hi : i < σ.length
      · rw [List.getElem?_set_self (by rw [wipe_length]; exact hi), List.getElem?_eq_getElem hi]; rfl
      · rw [List.getElem?_eq_none (by rw [List.length_set, wipe_length]; omega), List.getElem?_eq_none (by omega)]; rfl
    · rw [List.getElem?_set_ne e]
      exact wipe_in ((List.mem_cons.mp m).resolve_left fun z => e z.symm)
theorem wipe_set {σ : L2.St} {is : List Nat} {vs : List V} : wipe (setA (wipe σ is) is vs) is = wipe σ is := by
  apply List.ext_getElem?
  intro j
  by_cases m : j ∈ is
  · rw [wipe_in m, wipe_in m]
    by_cases hj : j < σ.length
    · rw [List.getElem?_eq_getElem (by rw [setA_len, wipe_length]; exact hj), List.getElem?_eq_getElem hj]; rfl
    · rw [List.getElem?_eq_none (by rw [setA_len, wipe_length]; omega), List.getElem?_eq_none (by omega)]
  · rw [wipe_out m, setA_out is vs _ j m]
def lcT (is : List Nat) (tt : TT') (te : TE') (C : DH → Prop) (τ : St') (Q : List D → DH → Prop) : List D → List D → DH → Prop
  | [], acc, h => C h ∧ Q acc h
  | x :: xs, acc, h => C h ∧ ∃ ds, x = .tup ds ∧ ds.length = is.length ∧ tt (setA τ is ds) h fun b h1 => if b = true then te (setA τ is ds) h1 fun y h2 => acc.length < sizeLine ∧ lcT is tt te C τ Q xs (acc ++ [y]) h2 else lcT is tt te C τ Q xs acc h1
def tlcT (ti : TI') (is : List Nat) (tt : TT') (te : TE') : TE' := fun τ h Q => ti τ h fun xs C h1 => ∀ p, h1 p = none → lcT is tt te C τ (fun ds h2 => Q (.lis ds) (del h2 p)) xs [] (put h1 p .hid)
theorem lcT_imp {ti : TI'} {is : List Nat} {tt : TT'} {te : TE'} {σ : L2.St} {H : Hp} {Q : VK} (q : lE K Y (tlcT ti is tt te) σ H Q) : tLc (lI K Y ti) (gTup K is.length (gNs is)) (lT K Y tt) (lE K Y te) is σ H Q := by
  obtain ⟨τ, h, Q', at', q, f⟩ := q
  refine ⟨τ, h, _, at', q, fun xs C h1 H1 J k1 hr1 wd q1 p np => ?_⟩
  have q1 := q1 p (hr1.fresh np)
  let St (j : Nat) (h2 : DH) (H2 : Hp) (rest acc : List D) : Prop := ∃ accV, KP h1 H1 h2 H2 ∧ HR K h2 H2 ∧ h2 p = some .hid ∧ H2 p = some (.lst accV) ∧ RDs K h2 H2 acc accV ∧ lcT is tt te C τ (fun ds h2 => Q' (.lis ds) (del h2 p)) rest acc h2
  refine ⟨fun j m H2 => ∃ h2 acc, j + m = xs.length ∧ St j h2 H2 (xs.drop j) acc, ⟨xs.length, put h1 p .hid, [], Nat.zero_add _, [], KP.newL np, hr1.newH np, put_same, upd_same, rfl, q1⟩, fun j m H2 hW => ?_⟩
  obtain ⟨h2, acc, em, accV, k2, hr2, hp, Hp2, ra, q2⟩ := hW
  cases ed : xs.drop j with
  | nil =>
    rw [ed] at q2
    have hl : xs.length ≤ j := by
      have := congrArg List.length ed
      rw [List.length_drop] at this
      simp only [List.length_nil] at this
      omega
    have hj : j = xs.length := by omega
    rw [hj]
    have kn : KN h2 H2 (del h2 p) H2 := fun b u nb eb => ⟨by by_cases z : b = p; rw [z]; exact del_same; rw [del_ne z]; exact nb, eb⟩
    refine .inl ⟨wd.stop h2 H2 k2 hr2 q2.1, f (.lis acc) (del h2 p) (.ref p) H2 (fun a o st e => ?_) (fun a o e => ?_) ⟨p, accV, rfl, del_same, Hp2, RDs.monoN kn _ _ ra⟩ q2.2⟩
    · obtain ⟨e1, e2⟩ := (k1.trans k2) a o st e
      obtain ⟨_, e3⟩ := k1 a o st e
      have ne : a ≠ p := fun z => by rw [z, np] at e3; cases e3
      exact ⟨by rw [del_ne ne]; exact e1, e2⟩
    · have ne : a ≠ p := fun z => by rw [z, del_same] at e; cases e
      rw [del_ne ne] at e
      exact (hr2 a o e).on kn fun _ z => z
  | cons x r =>
    rw [ed] at q2
    obtain ⟨ex, er, hlt⟩ := drop_cons ed
    obtain ⟨hC, ds, rfl, dl, q2⟩ := q2
    refine .inr ⟨wd.go h2 H2 j _ k2 hr2 hC ex, fun H' => ∃ h2 acc, St j h2 H' r acc, fun H' ⟨h', a', z⟩ => ⟨m - 1, by omega, h', a', by omega, by rw [er]; exact z⟩, fun v H3 hy => ?_⟩
    obtain ⟨k3, hr3, a, vs, rfl, ta, rs⟩ := wd.yld h2 H2 j _ v H3 k2 hr2 hC ex hy
    have pst : still (h2 p) = true := by rw [hp]; rfl
    have Hp3 := (k3 p _ pst Hp2).2
    have kk := k2.trans k3
    have ra3 := RDs.mono k3 _ _ ra
    have srt : ∀ {h' : DH} {H' : Hp}, KP h H h' H' → RDs K h' H' ds vs → SR K h' H' (setA (wipe σ is) is vs) (setA τ is ds) := fun {h' H'} kp rv =>
      setA_sr is ds vs _ _ dl rv (by rw [wipe_length]; exact at'.len) fun j d nj ej => by
        obtain ⟨u, e1, q1⟩ := at'.sr j d ej
        exact ⟨u, by rw [wipe_out nj]; exact e1, RD.mono kp _ _ q1⟩
    have len : (setA τ is ds).length = (setA (wipe σ is) is vs).length := by rw [setA_len, setA_len, wipe_length]; exact at'.len
    refine ⟨a, vs, rfl, ta.sq, by rw [rs.length]; exact dl, gNs_of is vs _ _ _ (by rw [rs.length]; exact dl) ⟨wipe_set, setA τ is ds, h2, _, at'.next (k1.trans kk) hr3 len (srt (k1.trans kk) rs), q2, fun b h4 H4 k4 hr4 q4 => ?_⟩⟩
    have e4 := k4 p _ pst Hp3
    have k14 := kk.trans k4
    have ra4 := RDs.mono k4 _ _ ra3
    cases b with
    | false =>
      rw [if_neg Bool.false_ne_true] at q4
      exact iteF ⟨h4, acc, accV, k14, hr4, e4.1.trans hp, e4.2, ra4, q4⟩
    | true =>
      rw [if_pos rfl] at q4
      refine iteT ⟨setA τ is ds, h4, _, at'.next (k1.trans k14) hr4 len (srt (k1.trans k14) (RDs.mono k4 _ _ rs)), q4, fun y h5 u H5 k5 hr5 ry q5 => ?_⟩
      have pst4 : still (h4 p) = true := by rw [e4.1, hp]; rfl
      have e5 := k5 p _ pst4 e4.2
      have hp5 : h5 p = some .hid := e5.1.trans (e4.1.trans hp)
      have kn : KN h5 H5 h5 (upd H5 p (.lst (accV ++ [u]))) := fun b o nb eb => by
        have ne : b ≠ p := fun z => by rw [z, hp5] at nb; cases nb
        exact ⟨nb, by rw [upd_ne ne]; exact eb⟩
      refine ⟨accV, e5.2, by rw [ra.length]; exact q5.1, h5, acc ++ [y], accV ++ [u], fun a o st e => ?_, fun a o e => ?_, hp5, upd_same, RDs.monoN kn _ _ ((RDs.mono k5 _ _ ra4).append (.cons ry .nil)), q5.2⟩
      · obtain ⟨z1, z2⟩ := (k14.trans k5) a o st e
        have ne : a ≠ p := fun z => by rw [z, np] at e; cases e
        exact ⟨z1, by rw [upd_ne ne]; exact z2⟩
      · by_cases z : a = p
        · rw [z, hp5] at e; cases e; rw [z]; exact ⟨_, upd_same⟩
        · exact (hr5 a o e).on kn fun u e1 => by rw [upd_ne z]; exact e1
theorem de_lcT {elt tg iter : Expr} {ifs : List Expr} {scope : Scope} {own : List (Str × Nat)} {is : List Nat} {ti : TI'} {tt : TT'} {te : TE'} (hc : X.calm = true) (hN : X.N.Nodup) (hi : DI X Y tg iter ti) (ho : own.map (·.2) = is) (ok : BlkOk X.N X.env.scope scope own)
    (hg : ∀ (s : Shared) (H : Hp) (C : Addr) (cl : List (Str × Addr)) (fp : List Addr), PG (X.blk s H scope (compEnvC scope cl C X.env) fp) tg (gTup X.K is.length (gNs is)))
    (ht : ∀ (s : Shared) (H : Hp) (C : Addr) (cl : List (Str × Addr)) (fp : List Addr), DTs (X.blk s H scope (compEnvC scope cl C X.env) fp) Y ifs tt)
    (he : ∀ (s : Shared) (H : Hp) (C : Addr) (cl : List (Str × Addr)) (fp : List Addr), DE (X.blk s H scope (compEnvC scope cl C X.env) fp) Y elt te) (hs : ∀ x, foldedSetIterable iter X.env x = pure x := by intro _; rfl) :
    DE X Y (.ListComp elt [⟨tg, iter, ifs, 0⟩] scope pos) (tlcT ti is tt te) := by
  subst ho
  exact (pe_lc (tt := lT X.K Y tt) (te := lE X.K Y te) hc hN hi ok hg ht he hs).imp fun _ _ _ q => lcT_imp q
end
section
variable {τ : St'} {h : DH} {Q : VK'} {a : Addr} {x y : D}
theorem q_inP {ds : List D} : opInP x (.lis ds) h Q = (dOk x ∧ dOk (.lis ds) ∧ Q (.bl (ds.any fun z => deq z x)) h) := id rfl
end
theorem room65 {k : Nat} {A : Around} (r : Room k A) : A.units + 65 < cLine := by have := r.un; omega
end DL
set_option Elab.async false
set_option linter.all false
set_option maxRecDepth 100000
namespace DL
open PySem PySem.Spec PyProof.Rows L2
open L2H (RoomH Hot1 PinOk)
section
variable {X : Cx} {Y : Wsh} {K : PySem.W.Frag} {pos : Pos}
end
end DL
set_option Elab.async false
set_option linter.all false
set_option maxRecDepth 100000
set_option maxHeartbeats 1000000
namespace DL
open PySem PySem.Spec PyProof.Rows L2 RT
section
variable {prog : Program} {w : World} {A : Around} {E : Value → Shared → Prop} {s : Shared}
end
section
variable {X : Cx} {Y : Wsh} {K : PySem.W.Frag}
end
end DL
set_option Elab.async false
set_option linter.all false
set_option maxRecDepth 100000
set_option maxHeartbeats 2000000
namespace DL
open PySem PySem.Spec PyProof.Rows L2
open L2H (RoomH Hot1 PinOk cxH inv_startH HotC)
open HotX (HotAt raiseNew_hot)
section
variable {prog : Program} {w : World} {A : Around} {E : Value → Shared → Prop} {s : Shared}
end
structure TurnJ (P : Program) (w : World) (K : PySem.W.Frag) (tg : Expr) (J : It) (fp : List Addr) (it : Addr) (tn : Nat → Heap → Prop) : Prop where
  mem : it ∈ fp
  obj : ∀ i h, tn i h → ∀ b ∈ fp, ∃ o, h.get? b = some o ∧ ∀ v, o.data ≠ .cell v
  keep : ∀ i h h', tn i h → (∀ b ∈ fp, ∀ o, h.get? b = some o → h'.get? b = some o) → tn i h'
  item : ∀ (X : Cx), X.prog = P → X.w = w → X.K = K → ∀ (i : Nat) (pins : List (Addr × Obj)) (s : Shared) (σ : L2.St) (H : Hp) (E : Value → Shared → Prop), Inv X pins σ H s → (∀ b ∈ fp, FpOk X pins H b) → tn i s.heap → J.go i H →
    wpAny (model P w) X.A (pyNext (.ref it)) (fun r s1 => ∃ u, r = some u ∧
      wpAny (model P w) X.A (letOwnedTupleGo tg (.ref it) u) (fun _ s2 => ∃ x H', Inv X pins σ H' s2 ∧ RelV x u ∧ J.yld i H x H' ∧ tn (i + 1) s2.heap ∧ ∀ b ∈ fp, H' b = none) E s1) E s
  done : ∀ (X : Cx), X.prog = P → X.w = w → X.K = K → ∀ (i : Nat) (pins : List (Addr × Obj)) (s : Shared) (σ : L2.St) (H : Hp) (E : Value → Shared → Prop) (x1 : Addr), HotAt X.A x1 s.heap → x1 ≠ it → Inv X pins σ H s → (∀ b ∈ fp, FpOk X pins H b) → tn i s.heap → J.stop i H →
    wpAny (model P w) X.A (pyNext (.ref it)) (fun r s1 => r = none ∧ Inv X pins σ H s1) E s
  self : ∀ (A : Around) (i : Nat) (s : Shared) (Q : Value → Shared → Prop) (E : Value → Shared → Prop), tn i s.heap → Q (.ref it) s → wpAny (model P w) A (pyIter (.ref it)) Q E s
def PIEJ (X : Cx) (pins : List (Addr × Obj)) (σ : L2.St) (tg : Expr) (R : It → Hp → Prop) (itv : Value) (s2 : Shared) : Prop :=
  ∃ (it : Addr) (fp : List Addr) (tn : Nat → Heap → Prop) (J : It) (H' : Hp), itv = .ref it ∧ Inv X pins σ H' s2 ∧ TurnJ X.prog X.w X.K tg J fp it tn ∧ tn 0 s2.heap ∧ (∀ b ∈ fp, FpOk X pins H' b) ∧ R J H'
structure PIJ (X : Cx) (tg iter : Expr) (wi : TI) : Prop where
  run : ∀ (pins : List (Addr × Obj)) (s : Shared) (σ : L2.St) (H : Hp) (R : It → Hp → Prop), Inv X pins σ H s → wi σ H R →
    wpAny (model X.prog X.w) X.A (eval iter X.env) (fun v s1 => wpAny (model X.prog X.w) X.A (pyIter v) (PIEJ X pins σ tg R) X.xe s1) X.xe s
section
variable {X : Cx} {Y : Wsh} {K : PySem.W.Frag}
theorem PIJ.imp {tg iter : Expr} {t u : TI} (p : PIJ X tg iter t) (h : ∀ σ H R, u σ H R → t σ H R) : PIJ X tg iter u := ⟨fun pins s σ H R I q => p.run pins s σ H R I (h σ H R q)⟩
end
section
variable {P : Program} {w : World} {K : PySem.W.Frag} {mg : Str → Option Value} {base : Heap}
end
end DL
set_option Elab.async false
set_option linter.all false
namespace DL
open PySem PySem.Spec PyProof.Rows L2
section
variable {X : Cx} {Y : Wsh} {K : PySem.W.Frag}
end
end DL
set_option Elab.async false
set_option linter.all false
set_option maxRecDepth 100000
set_option maxHeartbeats 2000000
namespace DL
open PySem PySem.Spec PyProof.Rows L2
section
variable {X : Cx} {Y : Wsh}
section
variable {j : Nat} {f : Addr} {fd : FuncData} {ps : List Str} {sp : Sp'}
def bArr : Option (Value × Value) → Array Value
  | none => #[]
  | some p => #[p.1, p.2]
def BRel (K : PySem.W.Frag) (h : DH) (H : Hp) : Option (D × D) → Option (Value × Value) → Prop
  | none, none => True
  | some b, some p => ∃ v k, RelV v p.1 ∧ RelV k p.2 ∧ RD K h H b.1 v ∧ RD K h H b.2 k
  | _, _ => False
theorem BRel.mono {K : PySem.W.Frag} {h h' : DH} {H H' : Hp} (k : KP h H h' H') : ∀ {b : Option (D × D)} {p : Option (Value × Value)}, BRel K h H b p → BRel K h' H' b p
  | none, none, _ => trivial
  | some b, some p, ⟨v, w, a, c, d, e⟩ => ⟨v, w, a, c, RD.mono k _ _ d, RD.mono k _ _ e⟩
  | none, some _, z => z.elim
  | some _, none, z => z.elim
structure MinAt (X : Cx) (pins : List (Addr × Obj)) (σ : L2.St) (a it S : Addr) (ds : List D) (vs : List V) (dd : D) (dv : Value) (i : Nat) (best : Option (D × D)) (bv : Option (Value × Value)) (h : DH) (H : Hp) (s : Shared) : Prop where
  inv : Inv X pins σ H s
  iter : s.heap.IsListIter it a i
  itn : H it = none
  sn : H S = none
  lst : ∃ c, s.heap.get? S = some { cls := .type "list", dict := none, data := .seq (bArr bv) c, slots := #[] }
  hr : HR X.K h H
  an : h a = none
  al : H a = some (.lst vs)
  rs : RDs X.K h H ds vs
  dfl : ∃ v, RelV v dv ∧ RD X.K h H dd v
  b : BRel X.K h H best bv
theorem MinAt.ne {X : Cx} {pins : List (Addr × Obj)} {σ : L2.St} {a it S : Addr} {ds : List D} {vs : List V} {dd : D} {dv : Value} {i : Nat} {best : Option (D × D)} {bv : Option (Value × Value)} {h : DH} {H : Hp} {s : Shared} (m : MinAt X pins σ a it S ds vs dd dv i best bv h H s) :
    it ≠ S ∧ a ≠ it ∧ a ≠ S := by
  refine ⟨fun e => ?_, fun e => ?_, fun e => ?_⟩
  · obtain ⟨o, e1, e2, _⟩ := m.iter
    obtain ⟨c, e3⟩ := m.lst
    rw [e, e3] at e1
    cases e1
    exact absurd (show Value.type "list" = Value.type "list_iterator" from e2) (by decide)
  · have z := m.al; rw [e, m.itn] at z; cases z
  · have z := m.al; rw [e, m.sn] at z; cases z
end
end
section
variable {prog : Program} {w : World} {A : Around} {E : Value → Shared → Prop} {s : Shared}
end
section
variable {X : Cx} {Y : Wsh} {j : Nat} {f : Addr} {fd : FuncData} {ps : List Str} {sp : Sp'}
end
end DL
set_option Elab.async false
set_option linter.all false
set_option maxRecDepth 100000
set_option maxHeartbeats 2000000
namespace DL
open PySem PySem.Spec PyProof.Rows L2
section
variable {prog : Program} {w : World} {A : Around} {E : Value → Shared → Prop} {s : Shared}
open PySem.SeqAt in
open PySem.SeqAt in
end
section
variable {X : Cx}
end
end DL
set_option Elab.async false
set_option linter.all false
set_option maxRecDepth 100000
namespace DL
open PySem PySem.Spec PyProof.Rows L2
section
variable {X : Cx} {Y : Wsh} {K : PySem.W.Frag}
end
end DL
set_option Elab.async false
set_option linter.all false
set_option maxRecDepth 100000
namespace DL
open PySem PySem.Spec PyProof.Rows L2
section
variable {X : Cx} {Y : Wsh} {K : PySem.W.Frag} {pos : Pos}
variable {x : Str} {p : Pos} {a : Expr} {es : List Expr} {tr : TA'} {id : String} {r : List V → Hp → VK → Prop} {r' : List D → DH → VK' → Prop}
end
end DL
set_option Elab.async false
set_option linter.all false
set_option maxRecDepth 100000
set_option maxHeartbeats 1000000
namespace DL
open PySem PySem.Spec PyProof.Rows L2
def lcI (i : Nat) (tt : TT') (te : TE') (C : DH → Prop) (p : Addr) (τ : St') (N : DH → Prop) : List D → DH → Prop
  | [], h => C h ∧ N h
  | y :: ys, h => C h ∧ tt (τ.set i (some y)) h fun b h1 => if b = true then te (τ.set i (some y)) h1 fun z h2 => ∃ acc, h2 p = some (.lst acc) ∧ acc.length < sizeLine ∧ lcI i tt te C p τ N ys (put h2 p (.lst (acc ++ [z]))) else lcI i tt te C p τ N ys h1
def lcO (i : Nat) (tt : TT') (ti1 : TI') (i1 : Nat) (tt1 : TT') (te : TE') (C : DH → Prop) (p : Addr) (τ : St') (Q : List D → DH → Prop) : List D → DH → Prop
  | [], h => C h ∧ ∃ acc, h p = some (.lst acc) ∧ Q acc h
  | x :: xs, h => C h ∧ tt (τ.set i (some x)) h fun b h1 => if b = true then ti1 (τ.set i (some x)) h1 fun ys C1 h2 => lcI i1 tt1 te C1 p (τ.set i (some x)) (fun h3 => lcO i tt ti1 i1 tt1 te C p τ Q xs h3) ys h2 else lcO i tt ti1 i1 tt1 te C p τ Q xs h1
def tlc2 (ti : TI') (i : Nat) (tt : TT') (ti1 : TI') (i1 : Nat) (tt1 : TT') (te : TE') : TE' := fun τ h Q => ti τ h fun xs C h1 => ∀ p, h1 p = none → lcO i tt ti1 i1 tt1 te C p (τ.set i1 none) (fun ds h2 => Q (.lis ds) (del h2 p)) xs (put h1 p (.lst []))
section
variable {X : Cx} {Y : Wsh} {K : PySem.W.Frag} {pos : Pos}
theorem SR.wipe1 {h : DH} {H : Hp} {σ : L2.St} {τ : St'} {i : Nat} (r : SR K h H σ τ) : SR K h H (σ.set i none) (τ.set i none) := fun j e ej => by
  by_cases hij : i = j
  · subst hij
    by_cases hi : i < τ.length
    · rw [List.getElem?_set_self hi] at ej; cases ej
    · rw [List.getElem?_eq_none (by rw [List.length_set]; omega)] at ej; cases ej
  · rw [List.getElem?_set_ne hij] at ej ⊢
    exact r j e ej
theorem wipe2 (σ : L2.St) (i i1 : Nat) : wipe σ [i, i1] = (σ.set i1 none).set i none := rfl
theorem wipe2_set (σ : L2.St) (i i1 : Nat) (v : V) : wipe (((σ.set i1 none).set i none).set i (some (v))) [i, i1] = (σ.set i1 none).set i none := by
  rw [wipe2]
  by_cases e : i = i1
  · subst e
    simp only [List.set_set]
  · rw [List.set_set, List.set_comm _ _ e, List.set_set, List.set_set]
theorem lc2_imp {ti ti1 : TI'} {i i1 : Nat} {tt tt1 : TT'} {te : TE'} {σ : L2.St} {H : Hp} {Q : VK} (q : lE K Y (tlc2 ti i tt ti1 i1 tt1 te) σ H Q) : tLc2 (lI K Y ti) (gName i) (lT K Y tt) (lI K Y ti1) (gName i1) (lT K Y tt1) (lE K Y te) [i, i1] [i1] σ H Q := by
  obtain ⟨τ, h, Q', at', q, f⟩ := q
  refine ⟨τ, h, _, at', q, fun xs C h1 H1 J k1 hr1 wd q1 p np => ?_⟩
  have q1 := q1 p (hr1.fresh np)
  have wσ : wipe σ [i, i1] = (σ.set i1 none).set i none := rfl
  refine ⟨fun j m H2 => ∃ h2, KP h1 H1 h2 H2 ∧ HR K h2 H2 ∧ j + m = xs.length ∧ lcO i tt ti1 i1 tt1 te C p (τ.set i1 none) (fun ds h2 => Q' (.lis ds) (del h2 p)) (xs.drop j) h2,
    ⟨xs.length, put h1 p (.lst []), KP.newL np, hr1.newL np rfl, Nat.zero_add _, q1⟩, fun j m H2 hW => ?_⟩
  obtain ⟨h2, k2, hr2, em, q2⟩ := hW
  cases ed : xs.drop j with
  | nil =>
    rw [ed] at q2
    have hj : j = xs.length := by
      have := congrArg List.length ed
      rw [List.length_drop] at this
      simp only [List.length_nil] at this
      omega
    rw [hj]
    obtain ⟨hc, acc, hp, q2⟩ := q2
    obtain ⟨accV, Hp2, ra⟩ := hr2.lst hp
    refine .inl ⟨wd.stop h2 H2 k2 hr2 hc, f (.lis acc) (del h2 p) (.ref p) H2 (fun a o st e => ?_) (fun a o e => ?_) ?_ q2⟩
    · obtain ⟨e1, e2⟩ := (k1.trans k2) a o st e
      obtain ⟨_, e3⟩ := k1 a o st e
      have ne : a ≠ p := fun z => by rw [z, np] at e3; cases e3
      exact ⟨by rw [del_ne ne]; exact e1, e2⟩
    · have ne : a ≠ p := fun z => by rw [z, del_same] at e; cases e
      rw [del_ne ne] at e
      exact (hr2 a o e).on (fun b u nb eb => ⟨by by_cases z : b = p; rw [z]; exact del_same; rw [del_ne z]; exact nb, eb⟩) fun _ z => z
    · exact ⟨p, accV, rfl, del_same, Hp2, RDs.monoN (fun b u nb eb => ⟨by by_cases z : b = p; rw [z]; exact del_same; rw [del_ne z]; exact nb, eb⟩) _ _ ra⟩
  | cons x r =>
    rw [ed] at q2
    obtain ⟨ex, er, hlt⟩ := drop_cons ed
    refine .inr ⟨wd.go h2 H2 j x k2 hr2 q2.1 ex, fun H' => ∃ h2, KP h1 H1 h2 H' ∧ HR K h2 H' ∧ lcO i tt ti1 i1 tt1 te C p (τ.set i1 none) (fun ds h2 => Q' (.lis ds) (del h2 p)) r h2,
      fun H' ⟨h', a1, a2, a3⟩ => ⟨m - 1, by omega, h', a1, a2, by omega, by rw [er]; exact a3⟩, fun v H3 hy => ?_⟩
    obtain ⟨k3, hr3, rv⟩ := wd.yld h2 H2 j x v H3 k2 hr2 q2.1 ex hy
    have kk := k2.trans k3
    have len' : (τ.set i1 none).length = (σ.set i1 none).length := by rw [List.length_set, List.length_set]; exact at'.len
    have sr2 : ∀ {h' : DH} {H' : Hp}, KP h2 H3 h' H' → SR K h' H' (((σ.set i1 none).set i none).set i (some v)) ((τ.set i1 none).set i (some x)) := fun {h' H'} k => by
      rw [List.set_set]
      exact (SR.wipe1 (at'.sr.mono (k1.trans (kk.trans k)))).set len' (RD.mono k _ _ rv)
    have len2 : ((τ.set i1 none).set i (some x)).length = (((σ.set i1 none).set i none).set i (some v)).length := by simp only [List.length_set]; exact at'.len
    rw [wσ]
    refine ⟨wipe2_set σ i i1 v, (τ.set i1 none).set i (some x), h2, _, at'.next (k1.trans kk) hr3 len2 (sr2 .refl), q2.2, fun b h4 H4 k4 hr4 q4 => ?_⟩
    cases b with
    | false =>
      rw [if_neg Bool.false_ne_true] at q4
      exact iteF ⟨h4, kk.trans k4, hr4, q4⟩
    | true =>
      rw [if_pos rfl] at q4
      refine iteT ⟨(τ.set i1 none).set i (some x), h4, _, at'.next (k1.trans (kk.trans k4)) hr4 len2 (sr2 k4), q4, fun ys C1 h5 H5 J1 k5 hr5 wd1 q5 => ?_⟩
      refine ⟨fun j k H6 => ∃ h6, KP h5 H5 h6 H6 ∧ HR K h6 H6 ∧ j + k = ys.length ∧ lcI i1 tt1 te C1 p ((τ.set i1 none).set i (some x)) (fun h3 => lcO i tt ti1 i1 tt1 te C p (τ.set i1 none) (fun ds h2 => Q' (.lis ds) (del h2 p)) r h3) (ys.drop j) h6,
        ⟨ys.length, h5, .refl, hr5, Nat.zero_add _, q5⟩, fun j k H6 hW => ?_⟩
      obtain ⟨h6, k6, hr6, em6, q6⟩ := hW
      have k46 := k4.trans (k5.trans k6)
      cases ed6 : ys.drop j with
      | nil =>
        rw [ed6] at q6
        have hj : j = ys.length := by
          have := congrArg List.length ed6
          rw [List.length_drop] at this
          simp only [List.length_nil] at this
          omega
        rw [hj]
        exact .inl ⟨wd1.stop h6 H6 k6 hr6 q6.1, h6, kk.trans k46, hr6, q6.2⟩
      | cons y r6 =>
        rw [ed6] at q6
        obtain ⟨ex6, er6, hlt6⟩ := drop_cons ed6
        refine .inr ⟨wd1.go h6 H6 j y k6 hr6 q6.1 ex6, fun H' => ∃ h6, KP h5 H5 h6 H' ∧ HR K h6 H' ∧ lcI i1 tt1 te C1 p ((τ.set i1 none).set i (some x)) (fun h3 => lcO i tt ti1 i1 tt1 te C p (τ.set i1 none) (fun ds h2 => Q' (.lis ds) (del h2 p)) r h3) r6 h6,
          fun H' ⟨h', a1, a2, a3⟩ => ⟨k - 1, by omega, h', a1, a2, by omega, by rw [er6]; exact a3⟩, fun u H7 hy6 => ?_⟩
        obtain ⟨k7, hr7, ru⟩ := wd1.yld h6 H6 j y u H7 k6 hr6 q6.1 ex6 hy6
        have k47 := k46.trans k7
        have sr3 : ∀ {h' : DH} {H' : Hp}, KP h6 H7 h' H' → SR K h' H' ((wipe (((σ.set i1 none).set i none).set i (some v)) [i1]).set i1 (some u)) (((τ.set i1 none).set i (some x)).set i1 (some y)) := fun {h' H'} k' => sr_wipe (sr2 (k47.trans k')) len2 (RD.mono k' _ _ ru)
        have len3 : (((τ.set i1 none).set i (some x)).set i1 (some y)).length = ((wipe (((σ.set i1 none).set i none).set i (some v)) [i1]).set i1 (some u)).length := by simp only [List.length_set, wipe_length]; exact at'.len
        refine ⟨by simp only [DL.wipe1, List.set_set], ((τ.set i1 none).set i (some x)).set i1 (some y), h6, _, at'.next (k1.trans (kk.trans k47)) hr7 len3 (sr3 .refl), q6.2, fun b h8 H8 k8 hr8 q8 => ?_⟩
        cases b with
        | false =>
          rw [if_neg Bool.false_ne_true] at q8
          exact iteF ⟨h8, k6.trans (k7.trans k8), hr8, q8⟩
        | true =>
          rw [if_pos rfl] at q8
          refine iteT ⟨((τ.set i1 none).set i (some x)).set i1 (some y), h8, _, at'.next (k1.trans (kk.trans (k47.trans k8))) hr8 len3 (sr3 k8), q8, fun z h9 zv H9 k9 hr9 rz q9 => ?_⟩
          obtain ⟨acc, hp9, la, q9⟩ := q9
          obtain ⟨accV, Hp9, ra⟩ := hr9.lst hp9
          exact ⟨accV, Hp9, by rw [ra.length]; exact la, _, (k6.trans (k7.trans (k8.trans k9))).trans (KP.wr hp9), hr9.wr hp9 (ra.append (.cons rz .nil)), q9⟩
variable {elt iter iter1 : Expr} {x x1 : Str} {px px1 : Pos} {ifs ifs1 : List Expr} {scope : Scope} {i i1 : Nat} {ti ti1 : TI'} {tt tt1 : TT'} {te : TE'}
theorem de_lc2 (hc : X.calm = true) (hN : X.N.Nodup) (hi : DI X Y (.Name x px) iter ti) (ok : BlkOk X.N X.env.scope scope [(x, i), (x1, i1)])
    (hg : ∀ (s : Shared) (H : Hp) (C : Addr) (cl : List (Str × Addr)) (fp : List Addr), PG (X.blk s H scope (compEnvC scope cl C X.env) fp) (.Name x px) (gName i))
    (ht : ∀ (s : Shared) (H : Hp) (C : Addr) (cl : List (Str × Addr)) (fp : List Addr), DTs (X.blk s H scope (compEnvC scope cl C X.env) fp) Y ifs tt)
    (hi1 : ∀ (s : Shared) (H : Hp) (C : Addr) (cl : List (Str × Addr)) (fp : List Addr), DI (X.blk s H scope (compEnvC scope cl C X.env) fp) Y (.Name x1 px1) iter1 ti1)
    (hg1 : ∀ (s : Shared) (H : Hp) (C : Addr) (cl : List (Str × Addr)) (fp : List Addr), PG (X.blk s H scope (compEnvC scope cl C X.env) fp) (.Name x1 px1) (gName i1))
    (ht1 : ∀ (s : Shared) (H : Hp) (C : Addr) (cl : List (Str × Addr)) (fp : List Addr), DTs (X.blk s H scope (compEnvC scope cl C X.env) fp) Y ifs1 tt1)
    (he : ∀ (s : Shared) (H : Hp) (C : Addr) (cl : List (Str × Addr)) (fp : List Addr), DE (X.blk s H scope (compEnvC scope cl C X.env) fp) Y elt te) (hs : ∀ x, foldedSetIterable iter X.env x = pure x := by intro _; rfl) (hs1 : ∀ env x, foldedSetIterable iter1 env x = pure x := by intro _ _; rfl) :
    DE X Y (.ListComp elt [⟨.Name x px, iter, ifs, 0⟩, ⟨.Name x1 px1, iter1, ifs1, 0⟩] scope pos) (tlc2 ti i tt ti1 i1 tt1 te) :=
  (pe_lc2 (own := [(x, i), (x1, i1)]) (vs1 := [i1]) (tg1 := .Name x1 px1) (iter1 := iter1) (wi1 := lI X.K Y ti1) (g := gName i) (g1 := gName i1) (tt := lT X.K Y tt) (tt1 := lT X.K Y tt1) (te := lE X.K Y te) hc hN hi ok (by simp) hg ht hi1 hg1 ht1 he hs hs1).imp fun _ _ _ q => lc2_imp q
end
end DL
set_option Elab.async false
set_option linter.all false
set_option maxRecDepth 100000
set_option maxHeartbeats 1000000
namespace DL
open PySem PySem.Spec PyProof.Rows L2
section
variable {X : Cx} {Y : Wsh} {K : PySem.W.Frag} {pos : Pos}
section
variable {elt iter : Expr} {x : Str} {px : Pos} {ifs : List Expr} {scope : Scope} {i : Nat} {ti : TI'} {tt : TT'} {te : TE'}
end
def IRel : Option Int → Option (Value × Value) → Prop
  | none, none => True
  | some b, some p => RelV (.int b) p.1 ∧ RelV (.int b) p.2
  | _, _ => False
structure MmAt (X : Cx) (pins : List (Addr × Obj)) (σ : L2.St) (a it S : Addr) (ns : List Int) (i : Nat) (best : Option Int) (bv : Option (Value × Value)) (H : Hp) (s : Shared) : Prop where
  inv : Inv X pins σ H s
  iter : s.heap.IsListIter it a i
  itn : H it = none
  sn : H S = none
  lst : ∃ c, s.heap.get? S = some { cls := .type "list", dict := none, data := .seq (bArr bv) c, slots := #[] }
  al : H a = some (.lst (ns.map V.int))
  b : IRel best bv
theorem MmAt.ne {pins : List (Addr × Obj)} {σ : L2.St} {a it S : Addr} {ns : List Int} {i : Nat} {best : Option Int} {bv : Option (Value × Value)} {H : Hp} {s : Shared} (m : MmAt X pins σ a it S ns i best bv H s) :
    it ≠ S ∧ a ≠ it ∧ a ≠ S := by
  refine ⟨fun e => ?_, fun e => ?_, fun e => ?_⟩
  · obtain ⟨o, e1, e2, _⟩ := m.iter
    obtain ⟨c, e3⟩ := m.lst
    rw [e, e3] at e1
    cases e1
    exact absurd (show Value.type "list" = Value.type "list_iterator" from e2) (by decide)
  · have z := m.al; rw [e, m.itn] at z; cases z
  · have z := m.al; rw [e, m.sn] at z; cases z
end
end DL
set_option Elab.async false
set_option linter.all false
set_option maxRecDepth 100000
set_option maxHeartbeats 2000000
namespace DL
open PySem PySem.Spec PyProof.Rows L2
section
variable {X : Cx} {Y : Wsh} {K : PySem.W.Frag}
end
end DL
set_option Elab.async false
set_option linter.all false
set_option maxRecDepth 100000
set_option maxHeartbeats 1000000
namespace DL
open PySem PySem.Spec PyProof.Rows L2
mutual
def nkP : PyData → Option NestedKey
  | .none => some .none
  | .bool b => some (.num (if b = true then 1 else 0))
  | .int i => some (.num i)
  | .tuple xs => (nkPs xs).map .tup
  | _ => none
def nkPs : List PyData → Option (List NestedKey)
  | [] => some []
  | x :: xs => match nkP x, nkPs xs with
    | some k, some ks => some (k :: ks)
    | _, _ => none
end
mutual
theorem reads_key {h : Heap} : ∀ (p : PyData) (u : Value) (as : List Addr) (k : NestedKey), Reads h u p as → nkP p = some k → NestedIs h k u
  | .none, _, _, _, r, e => by cases r; cases e; exact .none
  | .bool b, _, _, _, r, e => by cases r; cases e; exact .bool rfl
  | .int i, _, _, _, r, e => by cases r; cases e; exact .int _ _
  | .str x, _, _, _, r, e => by cases e
  | .tuple xs, _, _, _, r, e => by
    simp only [nkP] at e
    cases q : nkPs xs with
    | none => rw [q] at e; cases e
    | some ks =>
      rw [q] at e
      cases e
      cases r with
      | @tuple a o vs n _ _ h1 h2 h3 h4 => exact .tup h1 h2 h3 (reads_keys xs _ _ ks h4 q)
  | .list _, _, _, _, _, e => by cases e
  | .dict _, _, _, _, _, e => by cases e
theorem reads_keys {h : Heap} : ∀ (ps : List PyData) (us : List Value) (as : List Addr) (ks : List NestedKey), ReadsAll h us ps as → nkPs ps = some ks → NestedAll h ks us
  | [], _, _, _, r, e => by cases r; cases e; exact .nil
  | p :: ps, _, _, _, r, e => by
    simp only [nkPs] at e
    cases q1 : nkP p with
    | none => rw [q1] at e; cases e
    | some k =>
      cases q2 : nkPs ps with
      | none => rw [q1, q2] at e; cases e
      | some ks =>
        rw [q1, q2] at e
        cases e
        cases r with
        | cons r1 r2 => exact .cons (reads_key p _ _ k r1 q1) (reads_keys ps _ _ ks r2 q2)
end
mutual
theorem nk_py : ∀ (d : D) (k : NestedKey), nkD d = some k → ∃ p, toPy d = some p ∧ nkP p = some k
  | .non, k, e => by cases e; exact ⟨.none, rfl, rfl⟩
  | .bl b, k, e => by cases e; exact ⟨.bool b, rfl, rfl⟩
  | .int i, k, e => by cases e; exact ⟨.int i, rfl, rfl⟩
  | .str x, k, e => by cases e
  | .tup xs, k, e => by
    simp only [nkD] at e
    cases q : nkDs xs with
    | none => rw [q] at e; cases e
    | some ks =>
      rw [q] at e
      cases e
      obtain ⟨ps, e1, e2⟩ := nks_py xs ks q
      exact ⟨.tuple ps, by simp only [toPy, e1, Option.map_some], by simp only [nkP, e2, Option.map_some]⟩
  | .lis _, _, e => by cases e
  | .scr _, _, e => by cases e
  | .ref _, _, e => by cases e
  | .ty _, _, e => by cases e
theorem nks_py : ∀ (ds : List D) (ks : List NestedKey), nkDs ds = some ks → ∃ ps, toPys ds = some ps ∧ nkPs ps = some ks
  | [], _, e => by cases e; exact ⟨[], rfl, rfl⟩
  | d :: ds, _, e => by
    simp only [nkDs] at e
    cases q1 : nkD d with
    | none => rw [q1] at e; cases e
    | some k =>
      cases q2 : nkDs ds with
      | none => rw [q1, q2] at e; cases e
      | some ks =>
        rw [q1, q2] at e
        cases e
        obtain ⟨p, a1, a2⟩ := nk_py d k q1
        obtain ⟨ps, b1, b2⟩ := nks_py ds ks q2
        exact ⟨p :: ps, by simp only [toPys, a1, b1], by simp only [nkPs, a2, b2]⟩
end
mutual
/-- no text in it: its hash is the same everywhere -/
theorem nk_hash (w w' : World) : ∀ (d : D) (k : NestedKey), nkD d = some k → NestedKey.hash w k = NestedKey.hash w' k
  | .non, k, e => by cases e; simp only [NestedKey.hash]
  | .bl b, k, e => by cases e; simp only [NestedKey.hash]
  | .int i, k, e => by cases e; simp only [NestedKey.hash]
  | .str x, k, e => by cases e
  | .tup xs, k, e => by
    simp only [nkD] at e
    cases q : nkDs xs with
    | none => rw [q] at e; cases e
    | some ks =>
      rw [q] at e
      cases e
      simp only [NestedKey.hash]
      rw [nks_hash w w' xs ks q]
  | .lis _, _, e => by cases e
  | .scr _, _, e => by cases e
  | .ref _, _, e => by cases e
  | .ty _, _, e => by cases e
theorem nks_hash (w w' : World) : ∀ (ds : List D) (ks : List NestedKey), nkDs ds = some ks → NestedKey.hashes w ks = NestedKey.hashes w' ks
  | [], _, e => by cases e; simp only [NestedKey.hashes]
  | d :: ds, _, e => by
    simp only [nkDs] at e
    cases q1 : nkD d with
    | none => rw [q1] at e; cases e
    | some k =>
      cases q2 : nkDs ds with
      | none => rw [q1, q2] at e; cases e
      | some ks =>
        rw [q1, q2] at e
        cases e
        simp only [NestedKey.hashes]
        rw [nk_hash w w' d k q1, nks_hash w w' ds ks q2]
end
inductive RT (K : PySem.W.Frag) (h : DH) (H : Hp) : List (D × D) → List (NestedKey × Addr × Value) → Prop
  | nil : RT K h H [] []
  | cons {d x : D} {k : NestedKey} {a : Addr} {u : Value} {v : V} {ps : List (D × D)} {xs : List (NestedKey × Addr × Value)} :
      nkD d = some k → RD K h H d (.ref a) → RelV v u → RD K h H x v → RT K h H ps xs → RT K h H ((d, x) :: ps) ((k, a, u) :: xs)
section
variable {K : PySem.W.Frag} {h : DH} {H : Hp}
theorem RT.of : ∀ {ps : List (D × D)} {xs : List (NestedKey × Addr × Value)} {vs : List V}, ps.map (fun p => nkD p.1) = xs.map (fun x => some x.1) → RDs K h H (ps.map (·.1)) (xs.map fun x => V.ref x.2.1) → Vals vs (xs.map (·.2.2)) → RDs K h H (ps.map (·.2)) vs → RT K h H ps xs
  | [], [], _, _, _, _, _ => .nil
  | [], _ :: _, _, e, _, _, _ => by cases e
  | _ :: _, [], _, e, _, _, _ => by cases e
  | (d, x) :: ps, (k, a, u) :: xs, vs, e, r, rv, rx => by
    simp only [List.map_cons, List.cons.injEq] at e
    obtain ⟨v1, w1, e1, r1, r2⟩ := r
    simp only [List.map_cons, List.cons.injEq] at e1
    obtain ⟨rfl, rfl⟩ := e1
    obtain ⟨v2, w2, rfl, r3, r4⟩ := rx
    cases rv with
    | cons q1 q2 => exact .cons e.1 r1 q1 r3 (RT.of e.2 r2 q2 r4)
theorem RT.to {ps : List (D × D)} {xs : List (NestedKey × Addr × Value)} (r : RT K h H ps xs) : ∃ vs, ps.map (fun p => nkD p.1) = xs.map (fun x => some x.1) ∧ RDs K h H (ps.map (·.1)) (xs.map fun x => V.ref x.2.1) ∧ Vals vs (xs.map (·.2.2)) ∧ RDs K h H (ps.map (·.2)) vs := by
  induction r with
  | nil => exact ⟨[], rfl, rfl, .nil, rfl⟩
  | cons e r1 rv r2 _ ih =>
    obtain ⟨vs, a, b, c, d⟩ := ih
    exact ⟨_ :: vs, by simp only [List.map_cons, e, a], .cons r1 b, .cons rv c, .cons r2 d⟩
theorem RT.mono {h' : DH} {H' : Hp} (k : KN h H h' H') {ps : List (D × D)} {xs : List (NestedKey × Addr × Value)} (r : RT K h H ps xs) : RT K h' H' ps xs := by
  induction r with
  | nil => exact .nil
  | cons e r1 rv r2 _ ih => exact .cons e (RD.monoN k _ _ r1) rv (RD.monoN k _ _ r2) ih
theorem RT.len {ps : List (D × D)} {xs : List (NestedKey × Addr × Value)} (r : RT K h H ps xs) : xs.length = ps.length := by
  induction r with
  | nil => rfl
  | cons _ _ _ _ _ ih => simp only [List.length_cons, ih]
theorem RT.mem {ps : List (D × D)} {xs : List (NestedKey × Addr × Value)} (r : RT K h H ps xs) : ∀ x ∈ xs, ∃ p ∈ ps, nkD p.1 = some x.1 ∧ RD K h H p.1 (.ref x.2.1) := by
  induction r with
  | nil => intro x m; cases m
  | cons e r1 _ _ _ ih =>
    intro x m
    rcases List.mem_cons.mp m with rfl | m
    · exact ⟨_, List.mem_cons_self, e, r1⟩
    · obtain ⟨p, a, b⟩ := ih x m
      exact ⟨p, List.mem_cons_of_mem _ a, b⟩
theorem RT.get {ps : List (D × D)} {xs : List (NestedKey × Addr × Value)} (r : RT K h H ps xs) {i : Nat} {p : D × D} (e : ps[i]? = some p) : ∃ x v, xs[i]? = some x ∧ RD K h H p.1 (.ref x.2.1) ∧ RelV v x.2.2 ∧ RD K h H p.2 v := by
  induction r generalizing i with
  | nil => cases e
  | cons _ r1 rv r2 _ ih =>
    cases i with
    | zero => cases e; exact ⟨_, _, rfl, r1, rv, r2⟩
    | succ i => exact ih e
end
def eV (ps : List (D × D)) (k : NestedKey) : Option D := (ps.find? fun p => decide (nkD p.1 = some k)).map (·.2)
def ePut (ps : List (D × D)) (k : NestedKey) (kd v : D) : List (D × D) := if (eV ps k).isSome = true then ps.map (fun p => if nkD p.1 = some k then (p.1, v) else p) else ps ++ [(kd, v)]
section
variable {K : PySem.W.Frag} {h : DH} {H : Hp}
theorem RT.val {ps : List (D × D)} {xs : List (NestedKey × Addr × Value)} (r : RT K h H ps xs) (k : NestedKey) : (eV ps k = none ∧ atKey xs k = none) ∨ ∃ d v q, eV ps k = some d ∧ atKey xs k = some q ∧ RelV v q.2 ∧ RD K h H d v := by
  induction r with
  | nil => exact .inl ⟨rfl, rfl⟩
  | @cons d x k' a u v ps xs e r1 rv r2 _ ih =>
    by_cases c : k' = k
    · subst c
      exact .inr ⟨x, v, (a, u), by simp [eV, List.find?_cons, e], by simp [atKey, List.find?_cons], rv, r2⟩
    · have e1 : eV ((d, x) :: ps) k = eV ps k := by simp [eV, List.find?_cons, e, c]
      have e2 : atKey ((k', a, u) :: xs) k = atKey xs k := by simp [atKey, List.find?_cons, c]
      rw [e1, e2]; exact ih
theorem RT.isSome {ps : List (D × D)} {xs : List (NestedKey × Addr × Value)} (r : RT K h H ps xs) (k : NestedKey) : (atKey xs k).isSome = (eV ps k).isSome := by
  rcases r.val k with ⟨a, b⟩ | ⟨d, v, q, a, b, _⟩ <;> rw [a, b] <;> rfl
theorem RT.app {ps qs : List (D × D)} {xs ys : List (NestedKey × Addr × Value)} (r : RT K h H ps xs) (q : RT K h H qs ys) : RT K h H (ps ++ qs) (xs ++ ys) := by
  induction r with
  | nil => exact q
  | cons e r1 rv r2 _ ih => exact .cons e r1 rv r2 ih
theorem RT.put {ps : List (D × D)} {xs : List (NestedKey × Addr × Value)} (r : RT K h H ps xs) {k : NestedKey} {kd d : D} {a : Addr} {u : Value} {v : V} (e : nkD kd = some k) (rk : RD K h H kd (.ref a)) (rv : RelV v u) (rd : RD K h H d v) : RT K h H (ePut ps k kd d) (storedH xs k a u) := by
  unfold ePut storedH
  rw [r.isSome k]
  split
  · rename_i c0
    clear rk c0
    induction r with
    | nil => exact .nil
    | @cons d' x k' a' u' v' ps xs e' r1 rv' r2 _ ih =>
      rw [List.map_cons, List.map_cons]
      by_cases c : k' = k
      · subst c
        rw [if_pos e', show putAt k' u (k', a', u') = (k', a', u) by simp [putAt]]
        exact .cons e' r1 rv rd ih
      · rw [if_neg (by rw [e']; simpa using c), show putAt k u (k', a', u') = (k', a', u') by simp [putAt, c]]
        exact .cons e' r1 rv' r2 ih
  · exact r.app (.cons e rk rv rd .nil)
end
section
variable {X : Cx} {Y : Wsh} {pos : Pos}
abbrev nK (X : Cx) := nestedKind X.prog X.w
theorem key_is {pins : List (Addr × Obj)} {σ : L2.St} {H : Hp} {s : Shared} {h : DH} {d : D} {v : V} {u : Value} {k : NestedKey} (I : Inv X pins σ H s) (rd : RD X.K h H d v) (rv : RelV v u) (e : nkD d = some k) : NestedIs s.heap k u := by
  obtain ⟨p, e1, e2⟩ := nk_py d k e
  obtain ⟨as, r⟩ := Dp.reads I p v u (dp_of d p v e1 rd) rv
  exact reads_key p u as k r e2
theorem ded_open {pins : List (Addr × Obj)} {σ : L2.St} {H : Hp} {s : Shared} {h : DH} {a : Addr} {ps : List (D × D)} (I : Inv X pins σ H s) (hr : HR X.K h H) (e : h a = some (.ded ps)) :
    ∃ xs, Heap.DictOfH (nK X) s.heap a xs ∧ (a == sysModules) = false ∧ Mut (H a) ∧ RT X.K h H ps xs ∧ ∀ x ∈ xs, x.1.depth ≤ 8 := by
  obtain ⟨ob, xs, vs, e1, en, ⟨o1, ⟨es, ep, o2, o3⟩, o4, o5⟩, ek, r1, rv, r2⟩ := hr a _ e
  have rt := RT.of ek r1 rv r2
  have g : s.heap.get? a = some ob := (I.hok a _ e1).1
  refine ⟨xs, ⟨ob, es, ep, g, o1, o2, o3 _ _, fun x m => ?_, o5⟩, by simpa using en, by rw [e1]; trivial, rt, o4⟩
  obtain ⟨p, _, n1, r⟩ := rt.mem x m
  exact ⟨key_is I r rfl n1, o4 x m⟩
theorem ObjOk_ext {P : Program} {w : World} {H : Hp} {h : Heap} {a : Addr} {ob : Obj} (e : h.get? a = some ob) : ObjOk P w H h a (.ext fun hp => hp.get? a = some ob) :=
  ⟨e, ⟨ob, e⟩, fun h1 h2 q k => k ob q⟩
theorem ded_close {pins : List (Addr × Obj)} {σ : L2.St} {H : Hp} {s : Shared} {h : DH} {a : Addr} {ps qs : List (D × D)} {xs : List (NestedKey × Addr × Value)} {h' : Heap} {tk : Nat} (I : Inv X pins σ H s) (hr : HR X.K h H) (e : h a = some (.ded ps))
    (m : Mut (H a)) (sm : (a == sysModules) = false) (d : Heap.DictOfH (nK X) h' a xs) (sb : Heap.SameBut a s.heap h') (r : RT X.K h H qs xs) (dp : ∀ x ∈ xs, x.1.depth ≤ 8) :
    ∃ u, Inv X pins σ (upd H a u) { s with heap := h', toks := tk } ∧ KP h H (put h a (.ded qs)) (upd H a u) ∧ HR X.K (put h a (.ded qs)) (upd H a u) := by
  obtain ⟨ob, es, ep, g, o1, o2, o3, o4, o5⟩ := d
  have kp : ∀ {u : HO}, KP h H (put h a (.ded qs)) (upd H a u) := fun {u} => KP.wrO (by rw [e]; rfl)
  refine ⟨.ext fun hp => hp.get? a = some ob, I.write m (.inl rfl) (fun b u nb q => (sb.2 b nb).trans q) ⟨ob, g⟩ (ObjOk_ext g), kp, fun b u eb => ?_⟩
  by_cases z : b = a
  · subst z
    rw [put_same] at eb
    cases eb
    obtain ⟨vs, n1, n2, n3, n4⟩ := (RT.mono kp.kn r).to
    refine ⟨ob, xs, vs, upd_same, by simpa using sm, ⟨o1, ⟨es, ep, o2, fun P w => ?_⟩, dp, o5⟩, n1, n2, n3, n4⟩
    rw [o3]
    refine List.map_congr_left fun x mx => ?_
    obtain ⟨p, _, n5, _⟩ := r.mem x mx
    unfold entryOfKey
    congr 1
    exact nk_hash _ _ p.1 x.1 n5
  · rw [put_ne z] at eb
    exact (hr b u eb).on kp.kn fun v q => by rw [upd_ne z]; exact q
end
end DL
set_option Elab.async false
set_option linter.all false
set_option maxRecDepth 100000
set_option maxHeartbeats 1000000
namespace DL
open PySem PySem.Spec PyProof.Rows L2
def lR2 (K : PySem.W.Frag) (op : DR2) : R2 := fun x y H Q => ∃ dx dy h Q', HR K h H ∧ RD K h H dx x ∧ RD K h H dy y ∧ op dx dy h Q' ∧ Fin K h H Q' Q
theorem opl_lR2 {K : PySem.W.Frag} {op : DR2} : OpL K (lR2 K op) op := fun x y v u h H Q' Q rx ry hr q f => ⟨x, y, h, Q', hr, rx, ry, q, f⟩
def isT (x : D) : Prop := match x with | .tup _ => True | _ => False
theorem isT_ref {K : PySem.W.Frag} {h : DH} {H : Hp} {d : D} {v : V} (t : isT d) (r : RD K h H d v) : ∃ a, v = .ref a := by
  cases d with
  | tup xs => obtain ⟨a, vs, e, _⟩ := r; exact ⟨a, e⟩
  | _ => exact t.elim
def isK (d : D) (k : NestedKey) : Prop := isT d ∧ nkD d = some k ∧ k.depth ≤ 8
section
variable {X : Cx} {Y : Wsh} {pos : Pos}
theorem isK_is {pins : List (Addr × Obj)} {σ : L2.St} {H : Hp} {s : Shared} {h : DH} {d : D} {v : V} {u : Value} {k : NestedKey} (I : Inv X pins σ H s) (rd : RD X.K h H d v) (rv : RelV v u) (e : isK d k) : ∃ a, u = .ref a ∧ v = .ref a ∧ (nK X).is s.heap k a := by
  obtain ⟨a, rfl⟩ := isT_ref e.1 rd
  obtain rfl : u = Value.ref a := rv
  exact ⟨a, rfl, rfl, key_is I rd rfl e.2.1, e.2.2⟩
def tednew : TE' := fun _ h Q => ∀ p, h p = none → Q (.ref p) (put h p (.ded []))
theorem de_ednew : DE X Y (.Dict [] [] pos) tednew := by
  refine ⟨fun pins s σ H Q I q => ?_⟩
  obtain ⟨τ, h, Q', at', q, f⟩ := q
  refine wpAny_mono (pe_dnewT.run pins s σ H (fun v H1 => ∃ p, v = .ref p ∧ H p = none ∧ H1 = upd H p (.dT [])) I fun p np => ⟨p, rfl, np, rfl⟩) (fun u s1 ⟨v, H1, I1, r1, p, ev, np, eH⟩ => ?_) fun _ _ z => z
  subst ev eH
  obtain ⟨_, sm, xs, pr, ob, es, ep, g, o1, o2, o3, o4⟩ := I1.hok p _ upd_same
  cases pr
  have hp := at'.hr.fresh np
  have kp : ∀ {u : HO}, KP h H (put h p (.ded [])) (upd H p u) := fun {u} => KP.newL np
  refine ⟨.ref p, upd (upd H p (.dT [])) p (.ext fun hp => hp.get? p = some ob), I1.write (t' := s1.toks) (h' := s1.heap) (by rw [upd_same]; trivial) (.inl rfl) (fun _ _ _ z => z) ⟨ob, g⟩ (ObjOk_ext g), r1, ?_⟩
  have e2 : upd (upd H p (.dT [])) p (.ext fun hp => hp.get? p = some ob) = upd H p (.ext fun hp => hp.get? p = some ob) := by
    funext b; unfold upd; split <;> rfl
  rw [e2]
  refine f (.ref p) _ (.ref p) _ kp (fun b u eb => ?_) rfl (q p hp)
  by_cases z : b = p
  · subst z
    rw [put_same] at eb
    cases eb
    refine ⟨ob, [], [], upd_same, by simpa using sm, ⟨o1, ⟨es, ep, o2, fun P w => o3⟩, (fun _ m => by cases m), .nil⟩, rfl, rfl, .nil, rfl⟩
  · rw [put_ne z] at eb
    exact (at'.hr b u eb).on kp.kn fun v e1 => by rw [upd_ne z]; exact e1
def opEix : DR2 := fun x y h Q => match x with
  | .ref a => ∃ ps k d, h a = some (.ded ps) ∧ isK y k ∧ eV ps k = some d ∧ Q d h
  | _ => False
theorem room8 (hu : X.A.units + 65 < cLine) : (nK X).room X.A.in1 := by show X.A.units + 1 + 8 < cLine; omega
theorem room80 (hu : X.A.units + 65 < cLine) : (nK X).room X.A := by show X.A.units + 8 < cLine; omega
theorem ix_ded (hu : X.A.units + 65 < cLine) : IxR X (lR2 X.K opEix) := by
  intro value slice pins s σ H x y v u Q I rx ry h hs
  obtain ⟨dx, dy, hh, Q', hr, r1, r2, q, f⟩ := h
  cases dx with
  | ref a =>
    obtain rfl : x = .ref a := r1
    obtain rfl : v = Value.ref a := rx
    obtain ⟨ps, k, d, e, ik, ev, q⟩ := q
    obtain ⟨b, rfl, rfl, is⟩ := isK_is I r2 ry ik
    obtain ⟨xs, dd, _, _, rt, _⟩ := ded_open I hr e
    rcases rt.val k with ⟨z, _⟩ | ⟨d', w, p, z1, z2, z3, z4⟩
    · rw [z] at ev; cases ev
    · rw [z1] at ev
      cases ev
      exact PyProof.Rows.subscriptTail_builtinR (x := p.2) dd.typeIs PySem.F.slot_dict_getitem.lookup (wpAny_getItem_heap (room8 hu) is dd z2 ⟨rfl, w, H, I.tok _, z3, f d hh w H .refl hr z4 q⟩) hs
  | _ => exact q.elim
def opEin (n : Bool) : DR2 := fun x y h Q => match y with
  | .ref a => ∃ ps k, h a = some (.ded ps) ∧ isK x k ∧ Q (.bl (n != (eV ps k).isSome)) h
  | _ => False
theorem vAt {xs : List (NestedKey × Addr × Value)} {k : NestedKey} : (valueAt (pairsH xs) k).isSome = (atKey xs k).isSome := by
  unfold valueAt atKey pairsH
  rw [Option.isSome_map, Option.isSome_map, List.find?_map, Option.isSome_map]
  rfl
theorem op_enotin (hu : X.A.units + 65 < cLine) : OpR X (compareOp .NotIn) (lR2 X.K (opEin true)) := by
  intro pins s σ H x y v u Q I rx ry h
  obtain ⟨dx, dy, hh, Q', hr, r1, r2, q, f⟩ := h
  cases dy with
  | ref a =>
    obtain rfl : y = .ref a := r2
    obtain rfl : u = Value.ref a := ry
    obtain ⟨ps, k, e, ik, q⟩ := q
    obtain ⟨b, rfl, rfl, is⟩ := isK_is I r1 rx ik
    obtain ⟨xs, dd, sm, _, rt, _⟩ := ded_open I hr e
    refine notIn_keyed (room8 hu) is sm ⟨xs, dd, rfl⟩ ⟨.bl _, H, I.tok _, rfl, ?_⟩
    rw [vAt, rt.isSome k]
    exact f (.bl _) hh _ H .refl hr rfl (by simpa using q)
  | _ => exact q.elim
theorem dep_put {xs : List (NestedKey × Addr × Value)} {k : NestedKey} {a : Addr} {v : Value} (d : ∀ x ∈ xs, x.1.depth ≤ 8) (dk : k.depth ≤ 8) : ∀ x ∈ storedH xs k a v, x.1.depth ≤ 8 := by
  unfold storedH
  split
  · intro x m
    obtain ⟨y, my, rfl⟩ := List.mem_map.mp m
    unfold putAt
    split
    · exact d y my
    · exact d y my
  · intro x m
    rcases List.mem_append.mp m with m | m
    · exact d x m
    · rw [List.mem_singleton.mp m]; exact dk
def lSet (K : PySem.W.Frag) : TSet := fun o i v H Q => ∃ (a : Addr) (dy dv : D) (h : DH) (ps : List (D × D)) (k : NestedKey), o = .ref a ∧ HR K h H ∧ RD K h H dy i ∧ RD K h H dv v ∧ h a = some (.ded ps) ∧ isK dy k ∧ ps.length < sizeLine ∧
  ∀ u, KP h H (put h a (.ded (ePut ps k dy dv))) (upd H a u) → HR K (put h a (.ded (ePut ps k dy dv))) (upd H a u) → Q (upd H a u)
theorem set_ded (hu : X.A.units + 65 < cLine) : PSet X (lSet X.K) := by
  intro pins s σ H o i v ov iv u Q I ro ri rv h
  obtain ⟨a, dy, dv, hh, ps, k, rfl, hr, r1, r2, e, ik, hl, q⟩ := h
  obtain rfl : ov = Value.ref a := ro
  obtain ⟨b, rfl, rfl, is⟩ := isK_is I r1 ri ik
  obtain ⟨xs, dd, sm, mu, rt, dp⟩ := ded_open I hr e
  refine wpAny_setItem_heap (room8 hu) is dd (fun h' d' sb => ?_) (by rw [rt.len]; omega)
  obtain ⟨w, I', kp, hr'⟩ := ded_close (qs := ePut ps k dy dv) (tk := s.toks + (nK X).draws k) I hr e mu sm d' sb (rt.put ik.2.1 r1 rv r2) (dep_put dp ik.2.2)
  exact ⟨upd H a w, I', q w kp hr'⟩
def gesub (to ti : TE') : TG' := fun d τ h Q => to τ h fun o h1 => ti τ h1 fun i h2 => ∃ a ps k, o = .ref a ∧ h2 a = some (.ded ps) ∧ isK i k ∧ ps.length < sizeLine ∧ Q τ (put h2 a (.ded (ePut ps k i d)))
theorem dg_esub {o i : Expr} {to ti : TE'} (hu : X.A.units + 65 < cLine) (ho : DE X Y o to) (hi : DE X Y i ti) (ha : ∀ v, assign (.Subscript o i pos) X.env v = (do
      let ov ← holding [v] (eval o X.env)
      let iv ← holding [v, ov] (eval i X.env)
      standAt pos
      holding [v, ov, iv] (setItem ov iv v)
      release [v, ov, iv] []) := by intro _; rfl) : DG X Y (.Subscript o i pos) (gesub to ti) :=
  (pg_sub ho hi (set_ded hu) ha).imp fun v σ H Q ⟨d, τ, h, Q', at', r, q, f⟩ => ⟨τ, h, _, at', q, fun x h1 xv H1 k1 hr1 rx q1 => ⟨τ, h1, _, at'.after k1 hr1, q1, fun y h2 yv H2 k2 hr2 ry q2 => by
    obtain ⟨a, ps, k, rfl, e, ik, hl, q2⟩ := q2
    have kk := k1.trans k2
    have rx2 : RD X.K h2 H2 (.ref a) xv := RD.mono k2 _ _ rx
    exact ⟨a, y, d, h2, ps, k, rx2, hr2, ry, RD.mono kk _ _ r, e, ik, hl, fun u kp hr3 => f τ _ σ _ (kk.trans kp) hr3 at'.len (at'.sr.mono (kk.trans kp)) q2⟩⟩⟩
end
end DL
set_option Elab.async false
set_option linter.all false
set_option maxRecDepth 100000
set_option maxHeartbeats 1000000
namespace DL
open PySem PySem.Spec PyProof.Rows L2
section
variable {X : Cx} {Y : Wsh} {pos : Pos}
def tedisp (tk tv : TE') : TE' := fun τ h Q => ∀ p, h p = none → tk τ (put h p (.ded [])) fun x h1 => tv τ h1 fun y h2 => ∃ k, h2 p = some (.ded []) ∧ isK x k ∧ Q (.ref p) (put h2 p (.ded [(x, y)]))
theorem de_edisp {k v : Expr} {tk tv : TE'} (hu : X.A.units + 65 < cLine) (hk : DE X Y k tk) (hv : DE X Y v tv) : DE X Y (.Dict [some k] [v] pos) (tedisp tk tv) := by
  refine ⟨fun pins s σ H Q I q => ?_⟩
  obtain ⟨τ, h, Q', at', q, f⟩ := q
  have hn := I.hok.fresh (Nat.le_refl s.heap.objs.size)
  have kp0 : ∀ {u : HO}, KP h H (put h s.heap.objs.size (.ded [])) (upd H s.heap.objs.size u) := fun {u} => KP.newL hn
  have sm : (s.heap.objs.size == sysModules) = false := by
    have z : ObjOk X.prog X.w H (s.heap.push { cls := .type "dict", data := .dict #[] }) s.heap.objs.size (.dT []) := dt_empty s.heap I.big
    exact z.2.1
  have g0 : (s.heap.push { cls := .type "dict", data := .dict #[] }).get? s.heap.objs.size = some { cls := .type "dict", data := .dict #[] } := by simp [Heap.get?, Heap.push]
  have I1 := I.laid (a := s.heap.objs.size) (o := .ext fun hp => hp.get? s.heap.objs.size = some { cls := .type "dict", data := .dict #[] }) (h' := s.heap.push { cls := .type "dict", data := .dict #[] }) (t' := s.toks) (fun _ _ q => Heap.get?_push_of_some _ q) (Nat.le_refl _) (ObjOk_ext g0)
  have hr0 : HR X.K (put h s.heap.objs.size (.ded [])) (upd H s.heap.objs.size (.ext fun hp => hp.get? s.heap.objs.size = some { cls := .type "dict", data := .dict #[] })) := fun b u eb => by
    by_cases z : b = s.heap.objs.size
    · subst z
      rw [put_same] at eb
      cases eb
      exact ⟨_, [], [], upd_same, by simpa using sm, ⟨⟨rfl, rfl, rfl⟩, ⟨#[], 0, rfl, fun P w => rfl⟩, (fun _ m => by cases m), .nil⟩, rfl, rfl, .nil, rfl⟩
    · rw [put_ne z] at eb
      exact (at'.hr b u eb).on kp0.kn fun v e1 => by rw [upd_ne z]; exact e1
  refine wpAny_Dict_any rfl rfl (by simp) (by simp) ?_
  refine thn ((pps_cons hk hv pps_nil).run pins _ σ _ (fun ps H2 => ∃ x y xv yv h2 kk, ps = [(xv, yv)] ∧ KP h H h2 H2 ∧ HR X.K h2 H2 ∧ RD X.K h2 H2 x xv ∧ RD X.K h2 H2 y yv ∧ h2 s.heap.objs.size = some (.ded []) ∧ isK x kk ∧ Q' (.ref s.heap.objs.size) (put h2 s.heap.objs.size (.ded [(x, y)]))) I1 ?_) ?_
  · refine ⟨τ, _, _, at'.after kp0 hr0, q _ (at'.hr.fresh hn), fun x h1 xv H1 k1 hr1 rx q1 => ?_⟩
    refine ⟨τ, h1, _, (at'.after kp0 hr0).after k1 hr1, q1, fun y h2 yv H2 k2 hr2 ry q2 => ?_⟩
    obtain ⟨kk, e, ik, q2⟩ := q2
    exact ⟨x, y, xv, yv, h2, kk, rfl, kp0.trans (k1.trans k2), hr2, RD.mono k2 _ _ rx, ry, e, ik, q2⟩
  · intro us s1 ⟨ps, H2, I2, rel, x, y, xv, yv, h2, kk, eps, k2, hr2, rx, ry, e, ik, q2⟩
    subst eps
    cases rel with
    | @cons _ b _ bs r t =>
      cases t
      obtain ⟨b1, b2⟩ := b
      obtain ⟨a, rfl, rfl, is⟩ := isK_is I2 rx r.1 ik
      obtain ⟨xs, dd, sm', mu, rt, dp⟩ := ded_open I2 hr2 e
      unfold storeAll
      rw [List.forIn_cons]
      refine wpAny_bind (wpAny_bind (wpAny_dictSet_heap (hsz := by rw [rt.len]; exact Nat.zero_le _) (room80 hu) is dd fun h' d' sb => wpAny_pure ?_))
      refine wpAny_pure ?_
      obtain ⟨w, I', kp, hr'⟩ := ded_close (qs := ePut [] kk x y) (tk := s1.toks + (nK X).draws kk) I2 hr2 e mu sm' d' sb (rt.put ik.2.1 rx r.2 ry) (dep_put dp ik.2.2)
      exact ⟨.ref s.heap.objs.size, _, I', rfl, f (.ref _) _ (.ref _) _ (k2.trans kp) hr' rfl q2⟩
section
variable {o e : Expr} {es : List Expr} {to : TE} {t : TA} {name : Str} {apos cpos : Pos} {id : String} {r : V → List V → Hp → VK → Prop}
end
end
end DL
set_option Elab.async false
set_option linter.all false
set_option maxRecDepth 100000
namespace DL
open PySem PySem.Spec PyProof.Rows L2
theorem isK_uniq {d : D} {k k' : NestedKey} (a : isK d k) (b : isK d k') : k' = k := Option.some.inj (b.2.1.symm.trans a.2.1)
theorem q_einE {n : Bool} {x : D} {a : Addr} {h : DH} {Q : VK'} {ps : List (D × D)} {k : NestedKey} (e : h a = some (.ded ps)) (ik : isK x k) : opEin n x (.ref a) h Q = Q (.bl (n != (eV ps k).isSome)) h := by
  refine propext ⟨fun z => ?_, fun z => ⟨ps, k, e, ik, z⟩⟩
  obtain ⟨ps', k', e', ik', z⟩ := z
  cases e.symm.trans e'
  rw [isK_uniq ik ik'] at z
  exact z
theorem q_eixE {y d : D} {a : Addr} {h : DH} {Q : VK'} {ps : List (D × D)} {k : NestedKey} (e : h a = some (.ded ps)) (ik : isK y k) (ev : eV ps k = some d) : opEix (.ref a) y h Q = Q d h := by
  refine propext ⟨fun z => ?_, fun z => ⟨ps, k, d, e, ik, ev, z⟩⟩
  obtain ⟨ps', k', d', e', ik', ev', z⟩ := z
  cases e.symm.trans e'
  rw [isK_uniq ik ik'] at ev'
  cases ev.symm.trans ev'
  exact z
theorem q_ednew {τ : St'} {h : DH} {Q : VK'} : tednew τ h Q = ∀ p, h p = none → Q (.ref p) (put h p (.ded [])) := id rfl
theorem q_edisp {tk tv : TE'} {τ : St'} {h : DH} {Q : VK'} : tedisp tk tv τ h Q = ∀ p, h p = none → tk τ (put h p (.ded [])) fun x h1 => tv τ h1 fun y h2 => ∃ k, h2 p = some (.ded []) ∧ isK x k ∧ Q (.ref p) (put h2 p (.ded [(x, y)])) := id rfl
theorem q_gesub {to ti : TE'} {d : D} {τ : St'} {h : DH} {Q : St' → DH → Prop} : gesub to ti d τ h Q = to τ h fun o h1 => ti τ h1 fun i h2 => ∃ a ps k, o = .ref a ∧ h2 a = some (.ded ps) ∧ isK i k ∧ ps.length < sizeLine ∧ Q τ (put h2 a (.ded (ePut ps k i d))) := id rfl
theorem q_lc2 {ti : TI'} {i : Nat} {tt : TT'} {ti1 : TI'} {i1 : Nat} {tt1 : TT'} {te : TE'} {τ : St'} {h : DH} {Q : VK'} : tlc2 ti i tt ti1 i1 tt1 te τ h Q = ti τ h fun xs C h1 => ∀ p, h1 p = none → lcO i tt ti1 i1 tt1 te C p (τ.set i1 none) (fun ds h2 => Q (.lis ds) (del h2 p)) xs (put h1 p (.lst [])) := id rfl
theorem q_lcTr {ti : TI'} {is : List Nat} {tt : TT'} {te : TE'} {τ : St'} {h : DH} {Q : VK'} : tlcT ti is tt te τ h Q = ti τ h fun xs C h1 => ∀ p, h1 p = none → lcT is tt te C τ (fun ds h2 => Q (.lis ds) (del h2 p)) xs [] (put h1 p .hid) := id rfl
theorem put_put' {h : DH} {p : Addr} {u v : DO} : put (put h p u) p v = put h p v := by
  funext b
  by_cases e : b = p
  · subst e; rw [put_same, put_same]
  · rw [put_ne e, put_ne e, put_ne e]
theorem del_put' {h : DH} {p : Addr} {u : DO} (n : h p = none) : del (put h p u) p = h := by
  funext b
  by_cases e : b = p
  · subst e; rw [del_same, n]
  · rw [del_ne e, put_ne e]
theorem lcI_map {α : Type} {i : Nat} {tt : TT'} {te : TE'} {C : DH → Prop} {p : Addr} {τ : St'} {N : DH → Prop} {h : DH} (g : α → D) (b : α → Bool) (f : α → D) (hc : ∀ acc, C (put h p (.lst acc))) : ∀ (l : List α) (acc : List D), acc.length + l.length ≤ sizeLine →
    (∀ a ∈ l, ∀ acc, ∀ R : Bool → DH → Prop, R (b a) (put h p (.lst acc)) → tt (τ.set i (some (g a))) (put h p (.lst acc)) R) → (∀ a ∈ l, b a = true → ∀ acc, ∀ R : VK', R (f a) (put h p (.lst acc)) → te (τ.set i (some (g a))) (put h p (.lst acc)) R) →
    N (put h p (.lst (acc ++ (l.filter b).map f))) → lcI i tt te C p τ N (l.map g) (put h p (.lst acc))
  | [], acc, _, _, _, q => ⟨hc _, by simpa using q⟩
  | x :: xs, acc, hl, ht, he, q => by
    simp only [List.length_cons] at hl
    refine ⟨hc _, ht x List.mem_cons_self _ _ ?_⟩
    by_cases c : b x = true
    · rw [if_pos c]
      refine he x List.mem_cons_self c _ _ ⟨acc, put_same, by omega, ?_⟩
      rw [put_put']
      refine lcI_map g b f hc xs _ (by rw [List.length_append, List.length_singleton]; omega) (fun a m => ht a (List.mem_cons_of_mem _ m)) (fun a m => he a (List.mem_cons_of_mem _ m)) ?_
      rw [List.filter_cons_of_pos c, List.map_cons] at q
      rw [List.append_assoc]
      exact q
    · rw [if_neg c]
      refine lcI_map g b f hc xs _ (by omega) (fun a m => ht a (List.mem_cons_of_mem _ m)) (fun a m => he a (List.mem_cons_of_mem _ m)) ?_
      rw [List.filter_cons_of_neg c] at q
      exact q
theorem lcO_map {α β : Type} {i i1 : Nat} {tt tt1 : TT'} {ti1 : TI'} {te : TE'} {C : DH → Prop} {p : Addr} {τ : St'} {Q : List D → DH → Prop} {h : DH} (g1 : β → D) (b1 : β → Bool) (li : β → List α) (g : α → D) (b : β → α → Bool) (f : β → α → D) (hc : ∀ acc, C (put h p (.lst acc))) :
    ∀ (l : List β) (acc : List D), acc.length + (l.map fun x => (li x).length).sum ≤ sizeLine →
    (∀ a ∈ l, ∀ acc, ∀ R : Bool → DH → Prop, R (b1 a) (put h p (.lst acc)) → tt (τ.set i (some (g1 a))) (put h p (.lst acc)) R) →
    (∀ a ∈ l, b1 a = true → ∀ acc, ∀ R : List D → (DH → Prop) → DH → Prop, (∀ C1 : DH → Prop, (∀ acc', C1 (put h p (.lst acc'))) → R ((li a).map g) C1 (put h p (.lst acc))) → ti1 (τ.set i (some (g1 a))) (put h p (.lst acc)) R) →
    (∀ a ∈ l, b1 a = true → ∀ c ∈ li a, ∀ acc, ∀ R : Bool → DH → Prop, R (b a c) (put h p (.lst acc)) → tt1 ((τ.set i (some (g1 a))).set i1 (some (g c))) (put h p (.lst acc)) R) →
    (∀ a ∈ l, b1 a = true → ∀ c ∈ li a, b a c = true → ∀ acc, ∀ R : VK', R (f a c) (put h p (.lst acc)) → te ((τ.set i (some (g1 a))).set i1 (some (g c))) (put h p (.lst acc)) R) →
    Q (acc ++ (l.filter b1).flatMap fun x => ((li x).filter (b x)).map (f x)) (put h p (.lst (acc ++ (l.filter b1).flatMap fun x => ((li x).filter (b x)).map (f x)))) → lcO i tt ti1 i1 tt1 te C p τ Q (l.map g1) (put h p (.lst acc))
  | [], acc, _, _, _, _, _, q => ⟨hc _, _, put_same, by simpa using q⟩
  | x :: xs, acc, hl, h1, h2, h3, h4, q => by
    rw [List.map_cons, List.sum_cons] at hl
    refine ⟨hc _, h1 x List.mem_cons_self _ _ ?_⟩
    by_cases c : b1 x = true
    · rw [if_pos c]
      refine h2 x List.mem_cons_self c _ _ fun C1 hc1 => ?_
      refine lcI_map g (b x) (f x) hc1 (li x) acc (by omega) (h3 x List.mem_cons_self c) (h4 x List.mem_cons_self c) ?_
      refine lcO_map g1 b1 li g b f hc xs _ ?_ (fun a m => h1 a (List.mem_cons_of_mem _ m)) (fun a m => h2 a (List.mem_cons_of_mem _ m)) (fun a m => h3 a (List.mem_cons_of_mem _ m)) (fun a m => h4 a (List.mem_cons_of_mem _ m)) ?_
      · rw [List.length_append, List.length_map]
        have := List.length_filter_le (b x) (li x)
        omega
      · rw [List.filter_cons_of_pos c, List.flatMap_cons] at q
        rw [List.append_assoc]
        exact q
    · rw [if_neg c]
      refine lcO_map g1 b1 li g b f hc xs _ (by omega) (fun a m => h1 a (List.mem_cons_of_mem _ m)) (fun a m => h2 a (List.mem_cons_of_mem _ m)) (fun a m => h3 a (List.mem_cons_of_mem _ m)) (fun a m => h4 a (List.mem_cons_of_mem _ m)) ?_
      rw [List.filter_cons_of_neg c] at q
      exact q
end DL
set_option Elab.async false
set_option linter.all false
set_option maxRecDepth 100000
namespace DL
open PySem PySem.Spec PyProof.Rows L2
structure Mc where
  k : Kd
  n : Int
  st : List Int
  en : List Int
  sp : List (Int × Cn × Int)
def tI (xs : List Int) : D := .tup (xs.map .int)
def stD (s : Int × Cn × Int) : D := .tup [.int s.1, cD s.2.1, .int s.2.2]
def mD (M : Mc) : D := .tup [kD M.k, .int M.n, tI M.st, tI M.en, .tup (M.sp.map stD)]
def stsOk (n : Int) (S : List Int) : Prop := S.Pairwise (· < ·) ∧ ∀ q ∈ S, 0 ≤ q ∧ q < n
def wf3 (k : Kd) (s : Ls) : Prop := k.depth ≤ 3 ∧ wfS k s
def cnOk (k : Kd) (c : Cn) : Prop := okC c ∧ domC wf3 k c ∧ fitsC (fun _ _ => true) k c = true ∧ c.cnt ≤ 20
structure Mc.ok (M : Mc) : Prop where
  kk : M.k.ok
  kd : M.k.depth ≤ 3
  kc : M.k.cnt ≤ 100
  n1 : 1 ≤ M.n
  n9 : M.n ≤ 40
  st : stsOk M.n M.st
  en : stsOk M.n M.en
  sl : M.sp.length ≤ 50
  sp : ∀ s ∈ M.sp, 0 ≤ s.1 ∧ s.1 < M.n ∧ 0 ≤ s.2.2 ∧ s.2.2 < M.n ∧ cnOk M.k s.2.1
def hit (S : List Int) (v : D) (s : Int × Cn × Int) : Bool := S.contains s.1 && metC inS s.2.1 v
def tgts (M : Mc) (S : List Int) (v : D) : List Int := (M.sp.filter (hit S v)).map (·.2.2)
def bhd (M : Mc) (S : List Int) (v : D) : List Int := (rngI M.n).filter fun q => (tgts M S v).contains q
theorem bhd_ok (M : Mc) (S : List Int) (v : D) : stsOk M.n (bhd M S v) :=
  ⟨(rngI_asc M.n).filter _, fun q m => rngI_mem.mp (List.mem_filter.mp m).1⟩
theorem sts_len0 {n : Int} {S : List Int} (h : stsOk n S) : S.length ≤ n.toNat := by
  have e : S = (rngI n).filter fun q => S.contains q := asc_eq _ _ h.1 ((rngI_asc n).filter _) fun x => by
    rw [List.mem_filter, rngI_mem]
    exact ⟨fun m => ⟨h.2 x m, by simpa using m⟩, fun z => by simpa using z.2⟩
  rw [e]
  exact Nat.le_trans (List.length_filter_le _ _) (by rw [rngI_len]; exact Nat.le_refl _)
theorem sts_len {n : Int} {S : List Int} (h : stsOk n S) (hn : n ≤ 1000) : S.length ≤ 1000 := Nat.le_trans (sts_len0 h) (by omega)
theorem sts_one {n q : Int} (h0 : 0 ≤ q) (h1 : q < n) : stsOk n [q] := ⟨List.pairwise_singleton _ _, fun x m => by rw [List.mem_singleton.mp m]; exact ⟨h0, h1⟩⟩
theorem sts_snoc {n : Int} {S : List Int} (h : stsOk n S) (h0 : 0 ≤ n) : stsOk (n + 1) (S ++ [n]) := by
  refine ⟨List.pairwise_append.mpr ⟨h.1, List.pairwise_singleton _ _, fun x mx y my => ?_⟩, fun x m => ?_⟩
  · rw [List.mem_singleton.mp my]; exact (h.2 x mx).2
  · rcases List.mem_append.mp m with m | m
    · have := h.2 x m; omega
    · rw [List.mem_singleton.mp m]; omega
theorem sts_up {n m : Int} {S : List Int} (h : stsOk n S) (e : n ≤ m) : stsOk m S := ⟨h.1, fun x mx => by have := h.2 x mx; omega⟩
theorem val_tI (S : List Int) : val (tI S) 1 = true := by
  unfold tI
  simp only [val]
  rw [vals_mem]
  intro x m
  obtain ⟨i, _, rfl⟩ := List.mem_map.mp m
  rfl
def anyEnd (M : Mc) (S : List Int) : Bool := S.any fun q => M.en.contains q
end DL
set_option Elab.async false
set_option linter.all false
set_option maxRecDepth 100000
namespace DL
open PySem PySem.Spec PyProof.Rows L2
def kI (S : List Int) : NestedKey := .tup (S.map .num)
def kB (bs : List Bool) : NestedKey := .tup (bs.map fun b => .num (if b = true then 1 else 0))
def kPr (p : List Int × List Int) : NestedKey := .tup [kI p.1, kI p.2]
def kNd (p : List Int × Int) : NestedKey := .tup [kI p.1, .num p.2]
theorem nk_ints : ∀ S : List Int, nkDs (S.map .int) = some (S.map .num)
  | [] => rfl
  | i :: S => by simp only [List.map_cons, nkDs, nkD, nk_ints S]
theorem nk_bls : ∀ bs : List Bool, nkDs (bs.map .bl) = some (bs.map fun b => .num (if b = true then 1 else 0))
  | [] => rfl
  | i :: S => by simp only [List.map_cons, nkDs, nkD, nk_bls S]
theorem nk_tI (S : List Int) : nkD (tI S) = some (kI S) := by unfold tI kI; simp only [nkD, nk_ints]; rfl
theorem dep_nums : ∀ S : List Int, NestedKey.depthAll (S.map .num) ≤ 1
  | [] => by simp [NestedKey.depthAll]
  | i :: S => by have := dep_nums S; simp only [List.map_cons, NestedKey.depthAll, NestedKey.depth]; omega
theorem dep_kI (S : List Int) : (kI S).depth ≤ 2 := by unfold kI; have := dep_nums S; simp only [NestedKey.depth]; omega
theorem kB_kI (bs : List Bool) : kB bs = kI (bs.map fun b => if b = true then 1 else 0) := by unfold kB kI; rw [List.map_map]; rfl
theorem isK_B (bs : List Bool) : isK (.tup (bs.map .bl)) (kB bs) := ⟨trivial, by simp only [nkD, nk_bls]; rfl, by rw [kB_kI]; exact Nat.le_trans (dep_kI _) (by decide)⟩
theorem isK_Pr (p : List Int × List Int) : isK (.tup [tI p.1, tI p.2]) (kPr p) :=
  ⟨trivial, by simp only [nkD, nkDs, nk_tI]; rfl, by have := dep_kI p.1; have := dep_kI p.2; unfold kPr; simp only [NestedKey.depth, NestedKey.depthAll]; omega⟩
theorem isK_Nd (p : List Int × Int) : isK (.tup [tI p.1, .int p.2]) (kNd p) :=
  ⟨trivial, by simp only [nkD, nkDs, nk_tI]; rfl, by have := dep_kI p.1; unfold kNd; simp only [NestedKey.depth, NestedKey.depthAll]; omega⟩
theorem map_num_inj : ∀ {S T : List Int}, S.map NestedKey.num = T.map NestedKey.num → S = T
  | [], [], _ => rfl
  | [], _ :: _, e => by cases e
  | _ :: _, [], e => by cases e
  | a :: S, b :: T, e => by
    rw [List.map_cons, List.map_cons, List.cons.injEq] at e
    rw [NestedKey.num.inj e.1, map_num_inj e.2]
theorem kI_inj {S T : List Int} (e : kI S = kI T) : S = T := map_num_inj (NestedKey.tup.inj e)
theorem kPr_inj {p q : List Int × List Int} (e : kPr p = kPr q) : p = q := by
  have e := NestedKey.tup.inj e
  rw [List.cons.injEq, List.cons.injEq] at e
  exact Prod.ext (kI_inj e.1) (kI_inj e.2.1)
theorem eV_put {ps : List (D × D)} {k k' : NestedKey} {kd v : D} (e : nkD kd = some k) : eV (ePut ps k kd v) k' = if k' = k then some v else eV ps k' := by
  unfold ePut
  split
  · rename_i c
    have go : ∀ ps : List (D × D), (∃ p ∈ ps, nkD p.1 = some k) → eV (ps.map fun p => if nkD p.1 = some k then (p.1, v) else p) k' = if k' = k then some v else eV ps k' := by
      intro ps
      induction ps with
      | nil => rintro ⟨p, m, _⟩; cases m
      | cons p ps ih =>
        intro hp
        by_cases c1 : nkD p.1 = some k
        · rw [List.map_cons, if_pos c1]
          by_cases c2 : k' = k
          · subst c2
            rw [if_pos rfl]
            simp [eV, c1]
          · rw [if_neg c2]
            have c3 : ¬ k = k' := fun z => c2 z.symm
            have ih2 : eV (ps.map fun p => if nkD p.1 = some k then (p.1, v) else p) k' = eV ps k' := by
              clear ih hp
              induction ps with
              | nil => rfl
              | cons q ps ih3 =>
                rw [List.map_cons]
                by_cases c4 : nkD q.1 = some k
                · rw [if_pos c4]
                  simp only [eV, List.find?_cons, c4, Option.some.injEq, c3, decide_false] at ih3 ⊢
                  exact ih3
                · rw [if_neg c4]
                  by_cases c5 : nkD q.1 = some k'
                  · simp [eV, c5]
                  · simp only [eV, List.find?_cons, c5, decide_false] at ih3 ⊢
                    exact ih3
            simp only [eV, List.find?_cons, c1, Option.some.injEq, c3, decide_false] at ih2 ⊢
            exact ih2
        · rw [List.map_cons, if_neg c1]
          have ih := ih (by
            obtain ⟨q, m, eq⟩ := hp
            rcases List.mem_cons.mp m with rfl | m
            · exact absurd eq c1
            · exact ⟨q, m, eq⟩)
          by_cases c5 : nkD p.1 = some k'
          · have c2 : ¬ k' = k := fun z => c1 (z ▸ c5)
            rw [if_neg c2]
            simp [eV, c5]
          · simp only [eV, List.find?_cons, c5, decide_false] at ih ⊢
            exact ih
    refine go ps ?_
    unfold eV at c
    rw [Option.isSome_map, List.find?_isSome] at c
    obtain ⟨p, m, ep⟩ := c
    exact ⟨p, m, of_decide_eq_true ep⟩
  · rename_i c
    have cn : eV ps k = none := by
      cases q : eV ps k with
      | none => rfl
      | some d => rw [q] at c; exact absurd rfl c
    unfold eV at cn ⊢
    rw [List.find?_append]
    by_cases c2 : k' = k
    · subst c2
      rw [Option.map_eq_none_iff] at cn
      rw [if_pos rfl, cn]
      simp [e]
    · rw [if_neg c2]
      have c3 : ¬ k = k' := fun z => c2 z.symm
      have e0 : List.find? (fun p : D × D => decide (nkD p.1 = some k')) [(kd, v)] = none := by simp [e, c3]
      rw [e0, Option.or_none]
def opAddO : DR2 := fun x y h Q => match x, y with
  | .lis a, .ref b => ∃ ds, h b = some (.lst ds) ∧ a.length + ds.length ≤ sizeLine ∧ Q (.lis (a ++ ds)) h
  | _, _ => False
theorem opl_addO {K : PySem.W.Frag} : OpL K (rAdd K) opAddO := by
  intro x y v u h H Q' Q rx ry hr q f
  unfold opAddO at q
  split at q
  · rename_i xs b
    obtain ⟨a, vs, e1, n1, t1, r1⟩ := rx
    obtain ⟨ds, e, hl, q⟩ := q
    obtain ⟨ws, t2, r2⟩ := hr.lst e
    exact .inr (.inr (.inr (.inl ⟨a, b, vs, ws, e1, ry, t1, t2, by rw [r1.length, r2.length]; exact hl, f.lis hr (r1.append r2) q⟩)))
  · exact q.elim
theorem ePut_len {ps : List (D × D)} {k : NestedKey} {kd v : D} : (ePut ps k kd v).length ≤ ps.length + 1 := by
  unfold ePut
  split
  · rw [List.length_map]; omega
  · rw [List.length_append]; simp
end DL
set_option Elab.async false
set_option linter.all false
namespace K00
open PySem PySem.Spec PyProof.Rows L2 DL
abbrev n__law_tape : List Str := ["script", "mixed", "cell"]
def t__law_tape  : TS' :=
    (tseq (tasg (tc (.int 7)) (gn 1))
    (tseq (tfor (tse (tv 0)) (gn 2) (tasg (to opMod (tcb caInt (tac (to opAdd (to opMul (tv 1) (tc (.int 31))) (tcb caAbs (tac (tcb caInt (tac (tv 2) tan)) tan))) tan)) (tc (.int 2147483647))) (gn 1)))
    (tret (town (tac (tcb caList (tac (tv 0) tan)) (tac (tc (.int 0)) (tac (tc (.int 0)) (tac (tv 1) tan))))))))
abbrev n__law_draw : List Str := ["tape", "many", "place", "number"]
def t__law_draw  : TS' :=
    (tseq (tmid (tifs (tb' (to opEq (to opIx (tv 0) (tc (.int 2))) (tc (.int 0)))) (tseq (tasg (to opIx (tv 0) (tc (.int 1))) (gn 2))
    (tseq (tasg (tc (.int 0)) (gn 3))
    (tseq (tmid (tifs (tb' (to opLt (tv 2) (tcb caLen (tac (to opIx (tv 0) (tc (.int 0))) tan)))) (tasg (tcb caAbs (tac (tcb caInt (tac (to opIx (to opIx (tv 0) (tc (.int 0))) (tv 2)) tan)) tan)) (gn 3)) (tseq (tasg (to opMod (tcb caInt (tac (to opAdd (to opAdd (to opMul (to opIx (tv 0) (tc (.int 3))) (tc (.int 48271))) (tv 2)) (tc (.int 1))) tan)) (tc (.int 2147483647))) (gsub (tv 0) (tc (.int 3))))
    (tasg (to opIx (tv 0) (tc (.int 3))) (gn 3)))))
    (tseq (tasg (to opAdd (tv 2) (tc (.int 1))) (gsub (tv 0) (tc (.int 1))))
    (tseq (tifs (tb' (to opLt (tv 3) (to opPow (tc (.int 10)) (tc (.int 18))))) (tseq (tasg (to opMod (tcb caInt (tac (to opAdd (to opAdd (to opMul (tv 3) (tc (.int 48271))) (to opMul (tv 2) (tc (.int 69621)))) (tc (.int 5))) tan)) (tc (.int 2147483647))) (gn 3))
    (tseq (tasg (to opMod (tcb caInt (tac (to opMul (tv 3) (tc (.int 69621))) tan)) (tc (.int 2147483629))) (gn 3))
    (tret (to opMod (tcb caInt (tac (tv 3) tan)) (tcb caMax (tac (tv 1) (tac (tc (.int 1)) tan))))))) tnx)
    (tasg (tv 3) (gsub (tv 0) (tc (.int 2))))))))) tnx))
    (tseq (tasg (to opIx (tv 0) (tc (.int 2))) (gn 3))
    (tseq (tasg (to opDiv (tv 3) (tcb caMax (tac (tv 1) (tac (tc (.int 2)) tan)))) (gsub (tv 0) (tc (.int 2))))
    (tret (to opMod (tcb caInt (tac (tv 3) tan)) (tcb caMax (tac (tv 1) (tac (tc (.int 1)) tan))))))))
abbrev n__law_whole : List Str := ["told"]
def t__law_whole  : TS' :=
    (tret (tandv (tcb caIs (tac (tv 0) (tac (tc (.ty "int")) tan))) (tnotv (tcb caIs (tac (tv 0) (tac (tc (.ty "bool")) tan))))))
abbrev n__law_names : List Str := ["tape", "signs", "fixed", "stem", "names", "k", "name"]
def t__law_names (sp__law_draw : Sp') : TS' :=
    (tseq (tasg (tc (.str "abcdexyzABZ0189 !\"#$&'()*+,-./:;<=>?\x40[\\]^_{|}~")) (gn 1))
    (tseq (tasg (tlis (tac (tc (.str "none")) (tac (tc (.str "pair")) (tac (tc (.str "case")) (tac (tc (.str "some")) (tac (tc (.str "true")) (tac (tc (.str "0")) tan))))))) (gn 2))
    (tseq (tasg (to opIx (tlis (tac (tc (.str "")) (tac (tc (.str "")) (tac (tc (.str "")) (tac (tc (.str "case")) (tac (tc (.str "a ,")) tan)))))) (tcall sp__law_draw (fun _ _ => False) (tac (tv 0) (tac (tc (.int 5)) tan)))) (gn 3))
    (tseq (tasg (town tan) (gn 4))
    (tseq (tfor (trg1 (tac (to opIx (tlis (tac (tc (.int 1)) (tac (tc (.int 2)) (tac (tc (.int 2)) (tac (tc (.int 3)) (tac (tc (.int 3)) (tac (tc (.int 4)) tan))))))) (tcall sp__law_draw (fun _ _ => False) (tac (tv 0) (tac (tc (.int 6)) tan)))) tan)) (gn 5) (tseq (tasg (to opAdd (tv 3) (to opIx (tv 1) (tcall sp__law_draw (fun _ _ => False) (tac (tv 0) (tac (tcb caLen (tac (tv 1) tan)) tan))))) (gn 6))
    (tseq (tmid (tifs (tb' (to opEq (tcall sp__law_draw (fun _ _ => False) (tac (tv 0) (tac (tc (.int 3)) tan))) (tc (.int 0)))) (tasg (to opAdd (tv 6) (to opIx (tv 1) (tcall sp__law_draw (fun _ _ => False) (tac (tv 0) (tac (tcb caLen (tac (tv 1) tan)) tan))))) (gn 6)) tnx))
    (tseq (tmid (tifs (tb' (to opEq (tcall sp__law_draw (fun _ _ => False) (tac (tv 0) (tac (tc (.int 8)) tan))) (tc (.int 0)))) (tasg (to opIx (tv 2) (tcall sp__law_draw (fun _ _ => False) (tac (tv 0) (tac (tc (.int 6)) tan)))) (gn 6)) tnx))
    (tmid (tifs (tb' (to (opIn true) (tv 6) (tv 4))) (tdrop (tbm isLs mApp (tv 4) (tac (tv 6) tan))) tnx))))))
    (tret (tcb caTup (tac (tv 4) tan))))))))
abbrev n__law_kinds : List Str := ["kind", "piece"]
def t__law_kinds (sp__law_kinds : Sp') : TS' :=
    (tseq (tifs (tb' (to opEq (to opIx (tv 0) (tc (.int 0))) (tc (.str "pair")))) (tret (to opAdd (to opAdd (tc (.int 1)) (tcall sp__law_kinds (fun _ _ => False) (tac (to opIx (tv 0) (tc (.int 1))) tan))) (tcall sp__law_kinds (fun _ _ => False) (tac (to opIx (tv 0) (tc (.int 2))) tan)))) tnx)
    (tseq (tifs (tb' (to opEq (to opIx (tv 0) (tc (.int 0))) (tc (.str "either")))) (tret (to opAdd (tc (.int 1)) (tcb caSum (tac (tlc (tse (to opIx (tv 0) (tc (.int 1)))) 1 tyes (tcall sp__law_kinds (fun _ _ => False) (tac (tv 1) tan))) tan)))) tnx)
    (tseq (tifs (tb' (to opEq (to opIx (tv 0) (tc (.int 0))) (tc (.str "maybe")))) (tret (to opAdd (tc (.int 1)) (tcall sp__law_kinds (fun _ _ => False) (tac (to opIx (tv 0) (tc (.int 1))) tan)))) tnx)
    (tret (tc (.int 1))))))
abbrev n__law_kind : List Str := ["tape", "depth", "many", "choice", "first", "left", "parts", "kinds", "k", "piece"]
def t__law_kind (sp__law_draw : Sp') (sp__law_names : Sp') (sp__law_kind : Sp') (sp__law_kinds : Sp') : TS' :=
    (tseq (tasg (tcall sp__law_draw (fun _ _ => False) (tac (tv 0) (tac (tc (.int 8)) tan))) (gn 3))
    (tseq (tifs (torp (tb' (to opEq (tv 1) (tc (.int 1)))) (torp (tb' (to opEq (tv 2) (tc (.int 1)))) (tb' (to opLt (tv 3) (tc (.int 2)))))) (tseq (tifs (tb' (to opEq (tcall sp__law_draw (fun _ _ => False) (tac (tv 0) (tac (tc (.int 3)) tan))) (tc (.int 0)))) (tret (ttup (tac (tc (.str "names")) (tac (tcall sp__law_names (fun _ _ => False) (tac (tv 0) tan)) tan)))) tnx)
    (tret (ttup (tac (tc (.str "integers")) tan)))) tnx)
    (tseq (tifs (torp (tb' (to opEq (tv 2) (tc (.int 2)))) (tb' (to opEq (tv 3) (tc (.int 2))))) (tret (ttup (tac (tc (.str "maybe")) (tac (tcall sp__law_kind (fun _ _ => False) (tac (tv 0) (tac (to opSub (tv 1) (tc (.int 1))) (tac (to opSub (tv 2) (tc (.int 1))) tan)))) tan)))) tnx)
    (tseq (tifs (tb' (to opLt (tv 3) (tc (.int 6)))) (tseq (tasg (tcall sp__law_kind (fun _ _ => False) (tac (tv 0) (tac (to opSub (tv 1) (tc (.int 1))) (tac (to opSub (tv 2) (tc (.int 2))) tan)))) (gn 4))
    (tret (ttup (tac (tc (.str "pair")) (tac (tv 4) (tac (tcall sp__law_kind (fun _ _ => False) (tac (tv 0) (tac (to opSub (tv 1) (tc (.int 1))) (tac (to opSub (to opSub (tv 2) (tc (.int 1))) (tcall sp__law_kinds (fun _ _ => False) (tac (tv 4) tan))) tan)))) tan)))))) tnx)
    (tseq (tasg (to opSub (tv 2) (tc (.int 1))) (gn 5))
    (tseq (tasg (to opAdd (tc (.int 1)) (tcall sp__law_draw (fun _ _ => False) (tac (tv 0) (tac (tcb caMin (tac (tc (.int 3)) (tac (tv 5) tan))) tan)))) (gn 6))
    (tseq (tasg (town tan) (gn 7))
    (tseq (tfor (trg1 (tac (tv 6) tan)) (gn 8) (tseq (tasg (tcall sp__law_kind (fun _ _ => False) (tac (tv 0) (tac (to opSub (tv 1) (tc (.int 1))) (tac (to opSub (tv 5) (to opSub (to opSub (tv 6) (tc (.int 1))) (tv 8))) tan)))) (gn 9))
    (tseq (tdrop (tbm isLs mApp (tv 7) (tac (tv 9) tan)))
    (tasg (to opSub (tv 5) (tcall sp__law_kinds (fun _ _ => False) (tac (tv 9) tan))) (gn 5)))))
    (tret (ttup (tac (tc (.str "either")) (tac (tcb caTup (tac (tv 7) tan)) tan))))))))))))
abbrev n__law_integer : List Str := ["tape", "top", "choice", "number"]
def t__law_integer (sp__law_draw : Sp') : TS' :=
    (tseq (tasg (tcall sp__law_draw (fun _ _ => False) (tac (tv 0) (tac (tc (.int 5)) tan))) (gn 2))
    (tseq (tasg (tcall sp__law_draw (fun _ _ => False) (tac (tv 0) (tac (to opIx (tlis (tac (tc (.int 2)) (tac (to opAdd (tv 1) (tc (.int 1))) (tac (to opAdd (tv 1) (tc (.int 14))) (tac (to opPow (tc (.int 10)) (tc (.int 9))) (tac (to opSub (to opPow (tc (.int 10)) (tc (.int 30))) (tc (.int 99))) tan)))))) (tv 2)) tan))) (gn 3))
    (tseq (tmid (tifs (tb' (to opEq (tv 2) (tc (.int 3)))) (tasg (to opAdd (to opMul (tv 3) (to opPow (tc (.int 10)) (tc (.int 21)))) (tcall sp__law_draw (fun _ _ => False) (tac (tv 0) (tac (to opPow (tc (.int 10)) (tc (.int 9))) tan)))) (gn 3)) tnx))
    (tret (to opIx (tlis (tac (tv 3) (tac (tu unNeg (tv 3)) tan))) (tcall sp__law_draw (fun _ _ => False) (tac (tv 0) (tac (tc (.int 2)) tan))))))))
abbrev n__law_letter : List Str := ["tape", "kind", "theory", "first", "i"]
def t__law_letter (sp__law_draw : Sp') (sp__law_integer : Sp') (sp__law_letter : Sp') : TS' :=
    (tseq (tifs (tb' (to opEq (to opIx (tv 1) (tc (.int 0))) (tc (.str "names")))) (tret (to opIx (to opIx (tv 1) (tc (.int 1))) (tcall sp__law_draw (fun _ _ => False) (tac (tv 0) (tac (tcb caLen (tac (to opIx (tv 1) (tc (.int 1))) tan)) tan))))) tnx)
    (tseq (tifs (tb' (to opEq (to opIx (tv 1) (tc (.int 0))) (tc (.str "integers")))) (tret (tcall sp__law_integer (fun _ _ => False) (tac (tv 0) (tac (to opIx (tv 2) (tc (.int 0))) tan)))) tnx)
    (tseq (tifs (tb' (to opEq (to opIx (tv 1) (tc (.int 0))) (tc (.str "pair")))) (tseq (tasg (tcall sp__law_letter (fun _ _ => False) (tac (tv 0) (tac (to opIx (tv 1) (tc (.int 1))) (tac (tv 2) tan)))) (gn 3))
    (tret (ttup (tac (tc (.str "pair")) (tac (tv 3) (tac (tcall sp__law_letter (fun _ _ => False) (tac (tv 0) (tac (to opIx (tv 1) (tc (.int 2))) (tac (tv 2) tan)))) tan)))))) tnx)
    (tseq (tifs (tb' (to opEq (to opIx (tv 1) (tc (.int 0))) (tc (.str "either")))) (tseq (tasg (tcall sp__law_draw (fun _ _ => False) (tac (tv 0) (tac (tcb caLen (tac (to opIx (tv 1) (tc (.int 1))) tan)) tan))) (gn 4))
    (tret (ttup (tac (tc (.str "case")) (tac (tv 4) (tac (tcall sp__law_letter (fun _ _ => False) (tac (tv 0) (tac (to opIx (to opIx (tv 1) (tc (.int 1))) (tv 4)) (tac (tv 2) tan)))) tan)))))) tnx)
    (tseq (tifs (tb' (to opEq (tcall sp__law_draw (fun _ _ => False) (tac (tv 0) (tac (tc (.int 3)) tan))) (tc (.int 0)))) (tret (ttup (tac (tc (.str "none")) tan))) tnx)
    (tret (ttup (tac (tc (.str "some")) (tac (tcall sp__law_letter (fun _ _ => False) (tac (tv 0) (tac (to opIx (tv 1) (tc (.int 1))) (tac (tv 2) tan)))) tan)))))))))
abbrev n_law : List Str := ["script", "tape", "kind", "other", "letter", "spoilt", "values", "value", "asked", "told"]
def t_law (sp__law_tape : Sp') (sp__law_kind : Sp') (sp__law_letter : Sp') (sp__law_spoilt : Sp') (sp__law_wild : Sp') (sp__law_draw : Sp') (sp_is_letter : Sp') (sp__law_is_letter : Sp') : TS' :=
    (tseq (tasg (tcall sp__law_tape (fun _ _ => False) (tac (tv 0) tan)) (gn 1))
    (tseq (tasg (tcall sp__law_kind (fun _ _ => False) (tac (tv 1) (tac (tc (.int 3)) (tac (tc (.int 6)) tan)))) (gn 2))
    (tseq (tasg (tcall sp__law_kind (fun _ _ => False) (tac (tv 1) (tac (tc (.int 3)) (tac (tc (.int 6)) tan)))) (gn 3))
    (tseq (tasg (tcall sp__law_letter (fun _ _ => False) (tac (tv 1) (tac (tv 2) (tac (ttup (tac (tc (.int 20)) (tac (tc (.int 12)) tan))) tan)))) (gn 4))
    (tseq (tasg (tcall sp__law_spoilt (fun _ _ => False) (tac (tv 1) (tac (tv 4) tan))) (gn 5))
    (tseq (tasg (tlis (tac (tv 4) (tac (tv 5) (tac (tcall sp__law_spoilt (fun _ _ => False) (tac (tv 1) (tac (tv 5) tan))) (tac (tcall sp__law_letter (fun _ _ => False) (tac (tv 1) (tac (tv 3) (tac (ttup (tac (tc (.int 20)) (tac (tc (.int 12)) tan))) tan)))) (tac (tcall sp__law_wild (fun _ _ => False) (tac (tv 1) (tac (tc (.int 2)) tan))) tan)))))) (gn 6))
    (tseq (tasg (to opAdd (tv 6) (tlis (tac (to opIx (tlis (tac (tc (.bl true)) (tac (tc (.bl false)) (tac (tc .non) tan)))) (tcall sp__law_draw (fun _ _ => False) (tac (tv 1) (tac (tc (.int 3)) tan)))) (tac (tv 4) tan)))) (gn 6))
    (tseq (tfor (tse (tv 6)) (gn 7) (tfor (tse (tlis (tac (tv 2) (tac (tv 3) (tac (tv 2) tan))))) (gn 8) (tseq (tasg (tcall sp_is_letter (fun _ _ => False) (tac (tv 8) (tac (tv 7) tan))) (gn 9))
    (tifs (tor (tnot (tb' (tcb caIs (tac (tv 9) (tac (tc (.ty "bool")) tan))))) (tb' (to opNe (tv 9) (tcall sp__law_is_letter (fun _ _ => False) (tac (tv 8) (tac (tv 7) tan)))))) (tret (tc (.bl false))) tnx))))
    (tret (tc (.bl true)))))))))))
end K00
set_option Elab.async false
set_option linter.all false
namespace K01
open PySem PySem.Spec PyProof.Rows L2 DL
abbrev n_law : List Str := ["script", "tape", "kind", "turned", "first", "second", "third", "strange", "asked", "pair"]
def t_law (sp__law_tape : Sp') (sp__law_kind : Sp') (sp__law_turned : Sp') (sp__law_letter : Sp') (sp__law_draw : Sp') (sp__law_near : Sp') (sp__law_foreign : Sp') (sp__law_answers : Sp') (sp__law_refused : Sp') : TS' :=
    (tseq (tasg (tcall sp__law_tape (fun _ _ => False) (tac (tv 0) tan)) (gn 1))
    (tseq (tasg (tcall sp__law_kind (fun _ _ => False) (tac (tv 1) (tac (tc (.int 3)) (tac (tc (.int 6)) tan)))) (gn 2))
    (tseq (tasg (tcall sp__law_turned (fun _ _ => False) (tac (tv 2) tan)) (gn 3))
    (tseq (tasg (tcall sp__law_letter (fun _ _ => False) (tac (tv 1) (tac (tv 2) (tac (ttup (tac (tc (.int 20)) (tac (tc (.int 12)) tan))) tan)))) (gn 4))
    (tseq (tasg (tcall sp__law_letter (fun _ _ => False) (tac (tv 1) (tac (tv 2) (tac (ttup (tac (tc (.int 20)) (tac (tc (.int 12)) tan))) tan)))) (gn 5))
    (tseq (tmid (tifs (tb' (to opEq (tcall sp__law_draw (fun _ _ => False) (tac (tv 1) (tac (tc (.int 2)) tan))) (tc (.int 0)))) (tasg (tcall sp__law_near (fun _ _ => False) (tac (tv 1) (tac (tv 2) (tac (tv 4) tan)))) (gn 5)) tnx))
    (tseq (tasg (tcall sp__law_letter (fun _ _ => False) (tac (tv 1) (tac (tv 2) (tac (ttup (tac (tc (.int 20)) (tac (tc (.int 12)) tan))) tan)))) (gn 6))
    (tseq (tasg (tcall sp__law_foreign (fun _ _ => False) (tac (tv 1) (tac (tv 2) (tac (tv 4) tan)))) (gn 7))
    (tseq (tfor (tse (tlis (tac (tv 2) (tac (tv 3) (tac (tv 2) tan))))) (gn 8) (tfor (tse (tlis (tac (ttup (tac (tv 4) (tac (tv 5) tan))) (tac (ttup (tac (tv 5) (tac (tv 4) tan))) (tac (ttup (tac (tv 4) (tac (tv 6) tan))) tan))))) (gn 9) (tifs (tnot (tb' (tcall sp__law_answers (fun _ _ => False) (tac (tv 8) (tac (to opIx (tv 9) (tc (.int 0))) (tac (to opIx (tv 9) (tc (.int 1))) tan)))))) (tret (tc (.bl false))) tnx)))
    (tseq (tifs (tor (tnot (tb' (tcall sp__law_refused (fun _ _ => False) (tac (tv 2) (tac (tv 7) (tac (tv 5) tan)))))) (tnot (tb' (tcall sp__law_answers (fun _ _ => False) (tac (tv 2) (tac (tv 5) (tac (tv 5) tan))))))) (tret (tc (.bl false))) tnx)
    (tret (tandv (tcall sp__law_refused (fun _ _ => False) (tac (tv 2) (tac (tv 4) (tac (tv 7) tan)))) (tcall sp__law_answers (fun _ _ => False) (tac (tv 2) (tac (tv 6) (tac (tv 5) tan))))))))))))))))
end K01
set_option Elab.async false
set_option linter.all false
namespace K02
open PySem PySem.Spec PyProof.Rows L2 DL
abbrev n__law_changed : List Str := ["tape", "kind", "word", "choice", "k"]
def t__law_changed (sp__law_draw : Sp') (sp__law_word : Sp') (sp__law_letter : Sp') (sp__law_near : Sp') : TS' :=
    (tseq (tasg (tcall sp__law_draw (fun _ _ => False) (tac (tv 0) (tac (tc (.int 6)) tan))) (gn 3))
    (tseq (tifs (tor (tb' (to opEq (tv 3) (tc (.int 0)))) (tb' (to opEq (tcb caLen (tac (tv 2) tan)) (tc (.int 0))))) (tret (tcall sp__law_word (fun _ _ => False) (tac (tv 0) (tac (tv 1) (tac (ttup (tac (tc (.int 20)) (tac (tc (.int 12)) tan))) (tac (tc (.int 8)) tan)))))) tnx)
    (tseq (tasg (tcall sp__law_draw (fun _ _ => False) (tac (tv 0) (tac (tcb caLen (tac (tv 2) tan)) tan))) (gn 4))
    (tseq (tifs (tb' (to opEq (tv 3) (tc (.int 1)))) (tret (tsl (tv 2) tpn (tpe (tv 4)))) tnx)
    (tseq (tifs (tand (tb' (to opEq (tv 3) (tc (.int 2)))) (tb' (to opLt (tcb caLen (tac (tv 2) tan)) (tc (.int 8))))) (tret (to opAdd (to opAdd (tsl (tv 2) tpn (tpe (tv 4))) (ttup (tac (tcall sp__law_letter (fun _ _ => False) (tac (tv 0) (tac (tv 1) (tac (ttup (tac (tc (.int 20)) (tac (tc (.int 12)) tan))) tan)))) tan))) (tsl (tv 2) (tpe (tv 4)) tpn))) tnx)
    (tseq (tifs (tb' (to opEq (tv 3) (tc (.int 3)))) (tret (to opAdd (tsl (tv 2) (tpe (tv 4)) tpn) (tsl (tv 2) tpn (tpe (tv 4))))) tnx)
    (tret (to opAdd (to opAdd (tsl (tv 2) tpn (tpe (tv 4))) (ttup (tac (tcall sp__law_near (fun _ _ => False) (tac (tv 0) (tac (tv 1) (tac (to opIx (tv 2) (tv 4)) tan)))) tan))) (tsl (tv 2) (tpe (to opAdd (tv 4) (tc (.int 1)))) tpn)))))))))
abbrev n_law : List Str := ["script", "tape", "kind", "first", "second", "third", "asked", "pair", "letter", "k", "strange"]
def t_law (sp__law_tape : Sp') (sp__law_kind : Sp') (sp__law_word : Sp') (sp__law_changed : Sp') (sp__law_turned : Sp') (sp__law_answers : Sp') (sp__law_letter : Sp') (sp__law_draw : Sp') (sp__law_foreign : Sp') (sp__law_refused : Sp') : TS' :=
    (tseq (tasg (tcall sp__law_tape (fun _ _ => False) (tac (tv 0) tan)) (gn 1))
    (tseq (tasg (tcall sp__law_kind (fun _ _ => False) (tac (tv 1) (tac (tc (.int 3)) (tac (tc (.int 6)) tan)))) (gn 2))
    (tseq (tasg (tcall sp__law_word (fun _ _ => False) (tac (tv 1) (tac (tv 2) (tac (ttup (tac (tc (.int 20)) (tac (tc (.int 12)) tan))) (tac (tc (.int 8)) tan))))) (gn 3))
    (tseq (tasg (tcall sp__law_changed (fun _ _ => False) (tac (tv 1) (tac (tv 2) (tac (tv 3) tan)))) (gn 4))
    (tseq (tasg (tcall sp__law_changed (fun _ _ => False) (tac (tv 1) (tac (tv 2) (tac (tv 4) tan)))) (gn 5))
    (tseq (tfor (tse (tlis (tac (tv 2) (tac (tcall sp__law_turned (fun _ _ => False) (tac (tv 2) tan)) (tac (tv 2) tan))))) (gn 6) (tfor (tse (tlis (tac (ttup (tac (tv 3) (tac (tv 4) tan))) (tac (ttup (tac (tv 4) (tac (tv 3) tan))) (tac (ttup (tac (tv 3) (tac (tv 5) tan))) tan))))) (gn 7) (tifs (tnot (tb' (tcall sp__law_answers (fun _ _ => False) (tac (tv 6) (tac (to opIx (tv 7) (tc (.int 0))) (tac (to opIx (tv 7) (tc (.int 1))) tan)))))) (tret (tc (.bl false))) tnx)))
    (tseq (tasg (tcall sp__law_letter (fun _ _ => False) (tac (tv 1) (tac (tv 2) (tac (ttup (tac (tc (.int 20)) (tac (tc (.int 12)) tan))) tan)))) (gn 8))
    (tseq (tasg (tcall sp__law_draw (fun _ _ => False) (tac (tv 1) (tac (tc (.int 7)) tan))) (gn 9))
    (tseq (tasg (to opAdd (to opAdd (tsl (tv 3) tpn (tpe (tv 9))) (ttup (tac (tcall sp__law_foreign (fun _ _ => False) (tac (tv 1) (tac (tv 2) (tac (tv 8) tan)))) tan))) (tsl (tv 3) (tpe (to opAdd (tv 9) (tc (.int 1)))) tpn)) (gn 10))
    (tseq (tifs (tor (tnot (tb' (tcall sp__law_refused (fun _ _ => False) (tac (tv 2) (tac (tv 10) (tac (tv 4) tan)))))) (tnot (tb' (tcall sp__law_answers (fun _ _ => False) (tac (tv 2) (tac (tv 4) (tac (tv 5) tan))))))) (tret (tc (.bl false))) tnx)
    (tret (tandv (tcall sp__law_refused (fun _ _ => False) (tac (tv 2) (tac (tv 4) (tac (tv 10) tan)))) (tcall sp__law_answers (fun _ _ => False) (tac (tv 2) (tac (tv 4) (tac (tv 4) tan))))))))))))))))
end K02
set_option Elab.async false
set_option linter.all false
namespace K03
open PySem PySem.Spec PyProof.Rows L2 DL
abbrev n_law : List Str := ["script", "tape", "kinds", "letters", "paths", "late", "path", "k", "which", "kind"]
def t_law (sp__law_tape : Sp') (sp__law_kind : Sp') (sp__law_letter : Sp') (sp__law_path : Sp') (sp__law_draw : Sp') (sp__law_kind_at : Sp') (sp_kind_at : Sp') (sp__law_same : Sp') (sp__law_part_at : Sp') (sp_part_at : Sp') : TS' :=
    (tseq (tasg (tcall sp__law_tape (fun _ _ => False) (tac (tv 0) tan)) (gn 1))
    (tseq (tasg (tlis (tac (tcall sp__law_kind (fun _ _ => False) (tac (tv 1) (tac (tc (.int 3)) (tac (tc (.int 6)) tan)))) (tac (tcall sp__law_kind (fun _ _ => False) (tac (tv 1) (tac (tc (.int 3)) (tac (tc (.int 6)) tan)))) tan))) (gn 2))
    (tseq (tasg (tlc (tse (tv 2)) 9 tyes (tcall sp__law_letter (fun _ _ => False) (tac (tv 1) (tac (tv 9) (tac (ttup (tac (tc (.int 20)) (tac (tc (.int 12)) tan))) tan))))) (gn 3))
    (tseq (tasg (tlis (tac (tcall sp__law_path (fun _ _ => False) (tac (tv 1) (tac (to opIx (tv 2) (tc (.int 0))) tan))) (tac (tcall sp__law_path (fun _ _ => False) (tac (tv 1) (tac (to opIx (tv 2) (tc (.int 0))) tan))) (tac (tcall sp__law_path (fun _ _ => False) (tac (tv 1) (tac (to opIx (tv 2) (tc (.int 1))) tan))) tan)))) (gn 4))
    (tseq (tasg (tcall sp__law_draw (fun _ _ => False) (tac (tv 1) (tac (tc (.int 2)) tan))) (gn 5))
    (tseq (tfor (tse (to opAdd (tv 4) (tsl (tv 4) tpn (tpe (tc (.int 1)))))) (gn 6) (tfor (trg1 (tac (tc (.int 2)) tan)) (gn 7) (tfor (tse (tlis (tac (tv 5) (tac (to opSub (tc (.int 1)) (tv 5)) tan)))) (gn 8) (tseq (tifs (tand (tb' (to opEq (tv 8) (tc (.int 0)))) (tnot (tb' (tcall sp__law_same (fun _ _ => False) (tac (tcall sp_kind_at (fun _ _ => False) (tac (to opIx (tv 2) (tv 7)) (tac (tv 6) tan))) (tac (tcall sp__law_kind_at (fun _ _ => False) (tac (to opIx (tv 2) (tv 7)) (tac (tv 6) tan))) tan)))))) (tret (tc (.bl false))) tnx)
    (tifs (tand (tb' (to opEq (tv 8) (tc (.int 1)))) (tnot (tb' (tcall sp__law_same (fun _ _ => False) (tac (tcall sp_part_at (fun _ _ => False) (tac (to opIx (tv 3) (tv 7)) (tac (tv 6) tan))) (tac (tcall sp__law_part_at (fun _ _ => False) (tac (to opIx (tv 3) (tv 7)) (tac (tv 6) tan))) tan)))))) (tret (tc (.bl false))) tnx)))))
    (tret (tc (.bl true)))))))))
end K03
set_option Elab.async false
set_option linter.all false
namespace K04
open PySem PySem.Spec PyProof.Rows L2 DL
abbrev n__law_any_kind : List Str := ["tape", "choice"]
def t__law_any_kind (sp__law_draw : Sp') (sp__law_kind : Sp') : TS' :=
    (tseq (tasg (tcall sp__law_draw (fun _ _ => False) (tac (tv 0) (tac (tc (.int 5)) tan))) (gn 1))
    (tseq (tifs (tb' (to opLt (tv 1) (tc (.int 2)))) (tret (ttup (tac (tc (.str "integers")) tan))) tnx)
    (tret (tcall sp__law_kind (fun _ _ => False) (tac (tv 0) (tac (tc (.int 3)) (tac (to opIx (tlis (tac (tc (.int 6)) (tac (tc (.int 3)) (tac (tc (.int 6)) tan)))) (to opSub (tv 1) (tc (.int 2)))) tan)))))))
abbrev n__law_conditions : List Str := ["condition"]
def t__law_conditions (sp__law_conditions : Sp') : TS' :=
    (tseq (tifs (tb' (to (opIn false) (to opIx (tv 0) (tc (.int 0))) (tlis (tac (tc (.str "not")) (tac (tc (.str "first")) (tac (tc (.str "second")) (tac (tc (.str "some")) tan))))))) (tret (to opAdd (tc (.int 1)) (tcall sp__law_conditions (fun _ _ => False) (tac (to opIx (tv 0) (tc (.int 1))) tan)))) tnx)
    (tseq (tifs (tb' (to (opIn false) (to opIx (tv 0) (tc (.int 0))) (tlis (tac (tc (.str "and")) (tac (tc (.str "or")) tan))))) (tret (to opAdd (to opAdd (tc (.int 1)) (tcall sp__law_conditions (fun _ _ => False) (tac (to opIx (tv 0) (tc (.int 1))) tan))) (tcall sp__law_conditions (fun _ _ => False) (tac (to opIx (tv 0) (tc (.int 2))) tan)))) tnx)
    (tseq (tifs (tb' (to opEq (to opIx (tv 0) (tc (.int 0))) (tc (.str "case")))) (tret (to opAdd (tc (.int 1)) (tcall sp__law_conditions (fun _ _ => False) (tac (to opIx (tv 0) (tc (.int 2))) tan)))) tnx)
    (tret (tc (.int 1))))))
abbrev n__law_comparison : List Str := ["tape", "theory", "choice", "number"]
def t__law_comparison (sp__law_draw : Sp') : TS' :=
    (tseq (tasg (tcall sp__law_draw (fun _ _ => False) (tac (tv 0) (tac (tc (.int 6)) tan))) (gn 2))
    (tseq (tasg (to opSub (tcall sp__law_draw (fun _ _ => False) (tac (tv 0) (tac (to opAdd (to opMul (tc (.int 2)) (to opIx (tv 1) (tc (.int 0)))) (tc (.int 1))) tan))) (to opIx (tv 1) (tc (.int 0)))) (gn 3))
    (tseq (tmid (tifs (tb' (to opLt (tv 2) (tc (.int 3)))) (tasg (to opIx (tlis (tac (tc (.int 0)) (tac (to opIx (tv 1) (tc (.int 0))) (tac (tu unNeg (to opIx (tv 1) (tc (.int 0)))) tan)))) (tv 2)) (gn 3)) tnx))
    (tret (ttup (tac (to opIx (tlis (tac (tc (.str "<")) (tac (tc (.str "=")) (tac (tc (.str ">")) tan)))) (tcall sp__law_draw (fun _ _ => False) (tac (tv 0) (tac (tc (.int 3)) tan)))) (tac (tv 3) tan)))))))
abbrev n__law_modulus : List Str := ["tape", "theory", "m", "moduli"]
def t__law_modulus (sp__law_draw : Sp') : TS' :=
    (tseq (tasg (tlc (tse (tlis (tac (tc (.int 1)) (tac (tc (.int 2)) (tac (tc (.int 3)) (tac (tc (.int 4)) tan)))))) 2 (tb' (to opEq (to opMod (tcb caInt (tac (to opIx (tv 1) (tc (.int 1))) tan)) (tv 2)) (tc (.int 0)))) (tv 2)) (gn 3))
    (tseq (tasg (to opIx (tv 3) (tcb caMax (tac (tcall sp__law_draw (fun _ _ => False) (tac (tv 0) (tac (tcb caLen (tac (tv 3) tan)) tan))) (tac (tcall sp__law_draw (fun _ _ => False) (tac (tv 0) (tac (tcb caLen (tac (tv 3) tan)) tan))) tan)))) (gn 2))
    (tret (ttup (tac (tc (.str "mod")) (tac (tv 2) (tac (tcall sp__law_draw (fun _ _ => False) (tac (tv 0) (tac (tv 2) tan))) tan)))))))
abbrev n__law_leaf : List Str := ["tape", "kind", "theory", "room", "choice", "side", "i"]
def t__law_leaf (sp__law_draw : Sp') (sp__law_modulus : Sp') (sp__law_comparison : Sp') (sp__law_condition : Sp') : TS' :=
    (tseq (tasg (tcall sp__law_draw (fun _ _ => False) (tac (tv 0) (tac (tc (.int 9)) tan))) (gn 4))
    (tseq (tifs (tb' (to opEq (tv 4) (tc (.int 0)))) (tret (to opIx (tlis (tac (ttup (tac (tc (.str "true")) tan)) (tac (ttup (tac (tc (.str "false")) tan)) tan))) (tcall sp__law_draw (fun _ _ => False) (tac (tv 0) (tac (tc (.int 2)) tan))))) tnx)
    (tseq (tifs (tb' (to opEq (to opIx (tv 1) (tc (.int 0))) (tc (.str "names")))) (tret (ttup (tac (tc (.str "is")) (tac (to opIx (to opIx (tv 1) (tc (.int 1))) (tcall sp__law_draw (fun _ _ => False) (tac (tv 0) (tac (tcb caLen (tac (to opIx (tv 1) (tc (.int 1))) tan)) tan)))) tan)))) tnx)
    (tseq (tifs (tb' (to opEq (to opIx (tv 1) (tc (.int 0))) (tc (.str "integers")))) (tseq (tifs (tand (tb' (to opLt (tv 4) (tc (.int 4)))) (tb' (to opGt (to opIx (tv 2) (tc (.int 1))) (tc (.int 1))))) (tret (tcall sp__law_modulus (fun _ _ => False) (tac (tv 0) (tac (tv 2) tan)))) tnx)
    (tret (tcall sp__law_comparison (fun _ _ => False) (tac (tv 0) (tac (tv 2) tan))))) tnx)
    (tseq (tifs (tand (tb' (to opEq (to opIx (tv 1) (tc (.int 0))) (tc (.str "maybe")))) (torp (tb' (to opEq (tv 3) (tc (.int 1)))) (tb' (to opEq (tv 4) (tc (.int 1)))))) (tret (ttup (tac (tc (.str "none")) tan))) tnx)
    (tseq (tifs (tb' (to opEq (tv 3) (tc (.int 1)))) (tret (ttup (tac (tc (.str "true")) tan))) tnx)
    (tseq (tifs (tb' (to opEq (to opIx (tv 1) (tc (.int 0))) (tc (.str "pair")))) (tseq (tasg (tcall sp__law_draw (fun _ _ => False) (tac (tv 0) (tac (tc (.int 2)) tan))) (gn 5))
    (tret (ttup (tac (to opIx (tlis (tac (tc (.str "first")) (tac (tc (.str "second")) tan))) (tv 5)) (tac (tcall sp__law_condition (fun _ _ => False) (tac (tv 0) (tac (to opIx (tv 1) (to opAdd (tc (.int 1)) (tv 5))) (tac (tv 2) (tac (to opSub (tv 3) (tc (.int 1))) tan))))) tan))))) tnx)
    (tseq (tifs (tb' (to opEq (to opIx (tv 1) (tc (.int 0))) (tc (.str "either")))) (tseq (tasg (tcall sp__law_draw (fun _ _ => False) (tac (tv 0) (tac (tcb caLen (tac (to opIx (tv 1) (tc (.int 1))) tan)) tan))) (gn 6))
    (tret (ttup (tac (tc (.str "case")) (tac (tv 6) (tac (tcall sp__law_condition (fun _ _ => False) (tac (tv 0) (tac (to opIx (to opIx (tv 1) (tc (.int 1))) (tv 6)) (tac (tv 2) (tac (to opSub (tv 3) (tc (.int 1))) tan))))) tan)))))) tnx)
    (tret (ttup (tac (tc (.str "some")) (tac (tcall sp__law_condition (fun _ _ => False) (tac (tv 0) (tac (to opIx (tv 1) (tc (.int 1))) (tac (tv 2) (tac (to opSub (tv 3) (tc (.int 1))) tan))))) tan))))))))))))
abbrev n__law_condition : List Str := ["tape", "kind", "theory", "room", "choice", "first", "second"]
def t__law_condition (sp__law_draw : Sp') (sp__law_condition : Sp') (sp__law_conditions : Sp') (sp__law_leaf : Sp') : TS' :=
    (tseq (tasg (tcall sp__law_draw (fun _ _ => False) (tac (tv 0) (tac (tc (.int 10)) tan))) (gn 4))
    (tseq (tifs (tand (tb' (to opGt (tv 3) (tc (.int 1)))) (tb' (to opEq (tv 4) (tc (.int 0))))) (tret (ttup (tac (tc (.str "not")) (tac (tcall sp__law_condition (fun _ _ => False) (tac (tv 0) (tac (tv 1) (tac (tv 2) (tac (to opSub (tv 3) (tc (.int 1))) tan))))) tan)))) tnx)
    (tseq (tifs (tand (tb' (to opGt (tv 3) (tc (.int 2)))) (tb' (to opLt (tv 4) (tc (.int 6))))) (tseq (tasg (tcall sp__law_condition (fun _ _ => False) (tac (tv 0) (tac (tv 1) (tac (tv 2) (tac (to opSub (tv 3) (tc (.int 2))) tan))))) (gn 5))
    (tseq (tasg (tcall sp__law_condition (fun _ _ => False) (tac (tv 0) (tac (tv 1) (tac (tv 2) (tac (to opSub (to opSub (tv 3) (tc (.int 1))) (tcall sp__law_conditions (fun _ _ => False) (tac (tv 5) tan))) tan))))) (gn 6))
    (tret (ttup (tac (to opIx (tlis (tac (tc (.str "and")) (tac (tc (.str "or")) tan))) (tcall sp__law_draw (fun _ _ => False) (tac (tv 0) (tac (tc (.int 2)) tan)))) (tac (tv 5) (tac (tv 6) tan))))))) tnx)
    (tret (tcall sp__law_leaf (fun _ _ => False) (tac (tv 0) (tac (tv 1) (tac (tv 2) (tac (tv 3) tan)))))))))
abbrev n__law_in : List Str := ["letters", "letter", "low", "high", "row"]
def t__law_in (sp__law_in : Sp') : TS' :=
    (tseq (tifs (tb' (to opEq (to opIx (tv 0) (tc (.int 0))) (tc (.str "names")))) (tret (to (opIn false) (tv 1) (to opIx (tv 0) (tc (.int 1))))) tnx)
    (tseq (tifs (tb' (to opEq (to opIx (tv 0) (tc (.int 0))) (tc (.str "integers")))) (tseq (tasg (to opIx (to opIx (tv 0) (tc (.int 1))) (tc (.int 0))) (gn 2))
    (tseq (tasg (to opIx (to opIx (tv 0) (tc (.int 3))) (tc (.int 0))) (gn 3))
    (tseq (tifs (tb' (to opGe (tv 1) (tv 3))) (tret (to opIx (to opIx (to opIx (tv 0) (tc (.int 3))) (tc (.int 1))) (to opMod (tcb caInt (tac (to opSub (tv 1) (tv 3)) tan)) (tcb caLen (tac (to opIx (to opIx (tv 0) (tc (.int 3))) (tc (.int 1))) tan))))) tnx)
    (tseq (tifs (tb' (to opLe (tv 1) (tv 2))) (tret (to opIx (to opIx (to opIx (tv 0) (tc (.int 1))) (tc (.int 1))) (to opMod (tcb caInt (tac (to opSub (tv 2) (tv 1)) tan)) (tcb caLen (tac (to opIx (to opIx (tv 0) (tc (.int 1))) (tc (.int 1))) tan))))) tnx)
    (tret (to (opIn false) (tv 1) (to opIx (tv 0) (tc (.int 2))))))))) tnx)
    (tseq (tifs (tb' (to opEq (to opIx (tv 0) (tc (.int 0))) (tc (.str "pairs")))) (tseq (tfor (tse (to opIx (tv 0) (tc (.int 1)))) (gn 4) (tifs (tb' (tcall sp__law_in (fun _ _ => False) (tac (to opIx (tv 4) (tc (.int 0))) (tac (to opIx (tv 1) (tc (.int 1))) tan)))) (tret (tcall sp__law_in (fun _ _ => False) (tac (to opIx (tv 4) (tc (.int 1))) (tac (to opIx (tv 1) (tc (.int 2))) tan)))) tnx))
    (tret (tc (.bl false)))) tnx)
    (tseq (tifs (tb' (to opEq (to opIx (tv 0) (tc (.int 0))) (tc (.str "either")))) (tret (tcall sp__law_in (fun _ _ => False) (tac (to opIx (to opIx (tv 0) (tc (.int 1))) (to opIx (tv 1) (tc (.int 1)))) (tac (to opIx (tv 1) (tc (.int 2))) tan)))) tnx)
    (tseq (tifs (tb' (to opEq (to opIx (tv 1) (tc (.int 0))) (tc (.str "none")))) (tret (to opIx (tv 0) (tc (.int 1)))) tnx)
    (tret (tcall sp__law_in (fun _ _ => False) (tac (to opIx (tv 0) (tc (.int 2))) (tac (to opIx (tv 1) (tc (.int 1))) tan)))))))))
abbrev n__law_meets : List Str := ["condition", "letter", "head"]
def t__law_meets (sp__law_meets : Sp') (sp__law_in : Sp') : TS' :=
    (tseq (tasg (to opIx (tv 0) (tc (.int 0))) (gn 2))
    (tseq (tifs (tb' (to opEq (tv 2) (tc (.str "<")))) (tret (to opLt (tv 1) (to opIx (tv 0) (tc (.int 1))))) tnx)
    (tseq (tifs (tb' (to opEq (tv 2) (tc (.str ">")))) (tret (to opGt (tv 1) (to opIx (tv 0) (tc (.int 1))))) tnx)
    (tseq (tifs (tb' (to opEq (tv 2) (tc (.str "mod")))) (tret (to opEq (to opMod (tcb caInt (tac (to opSub (tv 1) (to opIx (tv 0) (tc (.int 2)))) tan)) (to opIx (tv 0) (tc (.int 1)))) (tc (.int 0)))) tnx)
    (tseq (tifs (torp (tb' (to opEq (tv 2) (tc (.str "=")))) (tb' (to opEq (tv 2) (tc (.str "is"))))) (tret (to opEq (tv 1) (to opIx (tv 0) (tc (.int 1))))) tnx)
    (tseq (tifs (tb' (to opEq (tv 2) (tc (.str "and")))) (tret (tandv (tcall sp__law_meets (fun _ _ => False) (tac (to opIx (tv 0) (tc (.int 1))) (tac (tv 1) tan))) (tcall sp__law_meets (fun _ _ => False) (tac (to opIx (tv 0) (tc (.int 2))) (tac (tv 1) tan))))) tnx)
    (tseq (tifs (tb' (to opEq (tv 2) (tc (.str "or")))) (tret (torv (tcall sp__law_meets (fun _ _ => False) (tac (to opIx (tv 0) (tc (.int 1))) (tac (tv 1) tan))) (tcall sp__law_meets (fun _ _ => False) (tac (to opIx (tv 0) (tc (.int 2))) (tac (tv 1) tan))))) tnx)
    (tseq (tifs (tb' (to opEq (tv 2) (tc (.str "not")))) (tret (tnotv (tcall sp__law_meets (fun _ _ => False) (tac (to opIx (tv 0) (tc (.int 1))) (tac (tv 1) tan))))) tnx)
    (tseq (tifs (tb' (to opEq (tv 2) (tc (.str "first")))) (tret (tcall sp__law_meets (fun _ _ => False) (tac (to opIx (tv 0) (tc (.int 1))) (tac (to opIx (tv 1) (tc (.int 1))) tan)))) tnx)
    (tseq (tifs (tb' (to opEq (tv 2) (tc (.str "second")))) (tret (tcall sp__law_meets (fun _ _ => False) (tac (to opIx (tv 0) (tc (.int 1))) (tac (to opIx (tv 1) (tc (.int 2))) tan)))) tnx)
    (tseq (tifs (tb' (to opEq (tv 2) (tc (.str "case")))) (tret (tandv (to opEq (to opIx (tv 1) (tc (.int 1))) (to opIx (tv 0) (tc (.int 1)))) (tcall sp__law_meets (fun _ _ => False) (tac (to opIx (tv 0) (tc (.int 2))) (tac (to opIx (tv 1) (tc (.int 2))) tan))))) tnx)
    (tseq (tifs (tb' (to opEq (tv 2) (tc (.str "some")))) (tret (tandv (to opEq (to opIx (tv 1) (tc (.int 0))) (tc (.str "some"))) (tcall sp__law_meets (fun _ _ => False) (tac (to opIx (tv 0) (tc (.int 1))) (tac (to opIx (tv 1) (tc (.int 1))) tan))))) tnx)
    (tseq (tifs (tb' (to opEq (tv 2) (tc (.str "none")))) (tret (to opEq (to opIx (tv 1) (tc (.int 0))) (tc (.str "none")))) tnx)
    (tseq (tifs (tb' (to opEq (tv 2) (tc (.str "in")))) (tret (tcall sp__law_in (fun _ _ => False) (tac (to opIx (tv 0) (tc (.int 1))) (tac (tv 1) tan)))) tnx)
    (tret (to opEq (tv 2) (tc (.str "true"))))))))))))))))))
abbrev n_law : List Str := ["script", "tape", "kind", "first", "second", "third", "letter", "letters", "condition", "asked", "wrong", "strange"]
def t_law (sp__law_tape : Sp') (sp__law_any_kind : Sp') (sp__law_condition : Sp') (sp__law_varied : Sp') (sp__law_letter : Sp') (sp__law_near : Sp') (sp__law_answers : Sp') (sp__law_wrong : Sp') (sp__law_foreign : Sp') (sp__law_refusal : Sp') : TS' :=
    (tseq (tasg (tcall sp__law_tape (fun _ _ => False) (tac (tv 0) tan)) (gn 1))
    (tseq (tasg (tcall sp__law_any_kind (fun _ _ => False) (tac (tv 1) tan)) (gn 2))
    (tseq (tasg (tcall sp__law_condition (fun _ _ => False) (tac (tv 1) (tac (tv 2) (tac (ttup (tac (tc (.int 20)) (tac (tc (.int 12)) tan))) (tac (tc (.int 7)) tan))))) (gn 3))
    (tseq (tasg (tcall sp__law_varied (fun _ _ => False) (tac (tv 1) (tac (tv 2) (tac (tv 3) (tac (ttup (tac (tc (.int 20)) (tac (tc (.int 12)) tan))) tan))))) (gn 4))
    (tseq (tasg (tcall sp__law_condition (fun _ _ => False) (tac (tv 1) (tac (tv 2) (tac (ttup (tac (tc (.int 20)) (tac (tc (.int 12)) tan))) (tac (tc (.int 8)) tan))))) (gn 5))
    (tseq (tasg (tcall sp__law_letter (fun _ _ => False) (tac (tv 1) (tac (tv 2) (tac (ttup (tac (tc (.int 20)) (tac (tc (.int 12)) tan))) tan)))) (gn 6))
    (tseq (tasg (tlis (tac (tv 6) (tac (tcall sp__law_near (fun _ _ => False) (tac (tv 1) (tac (tv 2) (tac (tv 6) tan)))) (tac (tcall sp__law_letter (fun _ _ => False) (tac (tv 1) (tac (tv 2) (tac (ttup (tac (tc (.int 20)) (tac (tc (.int 12)) tan))) tan)))) tan)))) (gn 7))
    (tseq (tfor (tse (tlis (tac (tv 3) (tac (tv 4) (tac (tv 5) (tac (tv 3) tan)))))) (gn 8) (tfor (tse (to opAdd (tv 7) (tlis (tac (tv 6) tan)))) (gn 9) (tifs (tnot (tb' (tcall sp__law_answers (fun _ _ => False) (tac (tv 2) (tac (tv 8) (tac (tv 9) tan)))))) (tret (tc (.bl false))) tnx)))
    (tseq (tasg (tcall sp__law_wrong (fun _ _ => False) (tac (tv 1) (tac (tv 2) (tac (tv 3) tan)))) (gn 10))
    (tseq (tasg (tcall sp__law_foreign (fun _ _ => False) (tac (tv 1) (tac (tv 2) (tac (tv 6) tan)))) (gn 11))
    (tseq (tifs (tor (tb' (to opNe (tcall sp__law_refusal (fun _ _ => False) (tac (tv 2) (tac (tv 10) (tac (tv 6) tan)))) (tc (.int 1)))) (tnot (tb' (tcall sp__law_answers (fun _ _ => False) (tac (tv 2) (tac (tv 3) (tac (tv 6) tan))))))) (tret (tc (.bl false))) tnx)
    (tseq (tifs (tor (tb' (to opNe (tcall sp__law_refusal (fun _ _ => False) (tac (tv 2) (tac (tv 10) (tac (tv 11) tan)))) (tc (.int 1)))) (tb' (to opNe (tcall sp__law_refusal (fun _ _ => False) (tac (tv 2) (tac (tv 3) (tac (tv 11) tan)))) (tc (.int 0))))) (tret (tc (.bl false))) tnx)
    (tret (tandv (to opEq (tcall sp__law_refusal (fun _ _ => False) (tac (tv 2) (tac (tv 4) (tac (tv 11) tan)))) (tc (.int 0))) (to opEq (tcall sp__law_refusal (fun _ _ => False) (tac (tv 2) (tac (tv 3) (tac (to opIx (tv 7) (tc (.int 1))) tan)))) (tc (.int 99)))))))))))))))))
end K04
set_option Elab.async false
set_option linter.all false
namespace K22
open PySem PySem.Spec PyProof.Rows L2 DL
abbrev n_has_end : List Str := ["machine", "states", "state"]
def t_has_end  : TS' :=
    (tret (tcb caAny (tac (tlc (tse (tv 1)) 2 tyes (to (opIn false) (tv 2) (to opIx (tv 0) (tc (.int 3))))) tan)))
abbrev n__law_part : List Str := ["tape", "many", "k"]
def t__law_part (sp__law_draw : Sp') : TS' :=
    (tret (tcb caTup (tac (tlc (trg1 (tac (tv 1) tan)) 2 (tb' (to opEq (tcall sp__law_draw (fun _ _ => False) (tac (tv 0) (tac (tc (.int 2)) tan))) (tc (.int 1)))) (tv 2)) tan)))
abbrev n__law_machine : List Str := ["tape", "kind", "theory", "states", "steps", "room", "many", "starts", "ends", "rows", "k", "condition", "choice", "state"]
def t__law_machine (sp__law_draw : Sp') (sp__law_part : Sp') (sp__law_condition : Sp') (sp__law_conditions : Sp') : TS' :=
    (tseq (tasg (to opAdd (tc (.int 1)) (tcall sp__law_draw (fun _ _ => False) (tac (tv 0) (tac (tv 3) tan)))) (gn 6))
    (tseq (tasg (ttup (tac (tcall sp__law_draw (fun _ _ => False) (tac (tv 0) (tac (tv 6) tan))) tan)) (gn 7))
    (tseq (tmid (tifs (tb' (to opEq (tcall sp__law_draw (fun _ _ => False) (tac (tv 0) (tac (tc (.int 4)) tan))) (tc (.int 0)))) (tasg (tcall sp__law_part (fun _ _ => False) (tac (tv 0) (tac (tv 6) tan))) (gn 7)) tnx))
    (tseq (tasg (tcall sp__law_part (fun _ _ => False) (tac (tv 0) (tac (tv 6) tan))) (gn 8))
    (tseq (tmid (tifs (tb' (to opEq (tcall sp__law_draw (fun _ _ => False) (tac (tv 0) (tac (tc (.int 3)) tan))) (tc (.int 0)))) (tasg (ttup (tac (tcall sp__law_draw (fun _ _ => False) (tac (tv 0) (tac (tv 6) tan))) tan)) (gn 8)) tnx))
    (tseq (tasg (town tan) (gn 9))
    (tseq (tfor (trg1 (tac (to opSub (tv 4) (tcb caMin (tac (tcall sp__law_draw (fun _ _ => False) (tac (tv 0) (tac (to opAdd (tv 4) (tc (.int 1))) tan))) (tac (tcall sp__law_draw (fun _ _ => False) (tac (tv 0) (tac (to opAdd (tv 4) (tc (.int 1))) tan))) tan)))) tan)) (gn 10) (tseq (tasg (tcall sp__law_condition (fun _ _ => False) (tac (tv 0) (tac (tv 1) (tac (tv 2) (tac (to opAdd (tc (.int 1)) (tcall sp__law_draw (fun _ _ => False) (tac (tv 0) (tac (tv 5) tan)))) tan))))) (gn 11))
    (tseq (tasg (tcall sp__law_draw (fun _ _ => False) (tac (tv 0) (tac (tc (.int 6)) tan))) (gn 12))
    (tseq (tmid (tifs (tand (ttru (tv 9)) (tb' (to opLt (tv 12) (tc (.int 2))))) (tseq (tasg (to opIx (to opIx (tv 9) (tcall sp__law_draw (fun _ _ => False) (tac (tv 0) (tac (tcb caLen (tac (tv 9) tan)) tan)))) (tc (.int 1))) (gn 11))
    (tmid (tifs (tand (tb' (to opEq (tv 12) (tc (.int 0)))) (tb' (to opLt (tcall sp__law_conditions (fun _ _ => False) (tac (tv 11) tan)) (tv 5)))) (tasg (ttup (tac (tc (.str "not")) (tac (tv 11) tan))) (gn 11)) tnx))) tnx))
    (tseq (tasg (tcall sp__law_draw (fun _ _ => False) (tac (tv 0) (tac (tv 6) tan))) (gn 13))
    (tdrop (tbm isLs mApp (tv 9) (tac (ttup (tac (tv 13) (tac (tv 11) (tac (tcall sp__law_draw (fun _ _ => False) (tac (tv 0) (tac (tv 6) tan))) tan)))) tan))))))))
    (tret (ttup (tac (tv 1) (tac (tv 6) (tac (tv 7) (tac (tv 8) (tac (tcb caTup (tac (tv 9) tan)) tan))))))))))))))
abbrev n__law_has_end : List Str := ["machine", "states", "state"]
def t__law_has_end  : TS' :=
    (tret (to opGt (tcb caLen (tac (tlc (tse (tv 1)) 2 (tb' (to (opIn false) (tv 2) (to opIx (tv 0) (tc (.int 3))))) (tv 2)) tan)) (tc (.int 0))))
abbrev n_law : List Str := ["script", "tape", "kind", "theory", "machine", "steps", "k", "other", "word", "late", "changed", "pair"]
def t_law (sp__law_tape : Sp') (sp__law_any_kind : Sp') (sp__law_draw : Sp') (sp__law_machine : Sp') (sp__law_leaf_set : Sp') (sp__law_other_machine : Sp') (sp__law_going : Sp') (sp__law_answers : Sp') (sp__law_near : Sp') (sp__law_word : Sp') : TS' :=
    (tseq (tasg (tcall sp__law_tape (fun _ _ => False) (tac (tv 0) tan)) (gn 1))
    (tseq (tasg (tcall sp__law_any_kind (fun _ _ => False) (tac (tv 1) tan)) (gn 2))
    (tseq (tasg (ttup (tac (tc (.int 20)) (tac (tc (.int 12)) tan))) (gn 3))
    (tseq (tasg (tcall sp__law_machine (fun _ _ => False) (tac (tv 1) (tac (tv 2) (tac (tv 3) (tac (tc (.int 4)) (tac (tc (.int 6)) (tac (to opIx (tlis (tac (tc (.int 2)) (tac (tc (.int 4)) (tac (tc (.int 8)) tan)))) (tcall sp__law_draw (fun _ _ => False) (tac (tv 1) (tac (tc (.int 3)) tan)))) tan))))))) (gn 4))
    (tseq (tasg (tcb caListO (tac (to opIx (tv 4) (tc (.int 4))) tan)) (gn 5))
    (tseq (tmid (tifs (tand (ttru (tv 5)) (tb' (to opEq (tcall sp__law_draw (fun _ _ => False) (tac (tv 1) (tac (tc (.int 2)) tan))) (tc (.int 0))))) (tseq (tasg (tcall sp__law_draw (fun _ _ => False) (tac (tv 1) (tac (tcb caLen (tac (tv 5) tan)) tan))) (gn 6))
    (tasg (ttup (tac (to opIx (to opIx (tv 5) (tv 6)) (tc (.int 0))) (tac (tcall sp__law_leaf_set (fun _ _ => False) (tac (tv 1) (tac (tv 2) (tac (tv 3) tan)))) (tac (to opIx (to opIx (tv 5) (tv 6)) (tc (.int 2))) tan)))) (gsub (tv 5) (tv 6)))) tnx))
    (tseq (tasg (ttup (tac (tv 2) (tac (to opIx (tv 4) (tc (.int 1))) (tac (to opIx (tv 4) (tc (.int 2))) (tac (to opIx (tv 4) (tc (.int 3))) (tac (tcb caTup (tac (tv 5) tan)) tan)))))) (gn 4))
    (tseq (tasg (tcall sp__law_other_machine (fun _ _ => False) (tac (tv 1) (tac (tv 3) (tac (tv 4) tan)))) (gn 7))
    (tseq (tasg (tcall sp__law_going (fun _ _ => False) (tac (tv 1) (tac (tv 2) (tac (tv 3) (tac (tv 4) (tac (tc (.int 8)) tan)))))) (gn 8))
    (tseq (tasg (tcall sp__law_draw (fun _ _ => False) (tac (tv 1) (tac (tc (.int 2)) tan))) (gn 9))
    (tseq (tfor (trg1 (tac (to opAdd (tcb caLen (tac (tv 8) tan)) (tc (.int 1))) tan)) (gn 6) (tifs (tnot (ttru (tcall sp__law_answers (fun _ _ => False) (tac (tv 4) (tac (tsl (tv 8) tpn (tpe (tv 6))) (tac (tv 9) tan)))))) (tret (tc (.bl false))) tnx))
    (tseq (tasg (tv 8) (gn 10))
    (tseq (tmid (tifs (ttru (tv 8)) (tseq (tasg (tcall sp__law_draw (fun _ _ => False) (tac (tv 1) (tac (tcb caLen (tac (tv 8) tan)) tan))) (gn 6))
    (tasg (to opAdd (to opAdd (tsl (tv 8) tpn (tpe (tv 6))) (ttup (tac (tcall sp__law_near (fun _ _ => False) (tac (tv 1) (tac (tv 2) (tac (to opIx (tv 8) (tv 6)) tan)))) tan))) (tsl (tv 8) (tpe (to opAdd (tv 6) (tc (.int 1)))) tpn)) (gn 10))) tnx))
    (tseq (tfor (tse (tlis (tac (ttup (tac (tv 7) (tac (tv 8) tan))) (tac (ttup (tac (tv 4) (tac (tv 10) tan))) (tac (ttup (tac (tv 4) (tac (tcall sp__law_word (fun _ _ => False) (tac (tv 1) (tac (tv 2) (tac (tv 3) (tac (tc (.int 8)) tan))))) tan))) (tac (ttup (tac (tv 4) (tac (tv 8) tan))) tan)))))) (gn 11) (tifs (tnot (ttru (tcall sp__law_answers (fun _ _ => False) (tac (to opIx (tv 11) (tc (.int 0))) (tac (to opIx (tv 11) (tc (.int 1))) (tac (tv 9) tan)))))) (tret (tc (.bl false))) tnx))
    (tret (tc (.bl true)))))))))))))))))
end K22
set_option Elab.async false
set_option linter.all false
namespace K30
open PySem PySem.Spec PyProof.Rows L2 DL
abbrev n_law : List Str := ["script", "tape", "kind", "theory", "machine", "many", "starts", "ends", "steps", "k", "extra", "other", "word", "changed", "pairs", "late", "pair"]
def t_law (sp__law_tape : Sp') (sp__law_any_kind : Sp') (sp__law_machine : Sp') (sp__law_draw : Sp') (sp__law_other_machine : Sp') (sp__law_going : Sp') (sp__law_near : Sp') (sp__law_answers : Sp') : TS' :=
    (tseq (tasg (tcall sp__law_tape (fun _ _ => False) (tac (tv 0) tan)) (gn 1))
    (tseq (tasg (tcall sp__law_any_kind (fun _ _ => False) (tac (tv 1) tan)) (gn 2))
    (tseq (tasg (ttup (tac (tc (.int 20)) (tac (tc (.int 12)) tan))) (gn 3))
    (tseq (tasg (tcall sp__law_machine (fun _ _ => False) (tac (tv 1) (tac (tv 2) (tac (tv 3) (tac (tc (.int 4)) (tac (tc (.int 6)) (tac (tc (.int 4)) tan))))))) (gn 4))
    (tseq (tasg (tv 4) (gtup 5 (gco (gn 2) (gco (gn 5) (gco (gn 6) (gco (gn 7) (gco (gn 8) gni)))))))
    (tseq (tmid (tifs (tand (tb' (to opGt (tcb caLen (tac (tv 8) tan)) (tc (.int 1)))) (tb' (to opEq (tcall sp__law_draw (fun _ _ => False) (tac (tv 1) (tac (tc (.int 2)) tan))) (tc (.int 0))))) (tseq (tasg (tcall sp__law_draw (fun _ _ => False) (tac (tv 1) (tac (tcb caLen (tac (tv 8) tan)) tan))) (gn 9))
    (tseq (tasg (ttup (tac (to opIx (to opIx (tv 8) (tv 9)) (tc (.int 0))) (tac (to opIx (tlis (tac (to opIx (to opIx (tv 8) (tv 9)) (tc (.int 1))) (tac (to opIx (to opIx (tv 8) (tc (.int 0))) (tc (.int 1))) (tac (ttup (tac (tc (.str "true")) tan)) tan)))) (tcall sp__law_draw (fun _ _ => False) (tac (tv 1) (tac (tc (.int 3)) tan)))) (tac (to opIx (to opIx (tv 8) (tv 9)) (tc (.int 2))) tan)))) (gn 10))
    (tasg (ttup (tac (tv 2) (tac (tv 5) (tac (tv 6) (tac (tv 7) (tac (to opAdd (ttup (tac (tv 10) tan)) (tsl (tv 8) (tpe (tc (.int 1))) tpn)) tan)))))) (gn 4)))) tnx))
    (tseq (tasg (tcall sp__law_other_machine (fun _ _ => False) (tac (tv 1) (tac (tv 3) (tac (tv 4) tan)))) (gn 11))
    (tseq (tasg (tcall sp__law_going (fun _ _ => False) (tac (tv 1) (tac (tv 2) (tac (tv 3) (tac (tv 4) (tac (to opIx (tlis (tac (tc (.int 8)) (tac (tc (.int 6)) tan))) (tcb caInt (tac (to opGt (tcb caLen (tac (tv 8) tan)) (tc (.int 4))) tan))) tan)))))) (gn 12))
    (tseq (tasg (tcall sp__law_draw (fun _ _ => False) (tac (tv 1) (tac (to opAdd (tcb caLen (tac (tv 12) tan)) (tc (.int 1))) tan))) (gn 9))
    (tseq (tasg (tsl (tv 12) tpn (tpe (tv 9))) (gn 13))
    (tseq (tmid (tifs (tb' (to opLt (tv 9) (tcb caLen (tac (tv 12) tan)))) (tasg (to opAdd (to opAdd (tsl (tv 12) tpn (tpe (tv 9))) (ttup (tac (tcall sp__law_near (fun _ _ => False) (tac (tv 1) (tac (tv 2) (tac (to opIx (tv 12) (tv 9)) tan)))) tan))) (tsl (tv 12) (tpe (to opAdd (tv 9) (tc (.int 1)))) tpn)) (gn 13)) tnx))
    (tseq (tasg (tlis (tac (ttup (tac (tv 4) (tac (tv 12) tan))) (tac (ttup (tac (tv 11) (tac (tv 12) tan))) (tac (ttup (tac (tv 4) (tac (tv 13) tan))) (tac (ttup (tac (tv 4) (tac (tsl (tv 12) tpn (tpe (tv 9))) tan))) (tac (ttup (tac (tv 4) (tac (tsl (tv 12) (tpe (tv 9)) tpn) tan))) tan)))))) (gn 14))
    (tseq (tasg (tcall sp__law_draw (fun _ _ => False) (tac (tv 1) (tac (tc (.int 2)) tan))) (gn 15))
    (tseq (tfor (tse (to opAdd (tv 14) (tsl (tv 14) tpn (tpe (tc (.int 1)))))) (gn 16) (tifs (tnot (ttru (tcall sp__law_answers (fun _ _ => False) (tac (to opIx (tv 16) (tc (.int 0))) (tac (to opIx (tv 16) (tc (.int 1))) (tac (tv 15) tan)))))) (tret (tc (.bl false))) tnx))
    (tret (tc (.bl true)))))))))))))))))
end K30
set_option Elab.async false
set_option linter.all false
namespace K67
open PySem PySem.Spec PyProof.Rows L2 DL
abbrev n_law : List Str := ["script", "tape", "kind", "other", "paths", "early", "turn", "term", "letters", "letter", "wild", "asked", "row", "due", "k"]
def t_law (sp__law_tape : Sp') (sp__law_any_kind : Sp') (sp__law_paths : Sp') (sp__law_draw : Sp') (sp__law_term : Sp') (sp__law_letter : Sp') (sp__law_checked : Sp') (sp__law_same : Sp') (sp__law_gives : Sp') (sp_gives : Sp') (sp__law_spoilt : Sp') (sp__law_other_kind : Sp') (sp__law_term_suits : Sp') : TS' :=
    (tseq (tasg (tcall sp__law_tape (fun _ _ => False) (tac (tv 0) tan)) (gn 1))
    (tseq (tasg (tcall sp__law_any_kind (fun _ _ => False) (tac (tv 1) tan)) (gn 2))
    (tseq (tasg (tcall sp__law_any_kind (fun _ _ => False) (tac (tv 1) tan)) (gn 3))
    (tseq (tasg (tcall sp__law_paths (fun _ _ => False) (tac (tv 2) tan)) (gn 4))
    (tseq (tasg (to opEq (tcall sp__law_draw (fun _ _ => False) (tac (tv 1) (tac (tc (.int 2)) tan))) (tc (.int 0))) (gn 5))
    (tseq (tfor (trg1 (tac (tc (.int 3)) tan)) (gn 6) (tseq (tasg (tcall sp__law_term (fun _ _ => False) (tac (tv 1) (tac (tv 4) (tac (tv 3) (tac (tc (.int 20)) tan))))) (gn 7))
    (tseq (tasg (tlc (trg1 (tac (tc (.int 2)) tan)) 14 tyes (tcall sp__law_letter (fun _ _ => False) (tac (tv 1) (tac (tv 2) (tac (ttup (tac (tc (.int 20)) (tac (tc (.int 12)) tan))) tan))))) (gn 8))
    (tseq (tifs (tand (ttru (tv 5)) (tnot (ttru (tcall sp__law_same (fun _ _ => False) (tac (tcall sp__law_checked (fun _ _ => False) (tac (tv 2) (tac (tv 3) (tac (tv 7) tan)))) (tac (ttup (tac (tc (.str "told")) (tac (tc .non) tan))) tan)))))) (tret (tc (.bl false))) tnx)
    (tseq (tfor (tse (to opAdd (tv 8) (tsl (tv 8) tpn (tpe (tc (.int 1)))))) (gn 9) (tifs (tnot (ttru (tcall sp__law_same (fun _ _ => False) (tac (tcall sp_gives (fun _ _ => False) (tac (tv 7) (tac (tv 9) tan))) (tac (tcall sp__law_gives (fun _ _ => False) (tac (tv 7) (tac (tv 9) tan))) tan))))) (tret (tc (.bl false))) tnx))
    (tseq (tasg (tcall sp__law_spoilt (fun _ _ => False) (tac (tv 1) (tac (tv 7) (tac (tlis (tac (tv 2) (tac (tv 3) tan))) tan)))) (gn 10))
    (tseq (tasg (tlis (tac (ttup (tac (tv 2) (tac (tv 3) (tac (tv 7) tan)))) (tac (ttup (tac (tv 2) (tac (tv 3) (tac (tv 10) tan)))) (tac (ttup (tac (tcall sp__law_other_kind (fun _ _ => False) (tac (tv 1) (tac (tv 2) tan))) (tac (tv 3) (tac (tv 7) tan)))) tan)))) (gn 11))
    (tseq (tasg (to opAdd (tv 11) (tlis (tac (ttup (tac (tv 2) (tac (tcall sp__law_other_kind (fun _ _ => False) (tac (tv 1) (tac (tv 3) tan))) (tac (tv 7) tan)))) (tac (ttup (tac (tv 2) (tac (tv 3) (tac (tv 7) tan)))) tan)))) (gn 11))
    (tfor (tse (tv 11)) (gn 12) (tseq (tasg (ttup (tac (tc (.str "told")) (tac (tc .non) tan))) (gn 13))
    (tseq (tmid (tifs (tnot (ttru (tcall sp__law_term_suits (fun _ _ => False) (tac (to opIx (tv 12) (tc (.int 0))) (tac (to opIx (tv 12) (tc (.int 1))) (tac (to opIx (tv 12) (tc (.int 2))) tan)))))) (tasg (ttup (tac (tc (.str "refused")) (tac (tc (.int 2)) tan))) (gn 13)) tnx))
    (tifs (tnot (ttru (tcall sp__law_same (fun _ _ => False) (tac (tcall sp__law_checked (fun _ _ => False) (tac (to opIx (tv 12) (tc (.int 0))) (tac (to opIx (tv 12) (tc (.int 1))) (tac (to opIx (tv 12) (tc (.int 2))) tan)))) (tac (tv 13) tan))))) (tret (tc (.bl false))) tnx))))))))))))
    (tret (tc (.bl true)))))))))
end K67
set_option Elab.async false
set_option linter.all false
namespace K08
open PySem PySem.Spec PyProof.Rows L2 DL
abbrev n_law : List Str := ["script", "tape", "kind", "sets", "letter", "letters", "held", "first", "strange", "early", "asked"]
def t_law (sp__law_tape : Sp') (sp__law_any_kind : Sp') (sp__law_made : Sp') (sp__law_letter : Sp') (sp__law_near : Sp') (sp__law_first : Sp') (sp__law_foreign : Sp') (sp__law_draw : Sp') (sp_check_condition : Sp') (sp__law_answers : Sp') (sp__law_refused : Sp') : TS' :=
    (tseq (tasg (tcall sp__law_tape (fun _ _ => False) (tac (tv 0) tan)) (gn 1))
    (tseq (tasg (tcall sp__law_any_kind (fun _ _ => False) (tac (tv 1) tan)) (gn 2))
    (tseq (tasg (tlis (tac (tcall sp__law_made (fun _ _ => False) (tac (tv 1) (tac (tv 2) (tac (ttup (tac (tc (.int 20)) (tac (tc (.int 12)) tan))) tan)))) (tac (tcall sp__law_made (fun _ _ => False) (tac (tv 1) (tac (tv 2) (tac (ttup (tac (tc (.int 20)) (tac (tc (.int 12)) tan))) tan)))) tan))) (gn 3))
    (tseq (tasg (tcall sp__law_letter (fun _ _ => False) (tac (tv 1) (tac (tv 2) (tac (ttup (tac (tc (.int 20)) (tac (tc (.int 12)) tan))) tan)))) (gn 4))
    (tseq (tasg (town (tac (tv 4) (tac (tcall sp__law_near (fun _ _ => False) (tac (tv 1) (tac (tv 2) (tac (tv 4) tan)))) (tac (tcall sp__law_letter (fun _ _ => False) (tac (tv 1) (tac (tv 2) (tac (ttup (tac (tc (.int 20)) (tac (tc (.int 12)) tan))) tan)))) tan)))) (gn 5))
    (tseq (tfor (tse (tv 3)) (gn 6) (tfor (tse (tcall sp__law_first (fun _ _ => False) (tac (tv 6) tan))) (gn 7) (tdrop (tbm isLs mApp (tv 5) (tac (tcall sp__law_near (fun _ _ => False) (tac (tv 1) (tac (tv 2) (tac (tv 7) tan)))) tan)))))
    (tseq (tasg (tcall sp__law_foreign (fun _ _ => False) (tac (tv 1) (tac (tv 2) (tac (tv 4) tan)))) (gn 8))
    (tseq (tasg (tcall sp__law_draw (fun _ _ => False) (tac (tv 1) (tac (tc (.int 2)) tan))) (gn 7))
    (tseq (tasg (to opEq (tcall sp__law_draw (fun _ _ => False) (tac (tv 1) (tac (tc (.int 2)) tan))) (tc (.int 0))) (gn 9))
    (tseq (tfor (tse (to opAdd (tv 3) (tsl (tv 3) tpn (tpe (tc (.int 1)))))) (gn 6) (tseq (tifs (tand (tb' (tv 9)) (tb' (to (opIsN true) (tcall sp_check_condition (fun _ _ => False) (tac (tv 2) (tac (ttup (tac (tc (.str "in")) (tac (tv 6) tan))) tan))) (tc .non)))) (tret (tc (.bl false))) tnx)
    (tseq (tfor (tse (tv 5)) (gn 10) (tifs (tnot (tb' (tcall sp__law_answers (fun _ _ => False) (tac (tv 2) (tac (tv 6) (tac (tv 10) (tac (tv 7) tan))))))) (tret (tc (.bl false))) tnx))
    (tifs (tor (tb' (to (opIsN true) (tcall sp_check_condition (fun _ _ => False) (tac (tv 2) (tac (ttup (tac (tc (.str "in")) (tac (tv 6) tan))) tan))) (tc .non))) (tnot (tb' (tcall sp__law_refused (fun _ _ => False) (tac (tv 2) (tac (tv 6) (tac (tv 8) tan))))))) (tret (tc (.bl false))) tnx))))
    (tret (tcall sp__law_answers (fun _ _ => False) (tac (tv 2) (tac (to opIx (tv 3) (tc (.int 1))) (tac (tv 4) (tac (to opSub (tc (.int 1)) (tv 7)) tan))))))))))))))))
end K08
set_option Elab.async false
set_option linter.all false
namespace K20
open PySem PySem.Spec PyProof.Rows L2 DL
abbrev n__law_moved : List Str := ["kind", "letter", "numbers", "edge", "told", "first"]
def t__law_moved (sp__law_moved : Sp') : TS' :=
    (tseq (tifs (tb' (to opEq (to opIx (tv 0) (tc (.int 0))) (tc (.str "integers")))) (tseq (tifs (tb' (to (opIsN true) (tv 3) (tc .non))) (tret (tv 3)) tnx)
    (tseq (tifs (tb' (to opLe (tcb caAbs (tac (tv 1) tan)) (to opAdd (to opIx (tv 2) (tc (.int 0))) (to opIx (tv 2) (tc (.int 1)))))) (tret (tv 1)) tnx)
    (tseq (tasg (to opAdd (to opAdd (to opIx (tv 2) (tc (.int 0))) (tc (.int 1))) (to opMod (tcb caInt (tac (to opSub (to opSub (tcb caAbs (tac (tv 1) tan)) (to opIx (tv 2) (tc (.int 0)))) (tc (.int 1))) tan)) (to opIx (tv 2) (tc (.int 1))))) (gn 4))
    (tret (to opIx (tlis (tac (tv 4) (tac (tu unNeg (tv 4)) tan))) (tcb caInt (tac (to opLt (tv 1) (tc (.int 0))) tan))))))) tnx)
    (tseq (tifs (tb' (to opEq (to opIx (tv 0) (tc (.int 0))) (tc (.str "pair")))) (tseq (tasg (tcall sp__law_moved (fun _ _ => False) (tac (to opIx (tv 0) (tc (.int 1))) (tac (to opIx (tv 1) (tc (.int 1))) (tac (tv 2) (tac (tv 3) tan))))) (gn 5))
    (tret (ttup (tac (tc (.str "pair")) (tac (tv 5) (tac (tcall sp__law_moved (fun _ _ => False) (tac (to opIx (tv 0) (tc (.int 2))) (tac (to opIx (tv 1) (tc (.int 2))) (tac (tv 2) (tac (tv 3) tan))))) tan)))))) tnx)
    (tseq (tifs (tb' (to opEq (to opIx (tv 0) (tc (.int 0))) (tc (.str "either")))) (tret (ttup (tac (tc (.str "case")) (tac (to opIx (tv 1) (tc (.int 1))) (tac (tcall sp__law_moved (fun _ _ => False) (tac (to opIx (to opIx (tv 0) (tc (.int 1))) (to opIx (tv 1) (tc (.int 1)))) (tac (to opIx (tv 1) (tc (.int 2))) (tac (tv 2) (tac (tv 3) tan))))) tan))))) tnx)
    (tseq (tifs (tand (tb' (to opEq (to opIx (tv 0) (tc (.int 0))) (tc (.str "maybe")))) (tb' (to opEq (to opIx (tv 1) (tc (.int 0))) (tc (.str "some"))))) (tret (ttup (tac (tc (.str "some")) (tac (tcall sp__law_moved (fun _ _ => False) (tac (to opIx (tv 0) (tc (.int 1))) (tac (to opIx (tv 1) (tc (.int 1))) (tac (tv 2) (tac (tv 3) tan))))) tan)))) tnx)
    (tret (tv 1))))))
abbrev n_law : List Str := ["script", "tape", "kind", "first", "second", "letters", "numbers", "edge", "one", "condition", "letter", "due"]
def t_law (sp__law_tape : Sp') (sp__law_any_kind : Sp') (sp__law_blend : Sp') (sp__law_varied : Sp') (sp__law_letter : Sp') (sp__law_numbers : Sp') (sp__law_draw : Sp') (sp__law_moved : Sp') (sp_twin : Sp') (sp__law_same : Sp') : TS' :=
    (tseq (tasg (tcall sp__law_tape (fun _ _ => False) (tac (tv 0) tan)) (gn 1))
    (tseq (tasg (tcall sp__law_any_kind (fun _ _ => False) (tac (tv 1) tan)) (gn 2))
    (tseq (tasg (tcall sp__law_blend (fun _ _ => False) (tac (tv 1) (tac (tv 2) (tac (ttup (tac (tc (.int 20)) (tac (tc (.int 12)) tan))) (tac (tc (.int 7)) tan))))) (gn 3))
    (tseq (tasg (tcall sp__law_varied (fun _ _ => False) (tac (tv 1) (tac (tv 2) (tac (tv 3) (tac (ttup (tac (tc (.int 20)) (tac (tc (.int 12)) tan))) tan))))) (gn 4))
    (tseq (tasg (town (tac (tcall sp__law_letter (fun _ _ => False) (tac (tv 1) (tac (tv 2) (tac (ttup (tac (tc (.int 20)) (tac (tc (.int 12)) tan))) tan)))) (tac (tcall sp__law_letter (fun _ _ => False) (tac (tv 1) (tac (tv 2) (tac (ttup (tac (tc (.int 20)) (tac (tc (.int 12)) tan))) tan)))) tan))) (gn 5))
    (tseq (tasg (tcall sp__law_numbers (fun _ _ => False) (tac (tv 3) tan)) (gn 6))
    (tseq (tasg (to opAdd (to opAdd (to opIx (tv 6) (tc (.int 0))) (to opIx (tlis (tac (tc (.int 0)) (tac (to opIx (tv 6) (tc (.int 1))) tan))) (tcall sp__law_draw (fun _ _ => False) (tac (tv 1) (tac (tc (.int 2)) tan))))) (tcall sp__law_draw (fun _ _ => False) (tac (tv 1) (tac (tc (.int 2)) tan)))) (gn 7))
    (tseq (tfor (tse (tlis (tac (tv 7) (tac (tu unNeg (tv 7)) (tac (to opAdd (tv 7) (tc (.int 1))) tan))))) (gn 8) (tdrop (tbm isLs mApp (tv 5) (tac (tcall sp__law_moved (fun _ _ => False) (tac (tv 2) (tac (to opIx (tv 5) (tc (.int 0))) (tac (tv 6) (tac (tv 8) tan))))) tan))))
    (tseq (tfor (tse (tlis (tac (tv 3) (tac (tv 4) (tac (tv 3) tan))))) (gn 9) (tfor (tse (tv 5)) (gn 10) (tseq (tasg (tcall sp__law_moved (fun _ _ => False) (tac (tv 2) (tac (tv 10) (tac (tcall sp__law_numbers (fun _ _ => False) (tac (tv 9) tan)) (tac (tc .non) tan))))) (gn 11))
    (tifs (tnot (tb' (tcall sp__law_same (fun _ _ => False) (tac (tcall sp_twin (fun _ _ => False) (tac (tv 2) (tac (tv 9) (tac (tv 10) tan)))) (tac (tv 11) tan))))) (tret (tc (.bl false))) tnx))))
    (tret (tc (.bl true))))))))))))
end K20
set_option Elab.async false
set_option linter.all false
namespace K06
open PySem PySem.Spec PyProof.Rows L2 DL
abbrev n_law : List Str := ["script", "tape", "kind", "theory", "first", "part", "one_v", "rest", "below", "held", "second", "condition", "due", "k", "x"]
def t_law (sp__law_tape : Sp') (sp__law_blend : Sp') (sp__law_draw : Sp') (sp__law_varied : Sp') (sp__law_meets : Sp') (sp__law_integers_of : Sp') (sp_letters_of : Sp') (sp__law_same : Sp') : TS' :=
    (tseq (tasg (tcall sp__law_tape (fun _ _ => False) (tac (tv 0) tan)) (gn 1))
    (tseq (tasg (ttup (tac (tc (.str "integers")) tan)) (gn 2))
    (tseq (tasg (ttup (tac (tc (.int 20)) (tac (tc (.int 12)) tan))) (gn 3))
    (tseq (tasg (tcall sp__law_blend (fun _ _ => False) (tac (tv 1) (tac (tv 2) (tac (tv 3) (tac (tc (.int 7)) tan))))) (gn 4))
    (tseq (tmid (tifs (tb' (to opEq (tcall sp__law_draw (fun _ _ => False) (tac (tv 1) (tac (tc (.int 4)) tan))) (tc (.int 0)))) (tseq (tasg (to opAdd (tc (.int 2)) (to opMul (tc (.int 2)) (tcall sp__law_draw (fun _ _ => False) (tac (tv 1) (tac (tc (.int 2)) tan))))) (gn 5))
    (tseq (tasg (ttup (tac (tc (.str "mod")) (tac (tv 5) (tac (tcall sp__law_draw (fun _ _ => False) (tac (tv 1) (tac (tv 5) tan))) tan)))) (gn 6))
    (tseq (tasg (tcall sp__law_draw (fun _ _ => False) (tac (tv 1) (tac (tc (.int 3)) tan))) (gn 7))
    (tseq (tasg (tcb caTup (tac (tlc (trg1 (tac (tc (.int 3)) tan)) 13 tyes (to opGt (to opMod (tcb caInt (tac (to opAdd (to opAdd (tc (.int 1)) (tv 13)) (tv 7)) tan)) (tc (.int 3))) (tc (.int 0)))) tan)) (gn 8))
    (tseq (tasg (ttup (tac (tc (.str "integers")) (tac (ttup (tac (tu unNeg (tc (.int 1))) (tac (tv 8) tan))) (tac (ttup tan) (tac (ttup (tac (tc (.int 0)) (tac (tcb caTup (tac (tlc (trg1 (tac (tc (.int 3)) tan)) 13 tyes (to opNe (tv 13) (tv 7))) tan)) tan))) tan))))) (gn 9))
    (tasg (ttup (tac (tc (.str "or")) (tac (ttup (tac (tc (.str "and")) (tac (tv 6) (tac (ttup (tac (tc (.str "mod")) (tac (tc (.int 3)) (tac (tv 7) tan)))) tan)))) (tac (ttup (tac (tc (.str "and")) (tac (tv 6) (tac (ttup (tac (tc (.str "in")) (tac (tv 9) tan))) tan)))) tan)))) (gn 4))))))) tnx))
    (tseq (tasg (tcall sp__law_varied (fun _ _ => False) (tac (tv 1) (tac (tv 2) (tac (tv 4) (tac (tv 3) tan))))) (gn 10))
    (tseq (tfor (tse (tlis (tac (tv 4) (tac (tv 10) (tac (ttup (tac (tc (.str "not")) (tac (tv 4) tan))) (tac (tv 4) tan)))))) (gn 11) (tseq (tasg (tcall sp__law_integers_of (fun _ _ => False) (tac (tv 3) (tac (tlc (trg2 (tac (tu unNeg (tc (.int 32))) (tac (tc (.int 33)) tan))) 14 (tb' (tcall sp__law_meets (fun _ _ => False) (tac (tv 11) (tac (tv 14) tan)))) (tv 14)) tan))) (gn 12))
    (tifs (tnot (tb' (tcall sp__law_same (fun _ _ => False) (tac (tcall sp_letters_of (fun _ _ => False) (tac (tv 2) (tac (tv 11) tan))) (tac (tv 12) tan))))) (tret (tc (.bl false))) tnx)))
    (tret (tc (.bl true))))))))))
end K06
set_option Elab.async false
set_option linter.all false
namespace K41
open PySem PySem.Spec PyProof.Rows L2 DL
abbrev n_check_kinds : List Str := ["first", "second"]
def t_check_kinds  (c_OtherKinds : Addr) (E' : XK') : TS' :=
    (tifs (tb' (to opNe (to opIx (tv 0) (tc (.int 0))) (to opIx (tv 1) (tc (.int 0))))) (traise E' (.ref c_OtherKinds)) tnx)
abbrev n_shifted : List Str := ["states", "many", "state"]
def t_shifted  : TS' :=
    (tret (tcb caTup (tac (tlc (tse (tv 0)) 2 tyes (to opAdd (tv 2) (tv 1))) tan)))
abbrev n_shifted_steps : List Str := ["steps", "many", "state", "condition", "target"]
def t_shifted_steps  : TS' :=
    (tret (tcb caTup (tac (tlcT (tse (tv 0)) [2, 3, 4] tyes (ttup (tac (to opAdd (tv 2) (tv 1)) (tac (tv 3) (tac (to opAdd (tv 4) (tv 1)) tan))))) tan)))
abbrev n_into_ends : List Str := ["machine", "goals", "steps", "step", "goal"]
def t_into_ends  : TS' :=
    (tseq (tasg (tlc (tse (to opIx (tv 0) (tc (.int 4)))) 3 (tb' (to (opIn false) (to opIx (tv 3) (tc (.int 2))) (to opIx (tv 0) (tc (.int 3))))) (tv 3)) (gn 2))
    (tret (tcb caTup (tac (tlc2 (tse (tv 2)) 3 tyes (tse (tv 1)) 4 tyes (ttup (tac (to opIx (tv 3) (tc (.int 0))) (tac (to opIx (tv 3) (tc (.int 1))) (tac (tv 4) tan))))) tan))))
abbrev n_followed : List Str := ["first", "second", "many", "goals", "starts", "ends", "steps"]
def t_followed (sp_check_kinds : Sp') (sp_shifted : Sp') (sp_has_end : Sp') (sp_into_ends : Sp') (sp_shifted_steps : Sp') (E' : XK') : TS' :=
    (tseq (tdrop (tcall sp_check_kinds E' (tac (tv 0) (tac (tv 1) tan))))
    (tseq (tasg (to opIx (tv 0) (tc (.int 1))) (gn 2))
    (tseq (tasg (tcall sp_shifted (fun _ _ => False) (tac (to opIx (tv 1) (tc (.int 2))) (tac (tv 2) tan))) (gn 3))
    (tseq (tasg (to opIx (tv 0) (tc (.int 2))) (gn 4))
    (tseq (tmid (tifs (tb' (tcall sp_has_end (fun _ _ => False) (tac (tv 0) (tac (to opIx (tv 0) (tc (.int 2))) tan)))) (tasg (to opAdd (tv 4) (tv 3)) (gn 4)) tnx))
    (tseq (tasg (tcall sp_shifted (fun _ _ => False) (tac (to opIx (tv 1) (tc (.int 3))) (tac (tv 2) tan))) (gn 5))
    (tseq (tmid (tifs (tb' (tcall sp_has_end (fun _ _ => False) (tac (tv 1) (tac (to opIx (tv 1) (tc (.int 2))) tan)))) (tasg (to opAdd (to opIx (tv 0) (tc (.int 3))) (tv 5)) (gn 5)) tnx))
    (tseq (tasg (to opAdd (to opAdd (to opIx (tv 0) (tc (.int 4))) (tcall sp_into_ends (fun _ _ => False) (tac (tv 0) (tac (tv 3) tan)))) (tcall sp_shifted_steps (fun _ _ => False) (tac (to opIx (tv 1) (tc (.int 4))) (tac (tv 2) tan)))) (gn 6))
    (tret (ttup (tac (to opIx (tv 0) (tc (.int 0))) (tac (to opAdd (tv 2) (to opIx (tv 1) (tc (.int 1)))) (tac (tv 4) (tac (tv 5) (tac (tv 6) tan)))))))))))))))
abbrev n_repeated : List Str := ["machine", "kind", "many", "starts", "ends", "steps"]
def t_repeated (sp_into_ends : Sp') : TS' :=
    (tseq (tasg (tv 0) (gtup 5 (gco (gn 1) (gco (gn 2) (gco (gn 3) (gco (gn 4) (gco (gn 5) gni)))))))
    (tret (ttup (tac (tv 1) (tac (to opAdd (tv 2) (tc (.int 1))) (tac (to opAdd (tv 3) (ttup (tac (tv 2) tan))) (tac (to opAdd (tv 4) (ttup (tac (tv 2) tan))) (tac (to opAdd (tv 5) (tcall sp_into_ends (fun _ _ => False) (tac (tv 0) (tac (tv 3) tan)))) tan))))))))
abbrev n_backwards : List Str := ["machine", "kind", "many", "starts", "ends", "steps", "state", "condition", "target"]
def t_backwards  : TS' :=
    (tseq (tasg (tv 0) (gtup 5 (gco (gn 1) (gco (gn 2) (gco (gn 3) (gco (gn 4) (gco (gn 5) gni)))))))
    (tret (ttup (tac (tv 1) (tac (tv 2) (tac (tv 4) (tac (tv 3) (tac (tcb caTup (tac (tlcT (tse (tv 5)) [6, 7, 8] tyes (ttup (tac (tv 8) (tac (tv 7) (tac (tv 6) tan))))) tan)) tan))))))))
abbrev n__law_theme : List Str := ["tape", "limit", "kind", "theory"]
def t__law_theme (sp__law_any_kind : Sp') (sp__law_theory : Sp') (sp__law_letters : Sp') : TS' :=
    (tseq (tasg (tcall sp__law_any_kind (fun _ _ => False) (tac (tv 0) tan)) (gn 2))
    (tseq (tasg (tcall sp__law_theory (fun _ _ => False) (tac (tv 0) (tac (tv 2) (tac (tv 1) tan)))) (gn 3))
    (tret (tlis (tac (tv 2) (tac (tv 3) (tac (tcall sp__law_letters (fun _ _ => False) (tac (tv 2) (tac (tv 3) tan))) tan)))))))
abbrev n__law_where : List Str := ["conditions", "letters", "known", "classes", "where", "letter", "truths", "condition"]
def t__law_where (sp__law_meets : Sp') : TS' :=
    (tseq (tasg tednew (gn 2))
    (tseq (tasg (town tan) (gn 3))
    (tseq (tasg (town tan) (gn 4))
    (tseq (tfor (tse (tv 1)) (gn 5) (tseq (tasg (tcb caTup (tac (tlc (tse (tv 0)) 7 tyes (tcall sp__law_meets (fun _ _ => False) (tac (tv 7) (tac (tv 5) tan)))) tan)) (gn 6))
    (tseq (tmid (tifs (tb' (to (opEin true) (tv 6) (tv 2))) (tseq (tasg (tcb caLen (tac (tv 3) tan)) (gesub (tv 2) (tv 6)))
    (tdrop (tbm isLs mApp (tv 3) (tac (ttup (tac (tv 6) (tac (tv 5) tan))) tan)))) tnx))
    (tdrop (tbm isLs mApp (tv 4) (tac (to opEix (tv 2) (tv 6)) tan))))))
    (tret (tlis (tac (tv 3) (tac (tv 4) tan))))))))
abbrev n__law_conditions_of : List Str := ["machines", "conditions", "machine", "step"]
def t__law_conditions_of  : TS' :=
    (tseq (tasg (tlis tan) (gn 1))
    (tseq (tfor (tse (tv 0)) (gn 2) (tasg (to opAdd (tv 1) (tlc (tse (to opIx (tv 2) (tc (.int 4)))) 3 tyes (to opIx (tv 3) (tc (.int 1))))) (gn 1)))
    (tret (tv 1))))
abbrev n__law_signs : List Str := ["tape", "theme", "machines", "letters", "one", "k"]
def t__law_signs (sp__law_conditions_of : Sp') (sp__law_where : Sp') (sp__law_letter : Sp') : TS' :=
    (tseq (tasg (tlc (tse (to opIx (tcall sp__law_where (fun _ _ => False) (tac (tcall sp__law_conditions_of (fun _ _ => False) (tac (tv 2) tan)) (tac (to opIx (tv 1) (tc (.int 2))) tan))) (tc (.int 0)))) 4 tyes (to opIx (tv 4) (tc (.int 1)))) (gn 3))
    (tret (to opAdd (tv 3) (tlc (trg1 (tac (tc (.int 2)) tan)) 5 tyes (tcall sp__law_letter (fun _ _ => False) (tac (tv 0) (tac (to opIx (tv 1) (tc (.int 0))) (tac (to opIx (tv 1) (tc (.int 1))) tan))))))))
abbrev n__law_truths : List Str := ["machine", "letters", "table", "letter", "step"]
def t__law_truths (sp__law_meets : Sp') : TS' :=
    (tseq (tasg (town tan) (gn 2))
    (tseq (tfor (tse (tv 1)) (gn 3) (tdrop (tbm isLs mApp (tv 2) (tac (tlc (tse (to opIx (tv 0) (tc (.int 4)))) 4 tyes (tcall sp__law_meets (fun _ _ => False) (tac (to opIx (tv 4) (tc (.int 1))) (tac (tv 3) tan)))) tan))))
    (tret (tv 2))))
abbrev n__law_opened : List Str := ["deed", "first", "second"]
def t__law_opened (sp__law_has_end : Sp') : TS' :=
    (tseq (tifs (tb' (to opEq (tv 0) (tc (.str "backwards")))) (tret (ttup (tac (to opIx (tv 1) (tc (.int 3))) (tac (ttup tan) tan)))) tnx)
    (tseq (tifs (tb' (to opEq (tv 0) (tc (.str "repeated")))) (tret (ttup (tac (to opIx (tv 1) (tc (.int 2))) (tac (ttup (tac (tc (.int 0)) tan)) tan)))) tnx)
    (tseq (tifs (tor (tb' (to (opIn false) (tv 0) (tlis (tac (tc (.str "not")) (tac (tc (.str "plain")) tan))))) (tand (tb' (to opEq (tv 0) (tc (.str "followed")))) (tnot (tb' (tcall sp__law_has_end (fun _ _ => False) (tac (tv 1) (tac (to opIx (tv 1) (tc (.int 2))) tan))))))) (tret (ttup (tac (to opIx (tv 1) (tc (.int 2))) (tac (ttup tan) tan)))) tnx)
    (tret (ttup (tac (to opIx (tv 1) (tc (.int 2))) (tac (to opIx (tv 2) (tc (.int 2))) tan)))))))
abbrev n__law_moved : List Str := ["deed", "first", "second", "pair", "one", "two", "found", "left", "right", "k", "state"]
def t__law_moved (sp__law_after : Sp') (sp__law_has_end : Sp') : TS' :=
    (tseq (tifs (tb' (to opEq (tv 0) (tc (.str "backwards")))) (tseq (tasg (tlc (trg1 (tac (tcb caLen (tac (to opIx (tv 1) (tc (.int 4))) tan)) tan)) 9 (tand (tb' (to opIx (tv 4) (tv 9))) (tb' (to (opIn false) (to opIx (to opIx (to opIx (tv 1) (tc (.int 4))) (tv 9)) (tc (.int 2))) (to opIx (tv 3) (tc (.int 0)))))) (to opIx (to opIx (to opIx (tv 1) (tc (.int 4))) (tv 9)) (tc (.int 0)))) (gn 6))
    (tret (ttup (tac (tcb caTup (tac (tlc (trg1 (tac (to opIx (tv 1) (tc (.int 1))) tan)) 10 (tb' (to (opIn false) (tv 10) (tv 6))) (tv 10)) tan)) (tac (ttup tan) tan))))) tnx)
    (tseq (tasg (tcall sp__law_after (fun _ _ => False) (tac (tv 1) (tac (to opIx (tv 3) (tc (.int 0))) (tac (tv 4) tan)))) (gn 7))
    (tseq (tmid (tifs (tand (tb' (to opEq (tv 0) (tc (.str "repeated")))) (tb' (tcall sp__law_has_end (fun _ _ => False) (tac (tv 1) (tac (tv 7) tan))))) (tasg (tcb caTup (tac (tlc (trg1 (tac (to opIx (tv 1) (tc (.int 1))) tan)) 10 (tor (tb' (to (opIn false) (tv 10) (tv 7))) (tb' (to (opIn false) (tv 10) (to opIx (tv 1) (tc (.int 2)))))) (tv 10)) tan)) (gn 7)) tnx))
    (tseq (tifs (tb' (to (opIn false) (tv 0) (tlis (tac (tc (.str "not")) (tac (tc (.str "plain")) (tac (tc (.str "repeated")) tan)))))) (tret (ttup (tac (tv 7) (tac (ttup tan) tan)))) tnx)
    (tseq (tasg (tcall sp__law_after (fun _ _ => False) (tac (tv 2) (tac (to opIx (tv 3) (tc (.int 1))) (tac (tv 5) tan)))) (gn 8))
    (tseq (tmid (tifs (tand (tb' (to opEq (tv 0) (tc (.str "followed")))) (tb' (tcall sp__law_has_end (fun _ _ => False) (tac (tv 1) (tac (tv 7) tan))))) (tasg (tcb caTup (tac (tlc (trg1 (tac (to opIx (tv 2) (tc (.int 1))) tan)) 10 (tor (tb' (to (opIn false) (tv 10) (tv 8))) (tb' (to (opIn false) (tv 10) (to opIx (tv 2) (tc (.int 2)))))) (tv 10)) tan)) (gn 8)) tnx))
    (tret (ttup (tac (tv 7) (tac (tv 8) tan))))))))))
abbrev n__law_joined_end : List Str := ["deed", "first", "second", "pair", "left", "state"]
def t__law_joined_end (sp__law_has_end : Sp') : TS' :=
    (tseq (tifs (tb' (to opEq (tv 0) (tc (.str "backwards")))) (tret (to opGt (tcb caLen (tac (tlc (tse (to opIx (tv 3) (tc (.int 0)))) 5 (tb' (to (opIn false) (tv 5) (to opIx (tv 1) (tc (.int 2))))) (tv 5)) tan)) (tc (.int 0)))) tnx)
    (tseq (tasg (tcall sp__law_has_end (fun _ _ => False) (tac (tv 1) (tac (to opIx (tv 3) (tc (.int 0))) tan))) (gn 4))
    (tseq (tifs (tb' (to opEq (tv 0) (tc (.str "both")))) (tret (tandv (tv 4) (tcall sp__law_has_end (fun _ _ => False) (tac (tv 2) (tac (to opIx (tv 3) (tc (.int 1))) tan))))) tnx)
    (tseq (tifs (tb' (to opEq (tv 0) (tc (.str "one")))) (tret (torv (tv 4) (tcall sp__law_has_end (fun _ _ => False) (tac (tv 2) (tac (to opIx (tv 3) (tc (.int 1))) tan))))) tnx)
    (tseq (tifs (tb' (to opEq (tv 0) (tc (.str "not")))) (tret (tnotv (tv 4))) tnx)
    (tseq (tifs (tb' (to opEq (tv 0) (tc (.str "followed")))) (tret (tcall sp__law_has_end (fun _ _ => False) (tac (tv 2) (tac (to opIx (tv 3) (tc (.int 1))) tan)))) tnx)
    (tret (torv (tv 4) (tandv (to opEq (tv 0) (tc (.str "repeated"))) (to opEq (to opIx (tv 3) (tc (.int 1))) (ttup (tac (tc (.int 0)) tan))))))))))))
abbrev n__law_deed_chart : List Str := ["deed", "first", "second", "letters", "one", "two", "pairs", "known", "words", "rows", "k", "row", "a", "pair", "ends", "letter"]
def t__law_deed_chart (sp__law_truths : Sp') (sp__law_opened : Sp') (sp__law_moved : Sp') (sp__law_joined_end : Sp') : TS' :=
    (tseq (tasg (tcall sp__law_truths (fun _ _ => False) (tac (tv 1) (tac (tv 3) tan))) (gn 4))
    (tseq (tasg (tcall sp__law_truths (fun _ _ => False) (tac (tv 2) (tac (tv 3) tan))) (gn 5))
    (tseq (tasg (town (tac (tcall sp__law_opened (fun _ _ => False) (tac (tv 0) (tac (tv 1) (tac (tv 2) tan)))) tan)) (gn 6))
    (tseq (tasg (tedisp (to opIx (tv 6) (tc (.int 0))) (tc (.int 0))) (gn 7))
    (tseq (tasg (town (tac (ttup tan) tan)) (gn 8))
    (tseq (tasg (town tan) (gn 9))
    (tseq (tfor (trg1 (tac (tc (.int 400)) tan)) (gn 10) (tmid (tifs (tb' (to opLt (tv 10) (tcb caLen (tac (tv 6) tan)))) (tseq (tasg (town tan) (gn 11))
    (tseq (tfor (trg1 (tac (tcb caLen (tac (tv 3) tan)) tan)) (gn 12) (tseq (tasg (tcall sp__law_moved (fun _ _ => False) (tac (tv 0) (tac (tv 1) (tac (tv 2) (tac (to opIx (tv 6) (tv 10)) (tac (to opIx (tv 4) (tv 12)) (tac (to opIx (tv 5) (tv 12)) tan))))))) (gn 13))
    (tseq (tmid (tifs (tb' (to (opEin true) (tv 13) (tv 7))) (tseq (tasg (tcb caLen (tac (tv 6) tan)) (gesub (tv 7) (tv 13)))
    (tseq (tdrop (tbm isLs mApp (tv 6) (tac (tv 13) tan)))
    (tdrop (tbm isLs mApp (tv 8) (tac (to opAdd (to opIx (tv 8) (tv 10)) (ttup (tac (to opIx (tv 3) (tv 12)) tan))) tan))))) tnx))
    (tdrop (tbm isLs mApp (tv 11) (tac (to opEix (tv 7) (tv 13)) tan))))))
    (tdrop (tbm isLs mApp (tv 9) (tac (tv 11) tan))))) tnx)))
    (tseq (tasg (tlc (tse (tv 6)) 13 tyes (tcall sp__law_joined_end (fun _ _ => False) (tac (tv 0) (tac (tv 1) (tac (tv 2) (tac (tv 13) tan)))))) (gn 14))
    (tret (tlis (tac (tv 9) (tac (tv 14) (tac (tv 8) (tac (tlc (tse (tv 3)) 15 tyes (ttup (tac (ttup tan) (tac (tv 15) tan)))) tan))))))))))))))
abbrev n__law_speaks : List Str := ["told", "chart", "letters", "most", "table", "nodes", "known", "k", "node", "a", "fresh"]
def t__law_speaks (sp__law_truths : Sp') (sp__law_has_end : Sp') (sp__law_after : Sp') : TS' :=
    (tseq (tasg (tcall sp__law_truths (fun _ _ => False) (tac (tv 0) (tac (tv 2) tan))) (gn 4))
    (tseq (tasg (town (tac (ttup (tac (to opIx (tv 0) (tc (.int 2))) (tac (tc (.int 0)) tan))) tan)) (gn 5))
    (tseq (tasg (tedisp (to opIx (tv 5) (tc (.int 0))) (tc (.bl true))) (gn 6))
    (tseq (tfor (trg1 (tac (tv 3) tan)) (gn 7) (tmid (tifs (tb' (to opLt (tv 7) (tcb caLen (tac (tv 5) tan)))) (tseq (tasg (to opIx (tv 5) (tv 7)) (gn 8))
    (tseq (tifs (tb' (to opNe (tcall sp__law_has_end (fun _ _ => False) (tac (tv 0) (tac (to opIx (tv 8) (tc (.int 0))) tan))) (to opIx (to opIx (tv 1) (tc (.int 1))) (to opIx (tv 8) (tc (.int 1)))))) (tret (tc (.bl false))) tnx)
    (tfor (trg1 (tac (tcb caLen (tac (tv 4) tan)) tan)) (gn 9) (tseq (tasg (ttup (tac (tcall sp__law_after (fun _ _ => False) (tac (tv 0) (tac (to opIx (tv 8) (tc (.int 0))) (tac (to opIx (tv 4) (tv 9)) tan)))) (tac (to opIx (to opIx (to opIx (tv 1) (tc (.int 0))) (to opIx (tv 8) (tc (.int 1)))) (tv 9)) tan))) (gn 10))
    (tmid (tifs (tb' (to (opEin true) (tv 10) (tv 6))) (tseq (tasg (tc (.bl true)) (gesub (tv 6) (tv 10)))
    (tdrop (tbm isLs mApp (tv 5) (tac (tv 10) tan)))) tnx)))))) tnx)))
    (tret (tc (.bl true)))))))
abbrev n__law_changed : List Str := ["tape", "kind", "theory", "machine", "choice", "state", "steps", "ends", "starts", "at", "step", "q"]
def t__law_changed (sp__law_draw : Sp') (sp__law_condition : Sp') : TS' :=
    (tseq (tasg (tcall sp__law_draw (fun _ _ => False) (tac (tv 0) (tac (tc (.int 4)) tan))) (gn 4))
    (tseq (tasg (tcall sp__law_draw (fun _ _ => False) (tac (tv 0) (tac (to opIx (tv 3) (tc (.int 1))) tan))) (gn 5))
    (tseq (tasg (tcb caListO (tac (to opIx (tv 3) (tc (.int 4))) tan)) (gn 6))
    (tseq (tifs (tor (tb' (to opEq (tv 4) (tc (.int 0)))) (tnot (ttru (tv 6)))) (tseq (tasg (tcb caTup (tac (tlc (trg1 (tac (to opIx (tv 3) (tc (.int 1))) tan)) 11 (tb' (to opNe (to (opIn false) (tv 11) (to opIx (tv 3) (tc (.int 3)))) (to opEq (tv 11) (tv 5)))) (tv 11)) tan)) (gn 7))
    (tret (ttup (tac (tv 1) (tac (to opIx (tv 3) (tc (.int 1))) (tac (to opIx (tv 3) (tc (.int 2))) (tac (tv 7) (tac (to opIx (tv 3) (tc (.int 4))) tan)))))))) tnx)
    (tseq (tifs (tb' (to opEq (tv 4) (tc (.int 1)))) (tseq (tasg (tcb caTup (tac (tlc (trg1 (tac (to opIx (tv 3) (tc (.int 1))) tan)) 11 (tb' (to opNe (to (opIn false) (tv 11) (to opIx (tv 3) (tc (.int 2)))) (to opEq (tv 11) (tv 5)))) (tv 11)) tan)) (gn 8))
    (tret (ttup (tac (tv 1) (tac (to opIx (tv 3) (tc (.int 1))) (tac (tv 8) (tac (to opIx (tv 3) (tc (.int 3))) (tac (to opIx (tv 3) (tc (.int 4))) tan)))))))) tnx)
    (tseq (tasg (tcall sp__law_draw (fun _ _ => False) (tac (tv 0) (tac (tcb caLen (tac (tv 6) tan)) tan))) (gn 9))
    (tseq (tasg (to opIx (tv 6) (tv 9)) (gn 10))
    (tseq (tmid (tifs (tb' (to opEq (tv 4) (tc (.int 2)))) (tasg (ttup (tac (to opIx (tv 10) (tc (.int 0))) (tac (tcall sp__law_condition (fun _ _ => False) (tac (tv 0) (tac (tv 1) (tac (tv 2) (tac (tc (.int 2)) tan))))) (tac (to opIx (tv 10) (tc (.int 2))) tan)))) (gsub (tv 6) (tv 9))) (tasg (ttup (tac (to opIx (tv 10) (tc (.int 0))) (tac (to opIx (tv 10) (tc (.int 1))) (tac (tv 5) tan)))) (gsub (tv 6) (tv 9)))))
    (tret (ttup (tac (tv 1) (tac (to opIx (tv 3) (tc (.int 1))) (tac (to opIx (tv 3) (tc (.int 2))) (tac (to opIx (tv 3) (tc (.int 3))) (tac (tcb caTup (tac (tv 6) tan)) tan)))))))))))))))
abbrev n__law_plain_machine : List Str := ["tape", "theme", "shape"]
def t__law_plain_machine (sp__law_draw : Sp') (sp__law_machine : Sp') : TS' :=
    (tseq (tasg (to opIx (tlis (tac (tlis (tac (tc (.int 2)) (tac (tc (.int 4)) (tac (tc (.int 3)) tan)))) (tac (tlis (tac (tc (.int 2)) (tac (tc (.int 6)) (tac (tc (.int 8)) tan)))) (tac (tlis (tac (tc (.int 3)) (tac (tc (.int 4)) (tac (tc (.int 3)) tan)))) (tac (tlis (tac (tc (.int 3)) (tac (tc (.int 5)) (tac (tc (.int 2)) tan)))) (tac (tlis (tac (tc (.int 3)) (tac (tc (.int 6)) (tac (tc (.int 2)) tan)))) (tac (tlis (tac (tc (.int 4)) (tac (tc (.int 6)) (tac (tc (.int 2)) tan)))) tan))))))) (tcall sp__law_draw (fun _ _ => False) (tac (tv 0) (tac (tc (.int 6)) tan)))) (gn 2))
    (tret (tcall sp__law_machine (fun _ _ => False) (tac (tv 0) (tac (to opIx (tv 1) (tc (.int 0))) (tac (to opIx (tv 1) (tc (.int 1))) (tac (to opIx (tv 2) (tc (.int 0))) (tac (to opIx (tv 2) (tc (.int 1))) (tac (to opIx (tv 2) (tc (.int 2))) tan)))))))))
abbrev n__law_many : List Str := ["kind", "integers", "piece"]
def t__law_many (sp__law_many : Sp') : TS' :=
    (tseq (tifs (tb' (to opEq (to opIx (tv 0) (tc (.int 0))) (tc (.str "names")))) (tret (tcb caLen (tac (to opIx (tv 0) (tc (.int 1))) tan))) tnx)
    (tseq (tifs (tb' (to opEq (to opIx (tv 0) (tc (.int 0))) (tc (.str "integers")))) (tret (tv 1)) tnx)
    (tseq (tifs (tb' (to opEq (to opIx (tv 0) (tc (.int 0))) (tc (.str "pair")))) (tret (to opMul (tcall sp__law_many (fun _ _ => False) (tac (to opIx (tv 0) (tc (.int 1))) (tac (tv 1) tan))) (tcall sp__law_many (fun _ _ => False) (tac (to opIx (tv 0) (tc (.int 2))) (tac (tv 1) tan))))) tnx)
    (tseq (tifs (tb' (to opEq (to opIx (tv 0) (tc (.int 0))) (tc (.str "either")))) (tret (tcb caSum (tac (tlc (tse (to opIx (tv 0) (tc (.int 1)))) 2 tyes (tcall sp__law_many (fun _ _ => False) (tac (tv 2) (tac (tv 1) tan)))) tan))) tnx)
    (tret (to opAdd (tc (.int 1)) (tcall sp__law_many (fun _ _ => False) (tac (to opIx (tv 0) (tc (.int 1))) (tac (tv 1) tan)))))))))
abbrev n__law_theory : List Str := ["tape", "kind", "limit", "menu", "theory"]
def t__law_theory (sp__law_draw : Sp') (sp__law_many : Sp') : TS' :=
    (tseq (tasg (tlis (tac (ttup (tac (tc (.int 20)) (tac (tc (.int 12)) tan))) (tac (ttup (tac (tc (.int 20)) (tac (tc (.int 4)) tan))) (tac (ttup (tac (tc (.int 20)) (tac (tc (.int 6)) tan))) (tac (ttup (tac (tc (.int 20)) (tac (tc (.int 1)) tan))) (tac (ttup (tac (tc (.int 7)) (tac (tc (.int 12)) tan))) (tac (ttup (tac (tc (.int 6)) (tac (tc (.int 4)) tan))) (tac (ttup (tac (tc (.int 4)) (tac (tc (.int 6)) tan))) tan)))))))) (gn 3))
    (tseq (tasg (to opAdd (tv 3) (tlis (tac (ttup (tac (tc (.int 3)) (tac (tc (.int 4)) tan))) (tac (ttup (tac (tc (.int 2)) (tac (tc (.int 3)) tan))) (tac (ttup (tac (tc (.int 3)) (tac (tc (.int 2)) tan))) (tac (ttup (tac (tc (.int 2)) (tac (tc (.int 2)) tan))) (tac (ttup (tac (tc (.int 1)) (tac (tc (.int 2)) tan))) (tac (ttup (tac (tc (.int 1)) (tac (tc (.int 1)) tan))) tan)))))))) (gn 3))
    (tseq (tfor (tse (tsl (tv 3) (tpe (tcall sp__law_draw (fun _ _ => False) (tac (tv 0) (tac (tcb caLen (tac (tv 3) tan)) tan)))) tpn)) (gn 4) (tifs (tb' (to opLe (tcall sp__law_many (fun _ _ => False) (tac (tv 1) (tac (to opAdd (to opMul (tc (.int 2)) (to opAdd (to opIx (tv 4) (tc (.int 0))) (to opIx (tv 4) (tc (.int 1))))) (tc (.int 1))) tan))) (tv 2))) (tret (tv 4)) tnx))
    (tret (ttup (tac (tc (.int 0)) (tac (tc (.int 1)) tan)))))))
abbrev n__law_marked : List Str := ["kind", "theory", "found", "k", "others", "first", "second", "i", "piece", "name"]
def t__law_marked (sp__law_marked : Sp') : TS' :=
    (tseq (tifs (tb' (to opEq (to opIx (tv 0) (tc (.int 0))) (tc (.str "names")))) (tret (tlc (tse (to opIx (tv 0) (tc (.int 1)))) 9 tyes (ttup (tac (tv 9) (tac (tc (.bl false)) tan))))) tnx)
    (tseq (tifs (tb' (to opEq (to opIx (tv 0) (tc (.int 0))) (tc (.str "integers")))) (tseq (tasg (town (tac (ttup (tac (tc (.int 0)) (tac (tc (.bl false)) tan))) tan)) (gn 2))
    (tseq (tfor (trg2 (tac (tc (.int 1)) (tac (to opAdd (to opAdd (to opIx (tv 1) (tc (.int 0))) (to opIx (tv 1) (tc (.int 1)))) (tc (.int 1))) tan))) (gn 3) (tseq (tdrop (tbm isLs mApp (tv 2) (tac (ttup (tac (tv 3) (tac (to opGt (tv 3) (to opIx (tv 1) (tc (.int 0)))) tan))) tan)))
    (tdrop (tbm isLs mApp (tv 2) (tac (ttup (tac (tu unNeg (tv 3)) (tac (to opGt (tv 3) (to opIx (tv 1) (tc (.int 0)))) tan))) tan)))))
    (tret (tv 2)))) tnx)
    (tseq (tasg (town tan) (gn 2))
    (tseq (tifs (tb' (to opEq (to opIx (tv 0) (tc (.int 0))) (tc (.str "pair")))) (tseq (tasg (tcall sp__law_marked (fun _ _ => False) (tac (to opIx (tv 0) (tc (.int 2))) (tac (tv 1) tan))) (gn 4))
    (tseq (tfor (tse (tcall sp__law_marked (fun _ _ => False) (tac (to opIx (tv 0) (tc (.int 1))) (tac (tv 1) tan)))) (gn 5) (tfor (tse (tv 4)) (gn 6) (tdrop (tbm isLs mApp (tv 2) (tac (ttup (tac (ttup (tac (tc (.str "pair")) (tac (to opIx (tv 5) (tc (.int 0))) (tac (to opIx (tv 6) (tc (.int 0))) tan)))) (tac (torv (to opIx (tv 5) (tc (.int 1))) (to opIx (tv 6) (tc (.int 1)))) tan))) tan)))))
    (tret (tv 2)))) tnx)
    (tseq (tifs (tb' (to opEq (to opIx (tv 0) (tc (.int 0))) (tc (.str "either")))) (tseq (tfor (trg1 (tac (tcb caLen (tac (to opIx (tv 0) (tc (.int 1))) tan)) tan)) (gn 7) (tfor (tse (tcall sp__law_marked (fun _ _ => False) (tac (to opIx (to opIx (tv 0) (tc (.int 1))) (tv 7)) (tac (tv 1) tan)))) (gn 8) (tdrop (tbm isLs mApp (tv 2) (tac (ttup (tac (ttup (tac (tc (.str "case")) (tac (tv 7) (tac (to opIx (tv 8) (tc (.int 0))) tan)))) (tac (to opIx (tv 8) (tc (.int 1))) tan))) tan)))))
    (tret (tv 2))) tnx)
    (tseq (tdrop (tbm isLs mApp (tv 2) (tac (ttup (tac (ttup (tac (tc (.str "none")) tan)) (tac (tc (.bl false)) tan))) tan)))
    (tseq (tfor (tse (tcall sp__law_marked (fun _ _ => False) (tac (to opIx (tv 0) (tc (.int 1))) (tac (tv 1) tan)))) (gn 8) (tdrop (tbm isLs mApp (tv 2) (tac (ttup (tac (ttup (tac (tc (.str "some")) (tac (to opIx (tv 8) (tc (.int 0))) tan))) (tac (to opIx (tv 8) (tc (.int 1))) tan))) tan))))
    (tret (tv 2)))))))))
abbrev n__law_letters : List Str := ["kind", "theory", "one"]
def t__law_letters (sp__law_marked : Sp') : TS' :=
    (tret (tlc (tse (tcall sp__law_marked (fun _ _ => False) (tac (tv 0) (tac (tv 1) tan)))) 2 tyes (to opIx (tv 2) (tc (.int 0)))))
abbrev n__law_fits : List Str := ["kind", "told", "head"]
def t__law_fits (sp__law_fits : Sp') (sp__law_is_shape : Sp') (sp__law_whole : Sp') : TS' :=
    (tseq (tifs (tor (tnot (tb' (tcb caIs (tac (tv 1) (tac (tc (.ty "tuple")) tan))))) (tor (tb' (to opEq (tcb caLen (tac (tv 1) tan)) (tc (.int 0)))) (tnot (tb' (tcb caIs (tac (to opIx (tv 1) (tc (.int 0))) (tac (tc (.ty "str")) tan))))))) (tret (tc (.bl false))) tnx)
    (tseq (tasg (to opIx (tv 1) (tc (.int 0))) (gn 2))
    (tseq (tifs (tb' (to (opIn false) (tv 2) (tlis (tac (tc (.str "true")) (tac (tc (.str "false")) tan))))) (tret (to opEq (tcb caLen (tac (tv 1) tan)) (tc (.int 1)))) tnx)
    (tseq (tifs (tb' (to opEq (tv 2) (tc (.str "not")))) (tret (tandv (to opEq (tcb caLen (tac (tv 1) tan)) (tc (.int 2))) (tcall sp__law_fits (fun _ _ => False) (tac (tv 0) (tac (to opIx (tv 1) (tc (.int 1))) tan))))) tnx)
    (tseq (tifs (tb' (to (opIn false) (tv 2) (tlis (tac (tc (.str "and")) (tac (tc (.str "or")) tan))))) (tret (tandv (to opEq (tcb caLen (tac (tv 1) tan)) (tc (.int 3))) (tandv (tcall sp__law_fits (fun _ _ => False) (tac (tv 0) (tac (to opIx (tv 1) (tc (.int 1))) tan))) (tcall sp__law_fits (fun _ _ => False) (tac (tv 0) (tac (to opIx (tv 1) (tc (.int 2))) tan)))))) tnx)
    (tseq (tifs (tb' (to opEq (tv 2) (tc (.str "in")))) (tret (tandv (to opEq (tcb caLen (tac (tv 1) tan)) (tc (.int 2))) (tcall sp__law_is_shape (fun _ _ => False) (tac (tv 0) (tac (to opIx (tv 1) (tc (.int 1))) tan))))) tnx)
    (tseq (tifs (tb' (to opEq (to opIx (tv 0) (tc (.int 0))) (tc (.str "names")))) (tret (tandv (to opEq (tv 2) (tc (.str "is"))) (tandv (to opEq (tcb caLen (tac (tv 1) tan)) (tc (.int 2))) (tandv (tcb caIs (tac (to opIx (tv 1) (tc (.int 1))) (tac (tc (.ty "str")) tan))) (to (opIn false) (to opIx (tv 1) (tc (.int 1))) (to opIx (tv 0) (tc (.int 1)))))))) tnx)
    (tseq (tifs (tb' (to opEq (to opIx (tv 0) (tc (.int 0))) (tc (.str "integers")))) (tseq (tifs (tb' (to (opIn false) (tv 2) (tlis (tac (tc (.str "<")) (tac (tc (.str "=")) (tac (tc (.str ">")) tan)))))) (tret (tandv (to opEq (tcb caLen (tac (tv 1) tan)) (tc (.int 2))) (tcall sp__law_whole (fun _ _ => False) (tac (to opIx (tv 1) (tc (.int 1))) tan)))) tnx)
    (tseq (tifs (tor (tb' (to opNe (tv 2) (tc (.str "mod")))) (tor (tb' (to opNe (tcb caLen (tac (tv 1) tan)) (tc (.int 3)))) (tor (tnot (tb' (tcall sp__law_whole (fun _ _ => False) (tac (to opIx (tv 1) (tc (.int 1))) tan)))) (tnot (tb' (tcall sp__law_whole (fun _ _ => False) (tac (to opIx (tv 1) (tc (.int 2))) tan))))))) (tret (tc (.bl false))) tnx)
    (tret (to opGt (to opIx (tv 1) (tc (.int 1))) (tc (.int 0)))))) tnx)
    (tseq (tifs (tb' (to opEq (to opIx (tv 0) (tc (.int 0))) (tc (.str "pair")))) (tseq (tifs (tor (tb' (to (opIn true) (tv 2) (tlis (tac (tc (.str "first")) (tac (tc (.str "second")) tan))))) (tb' (to opNe (tcb caLen (tac (tv 1) tan)) (tc (.int 2))))) (tret (tc (.bl false))) tnx)
    (tret (tcall sp__law_fits (fun _ _ => False) (tac (to opIx (tv 0) (to opAdd (tc (.int 1)) (tcb caInt (tac (to opEq (tv 2) (tc (.str "second"))) tan)))) (tac (to opIx (tv 1) (tc (.int 1))) tan))))) tnx)
    (tseq (tifs (tb' (to opEq (to opIx (tv 0) (tc (.int 0))) (tc (.str "either")))) (tseq (tifs (tor (tb' (to opNe (tv 2) (tc (.str "case")))) (tor (tb' (to opNe (tcb caLen (tac (tv 1) tan)) (tc (.int 3)))) (tnot (tb' (tcall sp__law_whole (fun _ _ => False) (tac (to opIx (tv 1) (tc (.int 1))) tan)))))) (tret (tc (.bl false))) tnx)
    (tret (tandv (to opLe (tc (.int 0)) (to opIx (tv 1) (tc (.int 1)))) (tandv (to opLt (to opIx (tv 1) (tc (.int 1))) (tcb caLen (tac (to opIx (tv 0) (tc (.int 1))) tan))) (tcall sp__law_fits (fun _ _ => False) (tac (to opIx (to opIx (tv 0) (tc (.int 1))) (to opIx (tv 1) (tc (.int 1)))) (tac (to opIx (tv 1) (tc (.int 2))) tan))))))) tnx)
    (tseq (tifs (tb' (to opEq (tv 2) (tc (.str "none")))) (tret (to opEq (tcb caLen (tac (tv 1) tan)) (tc (.int 1)))) tnx)
    (tret (tandv (to opEq (tv 2) (tc (.str "some"))) (tandv (to opEq (tcb caLen (tac (tv 1) tan)) (tc (.int 2))) (tcall sp__law_fits (fun _ _ => False) (tac (to opIx (tv 0) (tc (.int 1))) (tac (to opIx (tv 1) (tc (.int 1))) tan)))))))))))))))))
abbrev n__law_is_states : List Str := ["many", "told", "last", "state"]
def t__law_is_states (sp__law_whole : Sp') : TS' :=
    (tseq (tifs (tnot (tb' (tcb caIs (tac (tv 1) (tac (tc (.ty "tuple")) tan))))) (tret (tc (.bl false))) tnx)
    (tseq (tasg (tu unNeg (tc (.int 1))) (gn 2))
    (tseq (tfor (tse (tv 1)) (gn 3) (tseq (tifs (torp (tnot (tb' (tcall sp__law_whole (fun _ _ => False) (tac (tv 3) tan)))) (torp (tb' (to opLe (tv 3) (tv 2))) (tb' (to opGe (tv 3) (tv 0))))) (tret (tc (.bl false))) tnx)
    (tasg (tv 3) (gn 2))))
    (tret (tc (.bl true))))))
abbrev n__law_is_machine : List Str := ["kind", "told", "step"]
def t__law_is_machine (sp__law_whole : Sp') (sp__law_is_states : Sp') (sp__law_fits : Sp') : TS' :=
    (tseq (tifs (tor (tnot (tb' (tcb caIs (tac (tv 1) (tac (tc (.ty "tuple")) tan))))) (tor (tb' (to opNe (tcb caLen (tac (tv 1) tan)) (tc (.int 5)))) (tor (tb' (to opNe (to opIx (tv 1) (tc (.int 0))) (tv 0))) (tor (tnot (tb' (tcall sp__law_whole (fun _ _ => False) (tac (to opIx (tv 1) (tc (.int 1))) tan)))) (tb' (to opLt (to opIx (tv 1) (tc (.int 1))) (tc (.int 1)))))))) (tret (tc (.bl false))) tnx)
    (tseq (tifs (tor (tnot (tb' (tcall sp__law_is_states (fun _ _ => False) (tac (to opIx (tv 1) (tc (.int 1))) (tac (to opIx (tv 1) (tc (.int 2))) tan))))) (tor (tnot (tb' (tcall sp__law_is_states (fun _ _ => False) (tac (to opIx (tv 1) (tc (.int 1))) (tac (to opIx (tv 1) (tc (.int 3))) tan))))) (tnot (tb' (tcb caIs (tac (to opIx (tv 1) (tc (.int 4))) (tac (tc (.ty "tuple")) tan))))))) (tret (tc (.bl false))) tnx)
    (tseq (tfor (tse (to opIx (tv 1) (tc (.int 4)))) (gn 2) (tseq (tifs (tor (tnot (tb' (tcb caIs (tac (tv 2) (tac (tc (.ty "tuple")) tan))))) (tb' (to opNe (tcb caLen (tac (tv 2) tan)) (tc (.int 3))))) (tret (tc (.bl false))) tnx)
    (tseq (tifs (tor (tnot (tb' (tcall sp__law_is_states (fun _ _ => False) (tac (to opIx (tv 1) (tc (.int 1))) (tac (ttup (tac (to opIx (tv 2) (tc (.int 0))) tan)) tan))))) (tnot (tb' (tcall sp__law_is_states (fun _ _ => False) (tac (to opIx (tv 1) (tc (.int 1))) (tac (ttup (tac (to opIx (tv 2) (tc (.int 2))) tan)) tan)))))) (tret (tc (.bl false))) tnx)
    (tifs (tnot (tb' (tcall sp__law_fits (fun _ _ => False) (tac (tv 0) (tac (to opIx (tv 2) (tc (.int 1))) tan))))) (tret (tc (.bl false))) tnx))))
    (tret (tc (.bl true))))))
abbrev n__law_after : List Str := ["machine", "states", "truths", "found", "k", "state"]
def t__law_after  : TS' :=
    (tseq (tasg (town tan) (gn 3))
    (tseq (tfor (trg1 (tac (tcb caLen (tac (to opIx (tv 0) (tc (.int 4))) tan)) tan)) (gn 4) (tmid (tifs (tand (tb' (to opIx (tv 2) (tv 4))) (tb' (to (opIn false) (to opIx (to opIx (to opIx (tv 0) (tc (.int 4))) (tv 4)) (tc (.int 0))) (tv 1)))) (tdrop (tbm isLs mApp (tv 3) (tac (to opIx (to opIx (to opIx (tv 0) (tc (.int 4))) (tv 4)) (tc (.int 2))) tan))) tnx)))
    (tret (tcb caTup (tac (tlc (trg1 (tac (to opIx (tv 0) (tc (.int 1))) tan)) 5 (tb' (to (opIn false) (tv 5) (tv 3))) (tv 5)) tan)))))
abbrev n__law_call : List Str := ["door", "first", "second"]
def t__law_call (sp_followed : Sp') (sp_repeated : Sp') (sp_backwards : Sp') : TS' :=
    (tseq (tifs (tb' (to opEq (tv 0) (tc (.int 0)))) (tret (tcall sp_followed (fun _ _ => False) (tac (tv 1) (tac (tv 2) tan)))) tnx)
    (tseq (tifs (tb' (to opEq (tv 0) (tc (.int 1)))) (tret (tcall sp_repeated (fun _ _ => False) (tac (tv 1) tan))) tnx)
    (tret (tcall sp_backwards (fun _ _ => False) (tac (tv 1) tan)))))
abbrev n_law : List Str := ["script", "tape", "theme", "kind", "door", "k", "machines", "side", "changed", "letters", "pairs", "charts", "told", "n", "pair"]
def t_law (sp__law_tape : Sp') (sp__law_theme : Sp') (sp__law_draw : Sp') (sp__law_plain_machine : Sp') (sp__law_changed : Sp') (sp__law_signs : Sp') (sp__law_deed_chart : Sp') (sp__law_call : Sp') (sp__law_is_machine : Sp') (sp__law_speaks : Sp') : TS' :=
    (tseq (tasg (tcall sp__law_tape (fun _ _ => False) (tac (tv 0) tan)) (gn 1))
    (tseq (tasg (tcall sp__law_theme (fun _ _ => False) (tac (tv 1) (tac (tc (.int 24)) tan))) (gn 2))
    (tseq (tasg (to opIx (tv 2) (tc (.int 0))) (gn 3))
    (tseq (tasg (tcall sp__law_draw (fun _ _ => False) (tac (tv 1) (tac (tc (.int 3)) tan))) (gn 4))
    (tseq (tasg (tlc (trg1 (tac (tc (.int 2)) tan)) 5 tyes (tcall sp__law_plain_machine (fun _ _ => False) (tac (tv 1) (tac (tv 2) tan)))) (gn 6))
    (tseq (tasg (to opMul (tcall sp__law_draw (fun _ _ => False) (tac (tv 1) (tac (tc (.int 2)) tan))) (tcb caInt (tac (to opLt (tv 4) (tc (.int 1))) tan))) (gn 7))
    (tseq (tasg (tcb caListO (tac (tv 6) tan)) (gn 8))
    (tseq (tasg (tcall sp__law_changed (fun _ _ => False) (tac (tv 1) (tac (tv 3) (tac (to opIx (tv 2) (tc (.int 1))) (tac (to opIx (tv 6) (tv 7)) tan))))) (gsub (tv 8) (tv 7)))
    (tseq (tasg (tcall sp__law_signs (fun _ _ => False) (tac (tv 1) (tac (tv 2) (tac (to opAddO (tv 6) (tv 8)) tan)))) (gn 9))
    (tseq (tasg (tlis (tac (tv 6) (tac (tv 8) tan))) (gn 10))
    (tseq (tasg (tlc (tse (tv 10)) 14 tyes (tcall sp__law_deed_chart (fun _ _ => False) (tac (to opIx (tlis (tac (tc (.str "followed")) (tac (tc (.str "repeated")) (tac (tc (.str "backwards")) tan)))) (tv 4)) (tac (to opIx (tv 14) (tc (.int 0))) (tac (to opIx (tv 14) (tc (.int 1))) (tac (tv 9) tan)))))) (gn 11))
    (tseq (tfor (tse (tlis (tac (tc (.int 0)) (tac (tc (.int 1)) (tac (tc (.int 0)) tan))))) (gn 5) (tseq (tasg (tcall sp__law_call (fun _ _ => False) (tac (tv 4) (tac (to opIx (to opIx (tv 10) (tv 5)) (tc (.int 0))) (tac (to opIx (to opIx (tv 10) (tv 5)) (tc (.int 1))) tan)))) (gn 12))
    (tseq (tasg (to opIx (to opIx (to opIx (tv 10) (tv 5)) (tc (.int 0))) (tc (.int 1))) (gn 13))
    (tseq (tifs (tor (tnot (tb' (tcall sp__law_is_machine (fun _ _ => False) (tac (tv 3) (tac (tv 12) tan))))) (tb' (to opGt (to opIx (tv 12) (tc (.int 1))) (to opIx (tlis (tac (to opAdd (tv 13) (to opIx (to opIx (to opIx (tv 10) (tv 5)) (tc (.int 1))) (tc (.int 1)))) (tac (to opAdd (tv 13) (tc (.int 1))) (tac (tv 13) tan)))) (tv 4))))) (tret (tc (.bl false))) tnx)
    (tifs (tnot (tb' (tcall sp__law_speaks (fun _ _ => False) (tac (tv 12) (tac (to opIx (tv 11) (tv 5)) (tac (tv 9) (tac (tc (.int 40)) tan))))))) (tret (tc (.bl false))) tnx)))))
    (tret (tc (.bl true)))))))))))))))
end K41
set_option Elab.async false
set_option linter.all false
set_option maxRecDepth 100000
set_option maxHeartbeats 8000000
namespace WK41
open PySem PySem.Spec PyProof.Rows L2 DL
def topS (i : Nat) : Stmt := PySem.Challenge.pw_guardwords_k41_followed_repeated_backwar.main.body.getD i (.Pass ⟨0, 0, 0, 0⟩)
abbrev s_has_end : Stmt := topS 4
abbrev p_has_end : List Str := ["machine", "states"]
theorem sc_has_end : FnScope K22.n_has_end p_has_end (defScope s_has_end) := ⟨rfl, rfl, rfl, by decide +kernel, rfl, by decide +kernel, by decide +kernel⟩
abbrev s_check_kinds : Stmt := topS 6
abbrev p_check_kinds : List Str := ["first", "second"]
theorem sc_check_kinds : FnScope K41.n_check_kinds p_check_kinds (defScope s_check_kinds) := ⟨rfl, rfl, rfl, by decide +kernel, rfl, by decide +kernel, by decide +kernel⟩
abbrev s_shifted : Stmt := topS 8
abbrev p_shifted : List Str := ["states", "many"]
theorem sc_shifted : FnScope K41.n_shifted p_shifted (defScope s_shifted) := ⟨rfl, rfl, rfl, by decide +kernel, rfl, by decide +kernel, by decide +kernel⟩
abbrev s_shifted_steps : Stmt := topS 9
abbrev p_shifted_steps : List Str := ["steps", "many"]
theorem sc_shifted_steps : FnScope K41.n_shifted_steps p_shifted_steps (defScope s_shifted_steps) := ⟨rfl, rfl, rfl, by decide +kernel, rfl, by decide +kernel, by decide +kernel⟩
abbrev s_into_ends : Stmt := topS 10
abbrev p_into_ends : List Str := ["machine", "goals"]
theorem sc_into_ends : FnScope K41.n_into_ends p_into_ends (defScope s_into_ends) := ⟨rfl, rfl, rfl, by decide +kernel, rfl, by decide +kernel, by decide +kernel⟩
abbrev s_followed : Stmt := topS 11
abbrev p_followed : List Str := ["first", "second"]
theorem sc_followed : FnScope K41.n_followed p_followed (defScope s_followed) := ⟨rfl, rfl, rfl, by decide +kernel, rfl, by decide +kernel, by decide +kernel⟩
abbrev s_repeated : Stmt := topS 12
abbrev p_repeated : List Str := ["machine"]
theorem sc_repeated : FnScope K41.n_repeated p_repeated (defScope s_repeated) := ⟨rfl, rfl, rfl, by decide +kernel, rfl, by decide +kernel, by decide +kernel⟩
abbrev s_backwards : Stmt := topS 13
abbrev p_backwards : List Str := ["machine"]
theorem sc_backwards : FnScope K41.n_backwards p_backwards (defScope s_backwards) := ⟨rfl, rfl, rfl, by decide +kernel, rfl, by decide +kernel, by decide +kernel⟩
abbrev s__law_theme : Stmt := topS 15
abbrev p__law_theme : List Str := ["tape", "limit"]
theorem sc__law_theme : FnScope K41.n__law_theme p__law_theme (defScope s__law_theme) := ⟨rfl, rfl, rfl, by decide +kernel, rfl, by decide +kernel, by decide +kernel⟩
abbrev s__law_where : Stmt := topS 16
abbrev p__law_where : List Str := ["conditions", "letters"]
theorem sc__law_where : FnScope K41.n__law_where p__law_where (defScope s__law_where) := ⟨rfl, rfl, rfl, by decide +kernel, rfl, by decide +kernel, by decide +kernel⟩
abbrev s__law_conditions_of : Stmt := topS 17
abbrev p__law_conditions_of : List Str := ["machines"]
theorem sc__law_conditions_of : FnScope K41.n__law_conditions_of p__law_conditions_of (defScope s__law_conditions_of) := ⟨rfl, rfl, rfl, by decide +kernel, rfl, by decide +kernel, by decide +kernel⟩
abbrev s__law_signs : Stmt := topS 18
abbrev p__law_signs : List Str := ["tape", "theme", "machines"]
theorem sc__law_signs : FnScope K41.n__law_signs p__law_signs (defScope s__law_signs) := ⟨rfl, rfl, rfl, by decide +kernel, rfl, by decide +kernel, by decide +kernel⟩
abbrev s__law_truths : Stmt := topS 19
abbrev p__law_truths : List Str := ["machine", "letters"]
theorem sc__law_truths : FnScope K41.n__law_truths p__law_truths (defScope s__law_truths) := ⟨rfl, rfl, rfl, by decide +kernel, rfl, by decide +kernel, by decide +kernel⟩
abbrev s__law_opened : Stmt := topS 20
abbrev p__law_opened : List Str := ["deed", "first", "second"]
theorem sc__law_opened : FnScope K41.n__law_opened p__law_opened (defScope s__law_opened) := ⟨rfl, rfl, rfl, by decide +kernel, rfl, by decide +kernel, by decide +kernel⟩
abbrev s__law_moved : Stmt := topS 21
abbrev p__law_moved : List Str := ["deed", "first", "second", "pair", "one", "two"]
theorem sc__law_moved : FnScope K41.n__law_moved p__law_moved (defScope s__law_moved) := ⟨rfl, rfl, rfl, by decide +kernel, rfl, by decide +kernel, by decide +kernel⟩
abbrev s__law_joined_end : Stmt := topS 22
abbrev p__law_joined_end : List Str := ["deed", "first", "second", "pair"]
theorem sc__law_joined_end : FnScope K41.n__law_joined_end p__law_joined_end (defScope s__law_joined_end) := ⟨rfl, rfl, rfl, by decide +kernel, rfl, by decide +kernel, by decide +kernel⟩
abbrev s__law_deed_chart : Stmt := topS 23
abbrev p__law_deed_chart : List Str := ["deed", "first", "second", "letters"]
theorem sc__law_deed_chart : FnScope K41.n__law_deed_chart p__law_deed_chart (defScope s__law_deed_chart) := ⟨rfl, rfl, rfl, by decide +kernel, rfl, by decide +kernel, by decide +kernel⟩
abbrev s__law_speaks : Stmt := topS 24
abbrev p__law_speaks : List Str := ["told", "chart", "letters", "most"]
theorem sc__law_speaks : FnScope K41.n__law_speaks p__law_speaks (defScope s__law_speaks) := ⟨rfl, rfl, rfl, by decide +kernel, rfl, by decide +kernel, by decide +kernel⟩
abbrev s__law_changed : Stmt := topS 25
abbrev p__law_changed : List Str := ["tape", "kind", "theory", "machine"]
theorem sc__law_changed : FnScope K41.n__law_changed p__law_changed (defScope s__law_changed) := ⟨rfl, rfl, rfl, by decide +kernel, rfl, by decide +kernel, by decide +kernel⟩
abbrev s__law_plain_machine : Stmt := topS 26
abbrev p__law_plain_machine : List Str := ["tape", "theme"]
theorem sc__law_plain_machine : FnScope K41.n__law_plain_machine p__law_plain_machine (defScope s__law_plain_machine) := ⟨rfl, rfl, rfl, by decide +kernel, rfl, by decide +kernel, by decide +kernel⟩
abbrev s__law_tape : Stmt := topS 27
abbrev p__law_tape : List Str := ["script"]
theorem sc__law_tape : FnScope K00.n__law_tape p__law_tape (defScope s__law_tape) := ⟨rfl, rfl, rfl, by decide +kernel, rfl, by decide +kernel, by decide +kernel⟩
abbrev s__law_draw : Stmt := topS 28
abbrev p__law_draw : List Str := ["tape", "many"]
theorem sc__law_draw : FnScope K00.n__law_draw p__law_draw (defScope s__law_draw) := ⟨rfl, rfl, rfl, by decide +kernel, rfl, by decide +kernel, by decide +kernel⟩
abbrev s__law_whole : Stmt := topS 29
abbrev p__law_whole : List Str := ["told"]
theorem sc__law_whole : FnScope K00.n__law_whole p__law_whole (defScope s__law_whole) := ⟨rfl, rfl, rfl, by decide +kernel, rfl, by decide +kernel, by decide +kernel⟩
abbrev s__law_names : Stmt := topS 30
abbrev p__law_names : List Str := ["tape"]
theorem sc__law_names : FnScope K00.n__law_names p__law_names (defScope s__law_names) := ⟨rfl, rfl, rfl, by decide +kernel, rfl, by decide +kernel, by decide +kernel⟩
abbrev s__law_kinds : Stmt := topS 31
abbrev p__law_kinds : List Str := ["kind"]
theorem sc__law_kinds : FnScope K00.n__law_kinds p__law_kinds (defScope s__law_kinds) := ⟨rfl, rfl, rfl, by decide +kernel, rfl, by decide +kernel, by decide +kernel⟩
abbrev s__law_kind : Stmt := topS 32
abbrev p__law_kind : List Str := ["tape", "depth", "many"]
theorem sc__law_kind : FnScope K00.n__law_kind p__law_kind (defScope s__law_kind) := ⟨rfl, rfl, rfl, by decide +kernel, rfl, by decide +kernel, by decide +kernel⟩
abbrev s__law_any_kind : Stmt := topS 33
abbrev p__law_any_kind : List Str := ["tape"]
theorem sc__law_any_kind : FnScope K04.n__law_any_kind p__law_any_kind (defScope s__law_any_kind) := ⟨rfl, rfl, rfl, by decide +kernel, rfl, by decide +kernel, by decide +kernel⟩
abbrev s__law_many : Stmt := topS 34
abbrev p__law_many : List Str := ["kind", "integers"]
theorem sc__law_many : FnScope K41.n__law_many p__law_many (defScope s__law_many) := ⟨rfl, rfl, rfl, by decide +kernel, rfl, by decide +kernel, by decide +kernel⟩
abbrev s__law_theory : Stmt := topS 35
abbrev p__law_theory : List Str := ["tape", "kind", "limit"]
theorem sc__law_theory : FnScope K41.n__law_theory p__law_theory (defScope s__law_theory) := ⟨rfl, rfl, rfl, by decide +kernel, rfl, by decide +kernel, by decide +kernel⟩
abbrev s__law_marked : Stmt := topS 36
abbrev p__law_marked : List Str := ["kind", "theory"]
theorem sc__law_marked : FnScope K41.n__law_marked p__law_marked (defScope s__law_marked) := ⟨rfl, rfl, rfl, by decide +kernel, rfl, by decide +kernel, by decide +kernel⟩
abbrev s__law_letters : Stmt := topS 37
abbrev p__law_letters : List Str := ["kind", "theory"]
theorem sc__law_letters : FnScope K41.n__law_letters p__law_letters (defScope s__law_letters) := ⟨rfl, rfl, rfl, by decide +kernel, rfl, by decide +kernel, by decide +kernel⟩
abbrev s__law_integer : Stmt := topS 38
abbrev p__law_integer : List Str := ["tape", "top"]
theorem sc__law_integer : FnScope K00.n__law_integer p__law_integer (defScope s__law_integer) := ⟨rfl, rfl, rfl, by decide +kernel, rfl, by decide +kernel, by decide +kernel⟩
abbrev s__law_letter : Stmt := topS 39
abbrev p__law_letter : List Str := ["tape", "kind", "theory"]
theorem sc__law_letter : FnScope K00.n__law_letter p__law_letter (defScope s__law_letter) := ⟨rfl, rfl, rfl, by decide +kernel, rfl, by decide +kernel, by decide +kernel⟩
abbrev s__law_conditions : Stmt := topS 40
abbrev p__law_conditions : List Str := ["condition"]
theorem sc__law_conditions : FnScope K04.n__law_conditions p__law_conditions (defScope s__law_conditions) := ⟨rfl, rfl, rfl, by decide +kernel, rfl, by decide +kernel, by decide +kernel⟩
abbrev s__law_comparison : Stmt := topS 41
abbrev p__law_comparison : List Str := ["tape", "theory"]
theorem sc__law_comparison : FnScope K04.n__law_comparison p__law_comparison (defScope s__law_comparison) := ⟨rfl, rfl, rfl, by decide +kernel, rfl, by decide +kernel, by decide +kernel⟩
abbrev s__law_modulus : Stmt := topS 42
abbrev p__law_modulus : List Str := ["tape", "theory"]
theorem sc__law_modulus : FnScope K04.n__law_modulus p__law_modulus (defScope s__law_modulus) := ⟨rfl, rfl, rfl, by decide +kernel, rfl, by decide +kernel, by decide +kernel⟩
abbrev s__law_leaf : Stmt := topS 43
abbrev p__law_leaf : List Str := ["tape", "kind", "theory", "room"]
theorem sc__law_leaf : FnScope K04.n__law_leaf p__law_leaf (defScope s__law_leaf) := ⟨rfl, rfl, rfl, by decide +kernel, rfl, by decide +kernel, by decide +kernel⟩
abbrev s__law_condition : Stmt := topS 44
abbrev p__law_condition : List Str := ["tape", "kind", "theory", "room"]
theorem sc__law_condition : FnScope K04.n__law_condition p__law_condition (defScope s__law_condition) := ⟨rfl, rfl, rfl, by decide +kernel, rfl, by decide +kernel, by decide +kernel⟩
abbrev s__law_in : Stmt := topS 45
abbrev p__law_in : List Str := ["letters", "letter"]
theorem sc__law_in : FnScope K04.n__law_in p__law_in (defScope s__law_in) := ⟨rfl, rfl, rfl, by decide +kernel, rfl, by decide +kernel, by decide +kernel⟩
abbrev s__law_meets : Stmt := topS 46
abbrev p__law_meets : List Str := ["condition", "letter"]
theorem sc__law_meets : FnScope K04.n__law_meets p__law_meets (defScope s__law_meets) := ⟨rfl, rfl, rfl, by decide +kernel, rfl, by decide +kernel, by decide +kernel⟩
abbrev s__law_is_end : Stmt := topS 47
abbrev p__law_is_end : List Str := ["told"]
abbrev s__law_is_integers : Stmt := topS 48
abbrev p__law_is_integers : List Str := ["told"]
abbrev s__law_is_rows : Stmt := topS 49
abbrev p__law_is_rows : List Str := ["kind", "told"]
abbrev s__law_is_shape : Stmt := topS 50
abbrev p__law_is_shape : List Str := ["kind", "told"]
abbrev s__law_fits : Stmt := topS 51
abbrev p__law_fits : List Str := ["kind", "told"]
theorem sc__law_fits : FnScope K41.n__law_fits p__law_fits (defScope s__law_fits) := ⟨rfl, rfl, rfl, by decide +kernel, rfl, by decide +kernel, by decide +kernel⟩
abbrev s__law_is_states : Stmt := topS 52
abbrev p__law_is_states : List Str := ["many", "told"]
theorem sc__law_is_states : FnScope K41.n__law_is_states p__law_is_states (defScope s__law_is_states) := ⟨rfl, rfl, rfl, by decide +kernel, rfl, by decide +kernel, by decide +kernel⟩
abbrev s__law_is_machine : Stmt := topS 53
abbrev p__law_is_machine : List Str := ["kind", "told"]
theorem sc__law_is_machine : FnScope K41.n__law_is_machine p__law_is_machine (defScope s__law_is_machine) := ⟨rfl, rfl, rfl, by decide +kernel, rfl, by decide +kernel, by decide +kernel⟩
abbrev s__law_part : Stmt := topS 54
abbrev p__law_part : List Str := ["tape", "many"]
theorem sc__law_part : FnScope K22.n__law_part p__law_part (defScope s__law_part) := ⟨rfl, rfl, rfl, by decide +kernel, rfl, by decide +kernel, by decide +kernel⟩
abbrev s__law_machine : Stmt := topS 55
abbrev p__law_machine : List Str := ["tape", "kind", "theory", "states", "steps", "room"]
theorem sc__law_machine : FnScope K22.n__law_machine p__law_machine (defScope s__law_machine) := ⟨rfl, rfl, rfl, by decide +kernel, rfl, by decide +kernel, by decide +kernel⟩
abbrev s__law_has_end : Stmt := topS 56
abbrev p__law_has_end : List Str := ["machine", "states"]
theorem sc__law_has_end : FnScope K22.n__law_has_end p__law_has_end (defScope s__law_has_end) := ⟨rfl, rfl, rfl, by decide +kernel, rfl, by decide +kernel, by decide +kernel⟩
abbrev s__law_after : Stmt := topS 57
abbrev p__law_after : List Str := ["machine", "states", "truths"]
theorem sc__law_after : FnScope K41.n__law_after p__law_after (defScope s__law_after) := ⟨rfl, rfl, rfl, by decide +kernel, rfl, by decide +kernel, by decide +kernel⟩
abbrev s__law_call : Stmt := topS 58
abbrev p__law_call : List Str := ["door", "first", "second"]
theorem sc__law_call : FnScope K41.n__law_call p__law_call (defScope s__law_call) := ⟨rfl, rfl, rfl, by decide +kernel, rfl, by decide +kernel, by decide +kernel⟩
abbrev s_law : Stmt := topS 59
abbrev p_law : List Str := ["script"]
theorem sc_law : FnScope K41.n_law p_law (defScope s_law) := ⟨rfl, rfl, rfl, by decide +kernel, rfl, by decide +kernel, by decide +kernel⟩
structure Tx (K : PySem.W.Frag) (mg : Str → Option Value) where
  (f_has_end : Addr) (d_has_end : FuncData) (F_has_end : Fun K "has_end" "has_end" s_has_end f_has_end d_has_end) (b_has_end : Binds K d_has_end p_has_end []) (m_has_end : mg "has_end" = some (.ref f_has_end))
  (f_check_kinds : Addr) (d_check_kinds : FuncData) (F_check_kinds : Fun K "check_kinds" "check_kinds" s_check_kinds f_check_kinds d_check_kinds) (b_check_kinds : Binds K d_check_kinds p_check_kinds []) (m_check_kinds : mg "check_kinds" = some (.ref f_check_kinds))
  (f_shifted : Addr) (d_shifted : FuncData) (F_shifted : Fun K "shifted" "shifted" s_shifted f_shifted d_shifted) (b_shifted : Binds K d_shifted p_shifted []) (m_shifted : mg "shifted" = some (.ref f_shifted))
  (f_shifted_steps : Addr) (d_shifted_steps : FuncData) (F_shifted_steps : Fun K "shifted_steps" "shifted_steps" s_shifted_steps f_shifted_steps d_shifted_steps) (b_shifted_steps : Binds K d_shifted_steps p_shifted_steps []) (m_shifted_steps : mg "shifted_steps" = some (.ref f_shifted_steps))
  (f_into_ends : Addr) (d_into_ends : FuncData) (F_into_ends : Fun K "into_ends" "into_ends" s_into_ends f_into_ends d_into_ends) (b_into_ends : Binds K d_into_ends p_into_ends []) (m_into_ends : mg "into_ends" = some (.ref f_into_ends))
  (f_followed : Addr) (d_followed : FuncData) (F_followed : Fun K "followed" "followed" s_followed f_followed d_followed) (b_followed : Binds K d_followed p_followed []) (m_followed : mg "followed" = some (.ref f_followed))
  (f_repeated : Addr) (d_repeated : FuncData) (F_repeated : Fun K "repeated" "repeated" s_repeated f_repeated d_repeated) (b_repeated : Binds K d_repeated p_repeated []) (m_repeated : mg "repeated" = some (.ref f_repeated))
  (f_backwards : Addr) (d_backwards : FuncData) (F_backwards : Fun K "backwards" "backwards" s_backwards f_backwards d_backwards) (b_backwards : Binds K d_backwards p_backwards []) (m_backwards : mg "backwards" = some (.ref f_backwards))
  (f__law_theme : Addr) (d__law_theme : FuncData) (F__law_theme : Fun K "_law_theme" "_law_theme" s__law_theme f__law_theme d__law_theme) (b__law_theme : Binds K d__law_theme p__law_theme []) (m__law_theme : mg "_law_theme" = some (.ref f__law_theme))
  (f__law_where : Addr) (d__law_where : FuncData) (F__law_where : Fun K "_law_where" "_law_where" s__law_where f__law_where d__law_where) (b__law_where : Binds K d__law_where p__law_where []) (m__law_where : mg "_law_where" = some (.ref f__law_where))
  (f__law_conditions_of : Addr) (d__law_conditions_of : FuncData) (F__law_conditions_of : Fun K "_law_conditions_of" "_law_conditions_of" s__law_conditions_of f__law_conditions_of d__law_conditions_of) (b__law_conditions_of : Binds K d__law_conditions_of p__law_conditions_of []) (m__law_conditions_of : mg "_law_conditions_of" = some (.ref f__law_conditions_of))
  (f__law_signs : Addr) (d__law_signs : FuncData) (F__law_signs : Fun K "_law_signs" "_law_signs" s__law_signs f__law_signs d__law_signs) (b__law_signs : Binds K d__law_signs p__law_signs []) (m__law_signs : mg "_law_signs" = some (.ref f__law_signs))
  (f__law_truths : Addr) (d__law_truths : FuncData) (F__law_truths : Fun K "_law_truths" "_law_truths" s__law_truths f__law_truths d__law_truths) (b__law_truths : Binds K d__law_truths p__law_truths []) (m__law_truths : mg "_law_truths" = some (.ref f__law_truths))
  (f__law_opened : Addr) (d__law_opened : FuncData) (F__law_opened : Fun K "_law_opened" "_law_opened" s__law_opened f__law_opened d__law_opened) (b__law_opened : Binds K d__law_opened p__law_opened []) (m__law_opened : mg "_law_opened" = some (.ref f__law_opened))
  (f__law_moved : Addr) (d__law_moved : FuncData) (F__law_moved : Fun K "_law_moved" "_law_moved" s__law_moved f__law_moved d__law_moved) (b__law_moved : Binds K d__law_moved p__law_moved []) (m__law_moved : mg "_law_moved" = some (.ref f__law_moved))
  (f__law_joined_end : Addr) (d__law_joined_end : FuncData) (F__law_joined_end : Fun K "_law_joined_end" "_law_joined_end" s__law_joined_end f__law_joined_end d__law_joined_end) (b__law_joined_end : Binds K d__law_joined_end p__law_joined_end []) (m__law_joined_end : mg "_law_joined_end" = some (.ref f__law_joined_end))
  (f__law_deed_chart : Addr) (d__law_deed_chart : FuncData) (F__law_deed_chart : Fun K "_law_deed_chart" "_law_deed_chart" s__law_deed_chart f__law_deed_chart d__law_deed_chart) (b__law_deed_chart : Binds K d__law_deed_chart p__law_deed_chart []) (m__law_deed_chart : mg "_law_deed_chart" = some (.ref f__law_deed_chart))
  (f__law_speaks : Addr) (d__law_speaks : FuncData) (F__law_speaks : Fun K "_law_speaks" "_law_speaks" s__law_speaks f__law_speaks d__law_speaks) (b__law_speaks : Binds K d__law_speaks p__law_speaks []) (m__law_speaks : mg "_law_speaks" = some (.ref f__law_speaks))
  (f__law_changed : Addr) (d__law_changed : FuncData) (F__law_changed : Fun K "_law_changed" "_law_changed" s__law_changed f__law_changed d__law_changed) (b__law_changed : Binds K d__law_changed p__law_changed []) (m__law_changed : mg "_law_changed" = some (.ref f__law_changed))
  (f__law_plain_machine : Addr) (d__law_plain_machine : FuncData) (F__law_plain_machine : Fun K "_law_plain_machine" "_law_plain_machine" s__law_plain_machine f__law_plain_machine d__law_plain_machine) (b__law_plain_machine : Binds K d__law_plain_machine p__law_plain_machine []) (m__law_plain_machine : mg "_law_plain_machine" = some (.ref f__law_plain_machine))
  (f__law_tape : Addr) (d__law_tape : FuncData) (F__law_tape : Fun K "_law_tape" "_law_tape" s__law_tape f__law_tape d__law_tape) (b__law_tape : Binds K d__law_tape p__law_tape []) (m__law_tape : mg "_law_tape" = some (.ref f__law_tape))
  (f__law_draw : Addr) (d__law_draw : FuncData) (F__law_draw : Fun K "_law_draw" "_law_draw" s__law_draw f__law_draw d__law_draw) (b__law_draw : Binds K d__law_draw p__law_draw []) (m__law_draw : mg "_law_draw" = some (.ref f__law_draw))
  (f__law_whole : Addr) (d__law_whole : FuncData) (F__law_whole : Fun K "_law_whole" "_law_whole" s__law_whole f__law_whole d__law_whole) (b__law_whole : Binds K d__law_whole p__law_whole []) (m__law_whole : mg "_law_whole" = some (.ref f__law_whole))
  (f__law_names : Addr) (d__law_names : FuncData) (F__law_names : Fun K "_law_names" "_law_names" s__law_names f__law_names d__law_names) (b__law_names : Binds K d__law_names p__law_names []) (m__law_names : mg "_law_names" = some (.ref f__law_names))
  (f__law_kinds : Addr) (d__law_kinds : FuncData) (F__law_kinds : Fun K "_law_kinds" "_law_kinds" s__law_kinds f__law_kinds d__law_kinds) (b__law_kinds : Binds K d__law_kinds p__law_kinds []) (m__law_kinds : mg "_law_kinds" = some (.ref f__law_kinds))
  (f__law_kind : Addr) (d__law_kind : FuncData) (F__law_kind : Fun K "_law_kind" "_law_kind" s__law_kind f__law_kind d__law_kind) (b__law_kind : Binds K d__law_kind p__law_kind []) (m__law_kind : mg "_law_kind" = some (.ref f__law_kind))
  (f__law_any_kind : Addr) (d__law_any_kind : FuncData) (F__law_any_kind : Fun K "_law_any_kind" "_law_any_kind" s__law_any_kind f__law_any_kind d__law_any_kind) (b__law_any_kind : Binds K d__law_any_kind p__law_any_kind []) (m__law_any_kind : mg "_law_any_kind" = some (.ref f__law_any_kind))
  (f__law_many : Addr) (d__law_many : FuncData) (F__law_many : Fun K "_law_many" "_law_many" s__law_many f__law_many d__law_many) (b__law_many : Binds K d__law_many p__law_many []) (m__law_many : mg "_law_many" = some (.ref f__law_many))
  (f__law_theory : Addr) (d__law_theory : FuncData) (F__law_theory : Fun K "_law_theory" "_law_theory" s__law_theory f__law_theory d__law_theory) (b__law_theory : Binds K d__law_theory p__law_theory []) (m__law_theory : mg "_law_theory" = some (.ref f__law_theory))
  (f__law_marked : Addr) (d__law_marked : FuncData) (F__law_marked : Fun K "_law_marked" "_law_marked" s__law_marked f__law_marked d__law_marked) (b__law_marked : Binds K d__law_marked p__law_marked []) (m__law_marked : mg "_law_marked" = some (.ref f__law_marked))
  (f__law_letters : Addr) (d__law_letters : FuncData) (F__law_letters : Fun K "_law_letters" "_law_letters" s__law_letters f__law_letters d__law_letters) (b__law_letters : Binds K d__law_letters p__law_letters []) (m__law_letters : mg "_law_letters" = some (.ref f__law_letters))
  (f__law_integer : Addr) (d__law_integer : FuncData) (F__law_integer : Fun K "_law_integer" "_law_integer" s__law_integer f__law_integer d__law_integer) (b__law_integer : Binds K d__law_integer p__law_integer []) (m__law_integer : mg "_law_integer" = some (.ref f__law_integer))
  (f__law_letter : Addr) (d__law_letter : FuncData) (F__law_letter : Fun K "_law_letter" "_law_letter" s__law_letter f__law_letter d__law_letter) (b__law_letter : Binds K d__law_letter p__law_letter []) (m__law_letter : mg "_law_letter" = some (.ref f__law_letter))
  (f__law_conditions : Addr) (d__law_conditions : FuncData) (F__law_conditions : Fun K "_law_conditions" "_law_conditions" s__law_conditions f__law_conditions d__law_conditions) (b__law_conditions : Binds K d__law_conditions p__law_conditions []) (m__law_conditions : mg "_law_conditions" = some (.ref f__law_conditions))
  (f__law_comparison : Addr) (d__law_comparison : FuncData) (F__law_comparison : Fun K "_law_comparison" "_law_comparison" s__law_comparison f__law_comparison d__law_comparison) (b__law_comparison : Binds K d__law_comparison p__law_comparison []) (m__law_comparison : mg "_law_comparison" = some (.ref f__law_comparison))
  (f__law_modulus : Addr) (d__law_modulus : FuncData) (F__law_modulus : Fun K "_law_modulus" "_law_modulus" s__law_modulus f__law_modulus d__law_modulus) (b__law_modulus : Binds K d__law_modulus p__law_modulus []) (m__law_modulus : mg "_law_modulus" = some (.ref f__law_modulus))
  (f__law_leaf : Addr) (d__law_leaf : FuncData) (F__law_leaf : Fun K "_law_leaf" "_law_leaf" s__law_leaf f__law_leaf d__law_leaf) (b__law_leaf : Binds K d__law_leaf p__law_leaf []) (m__law_leaf : mg "_law_leaf" = some (.ref f__law_leaf))
  (f__law_condition : Addr) (d__law_condition : FuncData) (F__law_condition : Fun K "_law_condition" "_law_condition" s__law_condition f__law_condition d__law_condition) (b__law_condition : Binds K d__law_condition p__law_condition []) (m__law_condition : mg "_law_condition" = some (.ref f__law_condition))
  (f__law_in : Addr) (d__law_in : FuncData) (F__law_in : Fun K "_law_in" "_law_in" s__law_in f__law_in d__law_in) (b__law_in : Binds K d__law_in p__law_in []) (m__law_in : mg "_law_in" = some (.ref f__law_in))
  (f__law_meets : Addr) (d__law_meets : FuncData) (F__law_meets : Fun K "_law_meets" "_law_meets" s__law_meets f__law_meets d__law_meets) (b__law_meets : Binds K d__law_meets p__law_meets []) (m__law_meets : mg "_law_meets" = some (.ref f__law_meets))
  (f__law_is_end : Addr) (d__law_is_end : FuncData) (F__law_is_end : Fun K "_law_is_end" "_law_is_end" s__law_is_end f__law_is_end d__law_is_end) (b__law_is_end : Binds K d__law_is_end p__law_is_end []) (m__law_is_end : mg "_law_is_end" = some (.ref f__law_is_end))
  (f__law_is_integers : Addr) (d__law_is_integers : FuncData) (F__law_is_integers : Fun K "_law_is_integers" "_law_is_integers" s__law_is_integers f__law_is_integers d__law_is_integers) (b__law_is_integers : Binds K d__law_is_integers p__law_is_integers []) (m__law_is_integers : mg "_law_is_integers" = some (.ref f__law_is_integers))
  (f__law_is_rows : Addr) (d__law_is_rows : FuncData) (F__law_is_rows : Fun K "_law_is_rows" "_law_is_rows" s__law_is_rows f__law_is_rows d__law_is_rows) (b__law_is_rows : Binds K d__law_is_rows p__law_is_rows []) (m__law_is_rows : mg "_law_is_rows" = some (.ref f__law_is_rows))
  (f__law_is_shape : Addr) (d__law_is_shape : FuncData) (F__law_is_shape : Fun K "_law_is_shape" "_law_is_shape" s__law_is_shape f__law_is_shape d__law_is_shape) (b__law_is_shape : Binds K d__law_is_shape p__law_is_shape []) (m__law_is_shape : mg "_law_is_shape" = some (.ref f__law_is_shape))
  (f__law_fits : Addr) (d__law_fits : FuncData) (F__law_fits : Fun K "_law_fits" "_law_fits" s__law_fits f__law_fits d__law_fits) (b__law_fits : Binds K d__law_fits p__law_fits []) (m__law_fits : mg "_law_fits" = some (.ref f__law_fits))
  (f__law_is_states : Addr) (d__law_is_states : FuncData) (F__law_is_states : Fun K "_law_is_states" "_law_is_states" s__law_is_states f__law_is_states d__law_is_states) (b__law_is_states : Binds K d__law_is_states p__law_is_states []) (m__law_is_states : mg "_law_is_states" = some (.ref f__law_is_states))
  (f__law_is_machine : Addr) (d__law_is_machine : FuncData) (F__law_is_machine : Fun K "_law_is_machine" "_law_is_machine" s__law_is_machine f__law_is_machine d__law_is_machine) (b__law_is_machine : Binds K d__law_is_machine p__law_is_machine []) (m__law_is_machine : mg "_law_is_machine" = some (.ref f__law_is_machine))
  (f__law_part : Addr) (d__law_part : FuncData) (F__law_part : Fun K "_law_part" "_law_part" s__law_part f__law_part d__law_part) (b__law_part : Binds K d__law_part p__law_part []) (m__law_part : mg "_law_part" = some (.ref f__law_part))
  (f__law_machine : Addr) (d__law_machine : FuncData) (F__law_machine : Fun K "_law_machine" "_law_machine" s__law_machine f__law_machine d__law_machine) (b__law_machine : Binds K d__law_machine p__law_machine []) (m__law_machine : mg "_law_machine" = some (.ref f__law_machine))
  (f__law_has_end : Addr) (d__law_has_end : FuncData) (F__law_has_end : Fun K "_law_has_end" "_law_has_end" s__law_has_end f__law_has_end d__law_has_end) (b__law_has_end : Binds K d__law_has_end p__law_has_end []) (m__law_has_end : mg "_law_has_end" = some (.ref f__law_has_end))
  (f__law_after : Addr) (d__law_after : FuncData) (F__law_after : Fun K "_law_after" "_law_after" s__law_after f__law_after d__law_after) (b__law_after : Binds K d__law_after p__law_after []) (m__law_after : mg "_law_after" = some (.ref f__law_after))
  (f__law_call : Addr) (d__law_call : FuncData) (F__law_call : Fun K "_law_call" "_law_call" s__law_call f__law_call d__law_call) (b__law_call : Binds K d__law_call p__law_call []) (m__law_call : mg "_law_call" = some (.ref f__law_call))
  (f_law : Addr) (d_law : FuncData) (F_law : Fun K "law" "law" s_law f_law d_law) (b_law : Binds K d_law p_law []) (m_law : mg "law" = some (.ref f_law))
  (z_abs : mg "abs" = none)
  (z_any : mg "any" = none)
  (z_bool : mg "bool" = none)
  (z_int : mg "int" = none)
  (z_isinstance : mg "isinstance" = none)
  (z_len : mg "len" = none)
  (z_list : mg "list" = none)
  (z_max : mg "max" = none)
  (z_min : mg "min" = none)
  (z_range : mg "range" = none)
  (z_str : mg "str" = none)
  (z_sum : mg "sum" = none)
  (z_tuple : mg "tuple" = none)
  (c_OtherKinds : Addr)
  (m_OtherKinds : mg "OtherKinds" = some (.ref c_OtherKinds))
  (x_OtherKinds : PySem.W.excIn K c_OtherKinds [.type "ValueError", .type "Exception", .type "BaseException", .type "object"] "ValueError.__new__" = true)
  (k_OtherKinds : PySem.W.keepIn K (.ref c_OtherKinds) = true)
  (b_OtherKinds : PySem.W.subIn K (.ref c_OtherKinds) (.type "BaseException") = some true)
  (t_OtherKinds : PySem.W.typeIn K (.ref c_OtherKinds) = some (.type "type"))
theorem tx_mk {K : PySem.W.Frag} {h : Heap} {mg : Str → Option Value} (X : K.In h) (G : h.Ns mainGlobals mg)
    {f0 : Addr} {od0 an0 : Option Addr} {sl0 : Array (Option Value)} {oc0 kV0 dc0 pm0 cd0 ct0 : Value}
    {f1 : Addr} {od1 an1 : Option Addr} {sl1 : Array (Option Value)} {oc1 kV1 dc1 pm1 cd1 ct1 : Value}
    {f2 : Addr} {od2 an2 : Option Addr} {sl2 : Array (Option Value)} {oc2 kV2 dc2 pm2 cd2 ct2 : Value}
    {f3 : Addr} {od3 an3 : Option Addr} {sl3 : Array (Option Value)} {oc3 kV3 dc3 pm3 cd3 ct3 : Value}
    {f4 : Addr} {od4 an4 : Option Addr} {sl4 : Array (Option Value)} {oc4 kV4 dc4 pm4 cd4 ct4 : Value}
    {f5 : Addr} {od5 an5 : Option Addr} {sl5 : Array (Option Value)} {oc5 kV5 dc5 pm5 cd5 ct5 : Value}
    {f6 : Addr} {od6 an6 : Option Addr} {sl6 : Array (Option Value)} {oc6 kV6 dc6 pm6 cd6 ct6 : Value}
    {f7 : Addr} {od7 an7 : Option Addr} {sl7 : Array (Option Value)} {oc7 kV7 dc7 pm7 cd7 ct7 : Value}
    {f8 : Addr} {od8 an8 : Option Addr} {sl8 : Array (Option Value)} {oc8 kV8 dc8 pm8 cd8 ct8 : Value}
    {f9 : Addr} {od9 an9 : Option Addr} {sl9 : Array (Option Value)} {oc9 kV9 dc9 pm9 cd9 ct9 : Value}
    {f10 : Addr} {od10 an10 : Option Addr} {sl10 : Array (Option Value)} {oc10 kV10 dc10 pm10 cd10 ct10 : Value}
    {f11 : Addr} {od11 an11 : Option Addr} {sl11 : Array (Option Value)} {oc11 kV11 dc11 pm11 cd11 ct11 : Value}
    {f12 : Addr} {od12 an12 : Option Addr} {sl12 : Array (Option Value)} {oc12 kV12 dc12 pm12 cd12 ct12 : Value}
    {f13 : Addr} {od13 an13 : Option Addr} {sl13 : Array (Option Value)} {oc13 kV13 dc13 pm13 cd13 ct13 : Value}
    {f14 : Addr} {od14 an14 : Option Addr} {sl14 : Array (Option Value)} {oc14 kV14 dc14 pm14 cd14 ct14 : Value}
    {f15 : Addr} {od15 an15 : Option Addr} {sl15 : Array (Option Value)} {oc15 kV15 dc15 pm15 cd15 ct15 : Value}
    {f16 : Addr} {od16 an16 : Option Addr} {sl16 : Array (Option Value)} {oc16 kV16 dc16 pm16 cd16 ct16 : Value}
    {f17 : Addr} {od17 an17 : Option Addr} {sl17 : Array (Option Value)} {oc17 kV17 dc17 pm17 cd17 ct17 : Value}
    {f18 : Addr} {od18 an18 : Option Addr} {sl18 : Array (Option Value)} {oc18 kV18 dc18 pm18 cd18 ct18 : Value}
    {f19 : Addr} {od19 an19 : Option Addr} {sl19 : Array (Option Value)} {oc19 kV19 dc19 pm19 cd19 ct19 : Value}
    {f20 : Addr} {od20 an20 : Option Addr} {sl20 : Array (Option Value)} {oc20 kV20 dc20 pm20 cd20 ct20 : Value}
    {f21 : Addr} {od21 an21 : Option Addr} {sl21 : Array (Option Value)} {oc21 kV21 dc21 pm21 cd21 ct21 : Value}
    {f22 : Addr} {od22 an22 : Option Addr} {sl22 : Array (Option Value)} {oc22 kV22 dc22 pm22 cd22 ct22 : Value}
    {f23 : Addr} {od23 an23 : Option Addr} {sl23 : Array (Option Value)} {oc23 kV23 dc23 pm23 cd23 ct23 : Value}
    {f24 : Addr} {od24 an24 : Option Addr} {sl24 : Array (Option Value)} {oc24 kV24 dc24 pm24 cd24 ct24 : Value}
    {f25 : Addr} {od25 an25 : Option Addr} {sl25 : Array (Option Value)} {oc25 kV25 dc25 pm25 cd25 ct25 : Value}
    {f26 : Addr} {od26 an26 : Option Addr} {sl26 : Array (Option Value)} {oc26 kV26 dc26 pm26 cd26 ct26 : Value}
    {f27 : Addr} {od27 an27 : Option Addr} {sl27 : Array (Option Value)} {oc27 kV27 dc27 pm27 cd27 ct27 : Value}
    {f28 : Addr} {od28 an28 : Option Addr} {sl28 : Array (Option Value)} {oc28 kV28 dc28 pm28 cd28 ct28 : Value}
    {f29 : Addr} {od29 an29 : Option Addr} {sl29 : Array (Option Value)} {oc29 kV29 dc29 pm29 cd29 ct29 : Value}
    {f30 : Addr} {od30 an30 : Option Addr} {sl30 : Array (Option Value)} {oc30 kV30 dc30 pm30 cd30 ct30 : Value}
    {f31 : Addr} {od31 an31 : Option Addr} {sl31 : Array (Option Value)} {oc31 kV31 dc31 pm31 cd31 ct31 : Value}
    {f32 : Addr} {od32 an32 : Option Addr} {sl32 : Array (Option Value)} {oc32 kV32 dc32 pm32 cd32 ct32 : Value}
    {f33 : Addr} {od33 an33 : Option Addr} {sl33 : Array (Option Value)} {oc33 kV33 dc33 pm33 cd33 ct33 : Value}
    {f34 : Addr} {od34 an34 : Option Addr} {sl34 : Array (Option Value)} {oc34 kV34 dc34 pm34 cd34 ct34 : Value}
    {f35 : Addr} {od35 an35 : Option Addr} {sl35 : Array (Option Value)} {oc35 kV35 dc35 pm35 cd35 ct35 : Value}
    {f36 : Addr} {od36 an36 : Option Addr} {sl36 : Array (Option Value)} {oc36 kV36 dc36 pm36 cd36 ct36 : Value}
    {f37 : Addr} {od37 an37 : Option Addr} {sl37 : Array (Option Value)} {oc37 kV37 dc37 pm37 cd37 ct37 : Value}
    {f38 : Addr} {od38 an38 : Option Addr} {sl38 : Array (Option Value)} {oc38 kV38 dc38 pm38 cd38 ct38 : Value}
    {f39 : Addr} {od39 an39 : Option Addr} {sl39 : Array (Option Value)} {oc39 kV39 dc39 pm39 cd39 ct39 : Value}
    {f40 : Addr} {od40 an40 : Option Addr} {sl40 : Array (Option Value)} {oc40 kV40 dc40 pm40 cd40 ct40 : Value}
    {f41 : Addr} {od41 an41 : Option Addr} {sl41 : Array (Option Value)} {oc41 kV41 dc41 pm41 cd41 ct41 : Value}
    {f42 : Addr} {od42 an42 : Option Addr} {sl42 : Array (Option Value)} {oc42 kV42 dc42 pm42 cd42 ct42 : Value}
    {f43 : Addr} {od43 an43 : Option Addr} {sl43 : Array (Option Value)} {oc43 kV43 dc43 pm43 cd43 ct43 : Value}
    {f44 : Addr} {od44 an44 : Option Addr} {sl44 : Array (Option Value)} {oc44 kV44 dc44 pm44 cd44 ct44 : Value}
    {f45 : Addr} {od45 an45 : Option Addr} {sl45 : Array (Option Value)} {oc45 kV45 dc45 pm45 cd45 ct45 : Value}
    {f46 : Addr} {od46 an46 : Option Addr} {sl46 : Array (Option Value)} {oc46 kV46 dc46 pm46 cd46 ct46 : Value}
    {f47 : Addr} {od47 an47 : Option Addr} {sl47 : Array (Option Value)} {oc47 kV47 dc47 pm47 cd47 ct47 : Value}
    {f48 : Addr} {od48 an48 : Option Addr} {sl48 : Array (Option Value)} {oc48 kV48 dc48 pm48 cd48 ct48 : Value}
    {f49 : Addr} {od49 an49 : Option Addr} {sl49 : Array (Option Value)} {oc49 kV49 dc49 pm49 cd49 ct49 : Value}
    {f50 : Addr} {od50 an50 : Option Addr} {sl50 : Array (Option Value)} {oc50 kV50 dc50 pm50 cd50 ct50 : Value}
    {f51 : Addr} {od51 an51 : Option Addr} {sl51 : Array (Option Value)} {oc51 kV51 dc51 pm51 cd51 ct51 : Value}
    {f52 : Addr} {od52 an52 : Option Addr} {sl52 : Array (Option Value)} {oc52 kV52 dc52 pm52 cd52 ct52 : Value}
    (a0 : PySem.W.nsIn K mainGlobals "has_end" = some (some (.ref f0)))
    (l0 : K.lookup f0 = some ⟨oc0, od0, .func (PySem.W.fnOf "has_end" "has_end" (defArgs s_has_end) (defBody s_has_end) (defScope s_has_end) .none kV0 dc0 pm0 an0 cd0 ct0), sl0⟩)
    (c0 : PySem.W.codeIn K cd0 "has_end" = true) (k0 : PySem.W.keepIn K (.ref f0) = true)
    (a1 : PySem.W.nsIn K mainGlobals "check_kinds" = some (some (.ref f1)))
    (l1 : K.lookup f1 = some ⟨oc1, od1, .func (PySem.W.fnOf "check_kinds" "check_kinds" (defArgs s_check_kinds) (defBody s_check_kinds) (defScope s_check_kinds) .none kV1 dc1 pm1 an1 cd1 ct1), sl1⟩)
    (c1 : PySem.W.codeIn K cd1 "check_kinds" = true) (k1 : PySem.W.keepIn K (.ref f1) = true)
    (a2 : PySem.W.nsIn K mainGlobals "shifted" = some (some (.ref f2)))
    (l2 : K.lookup f2 = some ⟨oc2, od2, .func (PySem.W.fnOf "shifted" "shifted" (defArgs s_shifted) (defBody s_shifted) (defScope s_shifted) .none kV2 dc2 pm2 an2 cd2 ct2), sl2⟩)
    (c2 : PySem.W.codeIn K cd2 "shifted" = true) (k2 : PySem.W.keepIn K (.ref f2) = true)
    (a3 : PySem.W.nsIn K mainGlobals "shifted_steps" = some (some (.ref f3)))
    (l3 : K.lookup f3 = some ⟨oc3, od3, .func (PySem.W.fnOf "shifted_steps" "shifted_steps" (defArgs s_shifted_steps) (defBody s_shifted_steps) (defScope s_shifted_steps) .none kV3 dc3 pm3 an3 cd3 ct3), sl3⟩)
    (c3 : PySem.W.codeIn K cd3 "shifted_steps" = true) (k3 : PySem.W.keepIn K (.ref f3) = true)
    (a4 : PySem.W.nsIn K mainGlobals "into_ends" = some (some (.ref f4)))
    (l4 : K.lookup f4 = some ⟨oc4, od4, .func (PySem.W.fnOf "into_ends" "into_ends" (defArgs s_into_ends) (defBody s_into_ends) (defScope s_into_ends) .none kV4 dc4 pm4 an4 cd4 ct4), sl4⟩)
    (c4 : PySem.W.codeIn K cd4 "into_ends" = true) (k4 : PySem.W.keepIn K (.ref f4) = true)
    (a5 : PySem.W.nsIn K mainGlobals "followed" = some (some (.ref f5)))
    (l5 : K.lookup f5 = some ⟨oc5, od5, .func (PySem.W.fnOf "followed" "followed" (defArgs s_followed) (defBody s_followed) (defScope s_followed) .none kV5 dc5 pm5 an5 cd5 ct5), sl5⟩)
    (c5 : PySem.W.codeIn K cd5 "followed" = true) (k5 : PySem.W.keepIn K (.ref f5) = true)
    (a6 : PySem.W.nsIn K mainGlobals "repeated" = some (some (.ref f6)))
    (l6 : K.lookup f6 = some ⟨oc6, od6, .func (PySem.W.fnOf "repeated" "repeated" (defArgs s_repeated) (defBody s_repeated) (defScope s_repeated) .none kV6 dc6 pm6 an6 cd6 ct6), sl6⟩)
    (c6 : PySem.W.codeIn K cd6 "repeated" = true) (k6 : PySem.W.keepIn K (.ref f6) = true)
    (a7 : PySem.W.nsIn K mainGlobals "backwards" = some (some (.ref f7)))
    (l7 : K.lookup f7 = some ⟨oc7, od7, .func (PySem.W.fnOf "backwards" "backwards" (defArgs s_backwards) (defBody s_backwards) (defScope s_backwards) .none kV7 dc7 pm7 an7 cd7 ct7), sl7⟩)
    (c7 : PySem.W.codeIn K cd7 "backwards" = true) (k7 : PySem.W.keepIn K (.ref f7) = true)
    (a8 : PySem.W.nsIn K mainGlobals "_law_theme" = some (some (.ref f8)))
    (l8 : K.lookup f8 = some ⟨oc8, od8, .func (PySem.W.fnOf "_law_theme" "_law_theme" (defArgs s__law_theme) (defBody s__law_theme) (defScope s__law_theme) .none kV8 dc8 pm8 an8 cd8 ct8), sl8⟩)
    (c8 : PySem.W.codeIn K cd8 "_law_theme" = true) (k8 : PySem.W.keepIn K (.ref f8) = true)
    (a9 : PySem.W.nsIn K mainGlobals "_law_where" = some (some (.ref f9)))
    (l9 : K.lookup f9 = some ⟨oc9, od9, .func (PySem.W.fnOf "_law_where" "_law_where" (defArgs s__law_where) (defBody s__law_where) (defScope s__law_where) .none kV9 dc9 pm9 an9 cd9 ct9), sl9⟩)
    (c9 : PySem.W.codeIn K cd9 "_law_where" = true) (k9 : PySem.W.keepIn K (.ref f9) = true)
    (a10 : PySem.W.nsIn K mainGlobals "_law_conditions_of" = some (some (.ref f10)))
    (l10 : K.lookup f10 = some ⟨oc10, od10, .func (PySem.W.fnOf "_law_conditions_of" "_law_conditions_of" (defArgs s__law_conditions_of) (defBody s__law_conditions_of) (defScope s__law_conditions_of) .none kV10 dc10 pm10 an10 cd10 ct10), sl10⟩)
    (c10 : PySem.W.codeIn K cd10 "_law_conditions_of" = true) (k10 : PySem.W.keepIn K (.ref f10) = true)
    (a11 : PySem.W.nsIn K mainGlobals "_law_signs" = some (some (.ref f11)))
    (l11 : K.lookup f11 = some ⟨oc11, od11, .func (PySem.W.fnOf "_law_signs" "_law_signs" (defArgs s__law_signs) (defBody s__law_signs) (defScope s__law_signs) .none kV11 dc11 pm11 an11 cd11 ct11), sl11⟩)
    (c11 : PySem.W.codeIn K cd11 "_law_signs" = true) (k11 : PySem.W.keepIn K (.ref f11) = true)
    (a12 : PySem.W.nsIn K mainGlobals "_law_truths" = some (some (.ref f12)))
    (l12 : K.lookup f12 = some ⟨oc12, od12, .func (PySem.W.fnOf "_law_truths" "_law_truths" (defArgs s__law_truths) (defBody s__law_truths) (defScope s__law_truths) .none kV12 dc12 pm12 an12 cd12 ct12), sl12⟩)
    (c12 : PySem.W.codeIn K cd12 "_law_truths" = true) (k12 : PySem.W.keepIn K (.ref f12) = true)
    (a13 : PySem.W.nsIn K mainGlobals "_law_opened" = some (some (.ref f13)))
    (l13 : K.lookup f13 = some ⟨oc13, od13, .func (PySem.W.fnOf "_law_opened" "_law_opened" (defArgs s__law_opened) (defBody s__law_opened) (defScope s__law_opened) .none kV13 dc13 pm13 an13 cd13 ct13), sl13⟩)
    (c13 : PySem.W.codeIn K cd13 "_law_opened" = true) (k13 : PySem.W.keepIn K (.ref f13) = true)
    (a14 : PySem.W.nsIn K mainGlobals "_law_moved" = some (some (.ref f14)))
    (l14 : K.lookup f14 = some ⟨oc14, od14, .func (PySem.W.fnOf "_law_moved" "_law_moved" (defArgs s__law_moved) (defBody s__law_moved) (defScope s__law_moved) .none kV14 dc14 pm14 an14 cd14 ct14), sl14⟩)
    (c14 : PySem.W.codeIn K cd14 "_law_moved" = true) (k14 : PySem.W.keepIn K (.ref f14) = true)
    (a15 : PySem.W.nsIn K mainGlobals "_law_joined_end" = some (some (.ref f15)))
    (l15 : K.lookup f15 = some ⟨oc15, od15, .func (PySem.W.fnOf "_law_joined_end" "_law_joined_end" (defArgs s__law_joined_end) (defBody s__law_joined_end) (defScope s__law_joined_end) .none kV15 dc15 pm15 an15 cd15 ct15), sl15⟩)
    (c15 : PySem.W.codeIn K cd15 "_law_joined_end" = true) (k15 : PySem.W.keepIn K (.ref f15) = true)
    (a16 : PySem.W.nsIn K mainGlobals "_law_deed_chart" = some (some (.ref f16)))
    (l16 : K.lookup f16 = some ⟨oc16, od16, .func (PySem.W.fnOf "_law_deed_chart" "_law_deed_chart" (defArgs s__law_deed_chart) (defBody s__law_deed_chart) (defScope s__law_deed_chart) .none kV16 dc16 pm16 an16 cd16 ct16), sl16⟩)
    (c16 : PySem.W.codeIn K cd16 "_law_deed_chart" = true) (k16 : PySem.W.keepIn K (.ref f16) = true)
    (a17 : PySem.W.nsIn K mainGlobals "_law_speaks" = some (some (.ref f17)))
    (l17 : K.lookup f17 = some ⟨oc17, od17, .func (PySem.W.fnOf "_law_speaks" "_law_speaks" (defArgs s__law_speaks) (defBody s__law_speaks) (defScope s__law_speaks) .none kV17 dc17 pm17 an17 cd17 ct17), sl17⟩)
    (c17 : PySem.W.codeIn K cd17 "_law_speaks" = true) (k17 : PySem.W.keepIn K (.ref f17) = true)
    (a18 : PySem.W.nsIn K mainGlobals "_law_changed" = some (some (.ref f18)))
    (l18 : K.lookup f18 = some ⟨oc18, od18, .func (PySem.W.fnOf "_law_changed" "_law_changed" (defArgs s__law_changed) (defBody s__law_changed) (defScope s__law_changed) .none kV18 dc18 pm18 an18 cd18 ct18), sl18⟩)
    (c18 : PySem.W.codeIn K cd18 "_law_changed" = true) (k18 : PySem.W.keepIn K (.ref f18) = true)
    (a19 : PySem.W.nsIn K mainGlobals "_law_plain_machine" = some (some (.ref f19)))
    (l19 : K.lookup f19 = some ⟨oc19, od19, .func (PySem.W.fnOf "_law_plain_machine" "_law_plain_machine" (defArgs s__law_plain_machine) (defBody s__law_plain_machine) (defScope s__law_plain_machine) .none kV19 dc19 pm19 an19 cd19 ct19), sl19⟩)
    (c19 : PySem.W.codeIn K cd19 "_law_plain_machine" = true) (k19 : PySem.W.keepIn K (.ref f19) = true)
    (a20 : PySem.W.nsIn K mainGlobals "_law_tape" = some (some (.ref f20)))
    (l20 : K.lookup f20 = some ⟨oc20, od20, .func (PySem.W.fnOf "_law_tape" "_law_tape" (defArgs s__law_tape) (defBody s__law_tape) (defScope s__law_tape) .none kV20 dc20 pm20 an20 cd20 ct20), sl20⟩)
    (c20 : PySem.W.codeIn K cd20 "_law_tape" = true) (k20 : PySem.W.keepIn K (.ref f20) = true)
    (a21 : PySem.W.nsIn K mainGlobals "_law_draw" = some (some (.ref f21)))
    (l21 : K.lookup f21 = some ⟨oc21, od21, .func (PySem.W.fnOf "_law_draw" "_law_draw" (defArgs s__law_draw) (defBody s__law_draw) (defScope s__law_draw) .none kV21 dc21 pm21 an21 cd21 ct21), sl21⟩)
    (c21 : PySem.W.codeIn K cd21 "_law_draw" = true) (k21 : PySem.W.keepIn K (.ref f21) = true)
    (a22 : PySem.W.nsIn K mainGlobals "_law_whole" = some (some (.ref f22)))
    (l22 : K.lookup f22 = some ⟨oc22, od22, .func (PySem.W.fnOf "_law_whole" "_law_whole" (defArgs s__law_whole) (defBody s__law_whole) (defScope s__law_whole) .none kV22 dc22 pm22 an22 cd22 ct22), sl22⟩)
    (c22 : PySem.W.codeIn K cd22 "_law_whole" = true) (k22 : PySem.W.keepIn K (.ref f22) = true)
    (a23 : PySem.W.nsIn K mainGlobals "_law_names" = some (some (.ref f23)))
    (l23 : K.lookup f23 = some ⟨oc23, od23, .func (PySem.W.fnOf "_law_names" "_law_names" (defArgs s__law_names) (defBody s__law_names) (defScope s__law_names) .none kV23 dc23 pm23 an23 cd23 ct23), sl23⟩)
    (c23 : PySem.W.codeIn K cd23 "_law_names" = true) (k23 : PySem.W.keepIn K (.ref f23) = true)
    (a24 : PySem.W.nsIn K mainGlobals "_law_kinds" = some (some (.ref f24)))
    (l24 : K.lookup f24 = some ⟨oc24, od24, .func (PySem.W.fnOf "_law_kinds" "_law_kinds" (defArgs s__law_kinds) (defBody s__law_kinds) (defScope s__law_kinds) .none kV24 dc24 pm24 an24 cd24 ct24), sl24⟩)
    (c24 : PySem.W.codeIn K cd24 "_law_kinds" = true) (k24 : PySem.W.keepIn K (.ref f24) = true)
    (a25 : PySem.W.nsIn K mainGlobals "_law_kind" = some (some (.ref f25)))
    (l25 : K.lookup f25 = some ⟨oc25, od25, .func (PySem.W.fnOf "_law_kind" "_law_kind" (defArgs s__law_kind) (defBody s__law_kind) (defScope s__law_kind) .none kV25 dc25 pm25 an25 cd25 ct25), sl25⟩)
    (c25 : PySem.W.codeIn K cd25 "_law_kind" = true) (k25 : PySem.W.keepIn K (.ref f25) = true)
    (a26 : PySem.W.nsIn K mainGlobals "_law_any_kind" = some (some (.ref f26)))
    (l26 : K.lookup f26 = some ⟨oc26, od26, .func (PySem.W.fnOf "_law_any_kind" "_law_any_kind" (defArgs s__law_any_kind) (defBody s__law_any_kind) (defScope s__law_any_kind) .none kV26 dc26 pm26 an26 cd26 ct26), sl26⟩)
    (c26 : PySem.W.codeIn K cd26 "_law_any_kind" = true) (k26 : PySem.W.keepIn K (.ref f26) = true)
    (a27 : PySem.W.nsIn K mainGlobals "_law_many" = some (some (.ref f27)))
    (l27 : K.lookup f27 = some ⟨oc27, od27, .func (PySem.W.fnOf "_law_many" "_law_many" (defArgs s__law_many) (defBody s__law_many) (defScope s__law_many) .none kV27 dc27 pm27 an27 cd27 ct27), sl27⟩)
    (c27 : PySem.W.codeIn K cd27 "_law_many" = true) (k27 : PySem.W.keepIn K (.ref f27) = true)
    (a28 : PySem.W.nsIn K mainGlobals "_law_theory" = some (some (.ref f28)))
    (l28 : K.lookup f28 = some ⟨oc28, od28, .func (PySem.W.fnOf "_law_theory" "_law_theory" (defArgs s__law_theory) (defBody s__law_theory) (defScope s__law_theory) .none kV28 dc28 pm28 an28 cd28 ct28), sl28⟩)
    (c28 : PySem.W.codeIn K cd28 "_law_theory" = true) (k28 : PySem.W.keepIn K (.ref f28) = true)
    (a29 : PySem.W.nsIn K mainGlobals "_law_marked" = some (some (.ref f29)))
    (l29 : K.lookup f29 = some ⟨oc29, od29, .func (PySem.W.fnOf "_law_marked" "_law_marked" (defArgs s__law_marked) (defBody s__law_marked) (defScope s__law_marked) .none kV29 dc29 pm29 an29 cd29 ct29), sl29⟩)
    (c29 : PySem.W.codeIn K cd29 "_law_marked" = true) (k29 : PySem.W.keepIn K (.ref f29) = true)
    (a30 : PySem.W.nsIn K mainGlobals "_law_letters" = some (some (.ref f30)))
    (l30 : K.lookup f30 = some ⟨oc30, od30, .func (PySem.W.fnOf "_law_letters" "_law_letters" (defArgs s__law_letters) (defBody s__law_letters) (defScope s__law_letters) .none kV30 dc30 pm30 an30 cd30 ct30), sl30⟩)
    (c30 : PySem.W.codeIn K cd30 "_law_letters" = true) (k30 : PySem.W.keepIn K (.ref f30) = true)
    (a31 : PySem.W.nsIn K mainGlobals "_law_integer" = some (some (.ref f31)))
    (l31 : K.lookup f31 = some ⟨oc31, od31, .func (PySem.W.fnOf "_law_integer" "_law_integer" (defArgs s__law_integer) (defBody s__law_integer) (defScope s__law_integer) .none kV31 dc31 pm31 an31 cd31 ct31), sl31⟩)
    (c31 : PySem.W.codeIn K cd31 "_law_integer" = true) (k31 : PySem.W.keepIn K (.ref f31) = true)
    (a32 : PySem.W.nsIn K mainGlobals "_law_letter" = some (some (.ref f32)))
    (l32 : K.lookup f32 = some ⟨oc32, od32, .func (PySem.W.fnOf "_law_letter" "_law_letter" (defArgs s__law_letter) (defBody s__law_letter) (defScope s__law_letter) .none kV32 dc32 pm32 an32 cd32 ct32), sl32⟩)
    (c32 : PySem.W.codeIn K cd32 "_law_letter" = true) (k32 : PySem.W.keepIn K (.ref f32) = true)
    (a33 : PySem.W.nsIn K mainGlobals "_law_conditions" = some (some (.ref f33)))
    (l33 : K.lookup f33 = some ⟨oc33, od33, .func (PySem.W.fnOf "_law_conditions" "_law_conditions" (defArgs s__law_conditions) (defBody s__law_conditions) (defScope s__law_conditions) .none kV33 dc33 pm33 an33 cd33 ct33), sl33⟩)
    (c33 : PySem.W.codeIn K cd33 "_law_conditions" = true) (k33 : PySem.W.keepIn K (.ref f33) = true)
    (a34 : PySem.W.nsIn K mainGlobals "_law_comparison" = some (some (.ref f34)))
    (l34 : K.lookup f34 = some ⟨oc34, od34, .func (PySem.W.fnOf "_law_comparison" "_law_comparison" (defArgs s__law_comparison) (defBody s__law_comparison) (defScope s__law_comparison) .none kV34 dc34 pm34 an34 cd34 ct34), sl34⟩)
    (c34 : PySem.W.codeIn K cd34 "_law_comparison" = true) (k34 : PySem.W.keepIn K (.ref f34) = true)
    (a35 : PySem.W.nsIn K mainGlobals "_law_modulus" = some (some (.ref f35)))
    (l35 : K.lookup f35 = some ⟨oc35, od35, .func (PySem.W.fnOf "_law_modulus" "_law_modulus" (defArgs s__law_modulus) (defBody s__law_modulus) (defScope s__law_modulus) .none kV35 dc35 pm35 an35 cd35 ct35), sl35⟩)
    (c35 : PySem.W.codeIn K cd35 "_law_modulus" = true) (k35 : PySem.W.keepIn K (.ref f35) = true)
    (a36 : PySem.W.nsIn K mainGlobals "_law_leaf" = some (some (.ref f36)))
    (l36 : K.lookup f36 = some ⟨oc36, od36, .func (PySem.W.fnOf "_law_leaf" "_law_leaf" (defArgs s__law_leaf) (defBody s__law_leaf) (defScope s__law_leaf) .none kV36 dc36 pm36 an36 cd36 ct36), sl36⟩)
    (c36 : PySem.W.codeIn K cd36 "_law_leaf" = true) (k36 : PySem.W.keepIn K (.ref f36) = true)
    (a37 : PySem.W.nsIn K mainGlobals "_law_condition" = some (some (.ref f37)))
    (l37 : K.lookup f37 = some ⟨oc37, od37, .func (PySem.W.fnOf "_law_condition" "_law_condition" (defArgs s__law_condition) (defBody s__law_condition) (defScope s__law_condition) .none kV37 dc37 pm37 an37 cd37 ct37), sl37⟩)
    (c37 : PySem.W.codeIn K cd37 "_law_condition" = true) (k37 : PySem.W.keepIn K (.ref f37) = true)
    (a38 : PySem.W.nsIn K mainGlobals "_law_in" = some (some (.ref f38)))
    (l38 : K.lookup f38 = some ⟨oc38, od38, .func (PySem.W.fnOf "_law_in" "_law_in" (defArgs s__law_in) (defBody s__law_in) (defScope s__law_in) .none kV38 dc38 pm38 an38 cd38 ct38), sl38⟩)
    (c38 : PySem.W.codeIn K cd38 "_law_in" = true) (k38 : PySem.W.keepIn K (.ref f38) = true)
    (a39 : PySem.W.nsIn K mainGlobals "_law_meets" = some (some (.ref f39)))
    (l39 : K.lookup f39 = some ⟨oc39, od39, .func (PySem.W.fnOf "_law_meets" "_law_meets" (defArgs s__law_meets) (defBody s__law_meets) (defScope s__law_meets) .none kV39 dc39 pm39 an39 cd39 ct39), sl39⟩)
    (c39 : PySem.W.codeIn K cd39 "_law_meets" = true) (k39 : PySem.W.keepIn K (.ref f39) = true)
    (a40 : PySem.W.nsIn K mainGlobals "_law_is_end" = some (some (.ref f40)))
    (l40 : K.lookup f40 = some ⟨oc40, od40, .func (PySem.W.fnOf "_law_is_end" "_law_is_end" (defArgs s__law_is_end) (defBody s__law_is_end) (defScope s__law_is_end) .none kV40 dc40 pm40 an40 cd40 ct40), sl40⟩)
    (c40 : PySem.W.codeIn K cd40 "_law_is_end" = true) (k40 : PySem.W.keepIn K (.ref f40) = true)
    (a41 : PySem.W.nsIn K mainGlobals "_law_is_integers" = some (some (.ref f41)))
    (l41 : K.lookup f41 = some ⟨oc41, od41, .func (PySem.W.fnOf "_law_is_integers" "_law_is_integers" (defArgs s__law_is_integers) (defBody s__law_is_integers) (defScope s__law_is_integers) .none kV41 dc41 pm41 an41 cd41 ct41), sl41⟩)
    (c41 : PySem.W.codeIn K cd41 "_law_is_integers" = true) (k41 : PySem.W.keepIn K (.ref f41) = true)
    (a42 : PySem.W.nsIn K mainGlobals "_law_is_rows" = some (some (.ref f42)))
    (l42 : K.lookup f42 = some ⟨oc42, od42, .func (PySem.W.fnOf "_law_is_rows" "_law_is_rows" (defArgs s__law_is_rows) (defBody s__law_is_rows) (defScope s__law_is_rows) .none kV42 dc42 pm42 an42 cd42 ct42), sl42⟩)
    (c42 : PySem.W.codeIn K cd42 "_law_is_rows" = true) (k42 : PySem.W.keepIn K (.ref f42) = true)
    (a43 : PySem.W.nsIn K mainGlobals "_law_is_shape" = some (some (.ref f43)))
    (l43 : K.lookup f43 = some ⟨oc43, od43, .func (PySem.W.fnOf "_law_is_shape" "_law_is_shape" (defArgs s__law_is_shape) (defBody s__law_is_shape) (defScope s__law_is_shape) .none kV43 dc43 pm43 an43 cd43 ct43), sl43⟩)
    (c43 : PySem.W.codeIn K cd43 "_law_is_shape" = true) (k43 : PySem.W.keepIn K (.ref f43) = true)
    (a44 : PySem.W.nsIn K mainGlobals "_law_fits" = some (some (.ref f44)))
    (l44 : K.lookup f44 = some ⟨oc44, od44, .func (PySem.W.fnOf "_law_fits" "_law_fits" (defArgs s__law_fits) (defBody s__law_fits) (defScope s__law_fits) .none kV44 dc44 pm44 an44 cd44 ct44), sl44⟩)
    (c44 : PySem.W.codeIn K cd44 "_law_fits" = true) (k44 : PySem.W.keepIn K (.ref f44) = true)
    (a45 : PySem.W.nsIn K mainGlobals "_law_is_states" = some (some (.ref f45)))
    (l45 : K.lookup f45 = some ⟨oc45, od45, .func (PySem.W.fnOf "_law_is_states" "_law_is_states" (defArgs s__law_is_states) (defBody s__law_is_states) (defScope s__law_is_states) .none kV45 dc45 pm45 an45 cd45 ct45), sl45⟩)
    (c45 : PySem.W.codeIn K cd45 "_law_is_states" = true) (k45 : PySem.W.keepIn K (.ref f45) = true)
    (a46 : PySem.W.nsIn K mainGlobals "_law_is_machine" = some (some (.ref f46)))
    (l46 : K.lookup f46 = some ⟨oc46, od46, .func (PySem.W.fnOf "_law_is_machine" "_law_is_machine" (defArgs s__law_is_machine) (defBody s__law_is_machine) (defScope s__law_is_machine) .none kV46 dc46 pm46 an46 cd46 ct46), sl46⟩)
    (c46 : PySem.W.codeIn K cd46 "_law_is_machine" = true) (k46 : PySem.W.keepIn K (.ref f46) = true)
    (a47 : PySem.W.nsIn K mainGlobals "_law_part" = some (some (.ref f47)))
    (l47 : K.lookup f47 = some ⟨oc47, od47, .func (PySem.W.fnOf "_law_part" "_law_part" (defArgs s__law_part) (defBody s__law_part) (defScope s__law_part) .none kV47 dc47 pm47 an47 cd47 ct47), sl47⟩)
    (c47 : PySem.W.codeIn K cd47 "_law_part" = true) (k47 : PySem.W.keepIn K (.ref f47) = true)
    (a48 : PySem.W.nsIn K mainGlobals "_law_machine" = some (some (.ref f48)))
    (l48 : K.lookup f48 = some ⟨oc48, od48, .func (PySem.W.fnOf "_law_machine" "_law_machine" (defArgs s__law_machine) (defBody s__law_machine) (defScope s__law_machine) .none kV48 dc48 pm48 an48 cd48 ct48), sl48⟩)
    (c48 : PySem.W.codeIn K cd48 "_law_machine" = true) (k48 : PySem.W.keepIn K (.ref f48) = true)
    (a49 : PySem.W.nsIn K mainGlobals "_law_has_end" = some (some (.ref f49)))
    (l49 : K.lookup f49 = some ⟨oc49, od49, .func (PySem.W.fnOf "_law_has_end" "_law_has_end" (defArgs s__law_has_end) (defBody s__law_has_end) (defScope s__law_has_end) .none kV49 dc49 pm49 an49 cd49 ct49), sl49⟩)
    (c49 : PySem.W.codeIn K cd49 "_law_has_end" = true) (k49 : PySem.W.keepIn K (.ref f49) = true)
    (a50 : PySem.W.nsIn K mainGlobals "_law_after" = some (some (.ref f50)))
    (l50 : K.lookup f50 = some ⟨oc50, od50, .func (PySem.W.fnOf "_law_after" "_law_after" (defArgs s__law_after) (defBody s__law_after) (defScope s__law_after) .none kV50 dc50 pm50 an50 cd50 ct50), sl50⟩)
    (c50 : PySem.W.codeIn K cd50 "_law_after" = true) (k50 : PySem.W.keepIn K (.ref f50) = true)
    (a51 : PySem.W.nsIn K mainGlobals "_law_call" = some (some (.ref f51)))
    (l51 : K.lookup f51 = some ⟨oc51, od51, .func (PySem.W.fnOf "_law_call" "_law_call" (defArgs s__law_call) (defBody s__law_call) (defScope s__law_call) .none kV51 dc51 pm51 an51 cd51 ct51), sl51⟩)
    (c51 : PySem.W.codeIn K cd51 "_law_call" = true) (k51 : PySem.W.keepIn K (.ref f51) = true)
    (a52 : PySem.W.nsIn K mainGlobals "law" = some (some (.ref f52)))
    (l52 : K.lookup f52 = some ⟨oc52, od52, .func (PySem.W.fnOf "law" "law" (defArgs s_law) (defBody s_law) (defScope s_law) .none kV52 dc52 pm52 an52 cd52 ct52), sl52⟩)
    (c52 : PySem.W.codeIn K cd52 "law" = true) (k52 : PySem.W.keepIn K (.ref f52) = true)
    (z_abs : PySem.W.nsIn K mainGlobals "abs" = some none)
    (z_any : PySem.W.nsIn K mainGlobals "any" = some none)
    (z_bool : PySem.W.nsIn K mainGlobals "bool" = some none)
    (z_int : PySem.W.nsIn K mainGlobals "int" = some none)
    (z_isinstance : PySem.W.nsIn K mainGlobals "isinstance" = some none)
    (z_len : PySem.W.nsIn K mainGlobals "len" = some none)
    (z_list : PySem.W.nsIn K mainGlobals "list" = some none)
    (z_max : PySem.W.nsIn K mainGlobals "max" = some none)
    (z_min : PySem.W.nsIn K mainGlobals "min" = some none)
    (z_range : PySem.W.nsIn K mainGlobals "range" = some none)
    (z_str : PySem.W.nsIn K mainGlobals "str" = some none)
    (z_sum : PySem.W.nsIn K mainGlobals "sum" = some none)
    (z_tuple : PySem.W.nsIn K mainGlobals "tuple" = some none)
    {c_OtherKinds : Addr}
    (m_OtherKinds : PySem.W.nsIn K mainGlobals "OtherKinds" = some (some (.ref c_OtherKinds)))
    (x_OtherKinds : PySem.W.excIn K c_OtherKinds [.type "ValueError", .type "Exception", .type "BaseException", .type "object"] "ValueError.__new__" = true)
    (k_OtherKinds : PySem.W.keepIn K (.ref c_OtherKinds) = true)
    (b_OtherKinds : PySem.W.subIn K (.ref c_OtherKinds) (.type "BaseException") = some true)
    (t_OtherKinds : PySem.W.typeIn K (.ref c_OtherKinds) = some (.type "type"))
    : ∃ T : Tx K mg, ∀ (s : Shared) (v : Value), BindsTo s T.d_law ⟨[v], []⟩ [("script", v)] :=
  ⟨⟨f0, _, fun_mk (st := s_has_end) l0 c0 k0, (fun_mk (st := s_has_end) l0 c0 k0).binds (ps := p_has_end) (fun _ _ _ _ _ _ us hl => match us, hl with | [_, _], _ => rfl), PySem.W.mg_of X G a0,
    f1, _, fun_mk (st := s_check_kinds) l1 c1 k1, (fun_mk (st := s_check_kinds) l1 c1 k1).binds (ps := p_check_kinds) (fun _ _ _ _ _ _ us hl => match us, hl with | [_, _], _ => rfl), PySem.W.mg_of X G a1,
    f2, _, fun_mk (st := s_shifted) l2 c2 k2, (fun_mk (st := s_shifted) l2 c2 k2).binds (ps := p_shifted) (fun _ _ _ _ _ _ us hl => match us, hl with | [_, _], _ => rfl), PySem.W.mg_of X G a2,
    f3, _, fun_mk (st := s_shifted_steps) l3 c3 k3, (fun_mk (st := s_shifted_steps) l3 c3 k3).binds (ps := p_shifted_steps) (fun _ _ _ _ _ _ us hl => match us, hl with | [_, _], _ => rfl), PySem.W.mg_of X G a3,
    f4, _, fun_mk (st := s_into_ends) l4 c4 k4, (fun_mk (st := s_into_ends) l4 c4 k4).binds (ps := p_into_ends) (fun _ _ _ _ _ _ us hl => match us, hl with | [_, _], _ => rfl), PySem.W.mg_of X G a4,
    f5, _, fun_mk (st := s_followed) l5 c5 k5, (fun_mk (st := s_followed) l5 c5 k5).binds (ps := p_followed) (fun _ _ _ _ _ _ us hl => match us, hl with | [_, _], _ => rfl), PySem.W.mg_of X G a5,
    f6, _, fun_mk (st := s_repeated) l6 c6 k6, (fun_mk (st := s_repeated) l6 c6 k6).binds (ps := p_repeated) (fun _ _ _ _ _ _ us hl => match us, hl with | [_], _ => rfl), PySem.W.mg_of X G a6,
    f7, _, fun_mk (st := s_backwards) l7 c7 k7, (fun_mk (st := s_backwards) l7 c7 k7).binds (ps := p_backwards) (fun _ _ _ _ _ _ us hl => match us, hl with | [_], _ => rfl), PySem.W.mg_of X G a7,
    f8, _, fun_mk (st := s__law_theme) l8 c8 k8, (fun_mk (st := s__law_theme) l8 c8 k8).binds (ps := p__law_theme) (fun _ _ _ _ _ _ us hl => match us, hl with | [_, _], _ => rfl), PySem.W.mg_of X G a8,
    f9, _, fun_mk (st := s__law_where) l9 c9 k9, (fun_mk (st := s__law_where) l9 c9 k9).binds (ps := p__law_where) (fun _ _ _ _ _ _ us hl => match us, hl with | [_, _], _ => rfl), PySem.W.mg_of X G a9,
    f10, _, fun_mk (st := s__law_conditions_of) l10 c10 k10, (fun_mk (st := s__law_conditions_of) l10 c10 k10).binds (ps := p__law_conditions_of) (fun _ _ _ _ _ _ us hl => match us, hl with | [_], _ => rfl), PySem.W.mg_of X G a10,
    f11, _, fun_mk (st := s__law_signs) l11 c11 k11, (fun_mk (st := s__law_signs) l11 c11 k11).binds (ps := p__law_signs) (fun _ _ _ _ _ _ us hl => match us, hl with | [_, _, _], _ => rfl), PySem.W.mg_of X G a11,
    f12, _, fun_mk (st := s__law_truths) l12 c12 k12, (fun_mk (st := s__law_truths) l12 c12 k12).binds (ps := p__law_truths) (fun _ _ _ _ _ _ us hl => match us, hl with | [_, _], _ => rfl), PySem.W.mg_of X G a12,
    f13, _, fun_mk (st := s__law_opened) l13 c13 k13, (fun_mk (st := s__law_opened) l13 c13 k13).binds (ps := p__law_opened) (fun _ _ _ _ _ _ us hl => match us, hl with | [_, _, _], _ => rfl), PySem.W.mg_of X G a13,
    f14, _, fun_mk (st := s__law_moved) l14 c14 k14, (fun_mk (st := s__law_moved) l14 c14 k14).binds (ps := p__law_moved) (fun _ _ _ _ _ _ us hl => match us, hl with | [_, _, _, _, _, _], _ => rfl), PySem.W.mg_of X G a14,
    f15, _, fun_mk (st := s__law_joined_end) l15 c15 k15, (fun_mk (st := s__law_joined_end) l15 c15 k15).binds (ps := p__law_joined_end) (fun _ _ _ _ _ _ us hl => match us, hl with | [_, _, _, _], _ => rfl), PySem.W.mg_of X G a15,
    f16, _, fun_mk (st := s__law_deed_chart) l16 c16 k16, (fun_mk (st := s__law_deed_chart) l16 c16 k16).binds (ps := p__law_deed_chart) (fun _ _ _ _ _ _ us hl => match us, hl with | [_, _, _, _], _ => rfl), PySem.W.mg_of X G a16,
    f17, _, fun_mk (st := s__law_speaks) l17 c17 k17, (fun_mk (st := s__law_speaks) l17 c17 k17).binds (ps := p__law_speaks) (fun _ _ _ _ _ _ us hl => match us, hl with | [_, _, _, _], _ => rfl), PySem.W.mg_of X G a17,
    f18, _, fun_mk (st := s__law_changed) l18 c18 k18, (fun_mk (st := s__law_changed) l18 c18 k18).binds (ps := p__law_changed) (fun _ _ _ _ _ _ us hl => match us, hl with | [_, _, _, _], _ => rfl), PySem.W.mg_of X G a18,
    f19, _, fun_mk (st := s__law_plain_machine) l19 c19 k19, (fun_mk (st := s__law_plain_machine) l19 c19 k19).binds (ps := p__law_plain_machine) (fun _ _ _ _ _ _ us hl => match us, hl with | [_, _], _ => rfl), PySem.W.mg_of X G a19,
    f20, _, fun_mk (st := s__law_tape) l20 c20 k20, (fun_mk (st := s__law_tape) l20 c20 k20).binds (ps := p__law_tape) (fun _ _ _ _ _ _ us hl => match us, hl with | [_], _ => rfl), PySem.W.mg_of X G a20,
    f21, _, fun_mk (st := s__law_draw) l21 c21 k21, (fun_mk (st := s__law_draw) l21 c21 k21).binds (ps := p__law_draw) (fun _ _ _ _ _ _ us hl => match us, hl with | [_, _], _ => rfl), PySem.W.mg_of X G a21,
    f22, _, fun_mk (st := s__law_whole) l22 c22 k22, (fun_mk (st := s__law_whole) l22 c22 k22).binds (ps := p__law_whole) (fun _ _ _ _ _ _ us hl => match us, hl with | [_], _ => rfl), PySem.W.mg_of X G a22,
    f23, _, fun_mk (st := s__law_names) l23 c23 k23, (fun_mk (st := s__law_names) l23 c23 k23).binds (ps := p__law_names) (fun _ _ _ _ _ _ us hl => match us, hl with | [_], _ => rfl), PySem.W.mg_of X G a23,
    f24, _, fun_mk (st := s__law_kinds) l24 c24 k24, (fun_mk (st := s__law_kinds) l24 c24 k24).binds (ps := p__law_kinds) (fun _ _ _ _ _ _ us hl => match us, hl with | [_], _ => rfl), PySem.W.mg_of X G a24,
    f25, _, fun_mk (st := s__law_kind) l25 c25 k25, (fun_mk (st := s__law_kind) l25 c25 k25).binds (ps := p__law_kind) (fun _ _ _ _ _ _ us hl => match us, hl with | [_, _, _], _ => rfl), PySem.W.mg_of X G a25,
    f26, _, fun_mk (st := s__law_any_kind) l26 c26 k26, (fun_mk (st := s__law_any_kind) l26 c26 k26).binds (ps := p__law_any_kind) (fun _ _ _ _ _ _ us hl => match us, hl with | [_], _ => rfl), PySem.W.mg_of X G a26,
    f27, _, fun_mk (st := s__law_many) l27 c27 k27, (fun_mk (st := s__law_many) l27 c27 k27).binds (ps := p__law_many) (fun _ _ _ _ _ _ us hl => match us, hl with | [_, _], _ => rfl), PySem.W.mg_of X G a27,
    f28, _, fun_mk (st := s__law_theory) l28 c28 k28, (fun_mk (st := s__law_theory) l28 c28 k28).binds (ps := p__law_theory) (fun _ _ _ _ _ _ us hl => match us, hl with | [_, _, _], _ => rfl), PySem.W.mg_of X G a28,
    f29, _, fun_mk (st := s__law_marked) l29 c29 k29, (fun_mk (st := s__law_marked) l29 c29 k29).binds (ps := p__law_marked) (fun _ _ _ _ _ _ us hl => match us, hl with | [_, _], _ => rfl), PySem.W.mg_of X G a29,
    f30, _, fun_mk (st := s__law_letters) l30 c30 k30, (fun_mk (st := s__law_letters) l30 c30 k30).binds (ps := p__law_letters) (fun _ _ _ _ _ _ us hl => match us, hl with | [_, _], _ => rfl), PySem.W.mg_of X G a30,
    f31, _, fun_mk (st := s__law_integer) l31 c31 k31, (fun_mk (st := s__law_integer) l31 c31 k31).binds (ps := p__law_integer) (fun _ _ _ _ _ _ us hl => match us, hl with | [_, _], _ => rfl), PySem.W.mg_of X G a31,
    f32, _, fun_mk (st := s__law_letter) l32 c32 k32, (fun_mk (st := s__law_letter) l32 c32 k32).binds (ps := p__law_letter) (fun _ _ _ _ _ _ us hl => match us, hl with | [_, _, _], _ => rfl), PySem.W.mg_of X G a32,
    f33, _, fun_mk (st := s__law_conditions) l33 c33 k33, (fun_mk (st := s__law_conditions) l33 c33 k33).binds (ps := p__law_conditions) (fun _ _ _ _ _ _ us hl => match us, hl with | [_], _ => rfl), PySem.W.mg_of X G a33,
    f34, _, fun_mk (st := s__law_comparison) l34 c34 k34, (fun_mk (st := s__law_comparison) l34 c34 k34).binds (ps := p__law_comparison) (fun _ _ _ _ _ _ us hl => match us, hl with | [_, _], _ => rfl), PySem.W.mg_of X G a34,
    f35, _, fun_mk (st := s__law_modulus) l35 c35 k35, (fun_mk (st := s__law_modulus) l35 c35 k35).binds (ps := p__law_modulus) (fun _ _ _ _ _ _ us hl => match us, hl with | [_, _], _ => rfl), PySem.W.mg_of X G a35,
    f36, _, fun_mk (st := s__law_leaf) l36 c36 k36, (fun_mk (st := s__law_leaf) l36 c36 k36).binds (ps := p__law_leaf) (fun _ _ _ _ _ _ us hl => match us, hl with | [_, _, _, _], _ => rfl), PySem.W.mg_of X G a36,
    f37, _, fun_mk (st := s__law_condition) l37 c37 k37, (fun_mk (st := s__law_condition) l37 c37 k37).binds (ps := p__law_condition) (fun _ _ _ _ _ _ us hl => match us, hl with | [_, _, _, _], _ => rfl), PySem.W.mg_of X G a37,
    f38, _, fun_mk (st := s__law_in) l38 c38 k38, (fun_mk (st := s__law_in) l38 c38 k38).binds (ps := p__law_in) (fun _ _ _ _ _ _ us hl => match us, hl with | [_, _], _ => rfl), PySem.W.mg_of X G a38,
    f39, _, fun_mk (st := s__law_meets) l39 c39 k39, (fun_mk (st := s__law_meets) l39 c39 k39).binds (ps := p__law_meets) (fun _ _ _ _ _ _ us hl => match us, hl with | [_, _], _ => rfl), PySem.W.mg_of X G a39,
    f40, _, fun_mk (st := s__law_is_end) l40 c40 k40, (fun_mk (st := s__law_is_end) l40 c40 k40).binds (ps := p__law_is_end) (fun _ _ _ _ _ _ us hl => match us, hl with | [_], _ => rfl), PySem.W.mg_of X G a40,
    f41, _, fun_mk (st := s__law_is_integers) l41 c41 k41, (fun_mk (st := s__law_is_integers) l41 c41 k41).binds (ps := p__law_is_integers) (fun _ _ _ _ _ _ us hl => match us, hl with | [_], _ => rfl), PySem.W.mg_of X G a41,
    f42, _, fun_mk (st := s__law_is_rows) l42 c42 k42, (fun_mk (st := s__law_is_rows) l42 c42 k42).binds (ps := p__law_is_rows) (fun _ _ _ _ _ _ us hl => match us, hl with | [_, _], _ => rfl), PySem.W.mg_of X G a42,
    f43, _, fun_mk (st := s__law_is_shape) l43 c43 k43, (fun_mk (st := s__law_is_shape) l43 c43 k43).binds (ps := p__law_is_shape) (fun _ _ _ _ _ _ us hl => match us, hl with | [_, _], _ => rfl), PySem.W.mg_of X G a43,
    f44, _, fun_mk (st := s__law_fits) l44 c44 k44, (fun_mk (st := s__law_fits) l44 c44 k44).binds (ps := p__law_fits) (fun _ _ _ _ _ _ us hl => match us, hl with | [_, _], _ => rfl), PySem.W.mg_of X G a44,
    f45, _, fun_mk (st := s__law_is_states) l45 c45 k45, (fun_mk (st := s__law_is_states) l45 c45 k45).binds (ps := p__law_is_states) (fun _ _ _ _ _ _ us hl => match us, hl with | [_, _], _ => rfl), PySem.W.mg_of X G a45,
    f46, _, fun_mk (st := s__law_is_machine) l46 c46 k46, (fun_mk (st := s__law_is_machine) l46 c46 k46).binds (ps := p__law_is_machine) (fun _ _ _ _ _ _ us hl => match us, hl with | [_, _], _ => rfl), PySem.W.mg_of X G a46,
    f47, _, fun_mk (st := s__law_part) l47 c47 k47, (fun_mk (st := s__law_part) l47 c47 k47).binds (ps := p__law_part) (fun _ _ _ _ _ _ us hl => match us, hl with | [_, _], _ => rfl), PySem.W.mg_of X G a47,
    f48, _, fun_mk (st := s__law_machine) l48 c48 k48, (fun_mk (st := s__law_machine) l48 c48 k48).binds (ps := p__law_machine) (fun _ _ _ _ _ _ us hl => match us, hl with | [_, _, _, _, _, _], _ => rfl), PySem.W.mg_of X G a48,
    f49, _, fun_mk (st := s__law_has_end) l49 c49 k49, (fun_mk (st := s__law_has_end) l49 c49 k49).binds (ps := p__law_has_end) (fun _ _ _ _ _ _ us hl => match us, hl with | [_, _], _ => rfl), PySem.W.mg_of X G a49,
    f50, _, fun_mk (st := s__law_after) l50 c50 k50, (fun_mk (st := s__law_after) l50 c50 k50).binds (ps := p__law_after) (fun _ _ _ _ _ _ us hl => match us, hl with | [_, _, _], _ => rfl), PySem.W.mg_of X G a50,
    f51, _, fun_mk (st := s__law_call) l51 c51 k51, (fun_mk (st := s__law_call) l51 c51 k51).binds (ps := p__law_call) (fun _ _ _ _ _ _ us hl => match us, hl with | [_, _, _], _ => rfl), PySem.W.mg_of X G a51,
    f52, _, fun_mk (st := s_law) l52 c52 k52, (fun_mk (st := s_law) l52 c52 k52).binds (ps := p_law) (fun _ _ _ _ _ _ us hl => match us, hl with | [_], _ => rfl), PySem.W.mg_of X G a52,
    PySem.W.mg_none_of X G z_abs,
    PySem.W.mg_none_of X G z_any,
    PySem.W.mg_none_of X G z_bool,
    PySem.W.mg_none_of X G z_int,
    PySem.W.mg_none_of X G z_isinstance,
    PySem.W.mg_none_of X G z_len,
    PySem.W.mg_none_of X G z_list,
    PySem.W.mg_none_of X G z_max,
    PySem.W.mg_none_of X G z_min,
    PySem.W.mg_none_of X G z_range,
    PySem.W.mg_none_of X G z_str,
    PySem.W.mg_none_of X G z_sum,
    PySem.W.mg_none_of X G z_tuple,
    c_OtherKinds,
    PySem.W.mg_of X G m_OtherKinds,
    x_OtherKinds,
    k_OtherKinds,
    b_OtherKinds,
    t_OtherKinds⟩, fun s v => .of_eq rfl⟩
end WK41
set_option Elab.async false
set_option linter.all false
set_option maxRecDepth 100000
set_option maxHeartbeats 8000000
namespace WK41
open PySem PySem.Spec PyProof.Rows L2 DL
section
variable {P : Program} {w : World} {K : PySem.W.Frag} {mg : Str → Option Value} {base : Heap}
theorem ok_has_end {k : Nat} {sp  : Sp'} (T : Tx K mg)  (len : ∀ ds h Q E, sp ds h Q E → ds.length = 2)
    (rd : ∀ ds h Q E', sp ds h Q E' → K22.t_has_end  (ends Q) (slots K22.n_has_end ds) h) : FnD P w K mg base (k + 1) T.f_has_end T.d_has_end p_has_end sp := by
  refine fnD T.F_has_end sc_has_end len fun cdv A outer s H E hr E' => ⟨K22.t_has_end , ?_, fun ds h Q q => rd ds h Q E' q⟩
  have sc := sc_has_end
  exact (dss_one (ds_ret (de_callB (cr_any rfl) cl_any rfl T.z_any boot'_any (da_cons (de_lc rfl sc.nd (di_seq (de_var 1)) (blkOk_by (N := K22.n_has_end) (sc := defScope s_has_end) (by decide +kernel)) (fun _ _ _ _ _ => pg_name (i := 2) sc.nd rfl (Or.inl rfl)) (fun _ _ _ _ _ => dts_nil) (fun _ _ _ _ _ => (de_cmp op_in_seq opl_in rfl (de_var 2) (de_ix ix_seq opl_ix (fun _ _ => rfl) (de_var 0) de_int)))) da_nil))))
theorem ok_check_kinds {k : Nat} {sp  : Sp'} (T : Tx K mg)  (len : ∀ ds h Q E, sp ds h Q E → ds.length = 2)
    (rd : ∀ ds h Q E', sp ds h Q E' → K41.t_check_kinds T.c_OtherKinds E' (ends Q) (slots K41.n_check_kinds ds) h) : FnD P w K mg base (k + 1) T.f_check_kinds T.d_check_kinds p_check_kinds sp := by
  refine fnD T.F_check_kinds sc_check_kinds len fun cdv A outer s H E hr E' => ⟨K41.t_check_kinds T.c_OtherKinds E', ?_, fun ds h Q q => rd ds h Q E' q⟩
  have sc := sc_check_kinds
  exact (dss_one (ds_if (dt_cmp (opr_ne hr.units) opl_ne (nomark _) (de_ix ix_seq opl_ix (fun _ _ => rfl) (de_var 0) de_int) (de_ix ix_seq opl_ix (fun _ _ => rfl) (de_var 1) de_int)) (dss_one (ds_raise rfl (L2N.takes_of rfl rfl rfl rfl) PySem.F.excBase_ValueError T.x_OtherKinds T.m_OtherKinds T.k_OtherKinds (raises_own T.b_OtherKinds T.t_OtherKinds) rfl)) dss_nil))
theorem ok_shifted {k : Nat} {sp  : Sp'} (T : Tx K mg)  (len : ∀ ds h Q E, sp ds h Q E → ds.length = 2)
    (rd : ∀ ds h Q E', sp ds h Q E' → K41.t_shifted  (ends Q) (slots K41.n_shifted ds) h) : FnD P w K mg base (k + 1) T.f_shifted T.d_shifted p_shifted sp := by
  refine fnD T.F_shifted sc_shifted len fun cdv A outer s H E hr E' => ⟨K41.t_shifted , ?_, fun ds h Q q => rd ds h Q E' q⟩
  have sc := sc_shifted
  exact (dss_one (ds_ret (de_callTy call_tupF cl_tup rfl T.z_tuple boot'_tuple (da_cons (de_lc rfl sc.nd (di_seq (de_var 0)) (blkOk_by (N := K41.n_shifted) (sc := defScope s_shifted) (by decide +kernel)) (fun _ _ _ _ _ => pg_name (i := 2) sc.nd rfl (Or.inl rfl)) (fun _ _ _ _ _ => dts_nil) (fun _ _ _ _ _ => (de_op opr_add opl_add (de_var 2) (de_var 1)))) da_nil))))
theorem ok_shifted_steps {k : Nat} {sp  : Sp'} (T : Tx K mg)  (len : ∀ ds h Q E, sp ds h Q E → ds.length = 2)
    (rd : ∀ ds h Q E', sp ds h Q E' → K41.t_shifted_steps  (ends Q) (slots K41.n_shifted_steps ds) h) : FnD P w K mg base (k + 1) T.f_shifted_steps T.d_shifted_steps p_shifted_steps sp := by
  refine fnD T.F_shifted_steps sc_shifted_steps len fun cdv A outer s H E hr E' => ⟨K41.t_shifted_steps , ?_, fun ds h Q q => rd ds h Q E' q⟩
  have sc := sc_shifted_steps
  exact (dss_one (ds_ret (de_callTy call_tupF cl_tup rfl T.z_tuple boot'_tuple (da_cons (de_lcT rfl sc.nd (di_seq (de_var 0)) (own := [("state", 2), ("condition", 3), ("target", 4)]) rfl (blkOk_by (N := K41.n_shifted_steps) (sc := defScope s_shifted_steps) (by decide +kernel)) (fun _ _ _ _ _ => pg_tup rfl (pgs_cons (pg_name (i := 2) sc.nd rfl (Or.inl rfl)) (pgs_cons (pg_name (i := 3) sc.nd rfl (Or.inl rfl)) (pgs_cons (pg_name (i := 4) sc.nd rfl (Or.inl rfl)) pgs_nil)))) (fun _ _ _ _ _ => dts_nil) (fun _ _ _ _ _ => (de_tup (da_cons (de_op opr_add opl_add (de_var 2) (de_var 1)) (da_cons (de_var 3) (da_cons (de_op opr_add opl_add (de_var 4) (de_var 1)) da_nil)))))) da_nil))))
theorem ok_into_ends {k : Nat} {sp  : Sp'} (T : Tx K mg)  (len : ∀ ds h Q E, sp ds h Q E → ds.length = 2)
    (rd : ∀ ds h Q E', sp ds h Q E' → K41.t_into_ends  (ends Q) (slots K41.n_into_ends ds) h) : FnD P w K mg base (k + 1) T.f_into_ends T.d_into_ends p_into_ends sp := by
  refine fnD T.F_into_ends sc_into_ends len fun cdv A outer s H E hr E' => ⟨K41.t_into_ends , ?_, fun ds h Q q => rd ds h Q E' q⟩
  have sc := sc_into_ends
  exact (dss_cons (ds_setlc rfl sc.nd rfl rfl (sw_true rfl rfl rfl (by decide +kernel)) (di_seq (de_ix ix_seq opl_ix (fun _ _ => rfl) (de_var 0) de_int)) (blkOk_by (N := K41.n_into_ends) (sc := defScope s_into_ends) (by decide +kernel)) (fun _ _ _ _ _ => pg_name (i := 3) sc.nd rfl (Or.inl rfl)) (fun _ _ _ _ _ => dts_one (dt_cmp op_in_seq opl_in rfl (de_ix ix_seq opl_ix (fun _ _ => rfl) (de_var 3) de_int) (de_ix ix_seq opl_ix (fun _ _ => rfl) (de_var 0) de_int))) (fun _ _ _ _ _ => (de_var 3)))
      (dss_one (ds_ret (de_callTy call_tupF cl_tup rfl T.z_tuple boot'_tuple (da_cons (de_lc2 rfl sc.nd (di_seq (de_var 2)) (blkOk_by (N := K41.n_into_ends) (sc := defScope s_into_ends) (by decide +kernel)) (fun _ _ _ _ _ => pg_name (i := 3) sc.nd rfl (Or.inl rfl)) (fun _ _ _ _ _ => dts_nil) (fun _ _ _ _ _ => (di_seq (de_var 1))) (fun _ _ _ _ _ => pg_name (i := 4) sc.nd rfl (Or.inl rfl)) (fun _ _ _ _ _ => dts_nil) (fun _ _ _ _ _ => (de_tup (da_cons (de_ix ix_seq opl_ix (fun _ _ => rfl) (de_var 3) de_int) (da_cons (de_ix ix_seq opl_ix (fun _ _ => rfl) (de_var 3) de_int) (da_cons (de_var 4) da_nil)))))) da_nil)))))
theorem ok_followed {k : Nat} {sp sp_check_kinds sp_shifted sp_has_end sp_into_ends sp_shifted_steps : Sp'} (T : Tx K mg) (G_check_kinds : FnD P w K mg base k T.f_check_kinds T.d_check_kinds p_check_kinds sp_check_kinds) (G_shifted : FnD P w K mg base k T.f_shifted T.d_shifted p_shifted sp_shifted) (G_has_end : FnD P w K mg base k T.f_has_end T.d_has_end p_has_end sp_has_end) (G_into_ends : FnD P w K mg base k T.f_into_ends T.d_into_ends p_into_ends sp_into_ends) (G_shifted_steps : FnD P w K mg base k T.f_shifted_steps T.d_shifted_steps p_shifted_steps sp_shifted_steps) (len : ∀ ds h Q E, sp ds h Q E → ds.length = 2)
    (rd : ∀ ds h Q E', sp ds h Q E' → K41.t_followed sp_check_kinds sp_shifted sp_has_end sp_into_ends sp_shifted_steps E' (ends Q) (slots K41.n_followed ds) h) : FnD P w K mg base (k + 1) T.f_followed T.d_followed p_followed sp := by
  refine fnD T.F_followed sc_followed len fun cdv A outer s H E hr E' => ⟨K41.t_followed sp_check_kinds sp_shifted sp_has_end sp_into_ends sp_shifted_steps E', ?_, fun ds h Q q => rd ds h Q E' q⟩
  have sc := sc_followed
  exact (dss_cons (ds_expr (de_callX G_check_kinds hr rfl T.m_check_kinds T.F_check_kinds.kp T.b_check_kinds (L2N.passes_call (L2N.takes_of rfl rfl rfl rfl) fun _ _ _ _ z => z) (da_cons (de_var 0) (da_cons (de_var 1) da_nil))))
      (dss_cons (ds_set (i := 2) sc.nd rfl (Or.inl rfl) (de_ix ix_seq opl_ix (fun _ _ => rfl) (de_var 0) de_int))
      (dss_cons (ds_set (i := 3) sc.nd rfl (Or.inl rfl) (de_call G_shifted hr rfl T.m_shifted T.F_shifted.kp T.b_shifted (da_cons (de_ix ix_seq opl_ix (fun _ _ => rfl) (de_var 1) de_int) (da_cons (de_var 2) da_nil))))
      (dss_cons (ds_set (i := 4) sc.nd rfl (Or.inl rfl) (de_ix ix_seq opl_ix (fun _ _ => rfl) (de_var 0) de_int))
      (dss_cons (ds_mid (ds_if (dt_val (de_call G_has_end hr rfl T.m_has_end T.F_has_end.kp T.b_has_end (da_cons (de_var 0) (da_cons (de_ix ix_seq opl_ix (fun _ _ => rfl) (de_var 0) de_int) da_nil)))) (dss_one (ds_set (i := 4) sc.nd rfl (Or.inl rfl) (de_op opr_add opl_add (de_var 4) (de_var 3)))) dss_nil))
      (dss_cons (ds_set (i := 5) sc.nd rfl (Or.inl rfl) (de_call G_shifted hr rfl T.m_shifted T.F_shifted.kp T.b_shifted (da_cons (de_ix ix_seq opl_ix (fun _ _ => rfl) (de_var 1) de_int) (da_cons (de_var 2) da_nil))))
      (dss_cons (ds_mid (ds_if (dt_val (de_call G_has_end hr rfl T.m_has_end T.F_has_end.kp T.b_has_end (da_cons (de_var 1) (da_cons (de_ix ix_seq opl_ix (fun _ _ => rfl) (de_var 1) de_int) da_nil)))) (dss_one (ds_set (i := 5) sc.nd rfl (Or.inl rfl) (de_op opr_add opl_add (de_ix ix_seq opl_ix (fun _ _ => rfl) (de_var 0) de_int) (de_var 5)))) dss_nil))
      (dss_cons (ds_set (i := 6) sc.nd rfl (Or.inl rfl) (de_op opr_add opl_add (de_op opr_add opl_add (de_ix ix_seq opl_ix (fun _ _ => rfl) (de_var 0) de_int) (de_call G_into_ends hr rfl T.m_into_ends T.F_into_ends.kp T.b_into_ends (da_cons (de_var 0) (da_cons (de_var 3) da_nil)))) (de_call G_shifted_steps hr rfl T.m_shifted_steps T.F_shifted_steps.kp T.b_shifted_steps (da_cons (de_ix ix_seq opl_ix (fun _ _ => rfl) (de_var 1) de_int) (da_cons (de_var 2) da_nil)))))
      (dss_one (ds_ret (de_tup (da_cons (de_ix ix_seq opl_ix (fun _ _ => rfl) (de_var 0) de_int) (da_cons (de_op opr_add opl_add (de_var 2) (de_ix ix_seq opl_ix (fun _ _ => rfl) (de_var 1) de_int)) (da_cons (de_var 4) (da_cons (de_var 5) (da_cons (de_var 6) da_nil))))))))))))))))
theorem ok_repeated {k : Nat} {sp sp_into_ends : Sp'} (T : Tx K mg) (G_into_ends : FnD P w K mg base k T.f_into_ends T.d_into_ends p_into_ends sp_into_ends) (len : ∀ ds h Q E, sp ds h Q E → ds.length = 1)
    (rd : ∀ ds h Q E', sp ds h Q E' → K41.t_repeated sp_into_ends (ends Q) (slots K41.n_repeated ds) h) : FnD P w K mg base (k + 1) T.f_repeated T.d_repeated p_repeated sp := by
  refine fnD T.F_repeated sc_repeated len fun cdv A outer s H E hr E' => ⟨K41.t_repeated sp_into_ends, ?_, fun ds h Q q => rd ds h Q E' q⟩
  have sc := sc_repeated
  exact (dss_cons (ds_asg (de_var 0) (dg_tup rfl (dgs_cons (dg_name (i := 1) sc.nd rfl (Or.inl rfl)) (dgs_cons (dg_name (i := 2) sc.nd rfl (Or.inl rfl)) (dgs_cons (dg_name (i := 3) sc.nd rfl (Or.inl rfl)) (dgs_cons (dg_name (i := 4) sc.nd rfl (Or.inl rfl)) (dgs_cons (dg_name (i := 5) sc.nd rfl (Or.inl rfl)) dgs_nil)))))))
      (dss_one (ds_ret (de_tup (da_cons (de_var 1) (da_cons (de_op opr_add opl_add (de_var 2) de_int) (da_cons (de_op opr_add opl_add (de_var 3) (de_tup (da_cons (de_var 2) da_nil))) (da_cons (de_op opr_add opl_add (de_var 4) (de_tup (da_cons (de_var 2) da_nil))) (da_cons (de_op opr_add opl_add (de_var 5) (de_call G_into_ends hr rfl T.m_into_ends T.F_into_ends.kp T.b_into_ends (da_cons (de_var 0) (da_cons (de_var 3) da_nil)))) da_nil)))))))))
theorem ok_backwards {k : Nat} {sp  : Sp'} (T : Tx K mg)  (len : ∀ ds h Q E, sp ds h Q E → ds.length = 1)
    (rd : ∀ ds h Q E', sp ds h Q E' → K41.t_backwards  (ends Q) (slots K41.n_backwards ds) h) : FnD P w K mg base (k + 1) T.f_backwards T.d_backwards p_backwards sp := by
  refine fnD T.F_backwards sc_backwards len fun cdv A outer s H E hr E' => ⟨K41.t_backwards , ?_, fun ds h Q q => rd ds h Q E' q⟩
  have sc := sc_backwards
  exact (dss_cons (ds_asg (de_var 0) (dg_tup rfl (dgs_cons (dg_name (i := 1) sc.nd rfl (Or.inl rfl)) (dgs_cons (dg_name (i := 2) sc.nd rfl (Or.inl rfl)) (dgs_cons (dg_name (i := 3) sc.nd rfl (Or.inl rfl)) (dgs_cons (dg_name (i := 4) sc.nd rfl (Or.inl rfl)) (dgs_cons (dg_name (i := 5) sc.nd rfl (Or.inl rfl)) dgs_nil)))))))
      (dss_one (ds_ret (de_tup (da_cons (de_var 1) (da_cons (de_var 2) (da_cons (de_var 4) (da_cons (de_var 3) (da_cons (de_callTy call_tupF cl_tup rfl T.z_tuple boot'_tuple (da_cons (de_lcT rfl sc.nd (di_seq (de_var 5)) (own := [("state", 6), ("condition", 7), ("target", 8)]) rfl (blkOk_by (N := K41.n_backwards) (sc := defScope s_backwards) (by decide +kernel)) (fun _ _ _ _ _ => pg_tup rfl (pgs_cons (pg_name (i := 6) sc.nd rfl (Or.inl rfl)) (pgs_cons (pg_name (i := 7) sc.nd rfl (Or.inl rfl)) (pgs_cons (pg_name (i := 8) sc.nd rfl (Or.inl rfl)) pgs_nil)))) (fun _ _ _ _ _ => dts_nil) (fun _ _ _ _ _ => (de_tup (da_cons (de_var 8) (da_cons (de_var 7) (da_cons (de_var 6) da_nil)))))) da_nil)) da_nil)))))))))
theorem ok__law_theme {k : Nat} {sp sp__law_any_kind sp__law_theory sp__law_letters : Sp'} (T : Tx K mg) (G__law_any_kind : FnD P w K mg base k T.f__law_any_kind T.d__law_any_kind p__law_any_kind sp__law_any_kind) (G__law_theory : FnD P w K mg base k T.f__law_theory T.d__law_theory p__law_theory sp__law_theory) (G__law_letters : FnD P w K mg base k T.f__law_letters T.d__law_letters p__law_letters sp__law_letters) (len : ∀ ds h Q E, sp ds h Q E → ds.length = 2)
    (rd : ∀ ds h Q E', sp ds h Q E' → K41.t__law_theme sp__law_any_kind sp__law_theory sp__law_letters (ends Q) (slots K41.n__law_theme ds) h) : FnD P w K mg base (k + 1) T.f__law_theme T.d__law_theme p__law_theme sp := by
  refine fnD T.F__law_theme sc__law_theme len fun cdv A outer s H E hr E' => ⟨K41.t__law_theme sp__law_any_kind sp__law_theory sp__law_letters, ?_, fun ds h Q q => rd ds h Q E' q⟩
  have sc := sc__law_theme
  exact (dss_cons (ds_set (i := 2) sc.nd rfl (Or.inl rfl) (de_call G__law_any_kind hr rfl T.m__law_any_kind T.F__law_any_kind.kp T.b__law_any_kind (da_cons (de_var 0) da_nil)))
      (dss_cons (ds_set (i := 3) sc.nd rfl (Or.inl rfl) (de_call G__law_theory hr rfl T.m__law_theory T.F__law_theory.kp T.b__law_theory (da_cons (de_var 0) (da_cons (de_var 2) (da_cons (de_var 1) da_nil)))))
      (dss_one (ds_ret (de_lis (da_cons (de_var 2) (da_cons (de_var 3) (da_cons (de_call G__law_letters hr rfl T.m__law_letters T.F__law_letters.kp T.b__law_letters (da_cons (de_var 2) (da_cons (de_var 3) da_nil))) da_nil))))))))
theorem ok__law_where {k : Nat} {sp sp__law_meets : Sp'} (T : Tx K mg) (G__law_meets : FnD P w K mg base k T.f__law_meets T.d__law_meets p__law_meets sp__law_meets) (len : ∀ ds h Q E, sp ds h Q E → ds.length = 2)
    (rd : ∀ ds h Q E', sp ds h Q E' → K41.t__law_where sp__law_meets (ends Q) (slots K41.n__law_where ds) h) : FnD P w K mg base (k + 1) T.f__law_where T.d__law_where p__law_where sp := by
  refine fnD T.F__law_where sc__law_where len fun cdv A outer s H E hr E' => ⟨K41.t__law_where sp__law_meets, ?_, fun ds h Q q => rd ds h Q E' q⟩
  have sc := sc__law_where
  exact (dss_cons (ds_set (i := 2) sc.nd rfl (Or.inl rfl) de_ednew)
      (dss_cons (ds_set (i := 3) sc.nd rfl (Or.inl rfl) (de_own da_nil))
      (dss_cons (ds_set (i := 4) sc.nd rfl (Or.inl rfl) (de_own da_nil))
      (dss_cons (ds_for (passes_of rfl) rfl (di_seq (de_var 1)) (dg_name (i := 5) sc.nd rfl (Or.inr rfl)) (dss_cons (ds_set (i := 6) sc.nd rfl (Or.inl rfl) (de_callTy call_tupF cl_tup rfl T.z_tuple boot'_tuple (da_cons (de_lc rfl sc.nd (di_seq (de_var 0)) (blkOk_by (N := K41.n__law_where) (sc := defScope s__law_where) (by decide +kernel)) (fun _ _ _ _ _ => pg_name (i := 7) sc.nd rfl (Or.inl rfl)) (fun _ _ _ _ _ => dts_nil) (fun _ _ _ _ _ => (de_call G__law_meets hr rfl T.m__law_meets T.F__law_meets.kp T.b__law_meets (da_cons (de_var 7) (da_cons (de_var 5) da_nil))))) da_nil)))
      (dss_cons (ds_mid (ds_if (dt_cmp (op_enotin (room65 hr)) opl_lR2 rfl (de_var 6) (de_var 2)) (dss_cons (ds_asg (de_callB cr_len cl_len rfl T.z_len boot'_len (da_cons (de_var 3) da_nil)) (dg_esub (room65 hr) (de_var 2) (de_var 6)))
      (dss_one (ds_expr (de_append (de_var 3) (da_cons (de_tup (da_cons (de_var 6) (da_cons (de_var 5) da_nil))) da_nil))))) dss_nil))
      (dss_one (ds_expr (de_append (de_var 4) (da_cons (de_ix (ix_ded (room65 hr)) opl_lR2 (fun _ _ => rfl) (de_var 2) (de_var 6)) da_nil)))))))
      (dss_one (ds_ret (de_lis (da_cons (de_var 3) (da_cons (de_var 4) da_nil)))))))))
theorem ok__law_conditions_of {k : Nat} {sp  : Sp'} (T : Tx K mg)  (len : ∀ ds h Q E, sp ds h Q E → ds.length = 1)
    (rd : ∀ ds h Q E', sp ds h Q E' → K41.t__law_conditions_of  (ends Q) (slots K41.n__law_conditions_of ds) h) : FnD P w K mg base (k + 1) T.f__law_conditions_of T.d__law_conditions_of p__law_conditions_of sp := by
  refine fnD T.F__law_conditions_of sc__law_conditions_of len fun cdv A outer s H E hr E' => ⟨K41.t__law_conditions_of , ?_, fun ds h Q q => rd ds h Q E' q⟩
  have sc := sc__law_conditions_of
  exact (dss_cons (ds_set (i := 1) sc.nd rfl (Or.inl rfl) (de_lis da_nil))
      (dss_cons (ds_for (passes_of rfl) rfl (di_seq (de_var 0)) (dg_name (i := 2) sc.nd rfl (Or.inl rfl)) (dss_one (ds_set (i := 1) sc.nd rfl (Or.inl rfl) (de_op opr_add opl_add (de_var 1) (de_lc rfl sc.nd (di_seq (de_ix ix_seq opl_ix (fun _ _ => rfl) (de_var 2) de_int)) (blkOk_by (N := K41.n__law_conditions_of) (sc := defScope s__law_conditions_of) (by decide +kernel)) (fun _ _ _ _ _ => pg_name (i := 3) sc.nd rfl (Or.inl rfl)) (fun _ _ _ _ _ => dts_nil) (fun _ _ _ _ _ => (de_ix ix_seq opl_ix (fun _ _ => rfl) (de_var 3) de_int)))))))
      (dss_one (ds_ret (de_var 1)))))
theorem ok__law_signs {k : Nat} {sp sp__law_conditions_of sp__law_where sp__law_letter : Sp'} (T : Tx K mg) (G__law_conditions_of : FnD P w K mg base k T.f__law_conditions_of T.d__law_conditions_of p__law_conditions_of sp__law_conditions_of) (G__law_where : FnD P w K mg base k T.f__law_where T.d__law_where p__law_where sp__law_where) (G__law_letter : FnD P w K mg base k T.f__law_letter T.d__law_letter p__law_letter sp__law_letter) (len : ∀ ds h Q E, sp ds h Q E → ds.length = 3)
    (rd : ∀ ds h Q E', sp ds h Q E' → K41.t__law_signs sp__law_conditions_of sp__law_where sp__law_letter (ends Q) (slots K41.n__law_signs ds) h) : FnD P w K mg base (k + 1) T.f__law_signs T.d__law_signs p__law_signs sp := by
  refine fnD T.F__law_signs sc__law_signs len fun cdv A outer s H E hr E' => ⟨K41.t__law_signs sp__law_conditions_of sp__law_where sp__law_letter, ?_, fun ds h Q q => rd ds h Q E' q⟩
  have sc := sc__law_signs
  exact (dss_cons (ds_setlc rfl sc.nd rfl rfl (sw_true rfl rfl rfl (by decide +kernel)) (di_seq (de_ix ix_seq opl_ix (fun _ _ => rfl) (de_call G__law_where hr rfl T.m__law_where T.F__law_where.kp T.b__law_where (da_cons (de_call G__law_conditions_of hr rfl T.m__law_conditions_of T.F__law_conditions_of.kp T.b__law_conditions_of (da_cons (de_var 2) da_nil)) (da_cons (de_ix ix_seq opl_ix (fun _ _ => rfl) (de_var 1) de_int) da_nil))) de_int)) (blkOk_by (N := K41.n__law_signs) (sc := defScope s__law_signs) (by decide +kernel)) (fun _ _ _ _ _ => pg_name (i := 4) sc.nd rfl (Or.inl rfl)) (fun _ _ _ _ _ => dts_nil) (fun _ _ _ _ _ => (de_ix ix_seq opl_ix (fun _ _ => rfl) (de_var 4) de_int)))
      (dss_one (ds_ret (de_op opr_add opl_add (de_var 3) (de_lc rfl sc.nd (di_rng1 rfl T.z_range (da_cons de_int da_nil)) (blkOk_by (N := K41.n__law_signs) (sc := defScope s__law_signs) (by decide +kernel)) (fun _ _ _ _ _ => pg_name (i := 5) sc.nd rfl (Or.inl rfl)) (fun _ _ _ _ _ => dts_nil) (fun _ _ _ _ _ => (de_call G__law_letter hr rfl T.m__law_letter T.F__law_letter.kp T.b__law_letter (da_cons (de_var 0) (da_cons (de_ix ix_seq opl_ix (fun _ _ => rfl) (de_var 1) de_int) (da_cons (de_ix ix_seq opl_ix (fun _ _ => rfl) (de_var 1) de_int) da_nil))))))))))
theorem ok__law_truths {k : Nat} {sp sp__law_meets : Sp'} (T : Tx K mg) (G__law_meets : FnD P w K mg base k T.f__law_meets T.d__law_meets p__law_meets sp__law_meets) (len : ∀ ds h Q E, sp ds h Q E → ds.length = 2)
    (rd : ∀ ds h Q E', sp ds h Q E' → K41.t__law_truths sp__law_meets (ends Q) (slots K41.n__law_truths ds) h) : FnD P w K mg base (k + 1) T.f__law_truths T.d__law_truths p__law_truths sp := by
  refine fnD T.F__law_truths sc__law_truths len fun cdv A outer s H E hr E' => ⟨K41.t__law_truths sp__law_meets, ?_, fun ds h Q q => rd ds h Q E' q⟩
  have sc := sc__law_truths
  exact (dss_cons (ds_set (i := 2) sc.nd rfl (Or.inl rfl) (de_own da_nil))
      (dss_cons (ds_for (passes_of rfl) rfl (di_seq (de_var 1)) (dg_name (i := 3) sc.nd rfl (Or.inr rfl)) (dss_one (ds_expr (de_append (de_var 2) (da_cons (de_lc rfl sc.nd (di_seq (de_ix ix_seq opl_ix (fun _ _ => rfl) (de_var 0) de_int)) (blkOk_by (N := K41.n__law_truths) (sc := defScope s__law_truths) (by decide +kernel)) (fun _ _ _ _ _ => pg_name (i := 4) sc.nd rfl (Or.inl rfl)) (fun _ _ _ _ _ => dts_nil) (fun _ _ _ _ _ => (de_call G__law_meets hr rfl T.m__law_meets T.F__law_meets.kp T.b__law_meets (da_cons (de_ix ix_seq opl_ix (fun _ _ => rfl) (de_var 4) de_int) (da_cons (de_var 3) da_nil))))) da_nil)))))
      (dss_one (ds_ret (de_var 2)))))
theorem ok__law_opened {k : Nat} {sp sp__law_has_end : Sp'} (T : Tx K mg) (G__law_has_end : FnD P w K mg base k T.f__law_has_end T.d__law_has_end p__law_has_end sp__law_has_end) (len : ∀ ds h Q E, sp ds h Q E → ds.length = 3)
    (rd : ∀ ds h Q E', sp ds h Q E' → K41.t__law_opened sp__law_has_end (ends Q) (slots K41.n__law_opened ds) h) : FnD P w K mg base (k + 1) T.f__law_opened T.d__law_opened p__law_opened sp := by
  refine fnD T.F__law_opened sc__law_opened len fun cdv A outer s H E hr E' => ⟨K41.t__law_opened sp__law_has_end, ?_, fun ds h Q q => rd ds h Q E' q⟩
  have sc := sc__law_opened
  exact (dss_cons (ds_if (dt_cmp (opr_eq hr.units) opl_eq (nomark _) (de_var 0) de_str) (dss_one (ds_ret (de_tup (da_cons (de_ix ix_seq opl_ix (fun _ _ => rfl) (de_var 1) de_int) (da_cons (de_tup da_nil) da_nil))))) dss_nil)
      (dss_cons (ds_if (dt_cmp (opr_eq hr.units) opl_eq (nomark _) (de_var 0) de_str) (dss_one (ds_ret (de_tup (da_cons (de_ix ix_seq opl_ix (fun _ _ => rfl) (de_var 1) de_int) (da_cons (de_tup (da_cons de_int da_nil)) da_nil))))) dss_nil)
      (dss_cons (ds_if (dw_pt (dw_or (dt_cmp op_in_seq opl_in rfl (de_var 0) (de_lis (da_cons de_str (da_cons de_str da_nil)))) (dw_or1 (dw_pt (dw_and (dt_cmp (opr_eq hr.units) opl_eq (nomark _) (de_var 0) de_str) (dw_and1 (dt_not (dt_val (de_call G__law_has_end hr rfl T.m__law_has_end T.F__law_has_end.kp T.b__law_has_end (da_cons (de_var 1) (da_cons (de_ix ix_seq opl_ix (fun _ _ => rfl) (de_var 1) de_int) da_nil))))))))))) (dss_one (ds_ret (de_tup (da_cons (de_ix ix_seq opl_ix (fun _ _ => rfl) (de_var 1) de_int) (da_cons (de_tup da_nil) da_nil))))) dss_nil)
      (dss_one (ds_ret (de_tup (da_cons (de_ix ix_seq opl_ix (fun _ _ => rfl) (de_var 1) de_int) (da_cons (de_ix ix_seq opl_ix (fun _ _ => rfl) (de_var 2) de_int) da_nil))))))))
theorem ok__law_moved {k : Nat} {sp sp__law_after sp__law_has_end : Sp'} (T : Tx K mg) (G__law_after : FnD P w K mg base k T.f__law_after T.d__law_after p__law_after sp__law_after) (G__law_has_end : FnD P w K mg base k T.f__law_has_end T.d__law_has_end p__law_has_end sp__law_has_end) (len : ∀ ds h Q E, sp ds h Q E → ds.length = 6)
    (rd : ∀ ds h Q E', sp ds h Q E' → K41.t__law_moved sp__law_after sp__law_has_end (ends Q) (slots K41.n__law_moved ds) h) : FnD P w K mg base (k + 1) T.f__law_moved T.d__law_moved p__law_moved sp := by
  refine fnD T.F__law_moved sc__law_moved len fun cdv A outer s H E hr E' => ⟨K41.t__law_moved sp__law_after sp__law_has_end, ?_, fun ds h Q q => rd ds h Q E' q⟩
  have sc := sc__law_moved
  exact (dss_cons (ds_if (dt_cmp (opr_eq hr.units) opl_eq (nomark _) (de_var 0) de_str) (dss_cons (ds_set (i := 6) sc.nd rfl (Or.inr rfl) (de_lc rfl sc.nd (di_rng1 rfl T.z_range (da_cons (de_callB cr_len cl_len rfl T.z_len boot'_len (da_cons (de_ix ix_seq opl_ix (fun _ _ => rfl) (de_var 1) de_int) da_nil)) da_nil)) (blkOk_by (N := K41.n__law_moved) (sc := defScope s__law_moved) (by decide +kernel)) (fun _ _ _ _ _ => pg_name (i := 9) sc.nd rfl (Or.inl rfl)) (fun _ _ _ _ _ => dts_one (dw_pt (dw_and (dt_val (de_ix ix_seq opl_ix (fun _ _ => rfl) (de_var 4) (de_var 9))) (dw_and1 (dt_cmp op_in_seq opl_in rfl (de_ix ix_seq opl_ix (fun _ _ => rfl) (de_ix ix_seq opl_ix (fun _ _ => rfl) (de_ix ix_seq opl_ix (fun _ _ => rfl) (de_var 1) de_int) (de_var 9)) de_int) (de_ix ix_seq opl_ix (fun _ _ => rfl) (de_var 3) de_int)))))) (fun _ _ _ _ _ => (de_ix ix_seq opl_ix (fun _ _ => rfl) (de_ix ix_seq opl_ix (fun _ _ => rfl) (de_ix ix_seq opl_ix (fun _ _ => rfl) (de_var 1) de_int) (de_var 9)) de_int))))
      (dss_one (ds_ret (de_tup (da_cons (de_callTy call_tupF cl_tup rfl T.z_tuple boot'_tuple (da_cons (de_lc rfl sc.nd (di_rng1 rfl T.z_range (da_cons (de_ix ix_seq opl_ix (fun _ _ => rfl) (de_var 1) de_int) da_nil)) (blkOk_by (N := K41.n__law_moved) (sc := defScope s__law_moved) (by decide +kernel)) (fun _ _ _ _ _ => pg_name (i := 10) sc.nd rfl (Or.inl rfl)) (fun _ _ _ _ _ => dts_one (dt_cmp op_in_seq opl_in rfl (de_var 10) (de_var 6))) (fun _ _ _ _ _ => (de_var 10))) da_nil)) (da_cons (de_tup da_nil) da_nil)))))) dss_nil)
      (dss_cons (ds_set (i := 7) sc.nd rfl (Or.inr rfl) (de_call G__law_after hr rfl T.m__law_after T.F__law_after.kp T.b__law_after (da_cons (de_var 1) (da_cons (de_ix ix_seq opl_ix (fun _ _ => rfl) (de_var 3) de_int) (da_cons (de_var 4) da_nil)))))
      (dss_cons (ds_mid (ds_if (dw_pt (dw_and (dt_cmp (opr_eq hr.units) opl_eq (nomark _) (de_var 0) de_str) (dw_and1 (dt_val (de_call G__law_has_end hr rfl T.m__law_has_end T.F__law_has_end.kp T.b__law_has_end (da_cons (de_var 1) (da_cons (de_var 7) da_nil))))))) (dss_one (ds_set (i := 7) sc.nd rfl (Or.inr rfl) (de_callTy call_tupF cl_tup rfl T.z_tuple boot'_tuple (da_cons (de_lc rfl sc.nd (di_rng1 rfl T.z_range (da_cons (de_ix ix_seq opl_ix (fun _ _ => rfl) (de_var 1) de_int) da_nil)) (blkOk_by (N := K41.n__law_moved) (sc := defScope s__law_moved) (by decide +kernel)) (fun _ _ _ _ _ => pg_name (i := 10) sc.nd rfl (Or.inl rfl)) (fun _ _ _ _ _ => dts_one (dw_pt (dw_or (dt_cmp op_in_seq opl_in rfl (de_var 10) (de_var 7)) (dw_or1 (dt_cmp op_in_seq opl_in rfl (de_var 10) (de_ix ix_seq opl_ix (fun _ _ => rfl) (de_var 1) de_int)))))) (fun _ _ _ _ _ => (de_var 10))) da_nil)))) dss_nil))
      (dss_cons (ds_if (dt_cmp op_in_seq opl_in rfl (de_var 0) (de_lis (da_cons de_str (da_cons de_str (da_cons de_str da_nil))))) (dss_one (ds_ret (de_tup (da_cons (de_var 7) (da_cons (de_tup da_nil) da_nil))))) dss_nil)
      (dss_cons (ds_set (i := 8) sc.nd rfl (Or.inr rfl) (de_call G__law_after hr rfl T.m__law_after T.F__law_after.kp T.b__law_after (da_cons (de_var 2) (da_cons (de_ix ix_seq opl_ix (fun _ _ => rfl) (de_var 3) de_int) (da_cons (de_var 5) da_nil)))))
      (dss_cons (ds_mid (ds_if (dw_pt (dw_and (dt_cmp (opr_eq hr.units) opl_eq (nomark _) (de_var 0) de_str) (dw_and1 (dt_val (de_call G__law_has_end hr rfl T.m__law_has_end T.F__law_has_end.kp T.b__law_has_end (da_cons (de_var 1) (da_cons (de_var 7) da_nil))))))) (dss_one (ds_set (i := 8) sc.nd rfl (Or.inr rfl) (de_callTy call_tupF cl_tup rfl T.z_tuple boot'_tuple (da_cons (de_lc rfl sc.nd (di_rng1 rfl T.z_range (da_cons (de_ix ix_seq opl_ix (fun _ _ => rfl) (de_var 2) de_int) da_nil)) (blkOk_by (N := K41.n__law_moved) (sc := defScope s__law_moved) (by decide +kernel)) (fun _ _ _ _ _ => pg_name (i := 10) sc.nd rfl (Or.inl rfl)) (fun _ _ _ _ _ => dts_one (dw_pt (dw_or (dt_cmp op_in_seq opl_in rfl (de_var 10) (de_var 8)) (dw_or1 (dt_cmp op_in_seq opl_in rfl (de_var 10) (de_ix ix_seq opl_ix (fun _ _ => rfl) (de_var 2) de_int)))))) (fun _ _ _ _ _ => (de_var 10))) da_nil)))) dss_nil))
      (dss_one (ds_ret (de_tup (da_cons (de_var 7) (da_cons (de_var 8) da_nil)))))))))))
end
end WK41
set_option Elab.async false
set_option linter.all false
set_option maxRecDepth 100000
set_option maxHeartbeats 8000000
namespace WK41
open PySem PySem.Spec PyProof.Rows L2 DL
section
variable {P : Program} {w : World} {K : PySem.W.Frag} {mg : Str → Option Value} {base : Heap}
theorem ok__law_joined_end {k : Nat} {sp sp__law_has_end : Sp'} (T : Tx K mg) (G__law_has_end : FnD P w K mg base k T.f__law_has_end T.d__law_has_end p__law_has_end sp__law_has_end) (len : ∀ ds h Q E, sp ds h Q E → ds.length = 4)
    (rd : ∀ ds h Q E', sp ds h Q E' → K41.t__law_joined_end sp__law_has_end (ends Q) (slots K41.n__law_joined_end ds) h) : FnD P w K mg base (k + 1) T.f__law_joined_end T.d__law_joined_end p__law_joined_end sp := by
  refine fnD T.F__law_joined_end sc__law_joined_end len fun cdv A outer s H E hr E' => ⟨K41.t__law_joined_end sp__law_has_end, ?_, fun ds h Q q => rd ds h Q E' q⟩
  have sc := sc__law_joined_end
  exact (dss_cons (ds_if (dt_cmp (opr_eq hr.units) opl_eq (nomark _) (de_var 0) de_str) (dss_one (ds_ret (de_cmp op_gt opl_gt (nomark _) (de_callB cr_len cl_len rfl T.z_len boot'_len (da_cons (de_lc rfl sc.nd (di_seq (de_ix ix_seq opl_ix (fun _ _ => rfl) (de_var 3) de_int)) (blkOk_by (N := K41.n__law_joined_end) (sc := defScope s__law_joined_end) (by decide +kernel)) (fun _ _ _ _ _ => pg_name (i := 5) sc.nd rfl (Or.inl rfl)) (fun _ _ _ _ _ => dts_one (dt_cmp op_in_seq opl_in rfl (de_var 5) (de_ix ix_seq opl_ix (fun _ _ => rfl) (de_var 1) de_int))) (fun _ _ _ _ _ => (de_var 5))) da_nil)) de_int))) dss_nil)
      (dss_cons (ds_set (i := 4) sc.nd rfl (Or.inl rfl) (de_call G__law_has_end hr rfl T.m__law_has_end T.F__law_has_end.kp T.b__law_has_end (da_cons (de_var 1) (da_cons (de_ix ix_seq opl_ix (fun _ _ => rfl) (de_var 3) de_int) da_nil))))
      (dss_cons (ds_if (dt_cmp (opr_eq hr.units) opl_eq (nomark _) (de_var 0) de_str) (dss_one (ds_ret (de_and (de_var 4) (de_one (de_call G__law_has_end hr rfl T.m__law_has_end T.F__law_has_end.kp T.b__law_has_end (da_cons (de_var 2) (da_cons (de_ix ix_seq opl_ix (fun _ _ => rfl) (de_var 3) de_int) da_nil))))))) dss_nil)
      (dss_cons (ds_if (dt_cmp (opr_eq hr.units) opl_eq (nomark _) (de_var 0) de_str) (dss_one (ds_ret (de_or (de_var 4) (de_one (de_call G__law_has_end hr rfl T.m__law_has_end T.F__law_has_end.kp T.b__law_has_end (da_cons (de_var 2) (da_cons (de_ix ix_seq opl_ix (fun _ _ => rfl) (de_var 3) de_int) da_nil))))))) dss_nil)
      (dss_cons (ds_if (dt_cmp (opr_eq hr.units) opl_eq (nomark _) (de_var 0) de_str) (dss_one (ds_ret (de_not (de_var 4)))) dss_nil)
      (dss_cons (ds_if (dt_cmp (opr_eq hr.units) opl_eq (nomark _) (de_var 0) de_str) (dss_one (ds_ret (de_call G__law_has_end hr rfl T.m__law_has_end T.F__law_has_end.kp T.b__law_has_end (da_cons (de_var 2) (da_cons (de_ix ix_seq opl_ix (fun _ _ => rfl) (de_var 3) de_int) da_nil))))) dss_nil)
      (dss_one (ds_ret (de_or (de_var 4) (de_one (de_and (de_cmp (opr_eq hr.units) opl_eq (nomark _) (de_var 0) de_str) (de_one (de_cmp (opr_eq hr.units) opl_eq (nomark _) (de_ix ix_seq opl_ix (fun _ _ => rfl) (de_var 3) de_int) (de_tup (da_cons de_int da_nil)))))))))))))))
theorem ok__law_deed_chart {k : Nat} {sp sp__law_truths sp__law_opened sp__law_moved sp__law_joined_end : Sp'} (T : Tx K mg) (G__law_truths : FnD P w K mg base k T.f__law_truths T.d__law_truths p__law_truths sp__law_truths) (G__law_opened : FnD P w K mg base k T.f__law_opened T.d__law_opened p__law_opened sp__law_opened) (G__law_moved : FnD P w K mg base k T.f__law_moved T.d__law_moved p__law_moved sp__law_moved) (G__law_joined_end : FnD P w K mg base k T.f__law_joined_end T.d__law_joined_end p__law_joined_end sp__law_joined_end) (len : ∀ ds h Q E, sp ds h Q E → ds.length = 4)
    (rd : ∀ ds h Q E', sp ds h Q E' → K41.t__law_deed_chart sp__law_truths sp__law_opened sp__law_moved sp__law_joined_end (ends Q) (slots K41.n__law_deed_chart ds) h) : FnD P w K mg base (k + 1) T.f__law_deed_chart T.d__law_deed_chart p__law_deed_chart sp := by
  refine fnD T.F__law_deed_chart sc__law_deed_chart len fun cdv A outer s H E hr E' => ⟨K41.t__law_deed_chart sp__law_truths sp__law_opened sp__law_moved sp__law_joined_end, ?_, fun ds h Q q => rd ds h Q E' q⟩
  have sc := sc__law_deed_chart
  exact (dss_cons (ds_set (i := 4) sc.nd rfl (Or.inl rfl) (de_call G__law_truths hr rfl T.m__law_truths T.F__law_truths.kp T.b__law_truths (da_cons (de_var 1) (da_cons (de_var 3) da_nil))))
      (dss_cons (ds_set (i := 5) sc.nd rfl (Or.inl rfl) (de_call G__law_truths hr rfl T.m__law_truths T.F__law_truths.kp T.b__law_truths (da_cons (de_var 2) (da_cons (de_var 3) da_nil))))
      (dss_cons (ds_set (i := 6) sc.nd rfl (Or.inl rfl) (de_own (da_cons (de_call G__law_opened hr rfl T.m__law_opened T.F__law_opened.kp T.b__law_opened (da_cons (de_var 0) (da_cons (de_var 1) (da_cons (de_var 2) da_nil)))) da_nil)))
      (dss_cons (ds_set (i := 7) sc.nd rfl (Or.inl rfl) (de_edisp (room65 hr) (de_ix ix_seq opl_ix (fun _ _ => rfl) (de_var 6) de_int) de_int))
      (dss_cons (ds_set (i := 8) sc.nd rfl (Or.inl rfl) (de_own (da_cons (de_tup da_nil) da_nil)))
      (dss_cons (ds_set (i := 9) sc.nd rfl (Or.inl rfl) (de_own da_nil))
      (dss_cons (ds_for (passes_of rfl) rfl (di_rng1 rfl T.z_range (da_cons de_int da_nil)) (dg_name (i := 10) sc.nd rfl (Or.inl rfl)) (dss_one (ds_mid (ds_if (dt_cmp op_lt opl_lt (nomark _) (de_var 10) (de_callB cr_len cl_len rfl T.z_len boot'_len (da_cons (de_var 6) da_nil))) (dss_cons (ds_set (i := 11) sc.nd rfl (Or.inl rfl) (de_own da_nil))
      (dss_cons (ds_for (passes_of rfl) rfl (di_rng1 rfl T.z_range (da_cons (de_callB cr_len cl_len rfl T.z_len boot'_len (da_cons (de_var 3) da_nil)) da_nil)) (dg_name (i := 12) sc.nd rfl (Or.inl rfl)) (dss_cons (ds_set (i := 13) sc.nd rfl (Or.inl rfl) (de_call G__law_moved hr rfl T.m__law_moved T.F__law_moved.kp T.b__law_moved (da_cons (de_var 0) (da_cons (de_var 1) (da_cons (de_var 2) (da_cons (de_ix ix_seq opl_ix (fun _ _ => rfl) (de_var 6) (de_var 10)) (da_cons (de_ix ix_seq opl_ix (fun _ _ => rfl) (de_var 4) (de_var 12)) (da_cons (de_ix ix_seq opl_ix (fun _ _ => rfl) (de_var 5) (de_var 12)) da_nil))))))))
      (dss_cons (ds_mid (ds_if (dt_cmp (op_enotin (room65 hr)) opl_lR2 rfl (de_var 13) (de_var 7)) (dss_cons (ds_asg (de_callB cr_len cl_len rfl T.z_len boot'_len (da_cons (de_var 6) da_nil)) (dg_esub (room65 hr) (de_var 7) (de_var 13)))
      (dss_cons (ds_expr (de_append (de_var 6) (da_cons (de_var 13) da_nil)))
      (dss_one (ds_expr (de_append (de_var 8) (da_cons (de_op opr_add opl_add (de_ix ix_seq opl_ix (fun _ _ => rfl) (de_var 8) (de_var 10)) (de_tup (da_cons (de_ix ix_seq opl_ix (fun _ _ => rfl) (de_var 3) (de_var 12)) da_nil))) da_nil)))))) dss_nil))
      (dss_one (ds_expr (de_append (de_var 11) (da_cons (de_ix (ix_ded (room65 hr)) opl_lR2 (fun _ _ => rfl) (de_var 7) (de_var 13)) da_nil)))))))
      (dss_one (ds_expr (de_append (de_var 9) (da_cons (de_var 11) da_nil)))))) dss_nil))))
      (dss_cons (ds_setlc rfl sc.nd rfl rfl (sw_true rfl rfl rfl (by decide +kernel)) (di_seq (de_var 6)) (blkOk_by (N := K41.n__law_deed_chart) (sc := defScope s__law_deed_chart) (by decide +kernel)) (fun _ _ _ _ _ => pg_name (i := 13) sc.nd rfl (Or.inl rfl)) (fun _ _ _ _ _ => dts_nil) (fun _ _ _ _ _ => (de_call G__law_joined_end hr rfl T.m__law_joined_end T.F__law_joined_end.kp T.b__law_joined_end (da_cons (de_var 0) (da_cons (de_var 1) (da_cons (de_var 2) (da_cons (de_var 13) da_nil)))))))
      (dss_one (ds_ret (de_lis (da_cons (de_var 9) (da_cons (de_var 14) (da_cons (de_var 8) (da_cons (de_lc rfl sc.nd (di_seq (de_var 3)) (blkOk_by (N := K41.n__law_deed_chart) (sc := defScope s__law_deed_chart) (by decide +kernel)) (fun _ _ _ _ _ => pg_name (i := 15) sc.nd rfl (Or.inl rfl)) (fun _ _ _ _ _ => dts_nil) (fun _ _ _ _ _ => (de_tup (da_cons (de_tup da_nil) (da_cons (de_var 15) da_nil))))) da_nil)))))))))))))))
theorem ok__law_speaks {k : Nat} {sp sp__law_truths sp__law_has_end sp__law_after : Sp'} (T : Tx K mg) (G__law_truths : FnD P w K mg base k T.f__law_truths T.d__law_truths p__law_truths sp__law_truths) (G__law_has_end : FnD P w K mg base k T.f__law_has_end T.d__law_has_end p__law_has_end sp__law_has_end) (G__law_after : FnD P w K mg base k T.f__law_after T.d__law_after p__law_after sp__law_after) (len : ∀ ds h Q E, sp ds h Q E → ds.length = 4)
    (rd : ∀ ds h Q E', sp ds h Q E' → K41.t__law_speaks sp__law_truths sp__law_has_end sp__law_after (ends Q) (slots K41.n__law_speaks ds) h) : FnD P w K mg base (k + 1) T.f__law_speaks T.d__law_speaks p__law_speaks sp := by
  refine fnD T.F__law_speaks sc__law_speaks len fun cdv A outer s H E hr E' => ⟨K41.t__law_speaks sp__law_truths sp__law_has_end sp__law_after, ?_, fun ds h Q q => rd ds h Q E' q⟩
  have sc := sc__law_speaks
  exact (dss_cons (ds_set (i := 4) sc.nd rfl (Or.inl rfl) (de_call G__law_truths hr rfl T.m__law_truths T.F__law_truths.kp T.b__law_truths (da_cons (de_var 0) (da_cons (de_var 2) da_nil))))
      (dss_cons (ds_set (i := 5) sc.nd rfl (Or.inl rfl) (de_own (da_cons (de_tup (da_cons (de_ix ix_seq opl_ix (fun _ _ => rfl) (de_var 0) de_int) (da_cons de_int da_nil))) da_nil)))
      (dss_cons (ds_set (i := 6) sc.nd rfl (Or.inl rfl) (de_edisp (room65 hr) (de_ix ix_seq opl_ix (fun _ _ => rfl) (de_var 5) de_int) de_bl))
      (dss_cons (ds_for (passes_of rfl) rfl (di_rng1 rfl T.z_range (da_cons (de_var 3) da_nil)) (dg_name (i := 7) sc.nd rfl (Or.inl rfl)) (dss_one (ds_mid (ds_if (dt_cmp op_lt opl_lt (nomark _) (de_var 7) (de_callB cr_len cl_len rfl T.z_len boot'_len (da_cons (de_var 5) da_nil))) (dss_cons (ds_set (i := 8) sc.nd rfl (Or.inl rfl) (de_ix ix_seq opl_ix (fun _ _ => rfl) (de_var 5) (de_var 7)))
      (dss_cons (ds_if (dt_cmp (opr_ne hr.units) opl_ne (nomark _) (de_call G__law_has_end hr rfl T.m__law_has_end T.F__law_has_end.kp T.b__law_has_end (da_cons (de_var 0) (da_cons (de_ix ix_seq opl_ix (fun _ _ => rfl) (de_var 8) de_int) da_nil))) (de_ix ix_seq opl_ix (fun _ _ => rfl) (de_ix ix_seq opl_ix (fun _ _ => rfl) (de_var 1) de_int) (de_ix ix_seq opl_ix (fun _ _ => rfl) (de_var 8) de_int))) (dss_one (ds_ret de_bl)) dss_nil)
      (dss_one (ds_for (passes_of rfl) rfl (di_rng1 rfl T.z_range (da_cons (de_callB cr_len cl_len rfl T.z_len boot'_len (da_cons (de_var 4) da_nil)) da_nil)) (dg_name (i := 9) sc.nd rfl (Or.inl rfl)) (dss_cons (ds_set (i := 10) sc.nd rfl (Or.inl rfl) (de_tup (da_cons (de_call G__law_after hr rfl T.m__law_after T.F__law_after.kp T.b__law_after (da_cons (de_var 0) (da_cons (de_ix ix_seq opl_ix (fun _ _ => rfl) (de_var 8) de_int) (da_cons (de_ix ix_seq opl_ix (fun _ _ => rfl) (de_var 4) (de_var 9)) da_nil)))) (da_cons (de_ix ix_seq opl_ix (fun _ _ => rfl) (de_ix ix_seq opl_ix (fun _ _ => rfl) (de_ix ix_seq opl_ix (fun _ _ => rfl) (de_var 1) de_int) (de_ix ix_seq opl_ix (fun _ _ => rfl) (de_var 8) de_int)) (de_var 9)) da_nil))))
      (dss_one (ds_mid (ds_if (dt_cmp (op_enotin (room65 hr)) opl_lR2 rfl (de_var 10) (de_var 6)) (dss_cons (ds_asg de_bl (dg_esub (room65 hr) (de_var 6) (de_var 10)))
      (dss_one (ds_expr (de_append (de_var 5) (da_cons (de_var 10) da_nil))))) dss_nil)))))))) dss_nil))))
      (dss_one (ds_ret de_bl))))))
theorem ok__law_changed {k : Nat} {sp sp__law_draw sp__law_condition : Sp'} (T : Tx K mg) (G__law_draw : FnD P w K mg base k T.f__law_draw T.d__law_draw p__law_draw sp__law_draw) (G__law_condition : FnD P w K mg base k T.f__law_condition T.d__law_condition p__law_condition sp__law_condition) (len : ∀ ds h Q E, sp ds h Q E → ds.length = 4)
    (rd : ∀ ds h Q E', sp ds h Q E' → K41.t__law_changed sp__law_draw sp__law_condition (ends Q) (slots K41.n__law_changed ds) h) : FnD P w K mg base (k + 1) T.f__law_changed T.d__law_changed p__law_changed sp := by
  refine fnD T.F__law_changed sc__law_changed len fun cdv A outer s H E hr E' => ⟨K41.t__law_changed sp__law_draw sp__law_condition, ?_, fun ds h Q q => rd ds h Q E' q⟩
  have sc := sc__law_changed
  exact (dss_cons (ds_set (i := 4) sc.nd rfl (Or.inl rfl) (de_call G__law_draw hr rfl T.m__law_draw T.F__law_draw.kp T.b__law_draw (da_cons (de_var 0) (da_cons de_int da_nil))))
      (dss_cons (ds_set (i := 5) sc.nd rfl (Or.inr rfl) (de_call G__law_draw hr rfl T.m__law_draw T.F__law_draw.kp T.b__law_draw (da_cons (de_var 0) (da_cons (de_ix ix_seq opl_ix (fun _ _ => rfl) (de_var 3) de_int) da_nil))))
      (dss_cons (ds_set (i := 6) sc.nd rfl (Or.inl rfl) (de_callTy call_list_of cl_listO rfl T.z_list boot'_list (da_cons (de_ix ix_seq opl_ix (fun _ _ => rfl) (de_var 3) de_int) da_nil)))
      (dss_cons (ds_if (dw_pt (dw_or (dt_cmp (opr_eq hr.units) opl_eq (nomark _) (de_var 4) de_int) (dw_or1 (dt_not (dt_tru (de_var 6)))))) (dss_cons (ds_set (i := 7) sc.nd rfl (Or.inl rfl) (de_callTy call_tupF cl_tup rfl T.z_tuple boot'_tuple (da_cons (de_lc rfl sc.nd (di_rng1 rfl T.z_range (da_cons (de_ix ix_seq opl_ix (fun _ _ => rfl) (de_var 3) de_int) da_nil)) (blkOk_by (N := K41.n__law_changed) (sc := defScope s__law_changed) (by decide +kernel)) (fun _ _ _ _ _ => pg_name (i := 11) sc.nd rfl (Or.inl rfl)) (fun _ _ _ _ _ => dts_one (dt_cmp (opr_ne hr.units) opl_ne (nomark _) (de_cmp op_in_seq opl_in rfl (de_var 11) (de_ix ix_seq opl_ix (fun _ _ => rfl) (de_var 3) de_int)) (de_cmp (opr_eq hr.units) opl_eq (nomark _) (de_var 11) (de_var 5)))) (fun _ _ _ _ _ => (de_var 11))) da_nil)))
      (dss_one (ds_ret (de_tup (da_cons (de_var 1) (da_cons (de_ix ix_seq opl_ix (fun _ _ => rfl) (de_var 3) de_int) (da_cons (de_ix ix_seq opl_ix (fun _ _ => rfl) (de_var 3) de_int) (da_cons (de_var 7) (da_cons (de_ix ix_seq opl_ix (fun _ _ => rfl) (de_var 3) de_int) da_nil))))))))) dss_nil)
      (dss_cons (ds_if (dt_cmp (opr_eq hr.units) opl_eq (nomark _) (de_var 4) de_int) (dss_cons (ds_set (i := 8) sc.nd rfl (Or.inl rfl) (de_callTy call_tupF cl_tup rfl T.z_tuple boot'_tuple (da_cons (de_lc rfl sc.nd (di_rng1 rfl T.z_range (da_cons (de_ix ix_seq opl_ix (fun _ _ => rfl) (de_var 3) de_int) da_nil)) (blkOk_by (N := K41.n__law_changed) (sc := defScope s__law_changed) (by decide +kernel)) (fun _ _ _ _ _ => pg_name (i := 11) sc.nd rfl (Or.inl rfl)) (fun _ _ _ _ _ => dts_one (dt_cmp (opr_ne hr.units) opl_ne (nomark _) (de_cmp op_in_seq opl_in rfl (de_var 11) (de_ix ix_seq opl_ix (fun _ _ => rfl) (de_var 3) de_int)) (de_cmp (opr_eq hr.units) opl_eq (nomark _) (de_var 11) (de_var 5)))) (fun _ _ _ _ _ => (de_var 11))) da_nil)))
      (dss_one (ds_ret (de_tup (da_cons (de_var 1) (da_cons (de_ix ix_seq opl_ix (fun _ _ => rfl) (de_var 3) de_int) (da_cons (de_var 8) (da_cons (de_ix ix_seq opl_ix (fun _ _ => rfl) (de_var 3) de_int) (da_cons (de_ix ix_seq opl_ix (fun _ _ => rfl) (de_var 3) de_int) da_nil))))))))) dss_nil)
      (dss_cons (ds_set (i := 9) sc.nd rfl (Or.inl rfl) (de_call G__law_draw hr rfl T.m__law_draw T.F__law_draw.kp T.b__law_draw (da_cons (de_var 0) (da_cons (de_callB cr_len cl_len rfl T.z_len boot'_len (da_cons (de_var 6) da_nil)) da_nil))))
      (dss_cons (ds_set (i := 10) sc.nd rfl (Or.inl rfl) (de_ix ix_seq opl_ix (fun _ _ => rfl) (de_var 6) (de_var 9)))
      (dss_cons (ds_mid (ds_if (dt_cmp (opr_eq hr.units) opl_eq (nomark _) (de_var 4) de_int) (dss_one (ds_asg (de_tup (da_cons (de_ix ix_seq opl_ix (fun _ _ => rfl) (de_var 10) de_int) (da_cons (de_call G__law_condition hr rfl T.m__law_condition T.F__law_condition.kp T.b__law_condition (da_cons (de_var 0) (da_cons (de_var 1) (da_cons (de_var 2) (da_cons de_int da_nil))))) (da_cons (de_ix ix_seq opl_ix (fun _ _ => rfl) (de_var 10) de_int) da_nil)))) (dg_sub (de_var 6) (de_var 9)))) (dss_one (ds_asg (de_tup (da_cons (de_ix ix_seq opl_ix (fun _ _ => rfl) (de_var 10) de_int) (da_cons (de_ix ix_seq opl_ix (fun _ _ => rfl) (de_var 10) de_int) (da_cons (de_var 5) da_nil)))) (dg_sub (de_var 6) (de_var 9))))))
      (dss_one (ds_ret (de_tup (da_cons (de_var 1) (da_cons (de_ix ix_seq opl_ix (fun _ _ => rfl) (de_var 3) de_int) (da_cons (de_ix ix_seq opl_ix (fun _ _ => rfl) (de_var 3) de_int) (da_cons (de_ix ix_seq opl_ix (fun _ _ => rfl) (de_var 3) de_int) (da_cons (de_callTy call_tupF cl_tup rfl T.z_tuple boot'_tuple (da_cons (de_var 6) da_nil)) da_nil))))))))))))))))
theorem ok__law_plain_machine {k : Nat} {sp sp__law_draw sp__law_machine : Sp'} (T : Tx K mg) (G__law_draw : FnD P w K mg base k T.f__law_draw T.d__law_draw p__law_draw sp__law_draw) (G__law_machine : FnD P w K mg base k T.f__law_machine T.d__law_machine p__law_machine sp__law_machine) (len : ∀ ds h Q E, sp ds h Q E → ds.length = 2)
    (rd : ∀ ds h Q E', sp ds h Q E' → K41.t__law_plain_machine sp__law_draw sp__law_machine (ends Q) (slots K41.n__law_plain_machine ds) h) : FnD P w K mg base (k + 1) T.f__law_plain_machine T.d__law_plain_machine p__law_plain_machine sp := by
  refine fnD T.F__law_plain_machine sc__law_plain_machine len fun cdv A outer s H E hr E' => ⟨K41.t__law_plain_machine sp__law_draw sp__law_machine, ?_, fun ds h Q q => rd ds h Q E' q⟩
  have sc := sc__law_plain_machine
  exact (dss_cons (ds_set (i := 2) sc.nd rfl (Or.inl rfl) (de_ix ix_seq opl_ix (fun _ _ => rfl) (de_lis (da_cons (de_lis (da_cons de_int (da_cons de_int (da_cons de_int da_nil)))) (da_cons (de_lis (da_cons de_int (da_cons de_int (da_cons de_int da_nil)))) (da_cons (de_lis (da_cons de_int (da_cons de_int (da_cons de_int da_nil)))) (da_cons (de_lis (da_cons de_int (da_cons de_int (da_cons de_int da_nil)))) (da_cons (de_lis (da_cons de_int (da_cons de_int (da_cons de_int da_nil)))) (da_cons (de_lis (da_cons de_int (da_cons de_int (da_cons de_int da_nil)))) da_nil))))))) (de_call G__law_draw hr rfl T.m__law_draw T.F__law_draw.kp T.b__law_draw (da_cons (de_var 0) (da_cons de_int da_nil)))))
      (dss_one (ds_ret (de_call G__law_machine hr rfl T.m__law_machine T.F__law_machine.kp T.b__law_machine (da_cons (de_var 0) (da_cons (de_ix ix_seq opl_ix (fun _ _ => rfl) (de_var 1) de_int) (da_cons (de_ix ix_seq opl_ix (fun _ _ => rfl) (de_var 1) de_int) (da_cons (de_ix ix_seq opl_ix (fun _ _ => rfl) (de_var 2) de_int) (da_cons (de_ix ix_seq opl_ix (fun _ _ => rfl) (de_var 2) de_int) (da_cons (de_ix ix_seq opl_ix (fun _ _ => rfl) (de_var 2) de_int) da_nil))))))))))
theorem ok__law_tape {k : Nat} {sp  : Sp'} (T : Tx K mg)  (len : ∀ ds h Q E, sp ds h Q E → ds.length = 1)
    (rd : ∀ ds h Q E', sp ds h Q E' → K00.t__law_tape  (ends Q) (slots K00.n__law_tape ds) h) : FnD P w K mg base (k + 1) T.f__law_tape T.d__law_tape p__law_tape sp := by
  refine fnD T.F__law_tape sc__law_tape len fun cdv A outer s H E hr E' => ⟨K00.t__law_tape , ?_, fun ds h Q q => rd ds h Q E' q⟩
  have sc := sc__law_tape
  exact (dss_cons (ds_set (i := 1) sc.nd rfl (Or.inl rfl) de_int)
      (dss_cons (ds_for (passes_of rfl) rfl (di_seq (de_var 0)) (dg_name (i := 2) sc.nd rfl (Or.inl rfl)) (dss_one (ds_set (i := 1) sc.nd rfl (Or.inl rfl) (de_op op_mod opl_mod (de_callTy call_int1 cl_int rfl T.z_int boot'_int (da_cons (de_op opr_add opl_add (de_op op_mul opl_mul (de_var 1) de_int) (de_callB call_abs cl_abs rfl T.z_abs boot'_abs (da_cons (de_callTy call_int1 cl_int rfl T.z_int boot'_int (da_cons (de_var 2) da_nil)) da_nil))) da_nil)) de_int))))
      (dss_one (ds_ret (de_own (da_cons (de_callTy call_list_of cl_list rfl T.z_list boot'_list (da_cons (de_var 0) da_nil)) (da_cons de_int (da_cons de_int (da_cons (de_var 1) da_nil)))))))))
theorem ok__law_draw {k : Nat} {sp  : Sp'} (T : Tx K mg)  (len : ∀ ds h Q E, sp ds h Q E → ds.length = 2)
    (rd : ∀ ds h Q E', sp ds h Q E' → K00.t__law_draw  (ends Q) (slots K00.n__law_draw ds) h) : FnD P w K mg base (k + 1) T.f__law_draw T.d__law_draw p__law_draw sp := by
  refine fnD T.F__law_draw sc__law_draw len fun cdv A outer s H E hr E' => ⟨K00.t__law_draw , ?_, fun ds h Q q => rd ds h Q E' q⟩
  have sc := sc__law_draw
  exact (dss_cons (ds_mid (ds_if (dt_cmp (opr_eq hr.units) opl_eq (nomark _) (de_ix ix_seq opl_ix (fun _ _ => rfl) (de_var 0) de_int) de_int) (dss_cons (ds_set (i := 2) sc.nd rfl (Or.inl rfl) (de_ix ix_seq opl_ix (fun _ _ => rfl) (de_var 0) de_int))
      (dss_cons (ds_set (i := 3) sc.nd rfl (Or.inl rfl) de_int)
      (dss_cons (ds_mid (ds_if (dt_cmp op_lt opl_lt (nomark _) (de_var 2) (de_callB cr_len cl_len rfl T.z_len boot'_len (da_cons (de_ix ix_seq opl_ix (fun _ _ => rfl) (de_var 0) de_int) da_nil))) (dss_one (ds_set (i := 3) sc.nd rfl (Or.inl rfl) (de_callB call_abs cl_abs rfl T.z_abs boot'_abs (da_cons (de_callTy call_int1 cl_int rfl T.z_int boot'_int (da_cons (de_ix ix_seq opl_ix (fun _ _ => rfl) (de_ix ix_seq opl_ix (fun _ _ => rfl) (de_var 0) de_int) (de_var 2)) da_nil)) da_nil)))) (dss_cons (ds_asg (de_op op_mod opl_mod (de_callTy call_int1 cl_int rfl T.z_int boot'_int (da_cons (de_op opr_add opl_add (de_op opr_add opl_add (de_op op_mul opl_mul (de_ix ix_seq opl_ix (fun _ _ => rfl) (de_var 0) de_int) de_int) (de_var 2)) de_int) da_nil)) de_int) (dg_sub (de_var 0) de_int))
      (dss_one (ds_set (i := 3) sc.nd rfl (Or.inl rfl) (de_ix ix_seq opl_ix (fun _ _ => rfl) (de_var 0) de_int))))))
      (dss_cons (ds_asg (de_op opr_add opl_add (de_var 2) de_int) (dg_sub (de_var 0) de_int))
      (dss_cons (ds_if (dt_cmp op_lt opl_lt (nomark _) (de_var 3) (de_op op_pow opl_pow de_int de_int)) (dss_cons (ds_set (i := 3) sc.nd rfl (Or.inl rfl) (de_op op_mod opl_mod (de_callTy call_int1 cl_int rfl T.z_int boot'_int (da_cons (de_op opr_add opl_add (de_op opr_add opl_add (de_op op_mul opl_mul (de_var 3) de_int) (de_op op_mul opl_mul (de_var 2) de_int)) de_int) da_nil)) de_int))
      (dss_cons (ds_set (i := 3) sc.nd rfl (Or.inl rfl) (de_op op_mod opl_mod (de_callTy call_int1 cl_int rfl T.z_int boot'_int (da_cons (de_op op_mul opl_mul (de_var 3) de_int) da_nil)) de_int))
      (dss_one (ds_ret (de_op op_mod opl_mod (de_callTy call_int1 cl_int rfl T.z_int boot'_int (da_cons (de_var 3) da_nil)) (de_callB (call_max2 rfl) cl_max rfl T.z_max boot'_max (da_cons (de_var 1) (da_cons de_int da_nil)))))))) dss_nil)
      (dss_one (ds_asg (de_var 3) (dg_sub (de_var 0) de_int)))))))) dss_nil))
      (dss_cons (ds_set (i := 3) sc.nd rfl (Or.inl rfl) (de_ix ix_seq opl_ix (fun _ _ => rfl) (de_var 0) de_int))
      (dss_cons (ds_asg (de_op op_fdivW opl_div (de_var 3) (de_callB (call_max2 rfl) cl_max rfl T.z_max boot'_max (da_cons (de_var 1) (da_cons de_int da_nil)))) (dg_sub (de_var 0) de_int))
      (dss_one (ds_ret (de_op op_mod opl_mod (de_callTy call_int1 cl_int rfl T.z_int boot'_int (da_cons (de_var 3) da_nil)) (de_callB (call_max2 rfl) cl_max rfl T.z_max boot'_max (da_cons (de_var 1) (da_cons de_int da_nil)))))))))
end
end WK41
set_option Elab.async false
set_option linter.all false
set_option maxRecDepth 100000
set_option maxHeartbeats 8000000
namespace WK41
open PySem PySem.Spec PyProof.Rows L2 DL
section
variable {P : Program} {w : World} {K : PySem.W.Frag} {mg : Str → Option Value} {base : Heap}
theorem ok__law_whole {k : Nat} {sp  : Sp'} (T : Tx K mg)  (len : ∀ ds h Q E, sp ds h Q E → ds.length = 1)
    (rd : ∀ ds h Q E', sp ds h Q E' → K00.t__law_whole  (ends Q) (slots K00.n__law_whole ds) h) : FnD P w K mg base (k + 1) T.f__law_whole T.d__law_whole p__law_whole sp := by
  refine fnD T.F__law_whole sc__law_whole len fun cdv A outer s H E hr E' => ⟨K00.t__law_whole , ?_, fun ds h Q q => rd ds h Q E' q⟩
  have sc := sc__law_whole
  exact (dss_one (ds_ret (de_and (de_callB call_isi cl_is rfl T.z_isinstance boot'_isinstance (da_cons (de_var 0) (da_cons (de_blt rfl T.z_int boot'_int) da_nil))) (de_one (de_not (de_callB call_isi cl_is rfl T.z_isinstance boot'_isinstance (da_cons (de_var 0) (da_cons (de_blt rfl T.z_bool boot'_bool) da_nil))))))))
theorem ok__law_names {k : Nat} {sp sp__law_draw : Sp'} (T : Tx K mg) (G__law_draw : FnD P w K mg base k T.f__law_draw T.d__law_draw p__law_draw sp__law_draw) (len : ∀ ds h Q E, sp ds h Q E → ds.length = 1)
    (rd : ∀ ds h Q E', sp ds h Q E' → K00.t__law_names sp__law_draw (ends Q) (slots K00.n__law_names ds) h) : FnD P w K mg base (k + 1) T.f__law_names T.d__law_names p__law_names sp := by
  refine fnD T.F__law_names sc__law_names len fun cdv A outer s H E hr E' => ⟨K00.t__law_names sp__law_draw, ?_, fun ds h Q q => rd ds h Q E' q⟩
  have sc := sc__law_names
  exact (dss_cons (ds_set (i := 1) sc.nd rfl (Or.inl rfl) de_str)
      (dss_cons (ds_set (i := 2) sc.nd rfl (Or.inl rfl) (de_lis (da_cons de_str (da_cons de_str (da_cons de_str (da_cons de_str (da_cons de_str (da_cons de_str da_nil))))))))
      (dss_cons (ds_set (i := 3) sc.nd rfl (Or.inl rfl) (de_ix ix_seq opl_ix (fun _ _ => rfl) (de_lis (da_cons de_str (da_cons de_str (da_cons de_str (da_cons de_str (da_cons de_str da_nil)))))) (de_call G__law_draw hr rfl T.m__law_draw T.F__law_draw.kp T.b__law_draw (da_cons (de_var 0) (da_cons de_int da_nil)))))
      (dss_cons (ds_set (i := 4) sc.nd rfl (Or.inl rfl) (de_own da_nil))
      (dss_cons (ds_for (passes_of rfl) rfl (di_rng1 rfl T.z_range (da_cons (de_ix ix_seq opl_ix (fun _ _ => rfl) (de_lis (da_cons de_int (da_cons de_int (da_cons de_int (da_cons de_int (da_cons de_int (da_cons de_int da_nil))))))) (de_call G__law_draw hr rfl T.m__law_draw T.F__law_draw.kp T.b__law_draw (da_cons (de_var 0) (da_cons de_int da_nil)))) da_nil)) (dg_name (i := 5) sc.nd rfl (Or.inl rfl)) (dss_cons (ds_set (i := 6) sc.nd rfl (Or.inl rfl) (de_op opr_add opl_add (de_var 3) (de_ix ix_seq opl_ix (fun _ _ => rfl) (de_var 1) (de_call G__law_draw hr rfl T.m__law_draw T.F__law_draw.kp T.b__law_draw (da_cons (de_var 0) (da_cons (de_callB cr_len cl_len rfl T.z_len boot'_len (da_cons (de_var 1) da_nil)) da_nil))))))
      (dss_cons (ds_mid (ds_if (dt_cmp (opr_eq hr.units) opl_eq (nomark _) (de_call G__law_draw hr rfl T.m__law_draw T.F__law_draw.kp T.b__law_draw (da_cons (de_var 0) (da_cons de_int da_nil))) de_int) (dss_one (ds_set (i := 6) sc.nd rfl (Or.inl rfl) (de_op opr_add opl_add (de_var 6) (de_ix ix_seq opl_ix (fun _ _ => rfl) (de_var 1) (de_call G__law_draw hr rfl T.m__law_draw T.F__law_draw.kp T.b__law_draw (da_cons (de_var 0) (da_cons (de_callB cr_len cl_len rfl T.z_len boot'_len (da_cons (de_var 1) da_nil)) da_nil))))))) dss_nil))
      (dss_cons (ds_mid (ds_if (dt_cmp (opr_eq hr.units) opl_eq (nomark _) (de_call G__law_draw hr rfl T.m__law_draw T.F__law_draw.kp T.b__law_draw (da_cons (de_var 0) (da_cons de_int da_nil))) de_int) (dss_one (ds_set (i := 6) sc.nd rfl (Or.inl rfl) (de_ix ix_seq opl_ix (fun _ _ => rfl) (de_var 2) (de_call G__law_draw hr rfl T.m__law_draw T.F__law_draw.kp T.b__law_draw (da_cons (de_var 0) (da_cons de_int da_nil)))))) dss_nil))
      (dss_one (ds_mid (ds_if (dt_cmp op_notIn_seq opl_in rfl (de_var 6) (de_var 4)) (dss_one (ds_expr (de_append (de_var 4) (da_cons (de_var 6) da_nil)))) dss_nil)))))))
      (dss_one (ds_ret (de_callTy call_tupF cl_tup rfl T.z_tuple boot'_tuple (da_cons (de_var 4) da_nil)))))))))
theorem ok__law_kinds {k : Nat} {sp sp__law_kinds : Sp'} (T : Tx K mg) (G__law_kinds : FnD P w K mg base k T.f__law_kinds T.d__law_kinds p__law_kinds sp__law_kinds) (len : ∀ ds h Q E, sp ds h Q E → ds.length = 1)
    (rd : ∀ ds h Q E', sp ds h Q E' → K00.t__law_kinds sp__law_kinds (ends Q) (slots K00.n__law_kinds ds) h) : FnD P w K mg base (k + 1) T.f__law_kinds T.d__law_kinds p__law_kinds sp := by
  refine fnD T.F__law_kinds sc__law_kinds len fun cdv A outer s H E hr E' => ⟨K00.t__law_kinds sp__law_kinds, ?_, fun ds h Q q => rd ds h Q E' q⟩
  have sc := sc__law_kinds
  exact (dss_cons (ds_if (dt_cmp (opr_eq hr.units) opl_eq (nomark _) (de_ix ix_seq opl_ix (fun _ _ => rfl) (de_var 0) de_int) de_str) (dss_one (ds_ret (de_op opr_add opl_add (de_op opr_add opl_add de_int (de_call G__law_kinds hr rfl T.m__law_kinds T.F__law_kinds.kp T.b__law_kinds (da_cons (de_ix ix_seq opl_ix (fun _ _ => rfl) (de_var 0) de_int) da_nil))) (de_call G__law_kinds hr rfl T.m__law_kinds T.F__law_kinds.kp T.b__law_kinds (da_cons (de_ix ix_seq opl_ix (fun _ _ => rfl) (de_var 0) de_int) da_nil))))) dss_nil)
      (dss_cons (ds_if (dt_cmp (opr_eq hr.units) opl_eq (nomark _) (de_ix ix_seq opl_ix (fun _ _ => rfl) (de_var 0) de_int) de_str) (dss_one (ds_ret (de_op opr_add opl_add de_int (de_callB (cr_sum rfl) cl_sum rfl T.z_sum boot'_sum (da_cons (de_lc rfl sc.nd (di_seq (de_ix ix_seq opl_ix (fun _ _ => rfl) (de_var 0) de_int)) (blkOk_by (N := K00.n__law_kinds) (sc := defScope s__law_kinds) (by decide +kernel)) (fun _ _ _ _ _ => pg_name (i := 1) sc.nd rfl (Or.inl rfl)) (fun _ _ _ _ _ => dts_nil) (fun _ _ _ _ _ => (de_call G__law_kinds hr rfl T.m__law_kinds T.F__law_kinds.kp T.b__law_kinds (da_cons (de_var 1) da_nil)))) da_nil))))) dss_nil)
      (dss_cons (ds_if (dt_cmp (opr_eq hr.units) opl_eq (nomark _) (de_ix ix_seq opl_ix (fun _ _ => rfl) (de_var 0) de_int) de_str) (dss_one (ds_ret (de_op opr_add opl_add de_int (de_call G__law_kinds hr rfl T.m__law_kinds T.F__law_kinds.kp T.b__law_kinds (da_cons (de_ix ix_seq opl_ix (fun _ _ => rfl) (de_var 0) de_int) da_nil))))) dss_nil)
      (dss_one (ds_ret de_int)))))
theorem ok__law_kind {k : Nat} {sp sp__law_draw sp__law_names sp__law_kind sp__law_kinds : Sp'} (T : Tx K mg) (G__law_draw : FnD P w K mg base k T.f__law_draw T.d__law_draw p__law_draw sp__law_draw) (G__law_names : FnD P w K mg base k T.f__law_names T.d__law_names p__law_names sp__law_names) (G__law_kind : FnD P w K mg base k T.f__law_kind T.d__law_kind p__law_kind sp__law_kind) (G__law_kinds : FnD P w K mg base k T.f__law_kinds T.d__law_kinds p__law_kinds sp__law_kinds) (len : ∀ ds h Q E, sp ds h Q E → ds.length = 3)
    (rd : ∀ ds h Q E', sp ds h Q E' → K00.t__law_kind sp__law_draw sp__law_names sp__law_kind sp__law_kinds (ends Q) (slots K00.n__law_kind ds) h) : FnD P w K mg base (k + 1) T.f__law_kind T.d__law_kind p__law_kind sp := by
  refine fnD T.F__law_kind sc__law_kind len fun cdv A outer s H E hr E' => ⟨K00.t__law_kind sp__law_draw sp__law_names sp__law_kind sp__law_kinds, ?_, fun ds h Q q => rd ds h Q E' q⟩
  have sc := sc__law_kind
  exact (dss_cons (ds_set (i := 3) sc.nd rfl (Or.inl rfl) (de_call G__law_draw hr rfl T.m__law_draw T.F__law_draw.kp T.b__law_draw (da_cons (de_var 0) (da_cons de_int da_nil))))
      (dss_cons (ds_if (dw_pt (dw_orp (pu_orp (pu_tb (pu_to pu_eq pu_tv pu_tc)) (pu_tb (pu_to pu_I2 pu_tv pu_tc))) (dt_cmp (opr_eq hr.units) opl_eq (nomark _) (de_var 1) de_int) (dw_orp (pu_tb (pu_to pu_I2 pu_tv pu_tc)) (dt_cmp (opr_eq hr.units) opl_eq (nomark _) (de_var 2) de_int) (dw_or1 (dt_cmp op_lt opl_lt (nomark _) (de_var 3) de_int))))) (dss_cons (ds_if (dt_cmp (opr_eq hr.units) opl_eq (nomark _) (de_call G__law_draw hr rfl T.m__law_draw T.F__law_draw.kp T.b__law_draw (da_cons (de_var 0) (da_cons de_int da_nil))) de_int) (dss_one (ds_ret (de_tup (da_cons de_str (da_cons (de_call G__law_names hr rfl T.m__law_names T.F__law_names.kp T.b__law_names (da_cons (de_var 0) da_nil)) da_nil))))) dss_nil)
      (dss_one (ds_ret (de_tup (da_cons de_str da_nil))))) dss_nil)
      (dss_cons (ds_if (dw_pt (dw_orp (pu_tb (pu_to pu_eq pu_tv pu_tc)) (dt_cmp (opr_eq hr.units) opl_eq (nomark _) (de_var 2) de_int) (dw_or1 (dt_cmp (opr_eq hr.units) opl_eq (nomark _) (de_var 3) de_int)))) (dss_one (ds_ret (de_tup (da_cons de_str (da_cons (de_call G__law_kind hr rfl T.m__law_kind T.F__law_kind.kp T.b__law_kind (da_cons (de_var 0) (da_cons (de_op op_sub opl_sub (de_var 1) de_int) (da_cons (de_op op_sub opl_sub (de_var 2) de_int) da_nil)))) da_nil))))) dss_nil)
      (dss_cons (ds_if (dt_cmp op_lt opl_lt (nomark _) (de_var 3) de_int) (dss_cons (ds_set (i := 4) sc.nd rfl (Or.inl rfl) (de_call G__law_kind hr rfl T.m__law_kind T.F__law_kind.kp T.b__law_kind (da_cons (de_var 0) (da_cons (de_op op_sub opl_sub (de_var 1) de_int) (da_cons (de_op op_sub opl_sub (de_var 2) de_int) da_nil)))))
      (dss_one (ds_ret (de_tup (da_cons de_str (da_cons (de_var 4) (da_cons (de_call G__law_kind hr rfl T.m__law_kind T.F__law_kind.kp T.b__law_kind (da_cons (de_var 0) (da_cons (de_op op_sub opl_sub (de_var 1) de_int) (da_cons (de_op op_sub opl_sub (de_op op_sub opl_sub (de_var 2) de_int) (de_call G__law_kinds hr rfl T.m__law_kinds T.F__law_kinds.kp T.b__law_kinds (da_cons (de_var 4) da_nil))) da_nil)))) da_nil))))))) dss_nil)
      (dss_cons (ds_set (i := 5) sc.nd rfl (Or.inl rfl) (de_op op_sub opl_sub (de_var 2) de_int))
      (dss_cons (ds_set (i := 6) sc.nd rfl (Or.inl rfl) (de_op opr_add opl_add de_int (de_call G__law_draw hr rfl T.m__law_draw T.F__law_draw.kp T.b__law_draw (da_cons (de_var 0) (da_cons (de_callB (call_min2 rfl) cl_min rfl T.z_min boot'_min (da_cons de_int (da_cons (de_var 5) da_nil))) da_nil)))))
      (dss_cons (ds_set (i := 7) sc.nd rfl (Or.inl rfl) (de_own da_nil))
      (dss_cons (ds_for (passes_of rfl) rfl (di_rng1 rfl T.z_range (da_cons (de_var 6) da_nil)) (dg_name (i := 8) sc.nd rfl (Or.inl rfl)) (dss_cons (ds_set (i := 9) sc.nd rfl (Or.inl rfl) (de_call G__law_kind hr rfl T.m__law_kind T.F__law_kind.kp T.b__law_kind (da_cons (de_var 0) (da_cons (de_op op_sub opl_sub (de_var 1) de_int) (da_cons (de_op op_sub opl_sub (de_var 5) (de_op op_sub opl_sub (de_op op_sub opl_sub (de_var 6) de_int) (de_var 8))) da_nil)))))
      (dss_cons (ds_expr (de_append (de_var 7) (da_cons (de_var 9) da_nil)))
      (dss_one (ds_set (i := 5) sc.nd rfl (Or.inl rfl) (de_op op_sub opl_sub (de_var 5) (de_call G__law_kinds hr rfl T.m__law_kinds T.F__law_kinds.kp T.b__law_kinds (da_cons (de_var 9) da_nil))))))))
      (dss_one (ds_ret (de_tup (da_cons de_str (da_cons (de_callTy call_tupF cl_tup rfl T.z_tuple boot'_tuple (da_cons (de_var 7) da_nil)) da_nil)))))))))))))
theorem ok__law_any_kind {k : Nat} {sp sp__law_draw sp__law_kind : Sp'} (T : Tx K mg) (G__law_draw : FnD P w K mg base k T.f__law_draw T.d__law_draw p__law_draw sp__law_draw) (G__law_kind : FnD P w K mg base k T.f__law_kind T.d__law_kind p__law_kind sp__law_kind) (len : ∀ ds h Q E, sp ds h Q E → ds.length = 1)
    (rd : ∀ ds h Q E', sp ds h Q E' → K04.t__law_any_kind sp__law_draw sp__law_kind (ends Q) (slots K04.n__law_any_kind ds) h) : FnD P w K mg base (k + 1) T.f__law_any_kind T.d__law_any_kind p__law_any_kind sp := by
  refine fnD T.F__law_any_kind sc__law_any_kind len fun cdv A outer s H E hr E' => ⟨K04.t__law_any_kind sp__law_draw sp__law_kind, ?_, fun ds h Q q => rd ds h Q E' q⟩
  have sc := sc__law_any_kind
  exact (dss_cons (ds_set (i := 1) sc.nd rfl (Or.inl rfl) (de_call G__law_draw hr rfl T.m__law_draw T.F__law_draw.kp T.b__law_draw (da_cons (de_var 0) (da_cons de_int da_nil))))
      (dss_cons (ds_if (dt_cmp op_lt opl_lt (nomark _) (de_var 1) de_int) (dss_one (ds_ret (de_tup (da_cons de_str da_nil)))) dss_nil)
      (dss_one (ds_ret (de_call G__law_kind hr rfl T.m__law_kind T.F__law_kind.kp T.b__law_kind (da_cons (de_var 0) (da_cons de_int (da_cons (de_ix ix_seq opl_ix (fun _ _ => rfl) (de_lis (da_cons de_int (da_cons de_int (da_cons de_int da_nil)))) (de_op op_sub opl_sub (de_var 1) de_int)) da_nil))))))))
theorem ok__law_many {k : Nat} {sp sp__law_many : Sp'} (T : Tx K mg) (G__law_many : FnD P w K mg base k T.f__law_many T.d__law_many p__law_many sp__law_many) (len : ∀ ds h Q E, sp ds h Q E → ds.length = 2)
    (rd : ∀ ds h Q E', sp ds h Q E' → K41.t__law_many sp__law_many (ends Q) (slots K41.n__law_many ds) h) : FnD P w K mg base (k + 1) T.f__law_many T.d__law_many p__law_many sp := by
  refine fnD T.F__law_many sc__law_many len fun cdv A outer s H E hr E' => ⟨K41.t__law_many sp__law_many, ?_, fun ds h Q q => rd ds h Q E' q⟩
  have sc := sc__law_many
  exact (dss_cons (ds_if (dt_cmp (opr_eq hr.units) opl_eq (nomark _) (de_ix ix_seq opl_ix (fun _ _ => rfl) (de_var 0) de_int) de_str) (dss_one (ds_ret (de_callB cr_len cl_len rfl T.z_len boot'_len (da_cons (de_ix ix_seq opl_ix (fun _ _ => rfl) (de_var 0) de_int) da_nil)))) dss_nil)
      (dss_cons (ds_if (dt_cmp (opr_eq hr.units) opl_eq (nomark _) (de_ix ix_seq opl_ix (fun _ _ => rfl) (de_var 0) de_int) de_str) (dss_one (ds_ret (de_var 1))) dss_nil)
      (dss_cons (ds_if (dt_cmp (opr_eq hr.units) opl_eq (nomark _) (de_ix ix_seq opl_ix (fun _ _ => rfl) (de_var 0) de_int) de_str) (dss_one (ds_ret (de_op op_mul opl_mul (de_call G__law_many hr rfl T.m__law_many T.F__law_many.kp T.b__law_many (da_cons (de_ix ix_seq opl_ix (fun _ _ => rfl) (de_var 0) de_int) (da_cons (de_var 1) da_nil))) (de_call G__law_many hr rfl T.m__law_many T.F__law_many.kp T.b__law_many (da_cons (de_ix ix_seq opl_ix (fun _ _ => rfl) (de_var 0) de_int) (da_cons (de_var 1) da_nil)))))) dss_nil)
      (dss_cons (ds_if (dt_cmp (opr_eq hr.units) opl_eq (nomark _) (de_ix ix_seq opl_ix (fun _ _ => rfl) (de_var 0) de_int) de_str) (dss_one (ds_ret (de_callB (cr_sum rfl) cl_sum rfl T.z_sum boot'_sum (da_cons (de_lc rfl sc.nd (di_seq (de_ix ix_seq opl_ix (fun _ _ => rfl) (de_var 0) de_int)) (blkOk_by (N := K41.n__law_many) (sc := defScope s__law_many) (by decide +kernel)) (fun _ _ _ _ _ => pg_name (i := 2) sc.nd rfl (Or.inl rfl)) (fun _ _ _ _ _ => dts_nil) (fun _ _ _ _ _ => (de_call G__law_many hr rfl T.m__law_many T.F__law_many.kp T.b__law_many (da_cons (de_var 2) (da_cons (de_var 1) da_nil))))) da_nil)))) dss_nil)
      (dss_one (ds_ret (de_op opr_add opl_add de_int (de_call G__law_many hr rfl T.m__law_many T.F__law_many.kp T.b__law_many (da_cons (de_ix ix_seq opl_ix (fun _ _ => rfl) (de_var 0) de_int) (da_cons (de_var 1) da_nil))))))))))
theorem ok__law_theory {k : Nat} {sp sp__law_draw sp__law_many : Sp'} (T : Tx K mg) (G__law_draw : FnD P w K mg base k T.f__law_draw T.d__law_draw p__law_draw sp__law_draw) (G__law_many : FnD P w K mg base k T.f__law_many T.d__law_many p__law_many sp__law_many) (len : ∀ ds h Q E, sp ds h Q E → ds.length = 3)
    (rd : ∀ ds h Q E', sp ds h Q E' → K41.t__law_theory sp__law_draw sp__law_many (ends Q) (slots K41.n__law_theory ds) h) : FnD P w K mg base (k + 1) T.f__law_theory T.d__law_theory p__law_theory sp := by
  refine fnD T.F__law_theory sc__law_theory len fun cdv A outer s H E hr E' => ⟨K41.t__law_theory sp__law_draw sp__law_many, ?_, fun ds h Q q => rd ds h Q E' q⟩
  have sc := sc__law_theory
  exact (dss_cons (ds_set (i := 3) sc.nd rfl (Or.inl rfl) (de_lis (da_cons (de_tup (da_cons de_int (da_cons de_int da_nil))) (da_cons (de_tup (da_cons de_int (da_cons de_int da_nil))) (da_cons (de_tup (da_cons de_int (da_cons de_int da_nil))) (da_cons (de_tup (da_cons de_int (da_cons de_int da_nil))) (da_cons (de_tup (da_cons de_int (da_cons de_int da_nil))) (da_cons (de_tup (da_cons de_int (da_cons de_int da_nil))) (da_cons (de_tup (da_cons de_int (da_cons de_int da_nil))) da_nil)))))))))
      (dss_cons (ds_set (i := 3) sc.nd rfl (Or.inl rfl) (de_op opr_add opl_add (de_var 3) (de_lis (da_cons (de_tup (da_cons de_int (da_cons de_int da_nil))) (da_cons (de_tup (da_cons de_int (da_cons de_int da_nil))) (da_cons (de_tup (da_cons de_int (da_cons de_int da_nil))) (da_cons (de_tup (da_cons de_int (da_cons de_int da_nil))) (da_cons (de_tup (da_cons de_int (da_cons de_int da_nil))) (da_cons (de_tup (da_cons de_int (da_cons de_int da_nil))) da_nil)))))))))
      (dss_cons (ds_for (passes_of rfl) rfl (di_seq (de_slice (de_var 3) (do_some (de_call G__law_draw hr rfl T.m__law_draw T.F__law_draw.kp T.b__law_draw (da_cons (de_var 0) (da_cons (de_callB cr_len cl_len rfl T.z_len boot'_len (da_cons (de_var 3) da_nil)) da_nil)))) do_none)) (dg_name (i := 4) sc.nd rfl (Or.inl rfl)) (dss_one (ds_if (dt_cmp op_le opl_le (nomark _) (de_call G__law_many hr rfl T.m__law_many T.F__law_many.kp T.b__law_many (da_cons (de_var 1) (da_cons (de_op opr_add opl_add (de_op op_mul opl_mul de_int (de_op opr_add opl_add (de_ix ix_seq opl_ix (fun _ _ => rfl) (de_var 4) de_int) (de_ix ix_seq opl_ix (fun _ _ => rfl) (de_var 4) de_int))) de_int) da_nil))) (de_var 2)) (dss_one (ds_ret (de_var 4))) dss_nil)))
      (dss_one (ds_ret (de_tup (da_cons de_int (da_cons de_int da_nil))))))))
theorem ok__law_marked {k : Nat} {sp sp__law_marked : Sp'} (T : Tx K mg) (G__law_marked : FnD P w K mg base k T.f__law_marked T.d__law_marked p__law_marked sp__law_marked) (len : ∀ ds h Q E, sp ds h Q E → ds.length = 2)
    (rd : ∀ ds h Q E', sp ds h Q E' → K41.t__law_marked sp__law_marked (ends Q) (slots K41.n__law_marked ds) h) : FnD P w K mg base (k + 1) T.f__law_marked T.d__law_marked p__law_marked sp := by
  refine fnD T.F__law_marked sc__law_marked len fun cdv A outer s H E hr E' => ⟨K41.t__law_marked sp__law_marked, ?_, fun ds h Q q => rd ds h Q E' q⟩
  have sc := sc__law_marked
  exact (dss_cons (ds_if (dt_cmp (opr_eq hr.units) opl_eq (nomark _) (de_ix ix_seq opl_ix (fun _ _ => rfl) (de_var 0) de_int) de_str) (dss_one (ds_ret (de_lc rfl sc.nd (di_seq (de_ix ix_seq opl_ix (fun _ _ => rfl) (de_var 0) de_int)) (blkOk_by (N := K41.n__law_marked) (sc := defScope s__law_marked) (by decide +kernel)) (fun _ _ _ _ _ => pg_name (i := 9) sc.nd rfl (Or.inl rfl)) (fun _ _ _ _ _ => dts_nil) (fun _ _ _ _ _ => (de_tup (da_cons (de_var 9) (da_cons de_bl da_nil))))))) dss_nil)
      (dss_cons (ds_if (dt_cmp (opr_eq hr.units) opl_eq (nomark _) (de_ix ix_seq opl_ix (fun _ _ => rfl) (de_var 0) de_int) de_str) (dss_cons (ds_set (i := 2) sc.nd rfl (Or.inl rfl) (de_own (da_cons (de_tup (da_cons de_int (da_cons de_bl da_nil))) da_nil)))
      (dss_cons (ds_for (passes_of rfl) rfl (di_rng2 rfl T.z_range (da_cons de_int (da_cons (de_op opr_add opl_add (de_op opr_add opl_add (de_ix ix_seq opl_ix (fun _ _ => rfl) (de_var 1) de_int) (de_ix ix_seq opl_ix (fun _ _ => rfl) (de_var 1) de_int)) de_int) da_nil))) (dg_name (i := 3) sc.nd rfl (Or.inl rfl)) (dss_cons (ds_expr (de_append (de_var 2) (da_cons (de_tup (da_cons (de_var 3) (da_cons (de_cmp op_gt opl_gt (nomark _) (de_var 3) (de_ix ix_seq opl_ix (fun _ _ => rfl) (de_var 1) de_int)) da_nil))) da_nil)))
      (dss_one (ds_expr (de_append (de_var 2) (da_cons (de_tup (da_cons (de_un un_neg unl_neg (de_var 3)) (da_cons (de_cmp op_gt opl_gt (nomark _) (de_var 3) (de_ix ix_seq opl_ix (fun _ _ => rfl) (de_var 1) de_int)) da_nil))) da_nil))))))
      (dss_one (ds_ret (de_var 2))))) dss_nil)
      (dss_cons (ds_set (i := 2) sc.nd rfl (Or.inl rfl) (de_own da_nil))
      (dss_cons (ds_if (dt_cmp (opr_eq hr.units) opl_eq (nomark _) (de_ix ix_seq opl_ix (fun _ _ => rfl) (de_var 0) de_int) de_str) (dss_cons (ds_set (i := 4) sc.nd rfl (Or.inl rfl) (de_call G__law_marked hr rfl T.m__law_marked T.F__law_marked.kp T.b__law_marked (da_cons (de_ix ix_seq opl_ix (fun _ _ => rfl) (de_var 0) de_int) (da_cons (de_var 1) da_nil))))
      (dss_cons (ds_for (passes_of rfl) rfl (di_seq (de_call G__law_marked hr rfl T.m__law_marked T.F__law_marked.kp T.b__law_marked (da_cons (de_ix ix_seq opl_ix (fun _ _ => rfl) (de_var 0) de_int) (da_cons (de_var 1) da_nil)))) (dg_name (i := 5) sc.nd rfl (Or.inl rfl)) (dss_one (ds_for (passes_of rfl) rfl (di_seq (de_var 4)) (dg_name (i := 6) sc.nd rfl (Or.inl rfl)) (dss_one (ds_expr (de_append (de_var 2) (da_cons (de_tup (da_cons (de_tup (da_cons de_str (da_cons (de_ix ix_seq opl_ix (fun _ _ => rfl) (de_var 5) de_int) (da_cons (de_ix ix_seq opl_ix (fun _ _ => rfl) (de_var 6) de_int) da_nil)))) (da_cons (de_or (de_ix ix_seq opl_ix (fun _ _ => rfl) (de_var 5) de_int) (de_one (de_ix ix_seq opl_ix (fun _ _ => rfl) (de_var 6) de_int))) da_nil))) da_nil)))))))
      (dss_one (ds_ret (de_var 2))))) dss_nil)
      (dss_cons (ds_if (dt_cmp (opr_eq hr.units) opl_eq (nomark _) (de_ix ix_seq opl_ix (fun _ _ => rfl) (de_var 0) de_int) de_str) (dss_cons (ds_for (passes_of rfl) rfl (di_rng1 rfl T.z_range (da_cons (de_callB cr_len cl_len rfl T.z_len boot'_len (da_cons (de_ix ix_seq opl_ix (fun _ _ => rfl) (de_var 0) de_int) da_nil)) da_nil)) (dg_name (i := 7) sc.nd rfl (Or.inl rfl)) (dss_one (ds_for (passes_of rfl) rfl (di_seq (de_call G__law_marked hr rfl T.m__law_marked T.F__law_marked.kp T.b__law_marked (da_cons (de_ix ix_seq opl_ix (fun _ _ => rfl) (de_ix ix_seq opl_ix (fun _ _ => rfl) (de_var 0) de_int) (de_var 7)) (da_cons (de_var 1) da_nil)))) (dg_name (i := 8) sc.nd rfl (Or.inl rfl)) (dss_one (ds_expr (de_append (de_var 2) (da_cons (de_tup (da_cons (de_tup (da_cons de_str (da_cons (de_var 7) (da_cons (de_ix ix_seq opl_ix (fun _ _ => rfl) (de_var 8) de_int) da_nil)))) (da_cons (de_ix ix_seq opl_ix (fun _ _ => rfl) (de_var 8) de_int) da_nil))) da_nil)))))))
      (dss_one (ds_ret (de_var 2)))) dss_nil)
      (dss_cons (ds_expr (de_append (de_var 2) (da_cons (de_tup (da_cons (de_tup (da_cons de_str da_nil)) (da_cons de_bl da_nil))) da_nil)))
      (dss_cons (ds_for (passes_of rfl) rfl (di_seq (de_call G__law_marked hr rfl T.m__law_marked T.F__law_marked.kp T.b__law_marked (da_cons (de_ix ix_seq opl_ix (fun _ _ => rfl) (de_var 0) de_int) (da_cons (de_var 1) da_nil)))) (dg_name (i := 8) sc.nd rfl (Or.inl rfl)) (dss_one (ds_expr (de_append (de_var 2) (da_cons (de_tup (da_cons (de_tup (da_cons de_str (da_cons (de_ix ix_seq opl_ix (fun _ _ => rfl) (de_var 8) de_int) da_nil))) (da_cons (de_ix ix_seq opl_ix (fun _ _ => rfl) (de_var 8) de_int) da_nil))) da_nil)))))
      (dss_one (ds_ret (de_var 2))))))))))
end
end WK41
set_option Elab.async false
set_option linter.all false
set_option maxRecDepth 100000
set_option maxHeartbeats 8000000
namespace WK41
open PySem PySem.Spec PyProof.Rows L2 DL
section
variable {P : Program} {w : World} {K : PySem.W.Frag} {mg : Str → Option Value} {base : Heap}
theorem ok__law_letters {k : Nat} {sp sp__law_marked : Sp'} (T : Tx K mg) (G__law_marked : FnD P w K mg base k T.f__law_marked T.d__law_marked p__law_marked sp__law_marked) (len : ∀ ds h Q E, sp ds h Q E → ds.length = 2)
    (rd : ∀ ds h Q E', sp ds h Q E' → K41.t__law_letters sp__law_marked (ends Q) (slots K41.n__law_letters ds) h) : FnD P w K mg base (k + 1) T.f__law_letters T.d__law_letters p__law_letters sp := by
  refine fnD T.F__law_letters sc__law_letters len fun cdv A outer s H E hr E' => ⟨K41.t__law_letters sp__law_marked, ?_, fun ds h Q q => rd ds h Q E' q⟩
  have sc := sc__law_letters
  exact (dss_one (ds_ret (de_lc rfl sc.nd (di_seq (de_call G__law_marked hr rfl T.m__law_marked T.F__law_marked.kp T.b__law_marked (da_cons (de_var 0) (da_cons (de_var 1) da_nil)))) (blkOk_by (N := K41.n__law_letters) (sc := defScope s__law_letters) (by decide +kernel)) (fun _ _ _ _ _ => pg_name (i := 2) sc.nd rfl (Or.inl rfl)) (fun _ _ _ _ _ => dts_nil) (fun _ _ _ _ _ => (de_ix ix_seq opl_ix (fun _ _ => rfl) (de_var 2) de_int)))))
theorem ok__law_integer {k : Nat} {sp sp__law_draw : Sp'} (T : Tx K mg) (G__law_draw : FnD P w K mg base k T.f__law_draw T.d__law_draw p__law_draw sp__law_draw) (len : ∀ ds h Q E, sp ds h Q E → ds.length = 2)
    (rd : ∀ ds h Q E', sp ds h Q E' → K00.t__law_integer sp__law_draw (ends Q) (slots K00.n__law_integer ds) h) : FnD P w K mg base (k + 1) T.f__law_integer T.d__law_integer p__law_integer sp := by
  refine fnD T.F__law_integer sc__law_integer len fun cdv A outer s H E hr E' => ⟨K00.t__law_integer sp__law_draw, ?_, fun ds h Q q => rd ds h Q E' q⟩
  have sc := sc__law_integer
  exact (dss_cons (ds_set (i := 2) sc.nd rfl (Or.inl rfl) (de_call G__law_draw hr rfl T.m__law_draw T.F__law_draw.kp T.b__law_draw (da_cons (de_var 0) (da_cons de_int da_nil))))
      (dss_cons (ds_set (i := 3) sc.nd rfl (Or.inl rfl) (de_call G__law_draw hr rfl T.m__law_draw T.F__law_draw.kp T.b__law_draw (da_cons (de_var 0) (da_cons (de_ix ix_seq opl_ix (fun _ _ => rfl) (de_lis (da_cons de_int (da_cons (de_op opr_add opl_add (de_var 1) de_int) (da_cons (de_op opr_add opl_add (de_var 1) de_int) (da_cons (de_op op_pow opl_pow de_int de_int) (da_cons (de_op op_sub opl_sub (de_op op_pow opl_pow de_int de_int) de_int) da_nil)))))) (de_var 2)) da_nil))))
      (dss_cons (ds_mid (ds_if (dt_cmp (opr_eq hr.units) opl_eq (nomark _) (de_var 2) de_int) (dss_one (ds_set (i := 3) sc.nd rfl (Or.inl rfl) (de_op opr_add opl_add (de_op op_mul opl_mul (de_var 3) (de_op op_pow opl_pow de_int de_int)) (de_call G__law_draw hr rfl T.m__law_draw T.F__law_draw.kp T.b__law_draw (da_cons (de_var 0) (da_cons (de_op op_pow opl_pow de_int de_int) da_nil)))))) dss_nil))
      (dss_one (ds_ret (de_ix ix_seq opl_ix (fun _ _ => rfl) (de_lis (da_cons (de_var 3) (da_cons (de_un un_neg unl_neg (de_var 3)) da_nil))) (de_call G__law_draw hr rfl T.m__law_draw T.F__law_draw.kp T.b__law_draw (da_cons (de_var 0) (da_cons de_int da_nil)))))))))
theorem ok__law_letter {k : Nat} {sp sp__law_draw sp__law_integer sp__law_letter : Sp'} (T : Tx K mg) (G__law_draw : FnD P w K mg base k T.f__law_draw T.d__law_draw p__law_draw sp__law_draw) (G__law_integer : FnD P w K mg base k T.f__law_integer T.d__law_integer p__law_integer sp__law_integer) (G__law_letter : FnD P w K mg base k T.f__law_letter T.d__law_letter p__law_letter sp__law_letter) (len : ∀ ds h Q E, sp ds h Q E → ds.length = 3)
    (rd : ∀ ds h Q E', sp ds h Q E' → K00.t__law_letter sp__law_draw sp__law_integer sp__law_letter (ends Q) (slots K00.n__law_letter ds) h) : FnD P w K mg base (k + 1) T.f__law_letter T.d__law_letter p__law_letter sp := by
  refine fnD T.F__law_letter sc__law_letter len fun cdv A outer s H E hr E' => ⟨K00.t__law_letter sp__law_draw sp__law_integer sp__law_letter, ?_, fun ds h Q q => rd ds h Q E' q⟩
  have sc := sc__law_letter
  exact (dss_cons (ds_if (dt_cmp (opr_eq hr.units) opl_eq (nomark _) (de_ix ix_seq opl_ix (fun _ _ => rfl) (de_var 1) de_int) de_str) (dss_one (ds_ret (de_ix ix_seq opl_ix (fun _ _ => rfl) (de_ix ix_seq opl_ix (fun _ _ => rfl) (de_var 1) de_int) (de_call G__law_draw hr rfl T.m__law_draw T.F__law_draw.kp T.b__law_draw (da_cons (de_var 0) (da_cons (de_callB cr_len cl_len rfl T.z_len boot'_len (da_cons (de_ix ix_seq opl_ix (fun _ _ => rfl) (de_var 1) de_int) da_nil)) da_nil)))))) dss_nil)
      (dss_cons (ds_if (dt_cmp (opr_eq hr.units) opl_eq (nomark _) (de_ix ix_seq opl_ix (fun _ _ => rfl) (de_var 1) de_int) de_str) (dss_one (ds_ret (de_call G__law_integer hr rfl T.m__law_integer T.F__law_integer.kp T.b__law_integer (da_cons (de_var 0) (da_cons (de_ix ix_seq opl_ix (fun _ _ => rfl) (de_var 2) de_int) da_nil))))) dss_nil)
      (dss_cons (ds_if (dt_cmp (opr_eq hr.units) opl_eq (nomark _) (de_ix ix_seq opl_ix (fun _ _ => rfl) (de_var 1) de_int) de_str) (dss_cons (ds_set (i := 3) sc.nd rfl (Or.inl rfl) (de_call G__law_letter hr rfl T.m__law_letter T.F__law_letter.kp T.b__law_letter (da_cons (de_var 0) (da_cons (de_ix ix_seq opl_ix (fun _ _ => rfl) (de_var 1) de_int) (da_cons (de_var 2) da_nil)))))
      (dss_one (ds_ret (de_tup (da_cons de_str (da_cons (de_var 3) (da_cons (de_call G__law_letter hr rfl T.m__law_letter T.F__law_letter.kp T.b__law_letter (da_cons (de_var 0) (da_cons (de_ix ix_seq opl_ix (fun _ _ => rfl) (de_var 1) de_int) (da_cons (de_var 2) da_nil)))) da_nil))))))) dss_nil)
      (dss_cons (ds_if (dt_cmp (opr_eq hr.units) opl_eq (nomark _) (de_ix ix_seq opl_ix (fun _ _ => rfl) (de_var 1) de_int) de_str) (dss_cons (ds_set (i := 4) sc.nd rfl (Or.inl rfl) (de_call G__law_draw hr rfl T.m__law_draw T.F__law_draw.kp T.b__law_draw (da_cons (de_var 0) (da_cons (de_callB cr_len cl_len rfl T.z_len boot'_len (da_cons (de_ix ix_seq opl_ix (fun _ _ => rfl) (de_var 1) de_int) da_nil)) da_nil))))
      (dss_one (ds_ret (de_tup (da_cons de_str (da_cons (de_var 4) (da_cons (de_call G__law_letter hr rfl T.m__law_letter T.F__law_letter.kp T.b__law_letter (da_cons (de_var 0) (da_cons (de_ix ix_seq opl_ix (fun _ _ => rfl) (de_ix ix_seq opl_ix (fun _ _ => rfl) (de_var 1) de_int) (de_var 4)) (da_cons (de_var 2) da_nil)))) da_nil))))))) dss_nil)
      (dss_cons (ds_if (dt_cmp (opr_eq hr.units) opl_eq (nomark _) (de_call G__law_draw hr rfl T.m__law_draw T.F__law_draw.kp T.b__law_draw (da_cons (de_var 0) (da_cons de_int da_nil))) de_int) (dss_one (ds_ret (de_tup (da_cons de_str da_nil)))) dss_nil)
      (dss_one (ds_ret (de_tup (da_cons de_str (da_cons (de_call G__law_letter hr rfl T.m__law_letter T.F__law_letter.kp T.b__law_letter (da_cons (de_var 0) (da_cons (de_ix ix_seq opl_ix (fun _ _ => rfl) (de_var 1) de_int) (da_cons (de_var 2) da_nil)))) da_nil))))))))))
theorem ok__law_conditions {k : Nat} {sp sp__law_conditions : Sp'} (T : Tx K mg) (G__law_conditions : FnD P w K mg base k T.f__law_conditions T.d__law_conditions p__law_conditions sp__law_conditions) (len : ∀ ds h Q E, sp ds h Q E → ds.length = 1)
    (rd : ∀ ds h Q E', sp ds h Q E' → K04.t__law_conditions sp__law_conditions (ends Q) (slots K04.n__law_conditions ds) h) : FnD P w K mg base (k + 1) T.f__law_conditions T.d__law_conditions p__law_conditions sp := by
  refine fnD T.F__law_conditions sc__law_conditions len fun cdv A outer s H E hr E' => ⟨K04.t__law_conditions sp__law_conditions, ?_, fun ds h Q q => rd ds h Q E' q⟩
  have sc := sc__law_conditions
  exact (dss_cons (ds_if (dt_cmp op_in_seq opl_in rfl (de_ix ix_seq opl_ix (fun _ _ => rfl) (de_var 0) de_int) (de_lis (da_cons de_str (da_cons de_str (da_cons de_str (da_cons de_str da_nil)))))) (dss_one (ds_ret (de_op opr_add opl_add de_int (de_call G__law_conditions hr rfl T.m__law_conditions T.F__law_conditions.kp T.b__law_conditions (da_cons (de_ix ix_seq opl_ix (fun _ _ => rfl) (de_var 0) de_int) da_nil))))) dss_nil)
      (dss_cons (ds_if (dt_cmp op_in_seq opl_in rfl (de_ix ix_seq opl_ix (fun _ _ => rfl) (de_var 0) de_int) (de_lis (da_cons de_str (da_cons de_str da_nil)))) (dss_one (ds_ret (de_op opr_add opl_add (de_op opr_add opl_add de_int (de_call G__law_conditions hr rfl T.m__law_conditions T.F__law_conditions.kp T.b__law_conditions (da_cons (de_ix ix_seq opl_ix (fun _ _ => rfl) (de_var 0) de_int) da_nil))) (de_call G__law_conditions hr rfl T.m__law_conditions T.F__law_conditions.kp T.b__law_conditions (da_cons (de_ix ix_seq opl_ix (fun _ _ => rfl) (de_var 0) de_int) da_nil))))) dss_nil)
      (dss_cons (ds_if (dt_cmp (opr_eq hr.units) opl_eq (nomark _) (de_ix ix_seq opl_ix (fun _ _ => rfl) (de_var 0) de_int) de_str) (dss_one (ds_ret (de_op opr_add opl_add de_int (de_call G__law_conditions hr rfl T.m__law_conditions T.F__law_conditions.kp T.b__law_conditions (da_cons (de_ix ix_seq opl_ix (fun _ _ => rfl) (de_var 0) de_int) da_nil))))) dss_nil)
      (dss_one (ds_ret de_int)))))
theorem ok__law_comparison {k : Nat} {sp sp__law_draw : Sp'} (T : Tx K mg) (G__law_draw : FnD P w K mg base k T.f__law_draw T.d__law_draw p__law_draw sp__law_draw) (len : ∀ ds h Q E, sp ds h Q E → ds.length = 2)
    (rd : ∀ ds h Q E', sp ds h Q E' → K04.t__law_comparison sp__law_draw (ends Q) (slots K04.n__law_comparison ds) h) : FnD P w K mg base (k + 1) T.f__law_comparison T.d__law_comparison p__law_comparison sp := by
  refine fnD T.F__law_comparison sc__law_comparison len fun cdv A outer s H E hr E' => ⟨K04.t__law_comparison sp__law_draw, ?_, fun ds h Q q => rd ds h Q E' q⟩
  have sc := sc__law_comparison
  exact (dss_cons (ds_set (i := 2) sc.nd rfl (Or.inl rfl) (de_call G__law_draw hr rfl T.m__law_draw T.F__law_draw.kp T.b__law_draw (da_cons (de_var 0) (da_cons de_int da_nil))))
      (dss_cons (ds_set (i := 3) sc.nd rfl (Or.inl rfl) (de_op op_sub opl_sub (de_call G__law_draw hr rfl T.m__law_draw T.F__law_draw.kp T.b__law_draw (da_cons (de_var 0) (da_cons (de_op opr_add opl_add (de_op op_mul opl_mul de_int (de_ix ix_seq opl_ix (fun _ _ => rfl) (de_var 1) de_int)) de_int) da_nil))) (de_ix ix_seq opl_ix (fun _ _ => rfl) (de_var 1) de_int)))
      (dss_cons (ds_mid (ds_if (dt_cmp op_lt opl_lt (nomark _) (de_var 2) de_int) (dss_one (ds_set (i := 3) sc.nd rfl (Or.inl rfl) (de_ix ix_seq opl_ix (fun _ _ => rfl) (de_lis (da_cons de_int (da_cons (de_ix ix_seq opl_ix (fun _ _ => rfl) (de_var 1) de_int) (da_cons (de_un un_neg unl_neg (de_ix ix_seq opl_ix (fun _ _ => rfl) (de_var 1) de_int)) da_nil)))) (de_var 2)))) dss_nil))
      (dss_one (ds_ret (de_tup (da_cons (de_ix ix_seq opl_ix (fun _ _ => rfl) (de_lis (da_cons de_str (da_cons de_str (da_cons de_str da_nil)))) (de_call G__law_draw hr rfl T.m__law_draw T.F__law_draw.kp T.b__law_draw (da_cons (de_var 0) (da_cons de_int da_nil)))) (da_cons (de_var 3) da_nil))))))))
theorem ok__law_modulus {k : Nat} {sp sp__law_draw : Sp'} (T : Tx K mg) (G__law_draw : FnD P w K mg base k T.f__law_draw T.d__law_draw p__law_draw sp__law_draw) (len : ∀ ds h Q E, sp ds h Q E → ds.length = 2)
    (rd : ∀ ds h Q E', sp ds h Q E' → K04.t__law_modulus sp__law_draw (ends Q) (slots K04.n__law_modulus ds) h) : FnD P w K mg base (k + 1) T.f__law_modulus T.d__law_modulus p__law_modulus sp := by
  refine fnD T.F__law_modulus sc__law_modulus len fun cdv A outer s H E hr E' => ⟨K04.t__law_modulus sp__law_draw, ?_, fun ds h Q q => rd ds h Q E' q⟩
  have sc := sc__law_modulus
  exact (dss_cons (ds_setlc rfl sc.nd rfl rfl (sw_true rfl rfl rfl (by decide +kernel)) (di_seq (de_lis (da_cons de_int (da_cons de_int (da_cons de_int (da_cons de_int da_nil)))))) (blkOk_by (N := K04.n__law_modulus) (sc := defScope s__law_modulus) (by decide +kernel)) (fun _ _ _ _ _ => pg_name (i := 2) sc.nd rfl (Or.inl rfl)) (fun _ _ _ _ _ => dts_one (dt_cmp (opr_eq hr.units) opl_eq (nomark _) (de_op op_mod opl_mod (de_callTy call_int1 cl_int rfl T.z_int boot'_int (da_cons (de_ix ix_seq opl_ix (fun _ _ => rfl) (de_var 1) de_int) da_nil)) (de_var 2)) de_int)) (fun _ _ _ _ _ => (de_var 2)))
      (dss_cons (ds_set (i := 2) sc.nd rfl (Or.inl rfl) (de_ix ix_seq opl_ix (fun _ _ => rfl) (de_var 3) (de_callB (call_max2 rfl) cl_max rfl T.z_max boot'_max (da_cons (de_call G__law_draw hr rfl T.m__law_draw T.F__law_draw.kp T.b__law_draw (da_cons (de_var 0) (da_cons (de_callB cr_len cl_len rfl T.z_len boot'_len (da_cons (de_var 3) da_nil)) da_nil))) (da_cons (de_call G__law_draw hr rfl T.m__law_draw T.F__law_draw.kp T.b__law_draw (da_cons (de_var 0) (da_cons (de_callB cr_len cl_len rfl T.z_len boot'_len (da_cons (de_var 3) da_nil)) da_nil))) da_nil)))))
      (dss_one (ds_ret (de_tup (da_cons de_str (da_cons (de_var 2) (da_cons (de_call G__law_draw hr rfl T.m__law_draw T.F__law_draw.kp T.b__law_draw (da_cons (de_var 0) (da_cons (de_var 2) da_nil))) da_nil))))))))
theorem ok__law_leaf {k : Nat} {sp sp__law_draw sp__law_modulus sp__law_comparison sp__law_condition : Sp'} (T : Tx K mg) (G__law_draw : FnD P w K mg base k T.f__law_draw T.d__law_draw p__law_draw sp__law_draw) (G__law_modulus : FnD P w K mg base k T.f__law_modulus T.d__law_modulus p__law_modulus sp__law_modulus) (G__law_comparison : FnD P w K mg base k T.f__law_comparison T.d__law_comparison p__law_comparison sp__law_comparison) (G__law_condition : FnD P w K mg base k T.f__law_condition T.d__law_condition p__law_condition sp__law_condition) (len : ∀ ds h Q E, sp ds h Q E → ds.length = 4)
    (rd : ∀ ds h Q E', sp ds h Q E' → K04.t__law_leaf sp__law_draw sp__law_modulus sp__law_comparison sp__law_condition (ends Q) (slots K04.n__law_leaf ds) h) : FnD P w K mg base (k + 1) T.f__law_leaf T.d__law_leaf p__law_leaf sp := by
  refine fnD T.F__law_leaf sc__law_leaf len fun cdv A outer s H E hr E' => ⟨K04.t__law_leaf sp__law_draw sp__law_modulus sp__law_comparison sp__law_condition, ?_, fun ds h Q q => rd ds h Q E' q⟩
  have sc := sc__law_leaf
  exact (dss_cons (ds_set (i := 4) sc.nd rfl (Or.inl rfl) (de_call G__law_draw hr rfl T.m__law_draw T.F__law_draw.kp T.b__law_draw (da_cons (de_var 0) (da_cons de_int da_nil))))
      (dss_cons (ds_if (dt_cmp (opr_eq hr.units) opl_eq (nomark _) (de_var 4) de_int) (dss_one (ds_ret (de_ix ix_seq opl_ix (fun _ _ => rfl) (de_lis (da_cons (de_tup (da_cons de_str da_nil)) (da_cons (de_tup (da_cons de_str da_nil)) da_nil))) (de_call G__law_draw hr rfl T.m__law_draw T.F__law_draw.kp T.b__law_draw (da_cons (de_var 0) (da_cons de_int da_nil)))))) dss_nil)
      (dss_cons (ds_if (dt_cmp (opr_eq hr.units) opl_eq (nomark _) (de_ix ix_seq opl_ix (fun _ _ => rfl) (de_var 1) de_int) de_str) (dss_one (ds_ret (de_tup (da_cons de_str (da_cons (de_ix ix_seq opl_ix (fun _ _ => rfl) (de_ix ix_seq opl_ix (fun _ _ => rfl) (de_var 1) de_int) (de_call G__law_draw hr rfl T.m__law_draw T.F__law_draw.kp T.b__law_draw (da_cons (de_var 0) (da_cons (de_callB cr_len cl_len rfl T.z_len boot'_len (da_cons (de_ix ix_seq opl_ix (fun _ _ => rfl) (de_var 1) de_int) da_nil)) da_nil)))) da_nil))))) dss_nil)
      (dss_cons (ds_if (dt_cmp (opr_eq hr.units) opl_eq (nomark _) (de_ix ix_seq opl_ix (fun _ _ => rfl) (de_var 1) de_int) de_str) (dss_cons (ds_if (dw_pt (dw_and (dt_cmp op_lt opl_lt (nomark _) (de_var 4) de_int) (dw_and1 (dt_cmp op_gt opl_gt (nomark _) (de_ix ix_seq opl_ix (fun _ _ => rfl) (de_var 2) de_int) de_int)))) (dss_one (ds_ret (de_call G__law_modulus hr rfl T.m__law_modulus T.F__law_modulus.kp T.b__law_modulus (da_cons (de_var 0) (da_cons (de_var 2) da_nil))))) dss_nil)
      (dss_one (ds_ret (de_call G__law_comparison hr rfl T.m__law_comparison T.F__law_comparison.kp T.b__law_comparison (da_cons (de_var 0) (da_cons (de_var 2) da_nil)))))) dss_nil)
      (dss_cons (ds_if (dw_pt (dw_and (dt_cmp (opr_eq hr.units) opl_eq (nomark _) (de_ix ix_seq opl_ix (fun _ _ => rfl) (de_var 1) de_int) de_str) (dw_and1 (dw_pt (dw_orp (pu_tb (pu_to pu_eq pu_tv pu_tc)) (dt_cmp (opr_eq hr.units) opl_eq (nomark _) (de_var 3) de_int) (dw_or1 (dt_cmp (opr_eq hr.units) opl_eq (nomark _) (de_var 4) de_int))))))) (dss_one (ds_ret (de_tup (da_cons de_str da_nil)))) dss_nil)
      (dss_cons (ds_if (dt_cmp (opr_eq hr.units) opl_eq (nomark _) (de_var 3) de_int) (dss_one (ds_ret (de_tup (da_cons de_str da_nil)))) dss_nil)
      (dss_cons (ds_if (dt_cmp (opr_eq hr.units) opl_eq (nomark _) (de_ix ix_seq opl_ix (fun _ _ => rfl) (de_var 1) de_int) de_str) (dss_cons (ds_set (i := 5) sc.nd rfl (Or.inl rfl) (de_call G__law_draw hr rfl T.m__law_draw T.F__law_draw.kp T.b__law_draw (da_cons (de_var 0) (da_cons de_int da_nil))))
      (dss_one (ds_ret (de_tup (da_cons (de_ix ix_seq opl_ix (fun _ _ => rfl) (de_lis (da_cons de_str (da_cons de_str da_nil))) (de_var 5)) (da_cons (de_call G__law_condition hr rfl T.m__law_condition T.F__law_condition.kp T.b__law_condition (da_cons (de_var 0) (da_cons (de_ix ix_seq opl_ix (fun _ _ => rfl) (de_var 1) (de_op opr_add opl_add de_int (de_var 5))) (da_cons (de_var 2) (da_cons (de_op op_sub opl_sub (de_var 3) de_int) da_nil))))) da_nil)))))) dss_nil)
      (dss_cons (ds_if (dt_cmp (opr_eq hr.units) opl_eq (nomark _) (de_ix ix_seq opl_ix (fun _ _ => rfl) (de_var 1) de_int) de_str) (dss_cons (ds_set (i := 6) sc.nd rfl (Or.inl rfl) (de_call G__law_draw hr rfl T.m__law_draw T.F__law_draw.kp T.b__law_draw (da_cons (de_var 0) (da_cons (de_callB cr_len cl_len rfl T.z_len boot'_len (da_cons (de_ix ix_seq opl_ix (fun _ _ => rfl) (de_var 1) de_int) da_nil)) da_nil))))
      (dss_one (ds_ret (de_tup (da_cons de_str (da_cons (de_var 6) (da_cons (de_call G__law_condition hr rfl T.m__law_condition T.F__law_condition.kp T.b__law_condition (da_cons (de_var 0) (da_cons (de_ix ix_seq opl_ix (fun _ _ => rfl) (de_ix ix_seq opl_ix (fun _ _ => rfl) (de_var 1) de_int) (de_var 6)) (da_cons (de_var 2) (da_cons (de_op op_sub opl_sub (de_var 3) de_int) da_nil))))) da_nil))))))) dss_nil)
      (dss_one (ds_ret (de_tup (da_cons de_str (da_cons (de_call G__law_condition hr rfl T.m__law_condition T.F__law_condition.kp T.b__law_condition (da_cons (de_var 0) (da_cons (de_ix ix_seq opl_ix (fun _ _ => rfl) (de_var 1) de_int) (da_cons (de_var 2) (da_cons (de_op op_sub opl_sub (de_var 3) de_int) da_nil))))) da_nil)))))))))))))
theorem ok__law_condition {k : Nat} {sp sp__law_draw sp__law_condition sp__law_conditions sp__law_leaf : Sp'} (T : Tx K mg) (G__law_draw : FnD P w K mg base k T.f__law_draw T.d__law_draw p__law_draw sp__law_draw) (G__law_condition : FnD P w K mg base k T.f__law_condition T.d__law_condition p__law_condition sp__law_condition) (G__law_conditions : FnD P w K mg base k T.f__law_conditions T.d__law_conditions p__law_conditions sp__law_conditions) (G__law_leaf : FnD P w K mg base k T.f__law_leaf T.d__law_leaf p__law_leaf sp__law_leaf) (len : ∀ ds h Q E, sp ds h Q E → ds.length = 4)
    (rd : ∀ ds h Q E', sp ds h Q E' → K04.t__law_condition sp__law_draw sp__law_condition sp__law_conditions sp__law_leaf (ends Q) (slots K04.n__law_condition ds) h) : FnD P w K mg base (k + 1) T.f__law_condition T.d__law_condition p__law_condition sp := by
  refine fnD T.F__law_condition sc__law_condition len fun cdv A outer s H E hr E' => ⟨K04.t__law_condition sp__law_draw sp__law_condition sp__law_conditions sp__law_leaf, ?_, fun ds h Q q => rd ds h Q E' q⟩
  have sc := sc__law_condition
  exact (dss_cons (ds_set (i := 4) sc.nd rfl (Or.inl rfl) (de_call G__law_draw hr rfl T.m__law_draw T.F__law_draw.kp T.b__law_draw (da_cons (de_var 0) (da_cons de_int da_nil))))
      (dss_cons (ds_if (dw_pt (dw_and (dt_cmp op_gt opl_gt (nomark _) (de_var 3) de_int) (dw_and1 (dt_cmp (opr_eq hr.units) opl_eq (nomark _) (de_var 4) de_int)))) (dss_one (ds_ret (de_tup (da_cons de_str (da_cons (de_call G__law_condition hr rfl T.m__law_condition T.F__law_condition.kp T.b__law_condition (da_cons (de_var 0) (da_cons (de_var 1) (da_cons (de_var 2) (da_cons (de_op op_sub opl_sub (de_var 3) de_int) da_nil))))) da_nil))))) dss_nil)
      (dss_cons (ds_if (dw_pt (dw_and (dt_cmp op_gt opl_gt (nomark _) (de_var 3) de_int) (dw_and1 (dt_cmp op_lt opl_lt (nomark _) (de_var 4) de_int)))) (dss_cons (ds_set (i := 5) sc.nd rfl (Or.inl rfl) (de_call G__law_condition hr rfl T.m__law_condition T.F__law_condition.kp T.b__law_condition (da_cons (de_var 0) (da_cons (de_var 1) (da_cons (de_var 2) (da_cons (de_op op_sub opl_sub (de_var 3) de_int) da_nil))))))
      (dss_cons (ds_set (i := 6) sc.nd rfl (Or.inl rfl) (de_call G__law_condition hr rfl T.m__law_condition T.F__law_condition.kp T.b__law_condition (da_cons (de_var 0) (da_cons (de_var 1) (da_cons (de_var 2) (da_cons (de_op op_sub opl_sub (de_op op_sub opl_sub (de_var 3) de_int) (de_call G__law_conditions hr rfl T.m__law_conditions T.F__law_conditions.kp T.b__law_conditions (da_cons (de_var 5) da_nil))) da_nil))))))
      (dss_one (ds_ret (de_tup (da_cons (de_ix ix_seq opl_ix (fun _ _ => rfl) (de_lis (da_cons de_str (da_cons de_str da_nil))) (de_call G__law_draw hr rfl T.m__law_draw T.F__law_draw.kp T.b__law_draw (da_cons (de_var 0) (da_cons de_int da_nil)))) (da_cons (de_var 5) (da_cons (de_var 6) da_nil)))))))) dss_nil)
      (dss_one (ds_ret (de_call G__law_leaf hr rfl T.m__law_leaf T.F__law_leaf.kp T.b__law_leaf (da_cons (de_var 0) (da_cons (de_var 1) (da_cons (de_var 2) (da_cons (de_var 3) da_nil))))))))))
theorem ok__law_in {k : Nat} {sp sp__law_in : Sp'} (T : Tx K mg) (G__law_in : FnD P w K mg base k T.f__law_in T.d__law_in p__law_in sp__law_in) (len : ∀ ds h Q E, sp ds h Q E → ds.length = 2)
    (rd : ∀ ds h Q E', sp ds h Q E' → K04.t__law_in sp__law_in (ends Q) (slots K04.n__law_in ds) h) : FnD P w K mg base (k + 1) T.f__law_in T.d__law_in p__law_in sp := by
  refine fnD T.F__law_in sc__law_in len fun cdv A outer s H E hr E' => ⟨K04.t__law_in sp__law_in, ?_, fun ds h Q q => rd ds h Q E' q⟩
  have sc := sc__law_in
  exact (dss_cons (ds_if (dt_cmp (opr_eq hr.units) opl_eq (nomark _) (de_ix ix_seq opl_ix (fun _ _ => rfl) (de_var 0) de_int) de_str) (dss_one (ds_ret (de_cmp op_in_seq opl_in rfl (de_var 1) (de_ix ix_seq opl_ix (fun _ _ => rfl) (de_var 0) de_int)))) dss_nil)
      (dss_cons (ds_if (dt_cmp (opr_eq hr.units) opl_eq (nomark _) (de_ix ix_seq opl_ix (fun _ _ => rfl) (de_var 0) de_int) de_str) (dss_cons (ds_set (i := 2) sc.nd rfl (Or.inl rfl) (de_ix ix_seq opl_ix (fun _ _ => rfl) (de_ix ix_seq opl_ix (fun _ _ => rfl) (de_var 0) de_int) de_int))
      (dss_cons (ds_set (i := 3) sc.nd rfl (Or.inl rfl) (de_ix ix_seq opl_ix (fun _ _ => rfl) (de_ix ix_seq opl_ix (fun _ _ => rfl) (de_var 0) de_int) de_int))
      (dss_cons (ds_if (dt_cmp op_ge opl_ge (nomark _) (de_var 1) (de_var 3)) (dss_one (ds_ret (de_ix ix_seq opl_ix (fun _ _ => rfl) (de_ix ix_seq opl_ix (fun _ _ => rfl) (de_ix ix_seq opl_ix (fun _ _ => rfl) (de_var 0) de_int) de_int) (de_op op_mod opl_mod (de_callTy call_int1 cl_int rfl T.z_int boot'_int (da_cons (de_op op_sub opl_sub (de_var 1) (de_var 3)) da_nil)) (de_callB cr_len cl_len rfl T.z_len boot'_len (da_cons (de_ix ix_seq opl_ix (fun _ _ => rfl) (de_ix ix_seq opl_ix (fun _ _ => rfl) (de_var 0) de_int) de_int) da_nil)))))) dss_nil)
      (dss_cons (ds_if (dt_cmp op_le opl_le (nomark _) (de_var 1) (de_var 2)) (dss_one (ds_ret (de_ix ix_seq opl_ix (fun _ _ => rfl) (de_ix ix_seq opl_ix (fun _ _ => rfl) (de_ix ix_seq opl_ix (fun _ _ => rfl) (de_var 0) de_int) de_int) (de_op op_mod opl_mod (de_callTy call_int1 cl_int rfl T.z_int boot'_int (da_cons (de_op op_sub opl_sub (de_var 2) (de_var 1)) da_nil)) (de_callB cr_len cl_len rfl T.z_len boot'_len (da_cons (de_ix ix_seq opl_ix (fun _ _ => rfl) (de_ix ix_seq opl_ix (fun _ _ => rfl) (de_var 0) de_int) de_int) da_nil)))))) dss_nil)
      (dss_one (ds_ret (de_cmp op_in_seq opl_in rfl (de_var 1) (de_ix ix_seq opl_ix (fun _ _ => rfl) (de_var 0) de_int)))))))) dss_nil)
      (dss_cons (ds_if (dt_cmp (opr_eq hr.units) opl_eq (nomark _) (de_ix ix_seq opl_ix (fun _ _ => rfl) (de_var 0) de_int) de_str) (dss_cons (ds_for (passes_of rfl) rfl (di_seq (de_ix ix_seq opl_ix (fun _ _ => rfl) (de_var 0) de_int)) (dg_name (i := 4) sc.nd rfl (Or.inl rfl)) (dss_one (ds_if (dt_val (de_call G__law_in hr rfl T.m__law_in T.F__law_in.kp T.b__law_in (da_cons (de_ix ix_seq opl_ix (fun _ _ => rfl) (de_var 4) de_int) (da_cons (de_ix ix_seq opl_ix (fun _ _ => rfl) (de_var 1) de_int) da_nil)))) (dss_one (ds_ret (de_call G__law_in hr rfl T.m__law_in T.F__law_in.kp T.b__law_in (da_cons (de_ix ix_seq opl_ix (fun _ _ => rfl) (de_var 4) de_int) (da_cons (de_ix ix_seq opl_ix (fun _ _ => rfl) (de_var 1) de_int) da_nil))))) dss_nil)))
      (dss_one (ds_ret de_bl))) dss_nil)
      (dss_cons (ds_if (dt_cmp (opr_eq hr.units) opl_eq (nomark _) (de_ix ix_seq opl_ix (fun _ _ => rfl) (de_var 0) de_int) de_str) (dss_one (ds_ret (de_call G__law_in hr rfl T.m__law_in T.F__law_in.kp T.b__law_in (da_cons (de_ix ix_seq opl_ix (fun _ _ => rfl) (de_ix ix_seq opl_ix (fun _ _ => rfl) (de_var 0) de_int) (de_ix ix_seq opl_ix (fun _ _ => rfl) (de_var 1) de_int)) (da_cons (de_ix ix_seq opl_ix (fun _ _ => rfl) (de_var 1) de_int) da_nil))))) dss_nil)
      (dss_cons (ds_if (dt_cmp (opr_eq hr.units) opl_eq (nomark _) (de_ix ix_seq opl_ix (fun _ _ => rfl) (de_var 1) de_int) de_str) (dss_one (ds_ret (de_ix ix_seq opl_ix (fun _ _ => rfl) (de_var 0) de_int))) dss_nil)
      (dss_one (ds_ret (de_call G__law_in hr rfl T.m__law_in T.F__law_in.kp T.b__law_in (da_cons (de_ix ix_seq opl_ix (fun _ _ => rfl) (de_var 0) de_int) (da_cons (de_ix ix_seq opl_ix (fun _ _ => rfl) (de_var 1) de_int) da_nil))))))))))
end
end WK41
set_option Elab.async false
set_option linter.all false
set_option maxRecDepth 100000
set_option maxHeartbeats 8000000
namespace WK41
open PySem PySem.Spec PyProof.Rows L2 DL
section
variable {P : Program} {w : World} {K : PySem.W.Frag} {mg : Str → Option Value} {base : Heap}
theorem ok__law_meets {k : Nat} {sp sp__law_meets sp__law_in : Sp'} (T : Tx K mg) (G__law_meets : FnD P w K mg base k T.f__law_meets T.d__law_meets p__law_meets sp__law_meets) (G__law_in : FnD P w K mg base k T.f__law_in T.d__law_in p__law_in sp__law_in) (len : ∀ ds h Q E, sp ds h Q E → ds.length = 2)
    (rd : ∀ ds h Q E', sp ds h Q E' → K04.t__law_meets sp__law_meets sp__law_in (ends Q) (slots K04.n__law_meets ds) h) : FnD P w K mg base (k + 1) T.f__law_meets T.d__law_meets p__law_meets sp := by
  refine fnD T.F__law_meets sc__law_meets len fun cdv A outer s H E hr E' => ⟨K04.t__law_meets sp__law_meets sp__law_in, ?_, fun ds h Q q => rd ds h Q E' q⟩
  have sc := sc__law_meets
  exact (dss_cons (ds_set (i := 2) sc.nd rfl (Or.inl rfl) (de_ix ix_seq opl_ix (fun _ _ => rfl) (de_var 0) de_int))
      (dss_cons (ds_if (dt_cmp (opr_eq hr.units) opl_eq (nomark _) (de_var 2) de_str) (dss_one (ds_ret (de_cmp op_lt opl_lt (nomark _) (de_var 1) (de_ix ix_seq opl_ix (fun _ _ => rfl) (de_var 0) de_int)))) dss_nil)
      (dss_cons (ds_if (dt_cmp (opr_eq hr.units) opl_eq (nomark _) (de_var 2) de_str) (dss_one (ds_ret (de_cmp op_gt opl_gt (nomark _) (de_var 1) (de_ix ix_seq opl_ix (fun _ _ => rfl) (de_var 0) de_int)))) dss_nil)
      (dss_cons (ds_if (dt_cmp (opr_eq hr.units) opl_eq (nomark _) (de_var 2) de_str) (dss_one (ds_ret (de_cmp (opr_eq hr.units) opl_eq (nomark _) (de_op op_mod opl_mod (de_callTy call_int1 cl_int rfl T.z_int boot'_int (da_cons (de_op op_sub opl_sub (de_var 1) (de_ix ix_seq opl_ix (fun _ _ => rfl) (de_var 0) de_int)) da_nil)) (de_ix ix_seq opl_ix (fun _ _ => rfl) (de_var 0) de_int)) de_int))) dss_nil)
      (dss_cons (ds_if (dw_pt (dw_orp (pu_tb (pu_to pu_eq pu_tv pu_tc)) (dt_cmp (opr_eq hr.units) opl_eq (nomark _) (de_var 2) de_str) (dw_or1 (dt_cmp (opr_eq hr.units) opl_eq (nomark _) (de_var 2) de_str)))) (dss_one (ds_ret (de_cmp (opr_eq hr.units) opl_eq (nomark _) (de_var 1) (de_ix ix_seq opl_ix (fun _ _ => rfl) (de_var 0) de_int)))) dss_nil)
      (dss_cons (ds_if (dt_cmp (opr_eq hr.units) opl_eq (nomark _) (de_var 2) de_str) (dss_one (ds_ret (de_and (de_call G__law_meets hr rfl T.m__law_meets T.F__law_meets.kp T.b__law_meets (da_cons (de_ix ix_seq opl_ix (fun _ _ => rfl) (de_var 0) de_int) (da_cons (de_var 1) da_nil))) (de_one (de_call G__law_meets hr rfl T.m__law_meets T.F__law_meets.kp T.b__law_meets (da_cons (de_ix ix_seq opl_ix (fun _ _ => rfl) (de_var 0) de_int) (da_cons (de_var 1) da_nil))))))) dss_nil)
      (dss_cons (ds_if (dt_cmp (opr_eq hr.units) opl_eq (nomark _) (de_var 2) de_str) (dss_one (ds_ret (de_or (de_call G__law_meets hr rfl T.m__law_meets T.F__law_meets.kp T.b__law_meets (da_cons (de_ix ix_seq opl_ix (fun _ _ => rfl) (de_var 0) de_int) (da_cons (de_var 1) da_nil))) (de_one (de_call G__law_meets hr rfl T.m__law_meets T.F__law_meets.kp T.b__law_meets (da_cons (de_ix ix_seq opl_ix (fun _ _ => rfl) (de_var 0) de_int) (da_cons (de_var 1) da_nil))))))) dss_nil)
      (dss_cons (ds_if (dt_cmp (opr_eq hr.units) opl_eq (nomark _) (de_var 2) de_str) (dss_one (ds_ret (de_not (de_call G__law_meets hr rfl T.m__law_meets T.F__law_meets.kp T.b__law_meets (da_cons (de_ix ix_seq opl_ix (fun _ _ => rfl) (de_var 0) de_int) (da_cons (de_var 1) da_nil)))))) dss_nil)
      (dss_cons (ds_if (dt_cmp (opr_eq hr.units) opl_eq (nomark _) (de_var 2) de_str) (dss_one (ds_ret (de_call G__law_meets hr rfl T.m__law_meets T.F__law_meets.kp T.b__law_meets (da_cons (de_ix ix_seq opl_ix (fun _ _ => rfl) (de_var 0) de_int) (da_cons (de_ix ix_seq opl_ix (fun _ _ => rfl) (de_var 1) de_int) da_nil))))) dss_nil)
      (dss_cons (ds_if (dt_cmp (opr_eq hr.units) opl_eq (nomark _) (de_var 2) de_str) (dss_one (ds_ret (de_call G__law_meets hr rfl T.m__law_meets T.F__law_meets.kp T.b__law_meets (da_cons (de_ix ix_seq opl_ix (fun _ _ => rfl) (de_var 0) de_int) (da_cons (de_ix ix_seq opl_ix (fun _ _ => rfl) (de_var 1) de_int) da_nil))))) dss_nil)
      (dss_cons (ds_if (dt_cmp (opr_eq hr.units) opl_eq (nomark _) (de_var 2) de_str) (dss_one (ds_ret (de_and (de_cmp (opr_eq hr.units) opl_eq (nomark _) (de_ix ix_seq opl_ix (fun _ _ => rfl) (de_var 1) de_int) (de_ix ix_seq opl_ix (fun _ _ => rfl) (de_var 0) de_int)) (de_one (de_call G__law_meets hr rfl T.m__law_meets T.F__law_meets.kp T.b__law_meets (da_cons (de_ix ix_seq opl_ix (fun _ _ => rfl) (de_var 0) de_int) (da_cons (de_ix ix_seq opl_ix (fun _ _ => rfl) (de_var 1) de_int) da_nil))))))) dss_nil)
      (dss_cons (ds_if (dt_cmp (opr_eq hr.units) opl_eq (nomark _) (de_var 2) de_str) (dss_one (ds_ret (de_and (de_cmp (opr_eq hr.units) opl_eq (nomark _) (de_ix ix_seq opl_ix (fun _ _ => rfl) (de_var 1) de_int) de_str) (de_one (de_call G__law_meets hr rfl T.m__law_meets T.F__law_meets.kp T.b__law_meets (da_cons (de_ix ix_seq opl_ix (fun _ _ => rfl) (de_var 0) de_int) (da_cons (de_ix ix_seq opl_ix (fun _ _ => rfl) (de_var 1) de_int) da_nil))))))) dss_nil)
      (dss_cons (ds_if (dt_cmp (opr_eq hr.units) opl_eq (nomark _) (de_var 2) de_str) (dss_one (ds_ret (de_cmp (opr_eq hr.units) opl_eq (nomark _) (de_ix ix_seq opl_ix (fun _ _ => rfl) (de_var 1) de_int) de_str))) dss_nil)
      (dss_cons (ds_if (dt_cmp (opr_eq hr.units) opl_eq (nomark _) (de_var 2) de_str) (dss_one (ds_ret (de_call G__law_in hr rfl T.m__law_in T.F__law_in.kp T.b__law_in (da_cons (de_ix ix_seq opl_ix (fun _ _ => rfl) (de_var 0) de_int) (da_cons (de_var 1) da_nil))))) dss_nil)
      (dss_one (ds_ret (de_cmp (opr_eq hr.units) opl_eq (nomark _) (de_var 2) de_str)))))))))))))))))
theorem ok__law_fits {k : Nat} {sp sp__law_fits sp__law_is_shape sp__law_whole : Sp'} (T : Tx K mg) (G__law_fits : FnD P w K mg base k T.f__law_fits T.d__law_fits p__law_fits sp__law_fits) (G__law_is_shape : FnD P w K mg base k T.f__law_is_shape T.d__law_is_shape p__law_is_shape sp__law_is_shape) (G__law_whole : FnD P w K mg base k T.f__law_whole T.d__law_whole p__law_whole sp__law_whole) (len : ∀ ds h Q E, sp ds h Q E → ds.length = 2)
    (rd : ∀ ds h Q E', sp ds h Q E' → K41.t__law_fits sp__law_fits sp__law_is_shape sp__law_whole (ends Q) (slots K41.n__law_fits ds) h) : FnD P w K mg base (k + 1) T.f__law_fits T.d__law_fits p__law_fits sp := by
  refine fnD T.F__law_fits sc__law_fits len fun cdv A outer s H E hr E' => ⟨K41.t__law_fits sp__law_fits sp__law_is_shape sp__law_whole, ?_, fun ds h Q q => rd ds h Q E' q⟩
  have sc := sc__law_fits
  exact (dss_cons (ds_if (dw_pt (dw_or (dt_not (dt_val (de_callB call_isi cl_is rfl T.z_isinstance boot'_isinstance (da_cons (de_var 1) (da_cons (de_blt rfl T.z_tuple boot'_tuple) da_nil))))) (dw_or (dt_cmp (opr_eq hr.units) opl_eq (nomark _) (de_callB cr_len cl_len rfl T.z_len boot'_len (da_cons (de_var 1) da_nil)) de_int) (dw_or1 (dt_not (dt_val (de_callB call_isi cl_is rfl T.z_isinstance boot'_isinstance (da_cons (de_ix ix_seq opl_ix (fun _ _ => rfl) (de_var 1) de_int) (da_cons (de_blt rfl T.z_str boot'_str) da_nil))))))))) (dss_one (ds_ret de_bl)) dss_nil)
      (dss_cons (ds_set (i := 2) sc.nd rfl (Or.inl rfl) (de_ix ix_seq opl_ix (fun _ _ => rfl) (de_var 1) de_int))
      (dss_cons (ds_if (dt_cmp op_in_seq opl_in rfl (de_var 2) (de_lis (da_cons de_str (da_cons de_str da_nil)))) (dss_one (ds_ret (de_cmp (opr_eq hr.units) opl_eq (nomark _) (de_callB cr_len cl_len rfl T.z_len boot'_len (da_cons (de_var 1) da_nil)) de_int))) dss_nil)
      (dss_cons (ds_if (dt_cmp (opr_eq hr.units) opl_eq (nomark _) (de_var 2) de_str) (dss_one (ds_ret (de_and (de_cmp (opr_eq hr.units) opl_eq (nomark _) (de_callB cr_len cl_len rfl T.z_len boot'_len (da_cons (de_var 1) da_nil)) de_int) (de_one (de_call G__law_fits hr rfl T.m__law_fits T.F__law_fits.kp T.b__law_fits (da_cons (de_var 0) (da_cons (de_ix ix_seq opl_ix (fun _ _ => rfl) (de_var 1) de_int) da_nil))))))) dss_nil)
      (dss_cons (ds_if (dt_cmp op_in_seq opl_in rfl (de_var 2) (de_lis (da_cons de_str (da_cons de_str da_nil)))) (dss_one (ds_ret (de_and (de_cmp (opr_eq hr.units) opl_eq (nomark _) (de_callB cr_len cl_len rfl T.z_len boot'_len (da_cons (de_var 1) da_nil)) de_int) (de_and (de_call G__law_fits hr rfl T.m__law_fits T.F__law_fits.kp T.b__law_fits (da_cons (de_var 0) (da_cons (de_ix ix_seq opl_ix (fun _ _ => rfl) (de_var 1) de_int) da_nil))) (de_one (de_call G__law_fits hr rfl T.m__law_fits T.F__law_fits.kp T.b__law_fits (da_cons (de_var 0) (da_cons (de_ix ix_seq opl_ix (fun _ _ => rfl) (de_var 1) de_int) da_nil)))))))) dss_nil)
      (dss_cons (ds_if (dt_cmp (opr_eq hr.units) opl_eq (nomark _) (de_var 2) de_str) (dss_one (ds_ret (de_and (de_cmp (opr_eq hr.units) opl_eq (nomark _) (de_callB cr_len cl_len rfl T.z_len boot'_len (da_cons (de_var 1) da_nil)) de_int) (de_one (de_call G__law_is_shape hr rfl T.m__law_is_shape T.F__law_is_shape.kp T.b__law_is_shape (da_cons (de_var 0) (da_cons (de_ix ix_seq opl_ix (fun _ _ => rfl) (de_var 1) de_int) da_nil))))))) dss_nil)
      (dss_cons (ds_if (dt_cmp (opr_eq hr.units) opl_eq (nomark _) (de_ix ix_seq opl_ix (fun _ _ => rfl) (de_var 0) de_int) de_str) (dss_one (ds_ret (de_and (de_cmp (opr_eq hr.units) opl_eq (nomark _) (de_var 2) de_str) (de_and (de_cmp (opr_eq hr.units) opl_eq (nomark _) (de_callB cr_len cl_len rfl T.z_len boot'_len (da_cons (de_var 1) da_nil)) de_int) (de_and (de_callB call_isi cl_is rfl T.z_isinstance boot'_isinstance (da_cons (de_ix ix_seq opl_ix (fun _ _ => rfl) (de_var 1) de_int) (da_cons (de_blt rfl T.z_str boot'_str) da_nil))) (de_one (de_cmp op_in_seq opl_in rfl (de_ix ix_seq opl_ix (fun _ _ => rfl) (de_var 1) de_int) (de_ix ix_seq opl_ix (fun _ _ => rfl) (de_var 0) de_int)))))))) dss_nil)
      (dss_cons (ds_if (dt_cmp (opr_eq hr.units) opl_eq (nomark _) (de_ix ix_seq opl_ix (fun _ _ => rfl) (de_var 0) de_int) de_str) (dss_cons (ds_if (dt_cmp op_in_seq opl_in rfl (de_var 2) (de_lis (da_cons de_str (da_cons de_str (da_cons de_str da_nil))))) (dss_one (ds_ret (de_and (de_cmp (opr_eq hr.units) opl_eq (nomark _) (de_callB cr_len cl_len rfl T.z_len boot'_len (da_cons (de_var 1) da_nil)) de_int) (de_one (de_call G__law_whole hr rfl T.m__law_whole T.F__law_whole.kp T.b__law_whole (da_cons (de_ix ix_seq opl_ix (fun _ _ => rfl) (de_var 1) de_int) da_nil)))))) dss_nil)
      (dss_cons (ds_if (dw_pt (dw_or (dt_cmp (opr_ne hr.units) opl_ne (nomark _) (de_var 2) de_str) (dw_or (dt_cmp (opr_ne hr.units) opl_ne (nomark _) (de_callB cr_len cl_len rfl T.z_len boot'_len (da_cons (de_var 1) da_nil)) de_int) (dw_or (dt_not (dt_val (de_call G__law_whole hr rfl T.m__law_whole T.F__law_whole.kp T.b__law_whole (da_cons (de_ix ix_seq opl_ix (fun _ _ => rfl) (de_var 1) de_int) da_nil)))) (dw_or1 (dt_not (dt_val (de_call G__law_whole hr rfl T.m__law_whole T.F__law_whole.kp T.b__law_whole (da_cons (de_ix ix_seq opl_ix (fun _ _ => rfl) (de_var 1) de_int) da_nil))))))))) (dss_one (ds_ret de_bl)) dss_nil)
      (dss_one (ds_ret (de_cmp op_gt opl_gt (nomark _) (de_ix ix_seq opl_ix (fun _ _ => rfl) (de_var 1) de_int) de_int))))) dss_nil)
      (dss_cons (ds_if (dt_cmp (opr_eq hr.units) opl_eq (nomark _) (de_ix ix_seq opl_ix (fun _ _ => rfl) (de_var 0) de_int) de_str) (dss_cons (ds_if (dw_pt (dw_or (dt_cmp op_notIn_seq opl_in rfl (de_var 2) (de_lis (da_cons de_str (da_cons de_str da_nil)))) (dw_or1 (dt_cmp (opr_ne hr.units) opl_ne (nomark _) (de_callB cr_len cl_len rfl T.z_len boot'_len (da_cons (de_var 1) da_nil)) de_int)))) (dss_one (ds_ret de_bl)) dss_nil)
      (dss_one (ds_ret (de_call G__law_fits hr rfl T.m__law_fits T.F__law_fits.kp T.b__law_fits (da_cons (de_ix ix_seq opl_ix (fun _ _ => rfl) (de_var 0) (de_op opr_add opl_add de_int (de_callTy call_int1 cl_int rfl T.z_int boot'_int (da_cons (de_cmp (opr_eq hr.units) opl_eq (nomark _) (de_var 2) de_str) da_nil)))) (da_cons (de_ix ix_seq opl_ix (fun _ _ => rfl) (de_var 1) de_int) da_nil)))))) dss_nil)
      (dss_cons (ds_if (dt_cmp (opr_eq hr.units) opl_eq (nomark _) (de_ix ix_seq opl_ix (fun _ _ => rfl) (de_var 0) de_int) de_str) (dss_cons (ds_if (dw_pt (dw_or (dt_cmp (opr_ne hr.units) opl_ne (nomark _) (de_var 2) de_str) (dw_or (dt_cmp (opr_ne hr.units) opl_ne (nomark _) (de_callB cr_len cl_len rfl T.z_len boot'_len (da_cons (de_var 1) da_nil)) de_int) (dw_or1 (dt_not (dt_val (de_call G__law_whole hr rfl T.m__law_whole T.F__law_whole.kp T.b__law_whole (da_cons (de_ix ix_seq opl_ix (fun _ _ => rfl) (de_var 1) de_int) da_nil)))))))) (dss_one (ds_ret de_bl)) dss_nil)
      (dss_one (ds_ret (de_and (de_cmp op_le opl_le (nomark _) de_int (de_ix ix_seq opl_ix (fun _ _ => rfl) (de_var 1) de_int)) (de_and (de_cmp op_lt opl_lt (nomark _) (de_ix ix_seq opl_ix (fun _ _ => rfl) (de_var 1) de_int) (de_callB cr_len cl_len rfl T.z_len boot'_len (da_cons (de_ix ix_seq opl_ix (fun _ _ => rfl) (de_var 0) de_int) da_nil))) (de_one (de_call G__law_fits hr rfl T.m__law_fits T.F__law_fits.kp T.b__law_fits (da_cons (de_ix ix_seq opl_ix (fun _ _ => rfl) (de_ix ix_seq opl_ix (fun _ _ => rfl) (de_var 0) de_int) (de_ix ix_seq opl_ix (fun _ _ => rfl) (de_var 1) de_int)) (da_cons (de_ix ix_seq opl_ix (fun _ _ => rfl) (de_var 1) de_int) da_nil))))))))) dss_nil)
      (dss_cons (ds_if (dt_cmp (opr_eq hr.units) opl_eq (nomark _) (de_var 2) de_str) (dss_one (ds_ret (de_cmp (opr_eq hr.units) opl_eq (nomark _) (de_callB cr_len cl_len rfl T.z_len boot'_len (da_cons (de_var 1) da_nil)) de_int))) dss_nil)
      (dss_one (ds_ret (de_and (de_cmp (opr_eq hr.units) opl_eq (nomark _) (de_var 2) de_str) (de_and (de_cmp (opr_eq hr.units) opl_eq (nomark _) (de_callB cr_len cl_len rfl T.z_len boot'_len (da_cons (de_var 1) da_nil)) de_int) (de_one (de_call G__law_fits hr rfl T.m__law_fits T.F__law_fits.kp T.b__law_fits (da_cons (de_ix ix_seq opl_ix (fun _ _ => rfl) (de_var 0) de_int) (da_cons (de_ix ix_seq opl_ix (fun _ _ => rfl) (de_var 1) de_int) da_nil)))))))))))))))))))
theorem ok__law_is_states {k : Nat} {sp sp__law_whole : Sp'} (T : Tx K mg) (G__law_whole : FnD P w K mg base k T.f__law_whole T.d__law_whole p__law_whole sp__law_whole) (len : ∀ ds h Q E, sp ds h Q E → ds.length = 2)
    (rd : ∀ ds h Q E', sp ds h Q E' → K41.t__law_is_states sp__law_whole (ends Q) (slots K41.n__law_is_states ds) h) : FnD P w K mg base (k + 1) T.f__law_is_states T.d__law_is_states p__law_is_states sp := by
  refine fnD T.F__law_is_states sc__law_is_states len fun cdv A outer s H E hr E' => ⟨K41.t__law_is_states sp__law_whole, ?_, fun ds h Q q => rd ds h Q E' q⟩
  have sc := sc__law_is_states
  exact (dss_cons (ds_if (dt_not (dt_val (de_callB call_isi cl_is rfl T.z_isinstance boot'_isinstance (da_cons (de_var 1) (da_cons (de_blt rfl T.z_tuple boot'_tuple) da_nil))))) (dss_one (ds_ret de_bl)) dss_nil)
      (dss_cons (ds_set (i := 2) sc.nd rfl (Or.inl rfl) (de_un un_neg unl_neg de_int))
      (dss_cons (ds_for (passes_of rfl) rfl (di_seq (de_var 1)) (dg_name (i := 3) sc.nd rfl (Or.inl rfl)) (dss_cons (ds_if (dw_pt (dw_orp (pu_orp (pu_tb (pu_to pu_I2 pu_tv pu_tv)) (pu_tb (pu_to pu_I2 pu_tv pu_tv))) (dt_not (dt_val (de_call G__law_whole hr rfl T.m__law_whole T.F__law_whole.kp T.b__law_whole (da_cons (de_var 3) da_nil)))) (dw_orp (pu_tb (pu_to pu_I2 pu_tv pu_tv)) (dt_cmp op_le opl_le (nomark _) (de_var 3) (de_var 2)) (dw_or1 (dt_cmp op_ge opl_ge (nomark _) (de_var 3) (de_var 0)))))) (dss_one (ds_ret de_bl)) dss_nil)
      (dss_one (ds_set (i := 2) sc.nd rfl (Or.inl rfl) (de_var 3)))))
      (dss_one (ds_ret de_bl)))))
theorem ok__law_is_machine {k : Nat} {sp sp__law_whole sp__law_is_states sp__law_fits : Sp'} (T : Tx K mg) (G__law_whole : FnD P w K mg base k T.f__law_whole T.d__law_whole p__law_whole sp__law_whole) (G__law_is_states : FnD P w K mg base k T.f__law_is_states T.d__law_is_states p__law_is_states sp__law_is_states) (G__law_fits : FnD P w K mg base k T.f__law_fits T.d__law_fits p__law_fits sp__law_fits) (len : ∀ ds h Q E, sp ds h Q E → ds.length = 2)
    (rd : ∀ ds h Q E', sp ds h Q E' → K41.t__law_is_machine sp__law_whole sp__law_is_states sp__law_fits (ends Q) (slots K41.n__law_is_machine ds) h) : FnD P w K mg base (k + 1) T.f__law_is_machine T.d__law_is_machine p__law_is_machine sp := by
  refine fnD T.F__law_is_machine sc__law_is_machine len fun cdv A outer s H E hr E' => ⟨K41.t__law_is_machine sp__law_whole sp__law_is_states sp__law_fits, ?_, fun ds h Q q => rd ds h Q E' q⟩
  have sc := sc__law_is_machine
  exact (dss_cons (ds_if (dw_pt (dw_or (dt_not (dt_val (de_callB call_isi cl_is rfl T.z_isinstance boot'_isinstance (da_cons (de_var 1) (da_cons (de_blt rfl T.z_tuple boot'_tuple) da_nil))))) (dw_or (dt_cmp (opr_ne hr.units) opl_ne (nomark _) (de_callB cr_len cl_len rfl T.z_len boot'_len (da_cons (de_var 1) da_nil)) de_int) (dw_or (dt_cmp (opr_ne hr.units) opl_ne (nomark _) (de_ix ix_seq opl_ix (fun _ _ => rfl) (de_var 1) de_int) (de_var 0)) (dw_or (dt_not (dt_val (de_call G__law_whole hr rfl T.m__law_whole T.F__law_whole.kp T.b__law_whole (da_cons (de_ix ix_seq opl_ix (fun _ _ => rfl) (de_var 1) de_int) da_nil)))) (dw_or1 (dt_cmp op_lt opl_lt (nomark _) (de_ix ix_seq opl_ix (fun _ _ => rfl) (de_var 1) de_int) de_int))))))) (dss_one (ds_ret de_bl)) dss_nil)
      (dss_cons (ds_if (dw_pt (dw_or (dt_not (dt_val (de_call G__law_is_states hr rfl T.m__law_is_states T.F__law_is_states.kp T.b__law_is_states (da_cons (de_ix ix_seq opl_ix (fun _ _ => rfl) (de_var 1) de_int) (da_cons (de_ix ix_seq opl_ix (fun _ _ => rfl) (de_var 1) de_int) da_nil))))) (dw_or (dt_not (dt_val (de_call G__law_is_states hr rfl T.m__law_is_states T.F__law_is_states.kp T.b__law_is_states (da_cons (de_ix ix_seq opl_ix (fun _ _ => rfl) (de_var 1) de_int) (da_cons (de_ix ix_seq opl_ix (fun _ _ => rfl) (de_var 1) de_int) da_nil))))) (dw_or1 (dt_not (dt_val (de_callB call_isi cl_is rfl T.z_isinstance boot'_isinstance (da_cons (de_ix ix_seq opl_ix (fun _ _ => rfl) (de_var 1) de_int) (da_cons (de_blt rfl T.z_tuple boot'_tuple) da_nil))))))))) (dss_one (ds_ret de_bl)) dss_nil)
      (dss_cons (ds_for (passes_of rfl) rfl (di_seq (de_ix ix_seq opl_ix (fun _ _ => rfl) (de_var 1) de_int)) (dg_name (i := 2) sc.nd rfl (Or.inl rfl)) (dss_cons (ds_if (dw_pt (dw_or (dt_not (dt_val (de_callB call_isi cl_is rfl T.z_isinstance boot'_isinstance (da_cons (de_var 2) (da_cons (de_blt rfl T.z_tuple boot'_tuple) da_nil))))) (dw_or1 (dt_cmp (opr_ne hr.units) opl_ne (nomark _) (de_callB cr_len cl_len rfl T.z_len boot'_len (da_cons (de_var 2) da_nil)) de_int)))) (dss_one (ds_ret de_bl)) dss_nil)
      (dss_cons (ds_if (dw_pt (dw_or (dt_not (dt_val (de_call G__law_is_states hr rfl T.m__law_is_states T.F__law_is_states.kp T.b__law_is_states (da_cons (de_ix ix_seq opl_ix (fun _ _ => rfl) (de_var 1) de_int) (da_cons (de_tup (da_cons (de_ix ix_seq opl_ix (fun _ _ => rfl) (de_var 2) de_int) da_nil)) da_nil))))) (dw_or1 (dt_not (dt_val (de_call G__law_is_states hr rfl T.m__law_is_states T.F__law_is_states.kp T.b__law_is_states (da_cons (de_ix ix_seq opl_ix (fun _ _ => rfl) (de_var 1) de_int) (da_cons (de_tup (da_cons (de_ix ix_seq opl_ix (fun _ _ => rfl) (de_var 2) de_int) da_nil)) da_nil)))))))) (dss_one (ds_ret de_bl)) dss_nil)
      (dss_one (ds_if (dt_not (dt_val (de_call G__law_fits hr rfl T.m__law_fits T.F__law_fits.kp T.b__law_fits (da_cons (de_var 0) (da_cons (de_ix ix_seq opl_ix (fun _ _ => rfl) (de_var 2) de_int) da_nil))))) (dss_one (ds_ret de_bl)) dss_nil)))))
      (dss_one (ds_ret de_bl)))))
theorem ok__law_part {k : Nat} {sp sp__law_draw : Sp'} (T : Tx K mg) (G__law_draw : FnD P w K mg base k T.f__law_draw T.d__law_draw p__law_draw sp__law_draw) (len : ∀ ds h Q E, sp ds h Q E → ds.length = 2)
    (rd : ∀ ds h Q E', sp ds h Q E' → K22.t__law_part sp__law_draw (ends Q) (slots K22.n__law_part ds) h) : FnD P w K mg base (k + 1) T.f__law_part T.d__law_part p__law_part sp := by
  refine fnD T.F__law_part sc__law_part len fun cdv A outer s H E hr E' => ⟨K22.t__law_part sp__law_draw, ?_, fun ds h Q q => rd ds h Q E' q⟩
  have sc := sc__law_part
  exact (dss_one (ds_ret (de_callTy call_tupF cl_tup rfl T.z_tuple boot'_tuple (da_cons (de_lc rfl sc.nd (di_rng1 rfl T.z_range (da_cons (de_var 1) da_nil)) (blkOk_by (N := K22.n__law_part) (sc := defScope s__law_part) (by decide +kernel)) (fun _ _ _ _ _ => pg_name (i := 2) sc.nd rfl (Or.inl rfl)) (fun _ _ _ _ _ => dts_one (dt_cmp (opr_eq hr.units) opl_eq (nomark _) (de_call G__law_draw hr rfl T.m__law_draw T.F__law_draw.kp T.b__law_draw (da_cons (de_var 0) (da_cons de_int da_nil))) de_int)) (fun _ _ _ _ _ => (de_var 2))) da_nil))))
theorem ok__law_machine {k : Nat} {sp sp__law_draw sp__law_part sp__law_condition sp__law_conditions : Sp'} (T : Tx K mg) (G__law_draw : FnD P w K mg base k T.f__law_draw T.d__law_draw p__law_draw sp__law_draw) (G__law_part : FnD P w K mg base k T.f__law_part T.d__law_part p__law_part sp__law_part) (G__law_condition : FnD P w K mg base k T.f__law_condition T.d__law_condition p__law_condition sp__law_condition) (G__law_conditions : FnD P w K mg base k T.f__law_conditions T.d__law_conditions p__law_conditions sp__law_conditions) (len : ∀ ds h Q E, sp ds h Q E → ds.length = 6)
    (rd : ∀ ds h Q E', sp ds h Q E' → K22.t__law_machine sp__law_draw sp__law_part sp__law_condition sp__law_conditions (ends Q) (slots K22.n__law_machine ds) h) : FnD P w K mg base (k + 1) T.f__law_machine T.d__law_machine p__law_machine sp := by
  refine fnD T.F__law_machine sc__law_machine len fun cdv A outer s H E hr E' => ⟨K22.t__law_machine sp__law_draw sp__law_part sp__law_condition sp__law_conditions, ?_, fun ds h Q q => rd ds h Q E' q⟩
  have sc := sc__law_machine
  exact (dss_cons (ds_set (i := 6) sc.nd rfl (Or.inl rfl) (de_op opr_add opl_add de_int (de_call G__law_draw hr rfl T.m__law_draw T.F__law_draw.kp T.b__law_draw (da_cons (de_var 0) (da_cons (de_var 3) da_nil)))))
      (dss_cons (ds_set (i := 7) sc.nd rfl (Or.inl rfl) (de_tup (da_cons (de_call G__law_draw hr rfl T.m__law_draw T.F__law_draw.kp T.b__law_draw (da_cons (de_var 0) (da_cons (de_var 6) da_nil))) da_nil)))
      (dss_cons (ds_mid (ds_if (dt_cmp (opr_eq hr.units) opl_eq (nomark _) (de_call G__law_draw hr rfl T.m__law_draw T.F__law_draw.kp T.b__law_draw (da_cons (de_var 0) (da_cons de_int da_nil))) de_int) (dss_one (ds_set (i := 7) sc.nd rfl (Or.inl rfl) (de_call G__law_part hr rfl T.m__law_part T.F__law_part.kp T.b__law_part (da_cons (de_var 0) (da_cons (de_var 6) da_nil))))) dss_nil))
      (dss_cons (ds_set (i := 8) sc.nd rfl (Or.inl rfl) (de_call G__law_part hr rfl T.m__law_part T.F__law_part.kp T.b__law_part (da_cons (de_var 0) (da_cons (de_var 6) da_nil))))
      (dss_cons (ds_mid (ds_if (dt_cmp (opr_eq hr.units) opl_eq (nomark _) (de_call G__law_draw hr rfl T.m__law_draw T.F__law_draw.kp T.b__law_draw (da_cons (de_var 0) (da_cons de_int da_nil))) de_int) (dss_one (ds_set (i := 8) sc.nd rfl (Or.inl rfl) (de_tup (da_cons (de_call G__law_draw hr rfl T.m__law_draw T.F__law_draw.kp T.b__law_draw (da_cons (de_var 0) (da_cons (de_var 6) da_nil))) da_nil)))) dss_nil))
      (dss_cons (ds_set (i := 9) sc.nd rfl (Or.inl rfl) (de_own da_nil))
      (dss_cons (ds_for (passes_of rfl) rfl (di_rng1 rfl T.z_range (da_cons (de_op op_sub opl_sub (de_var 4) (de_callB (call_min2 rfl) cl_min rfl T.z_min boot'_min (da_cons (de_call G__law_draw hr rfl T.m__law_draw T.F__law_draw.kp T.b__law_draw (da_cons (de_var 0) (da_cons (de_op opr_add opl_add (de_var 4) de_int) da_nil))) (da_cons (de_call G__law_draw hr rfl T.m__law_draw T.F__law_draw.kp T.b__law_draw (da_cons (de_var 0) (da_cons (de_op opr_add opl_add (de_var 4) de_int) da_nil))) da_nil)))) da_nil)) (dg_name (i := 10) sc.nd rfl (Or.inl rfl)) (dss_cons (ds_set (i := 11) sc.nd rfl (Or.inl rfl) (de_call G__law_condition hr rfl T.m__law_condition T.F__law_condition.kp T.b__law_condition (da_cons (de_var 0) (da_cons (de_var 1) (da_cons (de_var 2) (da_cons (de_op opr_add opl_add de_int (de_call G__law_draw hr rfl T.m__law_draw T.F__law_draw.kp T.b__law_draw (da_cons (de_var 0) (da_cons (de_var 5) da_nil)))) da_nil))))))
      (dss_cons (ds_set (i := 12) sc.nd rfl (Or.inl rfl) (de_call G__law_draw hr rfl T.m__law_draw T.F__law_draw.kp T.b__law_draw (da_cons (de_var 0) (da_cons de_int da_nil))))
      (dss_cons (ds_mid (ds_if (dw_pt (dw_and (dt_tru (de_var 9)) (dw_and1 (dt_cmp op_lt opl_lt (nomark _) (de_var 12) de_int)))) (dss_cons (ds_set (i := 11) sc.nd rfl (Or.inl rfl) (de_ix ix_seq opl_ix (fun _ _ => rfl) (de_ix ix_seq opl_ix (fun _ _ => rfl) (de_var 9) (de_call G__law_draw hr rfl T.m__law_draw T.F__law_draw.kp T.b__law_draw (da_cons (de_var 0) (da_cons (de_callB cr_len cl_len rfl T.z_len boot'_len (da_cons (de_var 9) da_nil)) da_nil)))) de_int))
      (dss_one (ds_mid (ds_if (dw_pt (dw_and (dt_cmp (opr_eq hr.units) opl_eq (nomark _) (de_var 12) de_int) (dw_and1 (dt_cmp op_lt opl_lt (nomark _) (de_call G__law_conditions hr rfl T.m__law_conditions T.F__law_conditions.kp T.b__law_conditions (da_cons (de_var 11) da_nil)) (de_var 5))))) (dss_one (ds_set (i := 11) sc.nd rfl (Or.inl rfl) (de_tup (da_cons de_str (da_cons (de_var 11) da_nil))))) dss_nil)))) dss_nil))
      (dss_cons (ds_set (i := 13) sc.nd rfl (Or.inl rfl) (de_call G__law_draw hr rfl T.m__law_draw T.F__law_draw.kp T.b__law_draw (da_cons (de_var 0) (da_cons (de_var 6) da_nil))))
      (dss_one (ds_expr (de_append (de_var 9) (da_cons (de_tup (da_cons (de_var 13) (da_cons (de_var 11) (da_cons (de_call G__law_draw hr rfl T.m__law_draw T.F__law_draw.kp T.b__law_draw (da_cons (de_var 0) (da_cons (de_var 6) da_nil))) da_nil)))) da_nil)))))))))
      (dss_one (ds_ret (de_tup (da_cons (de_var 1) (da_cons (de_var 6) (da_cons (de_var 7) (da_cons (de_var 8) (da_cons (de_callTy call_tupF cl_tup rfl T.z_tuple boot'_tuple (da_cons (de_var 9) da_nil)) da_nil)))))))))))))))
end
end WK41
set_option Elab.async false
set_option linter.all false
set_option maxRecDepth 100000
set_option maxHeartbeats 8000000
namespace WK41
open PySem PySem.Spec PyProof.Rows L2 DL
section
variable {P : Program} {w : World} {K : PySem.W.Frag} {mg : Str → Option Value} {base : Heap}
theorem ok__law_has_end {k : Nat} {sp  : Sp'} (T : Tx K mg)  (len : ∀ ds h Q E, sp ds h Q E → ds.length = 2)
    (rd : ∀ ds h Q E', sp ds h Q E' → K22.t__law_has_end  (ends Q) (slots K22.n__law_has_end ds) h) : FnD P w K mg base (k + 1) T.f__law_has_end T.d__law_has_end p__law_has_end sp := by
  refine fnD T.F__law_has_end sc__law_has_end len fun cdv A outer s H E hr E' => ⟨K22.t__law_has_end , ?_, fun ds h Q q => rd ds h Q E' q⟩
  have sc := sc__law_has_end
  exact (dss_one (ds_ret (de_cmp op_gt opl_gt (nomark _) (de_callB cr_len cl_len rfl T.z_len boot'_len (da_cons (de_lc rfl sc.nd (di_seq (de_var 1)) (blkOk_by (N := K22.n__law_has_end) (sc := defScope s__law_has_end) (by decide +kernel)) (fun _ _ _ _ _ => pg_name (i := 2) sc.nd rfl (Or.inl rfl)) (fun _ _ _ _ _ => dts_one (dt_cmp op_in_seq opl_in rfl (de_var 2) (de_ix ix_seq opl_ix (fun _ _ => rfl) (de_var 0) de_int))) (fun _ _ _ _ _ => (de_var 2))) da_nil)) de_int)))
theorem ok__law_after {k : Nat} {sp  : Sp'} (T : Tx K mg)  (len : ∀ ds h Q E, sp ds h Q E → ds.length = 3)
    (rd : ∀ ds h Q E', sp ds h Q E' → K41.t__law_after  (ends Q) (slots K41.n__law_after ds) h) : FnD P w K mg base (k + 1) T.f__law_after T.d__law_after p__law_after sp := by
  refine fnD T.F__law_after sc__law_after len fun cdv A outer s H E hr E' => ⟨K41.t__law_after , ?_, fun ds h Q q => rd ds h Q E' q⟩
  have sc := sc__law_after
  exact (dss_cons (ds_set (i := 3) sc.nd rfl (Or.inr rfl) (de_own da_nil))
      (dss_cons (ds_for (passes_of rfl) rfl (di_rng1 rfl T.z_range (da_cons (de_callB cr_len cl_len rfl T.z_len boot'_len (da_cons (de_ix ix_seq opl_ix (fun _ _ => rfl) (de_var 0) de_int) da_nil)) da_nil)) (dg_name (i := 4) sc.nd rfl (Or.inl rfl)) (dss_one (ds_mid (ds_if (dw_pt (dw_and (dt_val (de_ix ix_seq opl_ix (fun _ _ => rfl) (de_var 2) (de_var 4))) (dw_and1 (dt_cmp op_in_seq opl_in rfl (de_ix ix_seq opl_ix (fun _ _ => rfl) (de_ix ix_seq opl_ix (fun _ _ => rfl) (de_ix ix_seq opl_ix (fun _ _ => rfl) (de_var 0) de_int) (de_var 4)) de_int) (de_var 1))))) (dss_one (ds_expr (de_append (de_var 3) (da_cons (de_ix ix_seq opl_ix (fun _ _ => rfl) (de_ix ix_seq opl_ix (fun _ _ => rfl) (de_ix ix_seq opl_ix (fun _ _ => rfl) (de_var 0) de_int) (de_var 4)) de_int) da_nil)))) dss_nil))))
      (dss_one (ds_ret (de_callTy call_tupF cl_tup rfl T.z_tuple boot'_tuple (da_cons (de_lc rfl sc.nd (di_rng1 rfl T.z_range (da_cons (de_ix ix_seq opl_ix (fun _ _ => rfl) (de_var 0) de_int) da_nil)) (blkOk_by (N := K41.n__law_after) (sc := defScope s__law_after) (by decide +kernel)) (fun _ _ _ _ _ => pg_name (i := 5) sc.nd rfl (Or.inl rfl)) (fun _ _ _ _ _ => dts_one (dt_cmp op_in_seq opl_in rfl (de_var 5) (de_var 3))) (fun _ _ _ _ _ => (de_var 5))) da_nil))))))
theorem ok__law_call {k : Nat} {sp sp_followed sp_repeated sp_backwards : Sp'} (T : Tx K mg) (G_followed : FnD P w K mg base k T.f_followed T.d_followed p_followed sp_followed) (G_repeated : FnD P w K mg base k T.f_repeated T.d_repeated p_repeated sp_repeated) (G_backwards : FnD P w K mg base k T.f_backwards T.d_backwards p_backwards sp_backwards) (len : ∀ ds h Q E, sp ds h Q E → ds.length = 3)
    (rd : ∀ ds h Q E', sp ds h Q E' → K41.t__law_call sp_followed sp_repeated sp_backwards (ends Q) (slots K41.n__law_call ds) h) : FnD P w K mg base (k + 1) T.f__law_call T.d__law_call p__law_call sp := by
  refine fnD T.F__law_call sc__law_call len fun cdv A outer s H E hr E' => ⟨K41.t__law_call sp_followed sp_repeated sp_backwards, ?_, fun ds h Q q => rd ds h Q E' q⟩
  have sc := sc__law_call
  exact (dss_cons (ds_if (dt_cmp (opr_eq hr.units) opl_eq (nomark _) (de_var 0) de_int) (dss_one (ds_ret (de_call G_followed hr rfl T.m_followed T.F_followed.kp T.b_followed (da_cons (de_var 1) (da_cons (de_var 2) da_nil))))) dss_nil)
      (dss_cons (ds_if (dt_cmp (opr_eq hr.units) opl_eq (nomark _) (de_var 0) de_int) (dss_one (ds_ret (de_call G_repeated hr rfl T.m_repeated T.F_repeated.kp T.b_repeated (da_cons (de_var 1) da_nil)))) dss_nil)
      (dss_one (ds_ret (de_call G_backwards hr rfl T.m_backwards T.F_backwards.kp T.b_backwards (da_cons (de_var 1) da_nil))))))
theorem ok_law {k : Nat} {sp sp__law_tape sp__law_theme sp__law_draw sp__law_plain_machine sp__law_changed sp__law_signs sp__law_deed_chart sp__law_call sp__law_is_machine sp__law_speaks : Sp'} (T : Tx K mg) (G__law_tape : FnD P w K mg base k T.f__law_tape T.d__law_tape p__law_tape sp__law_tape) (G__law_theme : FnD P w K mg base k T.f__law_theme T.d__law_theme p__law_theme sp__law_theme) (G__law_draw : FnD P w K mg base k T.f__law_draw T.d__law_draw p__law_draw sp__law_draw) (G__law_plain_machine : FnD P w K mg base k T.f__law_plain_machine T.d__law_plain_machine p__law_plain_machine sp__law_plain_machine) (G__law_changed : FnD P w K mg base k T.f__law_changed T.d__law_changed p__law_changed sp__law_changed) (G__law_signs : FnD P w K mg base k T.f__law_signs T.d__law_signs p__law_signs sp__law_signs) (G__law_deed_chart : FnD P w K mg base k T.f__law_deed_chart T.d__law_deed_chart p__law_deed_chart sp__law_deed_chart) (G__law_call : FnD P w K mg base k T.f__law_call T.d__law_call p__law_call sp__law_call) (G__law_is_machine : FnD P w K mg base k T.f__law_is_machine T.d__law_is_machine p__law_is_machine sp__law_is_machine) (G__law_speaks : FnD P w K mg base k T.f__law_speaks T.d__law_speaks p__law_speaks sp__law_speaks) (len : ∀ ds h Q E, sp ds h Q E → ds.length = 1)
    (rd : ∀ ds h Q E', sp ds h Q E' → K41.t_law sp__law_tape sp__law_theme sp__law_draw sp__law_plain_machine sp__law_changed sp__law_signs sp__law_deed_chart sp__law_call sp__law_is_machine sp__law_speaks (ends Q) (slots K41.n_law ds) h) : FnD P w K mg base (k + 1) T.f_law T.d_law p_law sp := by
  refine fnD T.F_law sc_law len fun cdv A outer s H E hr E' => ⟨K41.t_law sp__law_tape sp__law_theme sp__law_draw sp__law_plain_machine sp__law_changed sp__law_signs sp__law_deed_chart sp__law_call sp__law_is_machine sp__law_speaks, ?_, fun ds h Q q => rd ds h Q E' q⟩
  have sc := sc_law
  exact (dss_cons (ds_set (i := 1) sc.nd rfl (Or.inr rfl) (de_call G__law_tape hr rfl T.m__law_tape T.F__law_tape.kp T.b__law_tape (da_cons (de_var 0) da_nil)))
      (dss_cons (ds_set (i := 2) sc.nd rfl (Or.inr rfl) (de_call G__law_theme hr rfl T.m__law_theme T.F__law_theme.kp T.b__law_theme (da_cons (de_var 1) (da_cons de_int da_nil))))
      (dss_cons (ds_set (i := 3) sc.nd rfl (Or.inl rfl) (de_ix ix_seq opl_ix (fun _ _ => rfl) (de_var 2) de_int))
      (dss_cons (ds_set (i := 4) sc.nd rfl (Or.inr rfl) (de_call G__law_draw hr rfl T.m__law_draw T.F__law_draw.kp T.b__law_draw (da_cons (de_var 1) (da_cons de_int da_nil))))
      (dss_cons (ds_setlc rfl sc.nd rfl rfl (sw_true rfl rfl rfl (by decide +kernel)) (di_rng1 rfl T.z_range (da_cons de_int da_nil)) (blkOk_by (N := K41.n_law) (sc := defScope s_law) (by decide +kernel)) (fun _ _ _ _ _ => pg_name (i := 5) sc.nd rfl (Or.inl rfl)) (fun _ _ _ _ _ => dts_nil) (fun _ _ _ _ _ => (de_call G__law_plain_machine hr rfl T.m__law_plain_machine T.F__law_plain_machine.kp T.b__law_plain_machine (da_cons (de_var 1) (da_cons (de_var 2) da_nil)))))
      (dss_cons (ds_set (i := 7) sc.nd rfl (Or.inl rfl) (de_op op_mul opl_mul (de_call G__law_draw hr rfl T.m__law_draw T.F__law_draw.kp T.b__law_draw (da_cons (de_var 1) (da_cons de_int da_nil))) (de_callTy call_int1 cl_int rfl T.z_int boot'_int (da_cons (de_cmp op_lt opl_lt (nomark _) (de_var 4) de_int) da_nil))))
      (dss_cons (ds_set (i := 8) sc.nd rfl (Or.inl rfl) (de_callTy call_list_of cl_listO rfl T.z_list boot'_list (da_cons (de_var 6) da_nil)))
      (dss_cons (ds_asg (de_call G__law_changed hr rfl T.m__law_changed T.F__law_changed.kp T.b__law_changed (da_cons (de_var 1) (da_cons (de_var 3) (da_cons (de_ix ix_seq opl_ix (fun _ _ => rfl) (de_var 2) de_int) (da_cons (de_ix ix_seq opl_ix (fun _ _ => rfl) (de_var 6) (de_var 7)) da_nil))))) (dg_sub (de_var 8) (de_var 7)))
      (dss_cons (ds_set (i := 9) sc.nd rfl (Or.inr rfl) (de_call G__law_signs hr rfl T.m__law_signs T.F__law_signs.kp T.b__law_signs (da_cons (de_var 1) (da_cons (de_var 2) (da_cons (de_op opr_add opl_addO (de_var 6) (de_var 8)) da_nil)))))
      (dss_cons (ds_set (i := 10) sc.nd rfl (Or.inl rfl) (de_lis (da_cons (de_var 6) (da_cons (de_var 8) da_nil))))
      (dss_cons (ds_setlc rfl sc.nd rfl rfl (sw_true rfl rfl rfl (by decide +kernel)) (di_seq (de_var 10)) (blkOk_by (N := K41.n_law) (sc := defScope s_law) (by decide +kernel)) (fun _ _ _ _ _ => pg_name (i := 14) sc.nd rfl (Or.inl rfl)) (fun _ _ _ _ _ => dts_nil) (fun _ _ _ _ _ => (de_call G__law_deed_chart hr rfl T.m__law_deed_chart T.F__law_deed_chart.kp T.b__law_deed_chart (da_cons (de_ix ix_seq opl_ix (fun _ _ => rfl) (de_lis (da_cons de_str (da_cons de_str (da_cons de_str da_nil)))) (de_var 4)) (da_cons (de_ix ix_seq opl_ix (fun _ _ => rfl) (de_var 14) de_int) (da_cons (de_ix ix_seq opl_ix (fun _ _ => rfl) (de_var 14) de_int) (da_cons (de_var 9) da_nil)))))))
      (dss_cons (ds_for (passes_of rfl) rfl (di_seq (de_lis (da_cons de_int (da_cons de_int (da_cons de_int da_nil))))) (dg_name (i := 5) sc.nd rfl (Or.inl rfl)) (dss_cons (ds_set (i := 12) sc.nd rfl (Or.inl rfl) (de_call G__law_call hr rfl T.m__law_call T.F__law_call.kp T.b__law_call (da_cons (de_var 4) (da_cons (de_ix ix_seq opl_ix (fun _ _ => rfl) (de_ix ix_seq opl_ix (fun _ _ => rfl) (de_var 10) (de_var 5)) de_int) (da_cons (de_ix ix_seq opl_ix (fun _ _ => rfl) (de_ix ix_seq opl_ix (fun _ _ => rfl) (de_var 10) (de_var 5)) de_int) da_nil)))))
      (dss_cons (ds_set (i := 13) sc.nd rfl (Or.inl rfl) (de_ix ix_seq opl_ix (fun _ _ => rfl) (de_ix ix_seq opl_ix (fun _ _ => rfl) (de_ix ix_seq opl_ix (fun _ _ => rfl) (de_var 10) (de_var 5)) de_int) de_int))
      (dss_cons (ds_if (dw_pt (dw_or (dt_not (dt_val (de_call G__law_is_machine hr rfl T.m__law_is_machine T.F__law_is_machine.kp T.b__law_is_machine (da_cons (de_var 3) (da_cons (de_var 12) da_nil))))) (dw_or1 (dt_cmp op_gt opl_gt (nomark _) (de_ix ix_seq opl_ix (fun _ _ => rfl) (de_var 12) de_int) (de_ix ix_seq opl_ix (fun _ _ => rfl) (de_lis (da_cons (de_op opr_add opl_add (de_var 13) (de_ix ix_seq opl_ix (fun _ _ => rfl) (de_ix ix_seq opl_ix (fun _ _ => rfl) (de_ix ix_seq opl_ix (fun _ _ => rfl) (de_var 10) (de_var 5)) de_int) de_int)) (da_cons (de_op opr_add opl_add (de_var 13) de_int) (da_cons (de_var 13) da_nil)))) (de_var 4)))))) (dss_one (ds_ret de_bl)) dss_nil)
      (dss_one (ds_if (dt_not (dt_val (de_call G__law_speaks hr rfl T.m__law_speaks T.F__law_speaks.kp T.b__law_speaks (da_cons (de_var 12) (da_cons (de_ix ix_seq opl_ix (fun _ _ => rfl) (de_var 11) (de_var 5)) (da_cons (de_var 9) (da_cons de_int da_nil))))))) (dss_one (ds_ret de_bl)) dss_nil))))))
      (dss_one (ds_ret de_bl))))))))))))))
end
end WK41
set_option Elab.async false
set_option linter.all false
set_option maxRecDepth 100000
namespace DL
open PySem PySem.Spec PyProof.Rows L2
theorem fin {Q : VK'} {d : D} {h : DH} (q : Q d h) : (ends Q).rt d h := ⟨h, Sub.refl, q⟩
theorem for_ind {g : TG'} {tb : TS'} {C : DH → Prop} {E : Ends'} (I : List D → St' → DH → Prop) (done : ∀ τ h, I [] τ h → forS g tb C E [] τ h)
    (step : ∀ x xs, (∀ τ h, I xs τ h → forS g tb C E xs τ h) → ∀ τ h, I (x :: xs) τ h → forS g tb C E (x :: xs) τ h) : ∀ xs τ h, I xs τ h → forS g tb C E xs τ h := by
  intro xs
  induction xs with
  | nil => exact done
  | cons x xs ih => exact step x xs ih
theorem lc_ind {n : Nat} {tt : TT'} {te : TE'} {C : DH → Prop} {τ : St'} {Q : List D → DH → Prop} (I : List D → List D → DH → Prop) (done : ∀ acc h, I [] acc h → lcS n tt te C τ Q [] acc h)
    (step : ∀ x xs, (∀ acc h, I xs acc h → lcS n tt te C τ Q xs acc h) → ∀ acc h, I (x :: xs) acc h → lcS n tt te C τ Q (x :: xs) acc h) : ∀ xs acc h, I xs acc h → lcS n tt te C τ Q xs acc h := by
  intro xs
  induction xs with
  | nil => exact done
  | cons x xs ih => exact step x xs ih
def tapeO (ns : List Int) (p n m : Int) : DO := .lst [.lis (ns.map .int), .int p, .int n, .int m]
def TOk (t : DO) : Prop := ∃ ns p n m, t = tapeO ns p n m ∧ 0 ≤ p ∧ 0 ≤ n ∧ 0 ≤ m
def Tp (h : DH) (a : Addr) : Prop := ∃ t, h a = some t ∧ TOk t
theorem tp_put {h : DH} {a : Addr} {t : DO} (o : TOk t) : Tp (put h a t) a := ⟨t, put_same, o⟩
def spTape : Sp' := fun ds h Q _ => ∃ ns, ds = [.scr ns] ∧ ∀ p t, h p = none → TOk t → Q (.ref p) (put h p t)
def spDraw : Sp' := fun ds h Q _ => ∃ a k, ds = [.ref a, .int k] ∧ Tp h a ∧ k < 1606938044258990275541962092341162602522202993782792835301376 ∧ ∀ (r : Int) t, 0 ≤ r → r < max k 1 → TOk t → Q (.int r) (put h a t)
end DL
set_option Elab.async false
set_option linter.all false
set_option maxRecDepth 100000
set_option maxHeartbeats 1000000
local macro_rules | `(tactic| walk_at "dl7") => `(tactic| (try simp only [↓DL.q_nx, ↓DL.q_seq, ↓DL.q_br, ↓DL.q_ct, ↓DL.q_drop, ↓DL.q_ret, ↓DL.q_retn, ↓DL.q_ifs, ↓DL.q_asg, ↓DL.q_gn, ↓DL.q_gsub, ↓DL.q_gtup, ↓DL.q_gco, ↓DL.q_gni, ↓DL.q_for, ↓DL.q_yes, ↓DL.q_c, ↓DL.q_to, ↓DL.q_tu, ↓DL.q_tb, ↓DL.q_isB, ↓DL.q_isI, ↓DL.q_ch, ↓DL.q_and, ↓DL.q_or, ↓DL.q_orp, ↓DL.q_not, ↓DL.q_andv, ↓DL.q_orv, ↓DL.q_notv, ↓DL.q_if, ↓DL.q_an, ↓DL.q_ac, ↓DL.q_tup, ↓DL.q_lis, ↓DL.q_own, ↓DL.q_call, ↓DL.q_cb, ↓DL.q_bm, ↓DL.q_sl, ↓DL.q_slt, ↓DL.q_sll, ↓DL.q_pn, ↓DL.q_pe, ↓DL.q_addi, ↓DL.q_adds, ↓DL.q_addt, ↓DL.q_addl, ↓DL.q_I2, ↓DL.q_neg, ↓DL.q_eqi, ↓DL.q_eqs, ↓DL.q_eqb, ↓DL.q_neb, ↓DL.q_nei, ↓DL.q_nes, ↓DL.q_eq_non_int, ↓DL.q_ne_non_int, ↓DL.q_eq_non_bl, ↓DL.q_ne_non_bl, ↓DL.q_eq_non_str, ↓DL.q_ne_non_str, ↓DL.q_eq_int_non, ↓DL.q_ne_int_non, ↓DL.q_eq_bl_non, ↓DL.q_ne_bl_non, ↓DL.q_eq_str_non, ↓DL.q_ne_str_non, ↓DL.q_eq_int_str, ↓DL.q_ne_int_str, ↓DL.q_eq_str_int, ↓DL.q_ne_str_int, ↓DL.q_eq_bl_str, ↓DL.q_ne_bl_str, ↓DL.q_eq_str_bl, ↓DL.q_ne_str_bl, ↓DL.q_eq_non_non, ↓DL.q_ne_non_non, ↓DL.q_isnon_bl, ↓DL.q_isnon_int, ↓DL.q_isnon_str, ↓DL.q_isnon_tup, ↓DL.q_isnon_lis, ↓DL.q_isnon_non, ↓DL.q_int, ↓DL.q_inl, ↓DL.q_isn, ↓DL.q_ixc, ↓DL.q_lent, ↓DL.q_lenl, ↓DL.q_lenc, ↓DL.q_lens, ↓DL.q_is, ↓DL.q_toi, ↓DL.q_tob, ↓DL.q_abs, ↓DL.q_max, ↓DL.q_min, ↓DL.q_list, ↓DL.q_listo, ↓DL.q_tuple, ↓DL.q_sum, ↓DL.q_kt, ↓DL.q_kl, ↓DL.q_kc, ↓DL.q_tv0, ↓DL.q_st0, ↓DL.q_tv1, ↓DL.q_st1, ↓DL.q_tv2, ↓DL.q_st2, ↓DL.q_tv3, ↓DL.q_st3, ↓DL.q_tv4, ↓DL.q_st4, ↓DL.q_tv5, ↓DL.q_st5, ↓DL.q_tv6, ↓DL.q_st6, ↓DL.q_tv7, ↓DL.q_st7, ↓DL.q_tv8, ↓DL.q_st8, ↓DL.q_tv9, ↓DL.q_st9, ↓DL.q_tv10, ↓DL.q_st10, ↓DL.q_tv11, ↓DL.q_st11, ↓DL.q_tv12, ↓DL.q_st12, ↓DL.q_tv13, ↓DL.q_st13, ↓DL.q_tv14, ↓DL.q_st14, ↓DL.q_tv15, ↓DL.q_st15, ↓DL.q_ixt0, ↓DL.q_ixl0, ↓DL.q_ixt1, ↓DL.q_ixl1, ↓DL.q_ixt2, ↓DL.q_ixl2, ↓DL.q_ixt3, ↓DL.q_ixl3, ↓DL.q_ixt4, ↓DL.q_ixl4, ↓DL.q_oixr, ↓DL.q_oinr, ↓DL.q_olen, ↓DL.q_okr, ↓DL.q_oapp, ↓DL.q_olsr, ↓DL.q_osetD, ↓DL.q_ln0, ↓DL.q_sz0, ↓DL.q_ln1, ↓DL.q_sz1, ↓DL.q_ln2, ↓DL.q_sz2, ↓DL.q_ln3, ↓DL.q_sz3, ↓DL.q_ln4, ↓DL.q_sz4, ↓DL.q_ln5, ↓DL.q_sz5, ↓DL.q_ln6, ↓DL.q_sz6, ↓DL.q_ln7, ↓DL.q_sz7, ↓DL.q_ln8, ↓DL.q_sz8, ↓DL.q_wseq, ↓DL.q_wt, ↓DL.q_wl, ↓DL.q_wc, ↓DL.q_wr, ↓DL.q_wr1, ↓DL.q_wr1', ↓DL.q_setL0, ↓DL.q_setL1, ↓DL.q_setL2, ↓DL.q_setL3, ↓DL.q_setL4, ↓DL.q_pl_non, ↓DL.q_in_non_int, ↓DL.q_in_non_bool, ↓DL.q_in_non_str, ↓DL.q_in_non_tuple, ↓DL.q_in_non_list, ↓DL.q_pl_bl, ↓DL.q_in_bl_int, ↓DL.q_in_bl_bool, ↓DL.q_in_bl_str, ↓DL.q_in_bl_tuple, ↓DL.q_in_bl_list, ↓DL.q_pl_int, ↓DL.q_in_int_int, ↓DL.q_in_int_bool, ↓DL.q_in_int_str, ↓DL.q_in_int_tuple, ↓DL.q_in_int_list, ↓DL.q_pl_str, ↓DL.q_in_str_int, ↓DL.q_in_str_bool, ↓DL.q_in_str_str, ↓DL.q_in_str_tuple, ↓DL.q_in_str_list, ↓DL.q_pl_tup, ↓DL.q_in_tup_int, ↓DL.q_in_tup_bool, ↓DL.q_in_tup_str, ↓DL.q_in_tup_tuple, ↓DL.q_in_tup_list, ↓DL.q_pl_lis, ↓DL.q_in_lis_int, ↓DL.q_in_lis_bool, ↓DL.q_in_lis_str, ↓DL.q_in_lis_tuple, ↓DL.q_in_lis_list, ↓DL.q_ty_int, ↓DL.q_ty_bool, ↓DL.q_ty_str, ↓DL.q_ty_tuple, ↓DL.q_ty_list, DL.sif_t, DL.sif_f, DL.ofStr_inj, String.reduceEq, decide_true, decide_false, Bool.not_true, Bool.not_false, true_and, and_true, List.length_cons, List.length_nil, Int.reduceAdd, Int.reduceMul, Int.reduceNeg, Int.reduceSub, Nat.reduceAdd, if_true, if_false, Bool.false_eq_true, Int.reduceEq, Int.reduceLT, Int.reduceLE, eq_self, not_false_eq_true, DL.mulOk, or_true, true_or, and_self, Int.reduceToNat, Nat.reduceLT, Int.reducePow, DL.put_same, DL.put_put]))
namespace K00
open PySem PySem.Spec PyProof.Rows L2 DL
def isInt (v : D) : Bool := match v with | .int _ => true | _ => false
def sp_is_integer : Sp' := fun ds h Q _ => ∃ v, ds = [v] ∧ plainD v = true ∧ Q (.bl (isInt v)) h
def sp_is_letter (n : Nat) : Sp' := fun ds h Q _ => ∃ k v, ds = [kD k, v] ∧ k.depth ≤ n ∧ val v 40 = true ∧ Q (.bl (isL k v)) h
theorem rd__law_whole (ds : List D) (h : DH) (Q : VK') (E' : XK') (q : sp_is_integer ds h Q E') : t__law_whole (ends Q) (slots n__law_whole ds) h := by
  obtain ⟨v, rfl, hv, q⟩ := q
  show t__law_whole (ends Q) [some v] h
  unfold t__law_whole
  cases v with
  | scr _ => cases hv
  | ref _ => cases hv
  | ty _ => cases hv
  | _ => walk_at "dl7"; exact fin q
theorem rd__law_tape (ds : List D) (h : DH) (Q : VK') (E' : XK') (q : spTape ds h Q E') : t__law_tape (ends Q) (slots n__law_tape ds) h := by
  obtain ⟨ns, rfl, q⟩ := q
  show t__law_tape (ends Q) [some (.scr ns), none, none] h
  unfold t__law_tape
  walk_at "dl7"
  refine for_ind (fun xs τ g => ∃ (ms : List Int) (c : Option D) (m : Int), xs = ms.map .int ∧ τ = [some (.scr ns), some (.int m), c] ∧ 0 ≤ m ∧ g = h) ?_ ?_ _ _ _ ⟨ns, none, 7, rfl, rfl, by decide, rfl⟩
  · rintro τ g ⟨ms, c, m, e, rfl, hm, rfl⟩
    rw [q_fnil]
    walk_at "dl7"
    intro p np
    exact fin (q p _ np ⟨ns, 0, 0, m, rfl, by omega, by omega, hm⟩)
  · rintro x xs ih τ g ⟨ms, c, m, e, rfl, hm, rfl⟩
    cases ms with
    | nil => cases e
    | cons n ms =>
      cases e
      rw [q_fcons]
      walk_at "dl7"
      exact ih _ _ ⟨ms, _, _, rfl, rfl, Int.emod_nonneg _ (by decide), rfl⟩
theorem rd__law_draw (ds : List D) (h : DH) (Q : VK') (E' : XK') (q : spDraw ds h Q E') : t__law_draw (ends Q) (slots n__law_draw ds) h := by
  obtain ⟨a, k, rfl, ⟨t, ea, ns, p, n, m, rfl, hp, hn, hm⟩, hk, q⟩ := q
  show t__law_draw (ends Q) [some (.ref a), some (.int k), none, none] h
  unfold t__law_draw
  unfold tapeO at ea
  have km : (0 : Int) < max k 1 := by omega
  have k2 : (0 : Int) < max k 2 ∧ max k 2 < 1606938044258990275541962092341162602522202993782792835301376 := by omega
  have out : ∀ (x p' n' m' : Int), 0 ≤ p' → 0 ≤ n' → 0 ≤ m' → Q (.int (x % max k 1)) (put h a (.lst [.lis (ns.map .int), .int p', .int n', .int m'])) := fun x p' n' m' h1 h2 h3 =>
    q _ _ (Int.emod_nonneg _ (show max k 1 ≠ 0 by omega)) (Int.emod_lt_of_pos _ km) ⟨ns, p', n', m', rfl, h1, h2, h3⟩
  walk_at "dl7"
  -- behind the first draw of a number: n' is the number
  refine ⟨fun τ g => ∃ (x y : Option D) (p' n' m' : Int), τ = [some (.ref a), some (.int k), x, y] ∧ 0 ≤ p' ∧ 0 ≤ n' ∧ 0 ≤ m' ∧ g = put h a (.lst [.lis (ns.map .int), .int p', .int n', .int m']), ?_, ?_⟩
  · ((walk_at "dl7"); repeat (simp only [ownK, ea]; (walk_at "dl7")))
    refine sif_i (fun c => ?_) (fun c => ?_)
    · have c := of_decide_eq_true c
      subst c
      ((walk_at "dl7"); repeat (simp only [ownK, ea]; (walk_at "dl7")))
      refine ⟨fun τ g => ∃ (u m' : Int), τ = [some (.ref a), some (.int k), some (.int p), some (.int u)] ∧ 0 ≤ u ∧ 0 ≤ m' ∧ g = put h a (.lst [.lis (ns.map .int), .int p, .int 0, .int m']), ?_, ?_⟩
      · ((walk_at "dl7"); repeat (simp only [ownK, ea, List.length_map]; (walk_at "dl7")))
        refine sif_i (fun c => ?_) (fun c => ?_)
        · have c := of_decide_eq_true c
          have hp2 : p.toNat < ns.length := by omega
          have e : atI (ns.map D.int) p = some (.int ns[p.toNat]) := by
            have z : atI (ns.map D.int) ((p.toNat : Nat) : Int) = some (.int ns[p.toNat]) := atI_nat (by rw [List.getElem?_map, List.getElem?_eq_getElem hp2]; rfl)
            rwa [show ((p.toNat : Nat) : Int) = p by omega] at z
          ((walk_at "dl7"); repeat (simp only [ownK, ea]; (walk_at "dl7")))
          rw [q_ixl]
          refine ⟨_, e, ?_⟩
          walk_at "dl7"
          exact ⟨_, m, rfl, by omega, hm, by rw [put_get ea]⟩
        · ((walk_at "dl7"); repeat (simp only [ownK, ea]; (walk_at "dl7")))
          exact ⟨_, _, rfl, Int.emod_nonneg _ (by decide), Int.emod_nonneg _ (by decide), rfl⟩
      · rintro τ g ⟨u, m', rfl, hu, hm', rfl⟩
        ((walk_at "dl7"); repeat (simp only [ownK]; (walk_at "dl7")))
        refine sif_i ?_ ?_
        · intro c
          ((walk_at "dl7"); repeat (simp only [km]; (walk_at "dl7")))
          exact fin (out _ _ _ _ (by omega) (by omega) hm')
        · intro c
          ((walk_at "dl7"); repeat (simp only [ownK]; (walk_at "dl7")))
          exact ⟨_, _, _, _, _, rfl, by omega, hu, hm', rfl⟩
    · walk_at "dl7"
      exact ⟨_, _, p, n, m, rfl, hp, hn, hm, by rw [put_get ea]⟩
  · rintro τ g ⟨x, y, p', n', m', rfl, hp', hn', hm', rfl⟩
    ((walk_at "dl7"); repeat (simp only [ownK, km, k2]; (walk_at "dl7")))
    exact fin (out _ _ _ _ hp' (Int.ediv_nonneg hn' (by omega)) hm')
end K00
set_option Elab.async false
set_option linter.all false
set_option maxRecDepth 100000
namespace DL
open PySem PySem.Spec PyProof.Rows L2
theorem drw {a : Addr} {k : Int} {h : DH} {Q : VK'} {E : XK'} (tp : Tp h a) (q : ∀ (r : Int) t, 0 ≤ r → r < max k 1 → TOk t → Q (.int r) (put h a t)) (hk : k < 1606938044258990275541962092341162602522202993782792835301376 := by decide) : spDraw [.ref a, .int k] h Q E :=
  ⟨a, k, rfl, tp, hk, q⟩
theorem pick {α : Type} {xs : List α} {r : Int} (h0 : 0 ≤ r) (h1 : r < (xs.length : Int)) : ∃ d, atI xs r = some d ∧ d ∈ xs := by
  have hi : r.toNat < xs.length := by omega
  have z : atI xs ((r.toNat : Nat) : Int) = some xs[r.toNat] := atI_nat (List.getElem?_eq_getElem hi)
  rw [show ((r.toNat : Nat) : Int) = r by omega] at z
  exact ⟨_, z, List.getElem_mem hi⟩
theorem put3 {h : DH} {a p : Addr} {t u o : DO} (e : p ≠ a) : put (put (put h a t) p o) a u = put (put h a u) p o := by
  rw [put_comm e, put_put]
theorem tp_under {h : DH} {a p : Addr} {t o : DO} (e : p ≠ a) (ot : TOk t) : Tp (put (put h a t) p o) a := ⟨t, by rw [put_ne (Ne.symm e), put_same], ot⟩
theorem ne_put {h : DH} {a p : Addr} {t : DO} (n : put h a t p = none) : p ≠ a := fun e => by rw [e, put_same] at n; cases n
theorem free_put {h : DH} {a p : Addr} {t : DO} (n : put h a t p = none) : h p = none := by rwa [put_ne (ne_put n)] at n
theorem drwU {h : DH} {a p : Addr} {t o : DO} {k : Int} {Q : VK'} {E : XK'} (e : p ≠ a) (ot : TOk t) (q : ∀ (r : Int) t', 0 ≤ r → r < max k 1 → TOk t' → Q (.int r) (put (put h a t') p o)) (hk : k < 1606938044258990275541962092341162602522202993782792835301376 := by decide) : spDraw [.ref a, .int k] (put (put h a t) p o) Q E :=
  drw (tp_under e ot) (fun r t' a b c => by rw [put3 e]; exact q r t' a b c) hk
theorem rngD_zero {lo : Int} : rngD lo 0 = [] := rfl
theorem rngD_succ {lo : Int} {n : Nat} : rngD lo (n + 1) = .int lo :: rngD (lo + 1) n := by
  unfold rngD
  rw [List.range_succ_eq_map, List.map_cons, List.map_map]
  congr 1
  · simp
  · apply List.map_congr_left
    intro i _
    show D.int _ = D.int _
    congr 1
    simp only [Nat.succ_eq_add_one]
    omega
theorem cut_take {xs : List D} {r : Int} (h0 : 0 ≤ r) (h1 : r ≤ (xs.length : Int)) : cutD xs none (some r) = xs.take r.toNat := by
  unfold cutD
  have e : HT.sIx xs.length xs.length (some r) = r.toNat := by
    unfold HT.sIx
    simp only [show ¬ r < 0 by omega, if_false]
    omega
  rw [e, HT.sIx_none]
  rfl
theorem cut_drop {xs : List D} {r : Int} (h0 : 0 ≤ r) (h1 : r ≤ (xs.length : Int)) : cutD xs (some r) none = xs.drop r.toNat := by
  unfold cutD
  have e : HT.sIx xs.length 0 (some r) = r.toNat := by
    unfold HT.sIx
    simp only [show ¬ r < 0 by omega, if_false]
    omega
  rw [e, HT.sIx_none]
  apply List.take_of_length_le
  rw [List.length_drop]
  omega
theorem str_len (u v : Str) : (u ++ v).length = u.length + v.length := by
  show (u.cps ++ v.cps).size = _
  rw [Array.size_append]; rfl
theorem str_ok {u v : Str} (a : PyData.strOk u = true) (b : PyData.strOk v = true) : PyData.strOk (u ++ v) = true := by
  show (u.cps ++ v.cps).all _ = true
  rw [Array.all_append, Bool.and_eq_true]
  exact ⟨a, b⟩
theorem sign_ok {z : Str} {c : Nat} (a : PyData.strOk z = true) (m : c ∈ z.cps.toList) : PyData.strOk ⟨#[c]⟩ = true := by
  have a : z.cps.all _ = true := a
  rw [← Array.all_toList, List.all_eq_true] at a
  have := a c m
  show (#[c] : Array Nat).all _ = true
  simpa using this
end DL
set_option Elab.async false
set_option linter.all false
set_option maxRecDepth 100000
set_option maxHeartbeats 1000000
namespace K00
open PySem PySem.Spec PyProof.Rows L2 DL
def spNames : Sp' := fun ds h Q _ => ∃ a, ds = [.ref a] ∧ Tp h a ∧ ∀ ns t, namesOk ns → TOk t → Q (.tup (ns.map .str)) (put h a t)
def Sg (d : D) : Prop := ∃ s : Str, d = .str s ∧ PyData.strOk s = true ∧ s.length ≤ 6
theorem rd__law_names (ds : List D) (h : DH) (Q : VK') (E' : XK') (q : spNames ds h Q E') : t__law_names spDraw (ends Q) (slots n__law_names ds) h := by
  obtain ⟨a, rfl, tp, q⟩ := q
  show t__law_names _ (ends Q) [some (.ref a), none, none, none, none, none, none] h
  unfold t__law_names
  walk_at "dl7"
  refine drw tp fun r t r0 r1 ot => ?_
  rw [q_ixl]
  obtain ⟨d, e, m⟩ := pick (xs := [D.str "", .str "", .str "", .str "case", .str "a ,"]) r0 (by simp only [List.length_cons, List.length_nil]; omega)
  refine ⟨d, e, ?_⟩
  have hd : Sg d := by
    simp only [List.mem_cons, List.not_mem_nil, or_false] at m
    rcases m with rfl | rfl | rfl | rfl | rfl <;> exact ⟨_, rfl, sok_of _, by decide⟩
  obtain ⟨stem, rfl, so, sl⟩ := hd
  walk_at "dl7"
  intro p np
  have pa := ne_put np
  have nh := free_put np
  refine drwU pa ot fun r t r0 r1 ot => ?_
  walk_at "dl7"
  rw [q_ixl]
  obtain ⟨d, e, m⟩ := pick (xs := [D.int 1, .int 2, .int 2, .int 3, .int 3, .int 4]) r0 (by simp only [List.length_cons, List.length_nil]; omega)
  refine ⟨d, e, ?_⟩
  obtain ⟨j, rfl, j1, j4⟩ : ∃ j : Int, d = .int j ∧ 1 ≤ j ∧ j ≤ 4 := by
    simp only [List.mem_cons, List.not_mem_nil, or_false] at m
    rcases m with rfl | rfl | rfl | rfl | rfl | rfl <;> exact ⟨_, rfl, by decide, by decide⟩
  walk_at "dl7"
  refine ⟨by omega, by omega, ?_⟩
  have lz : (Str.ofString "abcdexyzABZ0189 !\"#$&'()*+,-./:;<=>?\x40[\\]^_{|}~").length = 46 := by decide +kernel
  have oz : PyData.strOk (Str.ofString "abcdexyzABZ0189 !\"#$&'()*+,-./:;<=>?\x40[\\]^_{|}~") = true := sok_of _
  generalize (Str.ofString "abcdexyzABZ0189 !\"#$&'()*+,-./:;<=>?\x40[\\]^_{|}~") = z at lz oz ⊢
  have hl : (rngD 0 j.toNat).length = j.toNat := by unfold rngD; rw [List.length_map, List.length_range]
  refine for_ind (fun xs τ g => ∃ (ns : List Str) (k name : Option D) (t : DO), τ = [some (.ref a), some (.str z), some (.lis [.str "none", .str "pair", .str "case", .str "some", .str "true", .str "0"]), some (.str stem), some (.ref p), k, name] ∧
    TOk t ∧ g = put (put h a t) p (.lst (ns.map .str)) ∧ ns.length + xs.length ≤ 4 ∧ (1 ≤ ns.length ∨ xs ≠ []) ∧ ∀ x ∈ ns, PyData.strOk x = true ∧ x.length ≤ 20) ?_ ?_ _ _ _ ⟨[], none, none, t, rfl, ot, rfl, by rw [hl]; simp only [List.length_nil]; omega, ?_, by simp⟩
  · rintro τ g ⟨ns, k, name, t, rfl, ot, rfl, l4, l1, ho⟩
    rw [q_fnil]
    ((walk_at "dl7"); repeat (simp only [ownK]; (walk_at "dl7")))
    refine ⟨put h a t, Sub.put Sub.refl ?_, q ns t ⟨?_, ?_, ho⟩ ot⟩
    · rw [put_ne pa]; exact nh
    · rcases l1 with l1 | l1
      · exact l1
      · exact absurd rfl l1
    · simp only [List.length_nil] at l4; omega
  · rintro x xs ih τ g ⟨ns, k, name, t, rfl, ot, rfl, l4, l1, ho⟩
    rw [q_fcons]
    walk_at "dl7"
    have sz : z.length ≤ sizeLine := by rw [lz]; decide
    refine ⟨sz, ?_⟩
    have sg : ∀ {r : Int}, 0 ≤ r → r < max (z.length : Int) 1 → ∃ c, atI z.cps.toList r = some c ∧ PyData.strOk ⟨#[c]⟩ = true := fun {r} h0 h1 => by
      obtain ⟨c, e, m⟩ := pick (xs := z.cps.toList) h0 (by
        have : z.cps.toList.length = 46 := by rw [Array.length_toList]; exact lz
        rw [this]
        rw [lz] at h1
        omega)
      exact ⟨c, e, sign_ok oz m⟩
    refine drwU pa ot (fun r t r0 r1 ot => ?_) (by rw [lz]; decide)
    walk_at "dl7"
    rw [q_ixs]
    obtain ⟨c, ec, oc⟩ := sg r0 r1
    refine ⟨sz, c, ec, ?_⟩
    have small : ∀ {n : Nat}, n ≤ 20 → n ≤ sizeLine := fun h => Nat.le_trans h (by decide)
    walk_at "dl7"
    have c1 : (⟨#[c]⟩ : Str).length = 1 := rfl
    refine ⟨small (by omega), ?_⟩
    let M : St' → DH → Prop := fun τ g => ∃ (nm : Str) (t : DO), τ = [some (.ref a), some (.str z), some (.lis [.str "none", .str "pair", .str "case", .str "some", .str "true", .str "0"]), some (.str stem), some (.ref p), some x, some (.str nm)] ∧
      PyData.strOk nm = true ∧ nm.length ≤ 8 ∧ TOk t ∧ g = put (put h a t) p (.lst (ns.map .str))
    refine ⟨M, ?_, ?_⟩
    · walk_at "dl7"
      refine drwU pa ot (fun r t r0 r1 ot => ?_)
      walk_at "dl7"
      refine sif_i (fun c => ?_) (fun c => ?_)
      · walk_at "dl7"
        refine ⟨sz, ?_⟩
        refine drwU pa ot (fun r t r0 r1 ot => ?_) (by rw [lz]; decide)
        walk_at "dl7"
        rw [q_ixs]
        obtain ⟨c', ec', oc'⟩ := sg r0 r1
        refine ⟨sz, c', ec', ?_⟩
        have c2 : (⟨#[c']⟩ : Str).length = 1 := rfl
        walk_at "dl7"
        exact ⟨small (by rw [str_len]; omega), _, _, rfl, str_ok (str_ok so oc) oc', by rw [str_len, str_len]; omega, ot, rfl⟩
      · walk_at "dl7"
        exact ⟨_, _, rfl, str_ok so oc, by rw [str_len]; omega, ot, rfl⟩
    · rintro τ g ⟨nm, t, rfl, on, ln, ot, rfl⟩
      walk_at "dl7"
      refine ⟨M, ?_, ?_⟩
      · walk_at "dl7"
        refine drwU pa ot (fun r t r0 r1 ot => ?_)
        walk_at "dl7"
        refine sif_i (fun c => ?_) (fun c => ?_)
        · walk_at "dl7"
          refine drwU pa ot (fun r t r0 r1 ot => ?_)
          walk_at "dl7"
          rw [q_ixl]
          obtain ⟨d, e, m⟩ := pick (xs := [D.str "none", .str "pair", .str "case", .str "some", .str "true", .str "0"]) r0 (by simp only [List.length_cons, List.length_nil]; omega)
          refine ⟨d, e, ?_⟩
          have hd : Sg d := by
            simp only [List.mem_cons, List.not_mem_nil, or_false] at m
            rcases m with rfl | rfl | rfl | rfl | rfl | rfl <;> exact ⟨_, rfl, sok_of _, by decide⟩
          obtain ⟨nm, rfl, on, ln⟩ := hd
          walk_at "dl7"
          exact ⟨_, _, rfl, on, by omega, ot, rfl⟩
        · walk_at "dl7"
          exact ⟨_, _, rfl, on, ln, ot, rfl⟩
      · rintro τ g ⟨nm, t, rfl, on, ln, ot, rfl⟩
        refine ⟨_, ?_, fun _ _ q => q⟩
        ((walk_at "dl7"); repeat (simp only [ownK, flat_str, inD_str]; (walk_at "dl7")))
        simp only [List.length_cons] at l4
        refine ⟨rfl, sif_i (fun c => ?_) (fun c => ?_)⟩
        · ((walk_at "dl7"); repeat (simp only [ownK]; (walk_at "dl7")))
          refine ⟨by rw [List.length_map]; exact Nat.lt_of_le_of_lt (show ns.length ≤ 4 by omega) (by decide), ?_⟩
          refine ih _ _ ⟨ns ++ [nm], _, _, t, rfl, ot, ?_, ?_, .inl ?_, ?_⟩
          · rw [List.map_append]; rfl
          · rw [List.length_append]; simp only [List.length_cons, List.length_nil]; omega
          · rw [List.length_append]; simp only [List.length_cons, List.length_nil]; omega
          · intro y hy
            rcases List.mem_append.mp hy with hy | hy
            · exact ho y hy
            · cases List.mem_singleton.mp hy; exact ⟨on, by omega⟩
        · walk_at "dl7"
          refine ih _ _ ⟨ns, _, _, t, rfl, ot, rfl, by omega, .inl ?_, ho⟩
          cases ns with
          | nil => simp at c
          | cons n ns => simp only [List.length_cons]; omega
  · refine .inr fun e => ?_
    rw [e] at hl
    simp only [List.length_nil] at hl
    omega
end K00
set_option Elab.async false
set_option linter.all false
set_option maxRecDepth 100000
set_option maxHeartbeats 1000000
namespace K00
open PySem PySem.Spec PyProof.Rows L2 DL
def spKinds (n : Nat) : Sp' := fun ds h Q _ => ∃ k, ds = [kD k] ∧ k.depth ≤ n ∧ k.cnt ≤ 100 ∧ Q (.int k.cnt) h
theorem cnts_sum (ks : List Kd) : (ks.map fun k => (k.cnt : Int)).sum = (Kd.cnts ks : Int) := by
  induction ks with
  | nil => rfl
  | cons k ks ih => simp only [List.map_cons, List.sum_cons, ih, Kd.cnts]; omega
theorem rd__law_kinds (n : Nat) (ds : List D) (h : DH) (Q : VK') (E' : XK') (q : spKinds (n + 1) ds h Q E') : t__law_kinds (spKinds n) (ends Q) (slots n__law_kinds ds) h := by
  obtain ⟨k, rfl, hk, hc, q⟩ := q
  show t__law_kinds _ (ends Q) [some (kD k), none] h
  unfold t__law_kinds
  cases k with
  | nm ns =>
    simp only [kD]
    walk_at "dl7"
    exact fin q
  | it =>
    simp only [kD]
    walk_at "dl7"
    exact fin q
  | pr a b =>
    simp only [kD]
    simp only [Kd.depth] at hk
    simp only [Kd.cnt] at hc
    walk_at "dl7"
    refine ⟨a, rfl, by omega, by omega, ?_⟩
    walk_at "dl7"
    refine ⟨b, rfl, by omega, by omega, ?_⟩
    walk_at "dl7"
    simp only [Kd.cnt] at q
    exact fin (by
      have e : (1 + (a.cnt : Int) + (b.cnt : Int)) = ((1 + a.cnt + b.cnt : Nat) : Int) := by omega
      rw [e]; exact q)
  | ei ks =>
    simp only [kD]
    simp only [Kd.depth] at hk
    simp only [Kd.cnt] at hc
    walk_at "dl7"
    rw [q_lc]
    walk_at "dl7"
    intro p np
    refine lc_ind (fun xs acc g => ∃ d r, xs = kDs r ∧ acc = d.map (fun k : Kd => D.int k.cnt) ∧ d ++ r = ks ∧ g = put h p .hid) ?_ ?_ _ _ _ ⟨[], ks, rfl, rfl, rfl, rfl⟩
    · rintro acc g ⟨d, r, e, rfl, rfl, rfl⟩
      cases r with
      | cons _ _ => cases e
      | nil =>
        rw [q_lnil]
        walk_at "dl7"
        refine ⟨d.map fun k => (k.cnt : Int), by rw [List.map_map]; rfl, ?_⟩
        ((walk_at "dl7"); repeat (simp only [del_put np]; (walk_at "dl7")))
        simp only [Kd.cnt, List.append_nil] at q
        rw [cnts_sum]
        exact fin (by
          have e : (1 + (Kd.cnts d : Int)) = ((1 + Kd.cnts d : Nat) : Int) := by omega
          rw [e]; exact q)
    · rintro x xs ih acc g ⟨d, r, e, rfl, rfl, rfl⟩
      cases r with
      | nil => cases e
      | cons k r =>
        cases e
        rw [q_lcons]
        walk_at "dl7"
        have l1 := Kd.len_cnts (d ++ k :: r)
        have l2 := Kd.cnt_mem (ks := d ++ k :: r) (k := k) (by simp)
        have l3 := Kd.depth_mem (ks := d ++ k :: r) (k := k) (by simp)
        simp only [List.length_append, List.length_cons] at l1
        refine ⟨k, rfl, by omega, by omega, ?_⟩
        walk_at "dl7"
        refine ⟨Nat.lt_of_le_of_lt (show _ ≤ 100 by rw [List.length_map]; omega) (by decide), ih _ _ ⟨d ++ [k], r, rfl, by rw [List.map_append]; rfl, by rw [List.append_assoc]; rfl, rfl⟩⟩
  | mb k =>
    simp only [kD]
    simp only [Kd.depth] at hk
    simp only [Kd.cnt] at hc
    walk_at "dl7"
    refine ⟨k, rfl, by omega, by omega, ?_⟩
    walk_at "dl7"
    simp only [Kd.cnt] at q
    exact fin (by
      have e : (1 + (k.cnt : Int)) = ((1 + k.cnt : Nat) : Int) := by omega
      rw [e]; exact q)
def spInt : Sp' := fun ds h Q _ => ∃ a top, ds = [.ref a, .int top] ∧ 0 ≤ top ∧ top ≤ 1000000 ∧ Tp h a ∧ ∀ (r : Int) t, TOk t → Q (.int r) (put h a t)
theorem rd__law_integer (ds : List D) (h : DH) (Q : VK') (E' : XK') (q : spInt ds h Q E') : t__law_integer spDraw (ends Q) (slots n__law_integer ds) h := by
  obtain ⟨a, top, rfl, h0, h1, tp, q⟩ := q
  show t__law_integer _ (ends Q) [some (.ref a), some (.int top), none, none] h
  unfold t__law_integer
  walk_at "dl7"
  refine drw tp fun c t c0 c1 ot => ?_
  walk_at "dl7"
  rw [q_ixl]
  obtain ⟨d, e, m⟩ := pick (xs := [D.int 2, .int (top + 1), .int (top + 14), .int 1000000000, .int 999999999999999999999999999901]) c0 (by simp only [List.length_cons, List.length_nil]; omega)
  refine ⟨d, e, ?_⟩
  obtain ⟨j, rfl, j1, j2⟩ : ∃ j : Int, d = .int j ∧ 0 < j ∧ j < 1606938044258990275541962092341162602522202993782792835301376 := by
    simp only [List.mem_cons, List.not_mem_nil, or_false] at m
    rcases m with rfl | rfl | rfl | rfl | rfl
    · exact ⟨_, rfl, by decide, by decide⟩
    · exact ⟨_, rfl, by omega, by omega⟩
    · exact ⟨_, rfl, by omega, by omega⟩
    · exact ⟨_, rfl, by decide, by decide⟩
    · exact ⟨_, rfl, by decide, by decide⟩
  walk_at "dl7"
  refine drw (tp_put ot) (fun r t r0 r1 ot => ?_) j2
  walk_at "dl7"
  refine ⟨fun τ g => ∃ (u : Int) (t : DO), τ = [some (.ref a), some (.int top), some (.int c), some (.int u)] ∧ TOk t ∧ g = put h a t, ?_, ?_⟩
  · walk_at "dl7"
    refine sif_i (fun c3 => ?_) (fun c3 => ?_)
    · have c3 := of_decide_eq_true c3
      subst c3
      have e3 : atI [D.int 2, .int (top + 1), .int (top + 14), .int 1000000000, .int 999999999999999999999999999901] 3 = some (.int 1000000000) := rfl
      rw [e3] at e
      cases e
      walk_at "dl7"
      refine ⟨.inl ⟨by omega, by omega⟩, ?_⟩
      refine drw (tp_put ot) (fun r2 t r0 r1 ot => ?_)
      walk_at "dl7"
      exact ⟨_, _, rfl, ot, rfl⟩
    · walk_at "dl7"
      exact ⟨_, _, rfl, ot, rfl⟩
  · rintro τ g ⟨u, t, rfl, ot, rfl⟩
    walk_at "dl7"
    refine drw (tp_put ot) (fun r t r0 r1 ot => ?_)
    walk_at "dl7"
    rw [q_ixl]
    obtain ⟨d, e, m⟩ := pick (xs := [D.int u, .int (-u)]) r0 (by simp only [List.length_cons, List.length_nil]; omega)
    refine ⟨d, e, ?_⟩
    obtain ⟨v, rfl⟩ : ∃ v : Int, d = .int v := by
      simp only [List.mem_cons, List.not_mem_nil, or_false] at m
      rcases m with rfl | rfl <;> exact ⟨_, rfl⟩
    exact fin (q v t ot)
def spKind (n : Nat) : Sp' := fun ds h Q _ => ∃ (a : Addr) (d m : Int), ds = [.ref a, .int d, .int m] ∧ 1 ≤ d ∧ d ≤ n ∧ 1 ≤ m ∧ m ≤ 100 ∧ Tp h a ∧ ∀ k t, Kd.ok k → (k.depth : Int) ≤ d → (k.cnt : Int) ≤ m → TOk t → Q (kD k) (put h a t)
theorem rd__law_kind (n : Nat) (hn : n ≤ 50) (ds : List D) (h : DH) (Q : VK') (E' : XK') (q : spKind (n + 1) ds h Q E') : t__law_kind spDraw spNames (spKind n) (spKinds 50) (ends Q) (slots n__law_kind ds) h := by
  obtain ⟨a, d, m, rfl, d1, dn, m1, m9, tp, q⟩ := q
  show t__law_kind _ _ _ _ (ends Q) [some (.ref a), some (.int d), some (.int m), none, none, none, none, none, none, none] h
  unfold t__law_kind
  walk_at "dl7"
  refine drw tp fun c t c0 c1 ot => ?_
  walk_at "dl7"
  refine sif_i (fun b1 => ?_) (fun b1 => ?_)
  · walk_at "dl7"
    refine drw (tp_put ot) fun r t r0 r1 ot => ?_
    walk_at "dl7"
    refine sif_i (fun b2 => ?_) (fun b2 => ?_)
    · walk_at "dl7"
      refine ⟨a, rfl, tp_put ot, fun ns t hns ot => ?_⟩
      walk_at "dl7"
      exact fin (q (.nm ns) t hns (by simp only [Kd.depth]; omega) (by simp only [Kd.cnt]; omega) ot)
    · walk_at "dl7"
      exact fin (q .it t trivial (by simp only [Kd.depth]; omega) (by simp only [Kd.cnt]; omega) ot)
  · simp only [Bool.or_eq_false_iff, decide_eq_false_iff_not] at b1
    walk_at "dl7"
    refine sif_i (fun b2 => ?_) (fun b2 => ?_)
    · walk_at "dl7"
      refine ⟨a, d - 1, m - 1, rfl, by omega, by omega, by omega, by omega, tp_put ot, fun k t hk kd kc ot => ?_⟩
      walk_at "dl7"
      exact fin (q (.mb k) t hk (by simp only [Kd.depth]; omega) (by simp only [Kd.cnt]; omega) ot)
    · simp only [Bool.or_eq_false_iff, decide_eq_false_iff_not] at b2
      walk_at "dl7"
      refine sif_i (fun b3 => ?_) (fun b3 => ?_)
      · walk_at "dl7"
        refine ⟨a, d - 1, m - 2, rfl, by omega, by omega, by omega, by omega, tp_put ot, fun k t hk kd kc ot => ?_⟩
        walk_at "dl7"
        refine ⟨k, rfl, by omega, by omega, ?_⟩
        walk_at "dl7"
        refine ⟨a, d - 1, m - 1 - k.cnt, rfl, by omega, by omega, by omega, by omega, tp_put ot, fun k2 t hk2 kd2 kc2 ot => ?_⟩
        walk_at "dl7"
        exact fin (q (.pr k k2) t ⟨hk, hk2⟩ (by simp only [Kd.depth]; omega) (by simp only [Kd.cnt]; omega) ot)
      · walk_at "dl7"
        refine drw (tp_put ot) (fun r t r0 r1 ot => ?_) (by omega)
        walk_at "dl7"
        intro p np
        have pa := ne_put np
        have nh := free_put np
        refine ⟨by omega, by omega, ?_⟩
        refine for_ind (fun xs τ g => ∃ (i left : Int) (rem : Nat) (dn : List Kd) (t : DO) (x y : Option D), xs = rngD i rem ∧ τ = [some (.ref a), some (.int d), some (.int m), some (.int c), none, some (.int left), some (.int (1 + r)), some (.ref p), x, y] ∧
          1 + r = i + rem ∧ (rem : Int) ≤ left ∧ (Kd.cnts dn : Int) + left = m - 1 ∧ (dn.length : Int) = i ∧ (Kd.depths dn : Int) ≤ d - 1 ∧ Kd.oks dn ∧ g = put (put h a t) p (.lst (kDs dn)) ∧ TOk t) ?_ ?_ _ _ _
          ⟨0, m - 1, (1 + r).toNat, [], t, none, none, rfl, rfl, by omega, by omega, by simp [Kd.cnts], rfl, by simp only [Kd.depths]; omega, trivial, rfl, ot⟩
        · rintro τ g ⟨i, left, rem, dn, t, x, y, e, rfl, e1, e2, e3, e4, e5, e6, rfl, ot⟩
          rw [q_fnil]
          ((walk_at "dl7"); repeat (simp only [ownK]; (walk_at "dl7")))
          have e0 : rem = 0 := by
            cases rem with
            | zero => rfl
            | succ n => rw [rngD_succ] at e; cases e
          subst e0
          exact ⟨put h a t, Sub.put Sub.refl (by rw [put_ne pa]; exact nh), q (.ei dn) t ⟨by omega, e6⟩ (by simp only [Kd.depth]; omega) (by simp only [Kd.cnt]; omega) ot⟩
        · rintro x xs ih τ g ⟨i, left, rem, dn, t, u, v, e, rfl, e1, e2, e3, e4, e5, e6, rfl, ot⟩
          cases rem with
          | zero => cases e
          | succ rem =>
            rw [rngD_succ] at e
            cases e
            rw [q_fcons]
            walk_at "dl7"
            refine ⟨a, d - 1, left - (1 + r - 1 - i), rfl, by omega, by omega, by omega, by omega, tp_under pa ot, fun k t hk kd kc ot => ?_⟩
            rw [put3 pa]
            ((walk_at "dl7"); repeat (simp only [ownK]; (walk_at "dl7")))
            have ln := Kd.len_cnts dn
            refine ⟨Nat.lt_of_le_of_lt (show _ ≤ 100 by rw [len_kDs]; omega) (by decide), ?_⟩
            refine ⟨k, rfl, by omega, by omega, ?_⟩
            walk_at "dl7"
            refine ih _ _ ⟨i + 1, left - k.cnt, rem, dn ++ [k], t, _, _, rfl, rfl, by omega, by omega, ?_, ?_, ?_, ?_, ?_, ot⟩
            · rw [Kd.cnts_app]; simp only [Kd.cnts]; omega
            · rw [List.length_append]; simp only [List.length_cons, List.length_nil]; omega
            · rw [Kd.depths_app]; simp only [Kd.depths]; omega
            · rw [Kd.oks_mem] at e6 ⊢
              intro z hz
              rcases List.mem_append.mp hz with hz | hz
              · exact e6 z hz
              · cases List.mem_singleton.mp hz; exact hk
            · rw [kDs_app]; rfl
end K00
set_option Elab.async false
set_option linter.all false
set_option maxRecDepth 100000
set_option maxHeartbeats 1000000
namespace K00
open PySem PySem.Spec PyProof.Rows L2 DL
def Let (k : Kd) (v : D) : Prop := isL k v = true ∧ val v k.depth = true ∧ wid v 3 = true
def spLetter (n : Nat) : Sp' := fun ds h Q _ => ∃ (a : Addr) (k : Kd) (top : Int) (x : D), ds = [.ref a, kD k, .tup [.int top, x]] ∧ k.ok ∧ k.depth ≤ n ∧ k.cnt ≤ 100 ∧ 0 ≤ top ∧ top ≤ 1000000 ∧ Tp h a ∧ ∀ v t, Let k v → TOk t → Q v (put h a t)
theorem let_pr {a b : Kd} {x y : D} (p : Let a x) (q : Let b y) : Let (.pr a b) (.tup [.str "pair", x, y]) := by
  obtain ⟨p1, p2, p3⟩ := p
  obtain ⟨q1, q2, q3⟩ := q
  refine ⟨?_, ?_, ?_⟩
  · simp only [isL, isStr, decide_true, Bool.true_and, p1, q1]
  · show val _ (1 + max a.depth b.depth) = true
    rw [Nat.add_comm]
    simp only [val, vals, sok_of, Bool.true_and, Bool.and_true, Bool.and_eq_true]
    exact ⟨val_mono _ _ _ (by omega) p2, val_mono _ _ _ (by omega) q2⟩
  · simp only [wid, wids, p3, q3]; rfl
theorem let_ei {ks : List Kd} {k : Kd} {x : D} {i : Int} (h0 : 0 ≤ i) (e : ks[i.toNat]? = some k) (p : Let k x) : Let (.ei ks) (.tup [.str "case", .int i, x]) := by
  obtain ⟨p1, p2, p3⟩ := p
  have m := Kd.depth_mem (List.mem_of_getElem? e)
  refine ⟨?_, ?_, ?_⟩
  · simp only [isL, isStr, isLn_get, e, decide_true, Bool.true_and, p1, decide_eq_true h0]
  · show val _ (1 + Kd.depths ks) = true
    rw [Nat.add_comm]
    simp only [val, vals, sok_of, Bool.true_and, Bool.and_true]
    exact val_mono _ _ _ m p2
  · simp only [wid, wids, p3]; rfl
theorem let_mb {k : Kd} {x : D} (p : Let k x) : Let (.mb k) (.tup [.str "some", x]) := by
  obtain ⟨p1, p2, p3⟩ := p
  refine ⟨?_, ?_, ?_⟩
  · simp only [isL, isStr, decide_true, Bool.true_and, p1]
  · show val _ (1 + k.depth) = true
    rw [Nat.add_comm]
    simp only [val, vals, sok_of, Bool.true_and, Bool.and_true]
    exact p2
  · simp only [wid, wids, p3]; rfl
theorem let_no {k : Kd} : Let (.mb k) (.tup [.str "none"]) := by
  refine ⟨by simp only [isL, isStr, decide_true], ?_, rfl⟩
  show val _ (1 + k.depth) = true
  rw [Nat.add_comm]
  simp only [val, vals, sok_of, Bool.and_true]
theorem rd__law_letter (n : Nat) (ds : List D) (h : DH) (Q : VK') (E' : XK') (q : spLetter (n + 1) ds h Q E') : t__law_letter spDraw spInt (spLetter n) (ends Q) (slots n__law_letter ds) h := by
  obtain ⟨a, k, top, x, rfl, hk, hd, hc, t0, t1, tp, q⟩ := q
  show t__law_letter _ _ _ (ends Q) [some (.ref a), some (kD k), some (.tup [.int top, x]), none, none] h
  unfold t__law_letter
  cases k with
  | nm ns =>
    simp only [kD]
    obtain ⟨n1, n4, no⟩ := hk
    walk_at "dl7"
    refine drw tp (fun r t r0 r1 ot => ?_) (by rw [List.length_map]; omega)
    walk_at "dl7"
    rw [q_ixt]
    obtain ⟨d, e, m⟩ := pick (xs := ns.map D.str) r0 (by rw [List.length_map] at r1 ⊢; omega)
    obtain ⟨s, ms, rfl⟩ := List.mem_map.mp m
    exact ⟨_, e, fin (q (.str s) t ⟨by simpa [isL] using ms, (no s ms).1, rfl⟩ ot)⟩
  | it =>
    simp only [kD]
    walk_at "dl7"
    exact ⟨a, top, rfl, t0, t1, tp, fun r t ot => fin (q (.int r) t ⟨rfl, rfl, rfl⟩ ot)⟩
  | pr k1 k2 =>
    simp only [kD]
    simp only [Kd.depth] at hd
    simp only [Kd.cnt] at hc
    walk_at "dl7"
    refine ⟨a, k1, top, x, rfl, hk.1, by omega, by omega, t0, t1, tp, fun u t lu ot => ?_⟩
    walk_at "dl7"
    refine ⟨a, k2, top, x, rfl, hk.2, by omega, by omega, t0, t1, tp_put ot, fun v t lv ot => ?_⟩
    walk_at "dl7"
    exact fin (q _ t (let_pr lu lv) ot)
  | ei ks =>
    simp only [kD]
    simp only [Kd.depth] at hd
    simp only [Kd.cnt] at hc
    have ln := Kd.len_cnts ks
    have l1 : 1 ≤ ks.length := hk.1
    walk_at "dl7"
    refine drw tp (fun r t r0 r1 ot => ?_) (by rw [len_kDs]; omega)
    rw [len_kDs] at r1
    have hr : r.toNat < ks.length := by omega
    have eg := List.getElem?_eq_getElem hr
    have mk := List.getElem_mem hr
    have m1 := Kd.depth_mem mk
    have m2 := Kd.cnt_mem mk
    walk_at "dl7"
    rw [q_ixt]
    refine ⟨_, atI_kDs r0 eg, ?_⟩
    refine ⟨a, ks[r.toNat], top, x, rfl, Kd.oks_mem.mp hk.2 _ mk, by omega, by omega, t0, t1, tp_put ot, fun v t lv ot => ?_⟩
    walk_at "dl7"
    exact fin (q _ t (let_ei r0 eg lv) ot)
  | mb k =>
    simp only [kD]
    simp only [Kd.depth] at hd
    simp only [Kd.cnt] at hc
    walk_at "dl7"
    refine drw tp (fun r t r0 r1 ot => ?_)
    walk_at "dl7"
    refine sif_i (fun c => ?_) (fun c => ?_)
    · walk_at "dl7"
      exact fin (q _ t let_no ot)
    · walk_at "dl7"
      refine ⟨a, k, top, x, rfl, hk, by omega, by omega, t0, t1, tp_put ot, fun v t lv ot => ?_⟩
      walk_at "dl7"
      exact fin (q _ t (let_mb lv) ot)
def spWild (n : Nat) : Sp' := fun ds h Q _ => ∃ (a : Addr) (d : Int), ds = [.ref a, .int d] ∧ 0 ≤ d ∧ d < n ∧ Tp h a ∧ ∀ v t, val v d.toNat = true → wid v 3 = true → TOk t → Q v (put h a t)
end K00
set_option Elab.async false
set_option linter.all false
set_option maxRecDepth 100000
set_option maxHeartbeats 1000000
namespace K00
open PySem PySem.Spec PyProof.Rows L2 DL
def spSpoilt (n : Nat) : Sp' := fun ds h Q _ => ∃ (a : Addr) (v : D) (m w : Nat), ds = [.ref a, v] ∧ val v m = true ∧ m < n ∧ wid v w = true ∧ 3 ≤ w ∧ w ≤ 1000 ∧ Tp h a ∧ ∀ u t, val u (m + 1) = true → wid u (w + 1) = true → TOk t → Q u (put h a t)
end K00
set_option Elab.async false
set_option linter.all false
set_option maxRecDepth 100000
set_option maxHeartbeats 1000000
namespace K00
open PySem PySem.Spec PyProof.Rows L2 DL
end K00
set_option Elab.async false
set_option linter.all false
set_option maxRecDepth 100000
set_option maxHeartbeats 1000000
namespace K00
open PySem PySem.Spec PyProof.Rows L2 DL
theorem rd_law (ds : List D) (h : DH) (Q : VK') (E' : XK') (q : spLaw ds h Q E') : t_law spTape (spKind 3) (spLetter 3) (spSpoilt 5) (spWild 5) spDraw (sp_is_letter 3) (sp_is_letter 3) (ends Q) (slots n_law ds) h := by
  obtain ⟨ns, rfl, hl, hn, q⟩ := q
  show t_law _ _ _ _ _ _ _ _ (ends Q) [some (.scr ns), none, none, none, none, none, none, none, none, none] h
  unfold t_law
  have done : ∀ h', (ends Q).rt (.bl true) h' := fun h' => fin (q h')
  walk_at "dl7"
  refine ⟨ns, rfl, fun a t na ot => ?_⟩
  walk_at "dl7"
  refine ⟨a, 3, 6, rfl, by decide, by decide, by decide, by decide, tp_put ot, fun k t hk kd kc ot => ?_⟩
  walk_at "dl7"
  refine ⟨a, 3, 6, rfl, by decide, by decide, by decide, by decide, tp_put ot, fun k2 t hk2 kd2 kc2 ot => ?_⟩
  walk_at "dl7"
  have kd : k.depth ≤ 3 := by omega
  have kd2 : k2.depth ≤ 3 := by omega
  refine ⟨a, k, 20, .int 12, rfl, hk, kd, by omega, by decide, by decide, tp_put ot, fun l t ⟨_, lv, lw⟩ ot => ?_⟩
  walk_at "dl7"
  refine ⟨a, l, 3, 3, rfl, val_mono _ _ _ kd lv, by decide, lw, by decide, by decide, tp_put ot, fun s t sv sw ot => ?_⟩
  walk_at "dl7"
  refine ⟨a, s, 4, 4, rfl, sv, by decide, sw, by decide, by decide, tp_put ot, fun s2 t sv2 sw2 ot => ?_⟩
  walk_at "dl7"
  refine ⟨a, k2, 20, .int 12, rfl, hk2, kd2, by omega, by decide, by decide, tp_put ot, fun l2 t ⟨_, lv2, lw2⟩ ot => ?_⟩
  walk_at "dl7"
  refine ⟨a, 2, rfl, by decide, by decide, tp_put ot, fun w t wv ww ot => ?_⟩
  walk_at "dl7"
  refine drw (tp_put ot) (fun r t r0 r1 ot => ?_)
  walk_at "dl7"
  rw [q_ixl]
  obtain ⟨b, e, m⟩ := pick (xs := [D.bl true, .bl false, .non]) r0 (by simp only [List.length_cons, List.length_nil]; omega)
  refine ⟨b, e, ?_⟩
  have bv : val b 40 = true := by
    simp only [List.mem_cons, List.not_mem_nil, or_false] at m
    rcases m with rfl | rfl | rfl <;> rfl
  walk_at "dl7"
  have vs : ∀ x ∈ [l, s, s2, l2, w] ++ [b, l], val x 40 = true := by
    intro x hx
    simp only [List.cons_append, List.nil_append, List.mem_cons, List.not_mem_nil, or_false] at hx
    rcases hx with rfl | rfl | rfl | rfl | rfl | rfl | rfl
    · exact val_mono _ _ _ (by omega) lv
    · exact val_mono _ _ _ (by omega) sv
    · exact val_mono _ _ _ (by omega) sv2
    · exact val_mono _ _ _ (by omega) lv2
    · exact val_mono _ _ _ (by simp only [show Int.toNat 2 = 2 from rfl]; omega) wv
    · exact bv
    · exact val_mono _ _ _ (by omega) lv
  have check : ∀ (x : D), val x 40 = true → ∀ (kk : Kd), kk.depth ≤ 3 → ∀ {g : DH} {E : XK'} {R : VK'}, R (.bl (isL kk x)) g → sp_is_letter 3 [kD kk, x] g R E := fun x hx kk hd {g E R} q => ⟨kk, x, rfl, hd, hx, q⟩
  refine for_ind (fun xs τ g => (∀ x ∈ xs, val x 40 = true) ∧ ∃ x7 x8 x9 : Option D, τ = [some (.scr ns), some (.ref a), some (kD k), some (kD k2), some l, some s, some (.lis ([l, s, s2, l2, w] ++ [b, l])), x7, x8, x9]) ?_ ?_ _ _ _ ⟨vs, none, none, none, rfl⟩
  · rintro τ g ⟨_, x7, x8, x9, rfl⟩
    rw [q_fnil]
    walk_at "dl7"
    exact done g
  · rintro x xs ih τ g ⟨hx, x7, x8, x9, rfl⟩
    rw [q_fcons]
    walk_at "dl7"
    have xv := hx x List.mem_cons_self
    refine for_ind (fun ys τ g => (∀ y ∈ ys, ∃ kk : Kd, y = kD kk ∧ kk.depth ≤ 3) ∧ ∃ x8 x9 : Option D, τ = [some (.scr ns), some (.ref a), some (kD k), some (kD k2), some l, some s, some (.lis ([l, s, s2, l2, w] ++ [b, l])), some x, x8, x9]) ?_ ?_ _ _ _ ⟨?_, x8, x9, rfl⟩
    · rintro τ g ⟨_, x8, x9, rfl⟩
      rw [q_fnil]
      walk_at "dl7"
      exact ih _ _ ⟨fun y hy => hx y (List.mem_cons_of_mem _ hy), _, _, _, rfl⟩
    · rintro y ys ih2 τ g ⟨hy, x8, x9, rfl⟩
      obtain ⟨kk, rfl, hd⟩ := hy y List.mem_cons_self
      rw [q_fcons]
      walk_at "dl7"
      refine check x xv kk hd ?_
      walk_at "dl7"
      refine check x xv kk hd ?_
      walk_at "dl7"
      exact ih2 _ _ ⟨fun z hz => hy z (List.mem_cons_of_mem _ hz), _, _, rfl⟩
    · intro y hy
      simp only [List.mem_cons, List.not_mem_nil, or_false] at hy
      rcases hy with rfl | rfl | rfl
      · exact ⟨k, rfl, kd⟩
      · exact ⟨k2, rfl, kd2⟩
      · exact ⟨k, rfl, kd⟩
end K00
set_option Elab.async false
set_option linter.all false
set_option maxRecDepth 100000
set_option maxHeartbeats 1000000
namespace K01
open PySem PySem.Spec PyProof.Rows L2 DL K00
section
variable {τ : St'} {h : DH} {Q : VK'} {D' : Ends'}
end
def allL (k : Kd) (vs : List D) : Bool := vs.all (isL k)
end K01
set_option Elab.async false
set_option linter.all false
set_option maxRecDepth 100000
set_option maxHeartbeats 1000000
namespace K01
open PySem PySem.Spec PyProof.Rows L2 DL K00
def sp__law_answers : Sp' := fun ds h Q _ => ∃ k x y, ds = [kD k, x, y] ∧ k.depth ≤ 3 ∧ val x 40 = true ∧ val y 40 = true ∧ isL k x = true ∧ isL k y = true ∧ Q (.bl true) h
def sp__law_turned (n : Nat) : Sp' := fun ds h Q _ => ∃ k, ds = [kD k] ∧ k.depth ≤ n ∧ k.cnt ≤ 100 ∧ Q (kD (turn k)) h
end K01
set_option Elab.async false
set_option linter.all false
set_option maxRecDepth 100000
set_option maxHeartbeats 1000000
namespace K01
open PySem PySem.Spec PyProof.Rows L2 DL K00
def sp__law_refused : Sp' := fun ds h Q _ => ∃ k x y, ds = [kD k, x, y] ∧ k.depth ≤ 3 ∧ val x 40 = true ∧ val y 40 = true ∧ (isL k x && isL k y) = false ∧ Q (.bl true) h
end K01
set_option Elab.async false
set_option linter.all false
set_option maxRecDepth 100000
set_option maxHeartbeats 1000000
namespace K01
open PySem PySem.Spec PyProof.Rows L2 DL K00
theorem let_of : ∀ (n : Nat) (k : Kd) (v : D), k.depth ≤ n → k.ok → isL k v = true → Let k v
  | 0, k, v, h, _, _ => by have := k.depth_pos; omega
  | n + 1, k, v, h, o, hv => by
    cases k with
    | nm ns =>
      obtain ⟨x, rfl, m⟩ := nm_form hv
      exact ⟨hv, (o.2.2 x m).1, rfl⟩
    | it =>
      obtain ⟨i, rfl⟩ := it_form hv
      exact ⟨rfl, rfl, rfl⟩
    | pr a b =>
      simp only [Kd.depth] at h
      obtain ⟨x, y, rfl, p1, p2⟩ := pr_form hv
      exact let_pr (let_of n a x (by omega) o.1 p1) (let_of n b y (by omega) o.2 p2)
    | ei ks =>
      simp only [Kd.depth] at h
      obtain ⟨i, x, k1, rfl, i0, e1, p1⟩ := ei_form hv
      have m := List.mem_of_getElem? e1
      have := Kd.depth_mem m
      exact let_ei i0 e1 (let_of n k1 x (by omega) (Kd.oks_mem.mp o.2 _ m) p1)
    | mb k =>
      simp only [Kd.depth] at h
      rcases mb_form hv with rfl | ⟨x, rfl, p1⟩
      · exact let_no
      · exact let_mb (let_of n k x (by omega) o p1)
def spNear (n : Nat) : Sp' := fun ds h Q _ => ∃ (a : Addr) (k : Kd) (v : D), ds = [.ref a, kD k, v] ∧ k.ok ∧ k.depth ≤ n ∧ k.depth ≤ 3 ∧ k.cnt ≤ 100 ∧ isL k v = true ∧ Tp h a ∧ ∀ u t, isL k u = true → TOk t → Q u (put h a t)
end K01
set_option Elab.async false
set_option linter.all false
set_option maxRecDepth 100000
set_option maxHeartbeats 1000000
namespace K01
open PySem PySem.Spec PyProof.Rows L2 DL K00
def spForeign (n : Nat) : Sp' := fun ds h Q _ => ∃ (a : Addr) (k : Kd) (v : D), ds = [.ref a, kD k, v] ∧ k.ok ∧ k.depth ≤ n ∧ k.depth ≤ 3 ∧ k.cnt ≤ 100 ∧ isL k v = true ∧ Tp h a ∧ ∀ u t, isL k u = false → val u (k.depth + 2) = true → TOk t → Q u (put h a t)
theorem val_of {k : Kd} {v : D} (o : k.ok) (h : isL k v = true) : val v k.depth = true := (let_of _ k v (Nat.le_refl _) o h).2.1
end K01
set_option Elab.async false
set_option linter.all false
set_option maxRecDepth 100000
set_option maxHeartbeats 1000000
namespace K01
open PySem PySem.Spec PyProof.Rows L2 DL K00
theorem rd_law (ds : List D) (h : DH) (Q : VK') (E' : XK') (q : spLaw ds h Q E') : t_law spTape (spKind 3) (sp__law_turned 3) (spLetter 3) spDraw (spNear 3) (spForeign 3) sp__law_answers sp__law_refused (ends Q) (slots n_law ds) h := by
  obtain ⟨ns, rfl, hl, hn, q⟩ := q
  show t_law _ _ _ _ _ _ _ _ _ (ends Q) [some (.scr ns), none, none, none, none, none, none, none, none, none] h
  unfold t_law
  have done : ∀ h', (ends Q).rt (.bl true) h' := fun h' => fin (q h')
  walk_at "dl7"
  refine ⟨ns, rfl, fun a t na ot => ?_⟩
  walk_at "dl7"
  refine ⟨a, 3, 6, rfl, by decide, by decide, by decide, by decide, tp_put ot, fun k t hk kd kc ot => ?_⟩
  walk_at "dl7"
  have kd : k.depth ≤ 3 := by omega
  have td : (turn k).depth ≤ 3 := by rw [turn_depth]; exact kd
  refine ⟨k, rfl, kd, by omega, ?_⟩
  walk_at "dl7"
  refine ⟨a, k, 20, .int 12, rfl, hk, kd, by omega, by decide, by decide, tp_put ot, fun l1 t le1 ot => ?_⟩
  walk_at "dl7"
  refine ⟨a, k, 20, .int 12, rfl, hk, kd, by omega, by decide, by decide, tp_put ot, fun l2 t le2 ot => ?_⟩
  walk_at "dl7"
  refine ⟨fun τ g => ∃ l2 t, τ = [some (.scr ns), some (.ref a), some (kD k), some (kD (turn k)), some l1, some l2, none, none, none, none] ∧ isL k l2 = true ∧ g = put h a t ∧ TOk t, ?_, ?_⟩
  · walk_at "dl7"
    refine drw (tp_put ot) (fun r t r0 r1 ot => ?_)
    walk_at "dl7"
    refine sif_i (fun b1 => ?_) (fun b1 => ?_)
    · walk_at "dl7"
      refine ⟨a, k, l1, rfl, hk, kd, kd, by omega, le1.1, tp_put ot, fun u t lu ot => ?_⟩
      walk_at "dl7"
      exact ⟨u, t, rfl, lu, rfl, ot⟩
    · walk_at "dl7"
      exact ⟨l2, t, rfl, le2.1, rfl, ot⟩
  · rintro τ g ⟨l2, t, rfl, i2, rfl, ot⟩
    walk_at "dl7"
    refine ⟨a, k, 20, .int 12, rfl, hk, kd, by omega, by decide, by decide, tp_put ot, fun l3 t le3 ot => ?_⟩
    walk_at "dl7"
    refine ⟨a, k, l1, rfl, hk, kd, kd, by omega, le1.1, tp_put ot, fun f t nf vf ot => ?_⟩
    walk_at "dl7"
    have i1 := le1.1
    have i3 := le3.1
    have vl : ∀ {x : D}, isL k x = true → val x 40 = true := fun i => val_mono _ _ _ (by omega) (val_of hk i)
    have v40 : val f 40 = true := val_mono _ _ _ (by omega) vf
    have ans : ∀ {kk : Kd} {x y : D}, kk = k ∨ kk = turn k → isL k x = true → isL k y = true → ∀ {g : DH} {R : VK'} {E : XK'}, R (.bl true) g → sp__law_answers [kD kk, x, y] g R E := fun {kk x y} o ix iy {g R E} q => by
      rcases o with rfl | rfl
      · exact ⟨_, x, y, rfl, kd, vl ix, vl iy, ix, iy, q⟩
      · exact ⟨_, x, y, rfl, td, vl ix, vl iy, isL_turn 3 k x kd ix, isL_turn 3 k y kd iy, q⟩
    refine for_ind (fun xs τ g => (∀ x ∈ xs, ∃ kk, x = kD kk ∧ (kk = k ∨ kk = turn k)) ∧ ∃ x8 x9 : Option D, τ = [some (.scr ns), some (.ref a), some (kD k), some (kD (turn k)), some l1, some l2, some l3, some f, x8, x9]) ?_ ?_ _ _ _ ⟨?_, none, none, rfl⟩
    · rintro τ g ⟨_, x8, x9, rfl⟩
      rw [q_fnil]
      walk_at "dl7"
      refine ⟨k, f, l2, rfl, kd, v40, vl i2, by rw [nf]; rfl, ?_⟩
      walk_at "dl7"
      refine ans (.inl rfl) i2 i2 ?_
      walk_at "dl7"
      refine ⟨k, l1, f, rfl, kd, vl i1, v40, by rw [nf, Bool.and_false], ?_⟩
      walk_at "dl7"
      refine ans (.inl rfl) i3 i2 ?_
      walk_at "dl7"
      exact done _
    · rintro x xs ih τ g ⟨hx, x8, x9, rfl⟩
      obtain ⟨kk, rfl, ok⟩ := hx x List.mem_cons_self
      rw [q_fcons]
      walk_at "dl7"
      refine for_ind (fun ys τ g => (∀ y ∈ ys, ∃ u w, y = .tup [u, w] ∧ isL k u = true ∧ isL k w = true) ∧ ∃ x9 : Option D, τ = [some (.scr ns), some (.ref a), some (kD k), some (kD (turn k)), some l1, some l2, some l3, some f, some (kD kk), x9]) ?_ ?_ _ _ _ ⟨?_, x9, rfl⟩
      · rintro τ g ⟨_, x9, rfl⟩
        rw [q_fnil]
        walk_at "dl7"
        exact ih _ _ ⟨fun y m => hx y (List.mem_cons_of_mem _ m), _, _, rfl⟩
      · rintro y ys ih2 τ g ⟨hy, x9, rfl⟩
        obtain ⟨u, w, rfl, iu, iw⟩ := hy y List.mem_cons_self
        rw [q_fcons]
        walk_at "dl7"
        refine ans ok iu iw ?_
        walk_at "dl7"
        exact ih2 _ _ ⟨fun z m => hy z (List.mem_cons_of_mem _ m), _, rfl⟩
      · intro y m
        simp only [List.mem_cons, List.not_mem_nil, or_false] at m
        rcases m with rfl | rfl | rfl
        · exact ⟨_, _, rfl, i1, i2⟩
        · exact ⟨_, _, rfl, i2, i1⟩
        · exact ⟨_, _, rfl, i1, i3⟩
    · intro x m
      simp only [List.mem_cons, List.not_mem_nil, or_false] at m
      rcases m with rfl | rfl | rfl
      · exact ⟨_, rfl, .inl rfl⟩
      · exact ⟨_, rfl, .inr rfl⟩
      · exact ⟨_, rfl, .inl rfl⟩
end K01
set_option Elab.async false
set_option linter.all false
set_option maxRecDepth 100000
set_option maxHeartbeats 1000000
namespace K04
open PySem PySem.Spec PyProof.Rows L2 DL K00 K01
variable {dm : Kd → Ls → Prop} {S : Kd → Ls → Bool} {C : Ls → D → Bool}
end K04
set_option Elab.async false
set_option linter.all false
set_option maxRecDepth 100000
set_option maxHeartbeats 1000000
namespace K04
open PySem PySem.Spec PyProof.Rows L2 DL K00 K01
variable {dm : Kd → Ls → Prop} {S : Kd → Ls → Bool} {C : Ls → D → Bool}
def spLawIn (dm : Kd → Ls → Prop) (S : Kd → Ls → Bool) (C : Ls → D → Bool) : Sp' := fun ds h Q _ => ∃ k s v, ds = [sD s, v] ∧ dm k s ∧ S k s = true ∧ isL k v = true ∧ Q (.bl (C s v)) h
def spLawMeets (dm : Kd → Ls → Prop) (S : Kd → Ls → Bool) (C : Ls → D → Bool) (n : Nat) : Sp' := fun ds h Q _ => ∃ k c v, ds = [cD c, v] ∧ c.depth ≤ n ∧ okC c ∧ domC dm k c ∧ fitsC S k c = true ∧ isL k v = true ∧ Q (.bl (metC C c v)) h
theorem rd__law_meets (n : Nat) (ds : List D) (h : DH) (Q : VK') (E' : XK') (q : spLawMeets dm S C (n + 1) ds h Q E') : t__law_meets (spLawMeets dm S C n) (spLawIn dm S C) (ends Q) (slots n__law_meets ds) h := by
  obtain ⟨k, c, v, rfl, hd, ho, hm, hf, hv, q⟩ := q
  show t__law_meets _ _ (ends Q) [some (cD c), some v, none] h
  unfold t__law_meets
  cases c with
  | tt => simp only [cD]; ((walk_at "dl7"); repeat (simp only [Bool.or_false, Bool.or_true, Bool.true_or, Bool.false_or]; (walk_at "dl7"))); exact fin (by simpa [metC] using q)
  | ff => simp only [cD]; ((walk_at "dl7"); repeat (simp only [Bool.or_false, Bool.or_true, Bool.true_or, Bool.false_or]; (walk_at "dl7"))); exact fin (by simpa [metC] using q)
  | ng c =>
    simp only [Cn.depth] at hd
    simp only [domC] at hm
    simp only [fitsC] at hf
    simp only [cD]
    ((walk_at "dl7"); repeat (simp only [Bool.or_false, Bool.or_true, Bool.true_or, Bool.false_or]; (walk_at "dl7")))
    refine ⟨k, c, v, rfl, by omega, ho, hm, hf, hv, ?_⟩
    walk_at "dl7"
    exact fin (by simpa [metC] using q)
  | an a b =>
    simp only [Cn.depth] at hd
    simp only [domC] at hm
    simp only [fitsC, Bool.and_eq_true] at hf
    simp only [cD]
    ((walk_at "dl7"); repeat (simp only [Bool.or_false, Bool.or_true, Bool.true_or, Bool.false_or]; (walk_at "dl7")))
    refine ⟨k, a, v, rfl, by omega, ho.1, hm.1, hf.1, hv, ?_⟩
    simp only [metC] at q
    cases e : metC C a v with
    | true =>
      rw [e] at q
      ((walk_at "dl7"); repeat (simp only [Bool.or_false, Bool.or_true, Bool.true_or, Bool.false_or]; (walk_at "dl7")))
      exact ⟨k, b, v, rfl, by omega, ho.2, hm.2, hf.2, hv, fin q⟩
    | false =>
      rw [e] at q
      ((walk_at "dl7"); repeat (simp only [Bool.or_false, Bool.or_true, Bool.true_or, Bool.false_or]; (walk_at "dl7")))
      exact fin q
  | orr a b =>
    simp only [Cn.depth] at hd
    simp only [domC] at hm
    simp only [fitsC, Bool.and_eq_true] at hf
    simp only [cD]
    ((walk_at "dl7"); repeat (simp only [Bool.or_false, Bool.or_true, Bool.true_or, Bool.false_or]; (walk_at "dl7")))
    refine ⟨k, a, v, rfl, by omega, ho.1, hm.1, hf.1, hv, ?_⟩
    simp only [metC] at q
    cases e : metC C a v with
    | true =>
      rw [e] at q
      ((walk_at "dl7"); repeat (simp only [Bool.or_false, Bool.or_true, Bool.true_or, Bool.false_or]; (walk_at "dl7")))
      exact fin q
    | false =>
      rw [e] at q
      ((walk_at "dl7"); repeat (simp only [Bool.or_false, Bool.or_true, Bool.true_or, Bool.false_or]; (walk_at "dl7")))
      exact ⟨k, b, v, rfl, by omega, ho.2, hm.2, hf.2, hv, fin q⟩
  | inn s =>
    simp only [domC] at hm
    simp only [fitsC] at hf
    simp only [cD]
    ((walk_at "dl7"); repeat (simp only [Bool.or_false, Bool.or_true, Bool.true_or, Bool.false_or]; (walk_at "dl7")))
    exact ⟨k, s, v, rfl, hm, hf, hv, fin (by simpa [metC] using q)⟩
  | is s =>
    cases k <;> simp [fitsC] at hf
    obtain ⟨x, rfl, m⟩ := nm_form hv
    simp only [cD]; ((walk_at "dl7"); repeat (simp only [Bool.or_false, Bool.or_true, Bool.true_or, Bool.false_or]; (walk_at "dl7")))
    exact fin (by simpa [metC] using q)
  | lt s =>
    cases k <;> simp [fitsC] at hf
    obtain ⟨j, rfl⟩ := it_form hv
    simp only [cD]; ((walk_at "dl7"); repeat (simp only [Bool.or_false, Bool.or_true, Bool.true_or, Bool.false_or]; (walk_at "dl7")))
    exact fin (by simpa [metC] using q)
  | eq s =>
    cases k <;> simp [fitsC] at hf
    obtain ⟨j, rfl⟩ := it_form hv
    simp only [cD]; ((walk_at "dl7"); repeat (simp only [Bool.or_false, Bool.or_true, Bool.true_or, Bool.false_or]; (walk_at "dl7")))
    exact fin (by simpa [metC] using q)
  | gt s =>
    cases k <;> simp [fitsC] at hf
    obtain ⟨j, rfl⟩ := it_form hv
    simp only [cD]; ((walk_at "dl7"); repeat (simp only [Bool.or_false, Bool.or_true, Bool.true_or, Bool.false_or]; (walk_at "dl7")))
    exact fin (by simpa [metC] using q)
  | md m r =>
    cases k <;> simp [fitsC] at hf
    obtain ⟨j, rfl⟩ := it_form hv
    simp only [cD]; ((walk_at "dl7"); repeat (simp only [Bool.or_false, Bool.or_true, Bool.true_or, Bool.false_or]; (walk_at "dl7")))
    exact ⟨ho.1, fin (by simpa [metC] using q)⟩
  | no =>
    cases k <;> simp [fitsC] at hf
    rename_i k1
    simp only [cD]
    rcases mb_form hv with rfl | ⟨x, rfl, p1⟩
    · ((walk_at "dl7"); repeat (simp only [Bool.or_false, Bool.or_true, Bool.true_or, Bool.false_or]; (walk_at "dl7"))); exact fin (by simpa [metC] using q)
    · ((walk_at "dl7"); repeat (simp only [Bool.or_false, Bool.or_true, Bool.true_or, Bool.false_or]; (walk_at "dl7"))); exact fin (by simpa [metC] using q)
  | fs c =>
    simp only [Cn.depth] at hd
    cases k <;> simp [fitsC] at hf
    rename_i k1 k2
    simp only [domC] at hm
    obtain ⟨x, y, rfl, p1, p2⟩ := pr_form hv
    simp only [cD]
    ((walk_at "dl7"); repeat (simp only [Bool.or_false, Bool.or_true, Bool.true_or, Bool.false_or]; (walk_at "dl7")))
    exact ⟨k1, c, x, rfl, by omega, ho, hm, hf, p1, fin (by simpa [metC] using q)⟩
  | sn c =>
    simp only [Cn.depth] at hd
    cases k <;> simp [fitsC] at hf
    rename_i k1 k2
    simp only [domC] at hm
    obtain ⟨x, y, rfl, p1, p2⟩ := pr_form hv
    simp only [cD]
    ((walk_at "dl7"); repeat (simp only [Bool.or_false, Bool.or_true, Bool.true_or, Bool.false_or]; (walk_at "dl7")))
    exact ⟨k2, c, y, rfl, by omega, ho, hm, hf, p2, fin (by simpa [metC] using q)⟩
  | cs i c =>
    simp only [Cn.depth] at hd
    cases k <;> simp [fitsC] at hf
    rename_i ks
    simp only [domC] at hm
    obtain ⟨j, x, k1, rfl, j0, e1, p1⟩ := ei_form hv
    simp only [cD]
    simp only [metC] at q
    ((walk_at "dl7"); repeat (simp only [Bool.or_false, Bool.or_true, Bool.true_or, Bool.false_or]; (walk_at "dl7")))
    refine sif_i (fun z => ?_) (fun z => ?_)
    · have z := of_decide_eq_true z
      subst z
      simp only [e1] at hf
      walk_at "dl7"
      exact ⟨k1, c, x, rfl, by omega, ho.2, hm _ e1, hf, p1, fin (by simpa using q)⟩
    · rw [z] at q
      exact fin (by simpa using q)
  | so c =>
    simp only [Cn.depth] at hd
    cases k <;> simp [fitsC] at hf
    rename_i k1
    simp only [domC] at hm
    simp only [cD]
    rcases mb_form hv with rfl | ⟨x, rfl, p1⟩
    · ((walk_at "dl7"); repeat (simp only [Bool.or_false, Bool.or_true, Bool.true_or, Bool.false_or]; (walk_at "dl7"))); exact fin (by simpa [metC] using q)
    · ((walk_at "dl7"); repeat (simp only [Bool.or_false, Bool.or_true, Bool.true_or, Bool.false_or]; (walk_at "dl7")))
      exact ⟨k1, c, x, rfl, by omega, ho, hm, hf, p1, fin (by simpa [metC] using q)⟩
end K04
-- set2
set_option Elab.async false
set_option linter.all false
set_option maxRecDepth 100000
set_option maxHeartbeats 1000000
local macro_rules | `(tactic| walk_at "dl7") => `(tactic| (try simp only [↓DL.q_nx, ↓DL.q_seq, ↓DL.q_br, ↓DL.q_ct, ↓DL.q_drop, ↓DL.q_ret, ↓DL.q_retn, ↓DL.q_ifs, ↓DL.q_asg, ↓DL.q_gn, ↓DL.q_gsub, ↓DL.q_gtup, ↓DL.q_gco, ↓DL.q_gni, ↓DL.q_for, ↓DL.q_yes, ↓DL.q_c, ↓DL.q_to, ↓DL.q_tu, ↓DL.q_tb, ↓DL.q_isB, ↓DL.q_isI, ↓DL.q_ch, ↓DL.q_and, ↓DL.q_or, ↓DL.q_orp, ↓DL.q_not, ↓DL.q_andv, ↓DL.q_orv, ↓DL.q_notv, ↓DL.q_if, ↓DL.q_an, ↓DL.q_ac, ↓DL.q_tup, ↓DL.q_lis, ↓DL.q_own, ↓DL.q_call, ↓DL.q_cb, ↓DL.q_bm, ↓DL.q_sl, ↓DL.q_slt, ↓DL.q_sll, ↓DL.q_pn, ↓DL.q_pe, ↓DL.q_addi, ↓DL.q_adds, ↓DL.q_addt, ↓DL.q_addl, ↓DL.q_I2, ↓DL.q_neg, ↓DL.q_eqi, ↓DL.q_eqs, ↓DL.q_eqb, ↓DL.q_neb, ↓DL.q_nei, ↓DL.q_nes, ↓DL.q_eq_non_int, ↓DL.q_ne_non_int, ↓DL.q_eq_non_bl, ↓DL.q_ne_non_bl, ↓DL.q_eq_non_str, ↓DL.q_ne_non_str, ↓DL.q_eq_int_non, ↓DL.q_ne_int_non, ↓DL.q_eq_bl_non, ↓DL.q_ne_bl_non, ↓DL.q_eq_str_non, ↓DL.q_ne_str_non, ↓DL.q_eq_int_str, ↓DL.q_ne_int_str, ↓DL.q_eq_str_int, ↓DL.q_ne_str_int, ↓DL.q_eq_bl_str, ↓DL.q_ne_bl_str, ↓DL.q_eq_str_bl, ↓DL.q_ne_str_bl, ↓DL.q_eq_non_non, ↓DL.q_ne_non_non, ↓DL.q_isnon_bl, ↓DL.q_isnon_int, ↓DL.q_isnon_str, ↓DL.q_isnon_tup, ↓DL.q_isnon_lis, ↓DL.q_isnon_non, ↓DL.q_int, ↓DL.q_inl, ↓DL.q_isn, ↓DL.q_ixc, ↓DL.q_lent, ↓DL.q_lenl, ↓DL.q_lenc, ↓DL.q_lens, ↓DL.q_is, ↓DL.q_toi, ↓DL.q_tob, ↓DL.q_abs, ↓DL.q_max, ↓DL.q_min, ↓DL.q_list, ↓DL.q_listo, ↓DL.q_tuple, ↓DL.q_sum, ↓DL.q_kt, ↓DL.q_kl, ↓DL.q_kc, ↓DL.q_tv0, ↓DL.q_st0, ↓DL.q_tv1, ↓DL.q_st1, ↓DL.q_tv2, ↓DL.q_st2, ↓DL.q_tv3, ↓DL.q_st3, ↓DL.q_tv4, ↓DL.q_st4, ↓DL.q_tv5, ↓DL.q_st5, ↓DL.q_tv6, ↓DL.q_st6, ↓DL.q_tv7, ↓DL.q_st7, ↓DL.q_tv8, ↓DL.q_st8, ↓DL.q_tv9, ↓DL.q_st9, ↓DL.q_tv10, ↓DL.q_st10, ↓DL.q_tv11, ↓DL.q_st11, ↓DL.q_tv12, ↓DL.q_st12, ↓DL.q_tv13, ↓DL.q_st13, ↓DL.q_tv14, ↓DL.q_st14, ↓DL.q_tv15, ↓DL.q_st15, ↓DL.q_ixt0, ↓DL.q_ixl0, ↓DL.q_ixt1, ↓DL.q_ixl1, ↓DL.q_ixt2, ↓DL.q_ixl2, ↓DL.q_ixt3, ↓DL.q_ixl3, ↓DL.q_ixt4, ↓DL.q_ixl4, ↓DL.q_oixr, ↓DL.q_oinr, ↓DL.q_olen, ↓DL.q_okr, ↓DL.q_oapp, ↓DL.q_olsr, ↓DL.q_osetD, ↓DL.q_ln0, ↓DL.q_sz0, ↓DL.q_ln1, ↓DL.q_sz1, ↓DL.q_ln2, ↓DL.q_sz2, ↓DL.q_ln3, ↓DL.q_sz3, ↓DL.q_ln4, ↓DL.q_sz4, ↓DL.q_ln5, ↓DL.q_sz5, ↓DL.q_ln6, ↓DL.q_sz6, ↓DL.q_ln7, ↓DL.q_sz7, ↓DL.q_ln8, ↓DL.q_sz8, ↓DL.q_wseq, ↓DL.q_wt, ↓DL.q_wl, ↓DL.q_wc, ↓DL.q_wr, ↓DL.q_wr1, ↓DL.q_wr1', ↓DL.q_setL0, ↓DL.q_setL1, ↓DL.q_setL2, ↓DL.q_setL3, ↓DL.q_setL4, ↓DL.q_pl_non, ↓DL.q_in_non_int, ↓DL.q_in_non_bool, ↓DL.q_in_non_str, ↓DL.q_in_non_tuple, ↓DL.q_in_non_list, ↓DL.q_pl_bl, ↓DL.q_in_bl_int, ↓DL.q_in_bl_bool, ↓DL.q_in_bl_str, ↓DL.q_in_bl_tuple, ↓DL.q_in_bl_list, ↓DL.q_pl_int, ↓DL.q_in_int_int, ↓DL.q_in_int_bool, ↓DL.q_in_int_str, ↓DL.q_in_int_tuple, ↓DL.q_in_int_list, ↓DL.q_pl_str, ↓DL.q_in_str_int, ↓DL.q_in_str_bool, ↓DL.q_in_str_str, ↓DL.q_in_str_tuple, ↓DL.q_in_str_list, ↓DL.q_pl_tup, ↓DL.q_in_tup_int, ↓DL.q_in_tup_bool, ↓DL.q_in_tup_str, ↓DL.q_in_tup_tuple, ↓DL.q_in_tup_list, ↓DL.q_pl_lis, ↓DL.q_in_lis_int, ↓DL.q_in_lis_bool, ↓DL.q_in_lis_str, ↓DL.q_in_lis_tuple, ↓DL.q_in_lis_list, ↓DL.q_ty_int, ↓DL.q_ty_bool, ↓DL.q_ty_str, ↓DL.q_ty_tuple, ↓DL.q_ty_list, DL.sif_t, DL.sif_f, DL.ofStr_inj, String.reduceEq, decide_true, decide_false, Bool.not_true, Bool.not_false, true_and, and_true, List.length_cons, List.length_nil, Int.reduceAdd, Int.reduceMul, Int.reduceNeg, Int.reduceSub, Nat.reduceAdd, if_true, if_false, Bool.false_eq_true, Int.reduceEq, Int.reduceLT, Int.reduceLE, eq_self, not_false_eq_true, DL.mulOk, or_true, true_or, and_self, Int.reduceToNat, Nat.reduceLT, Int.reducePow, DL.put_same, DL.put_put, ↓DL.q_tru, ↓DL.q_truB, ↓DL.q_truI, ↓DL.q_truT, ↓DL.q_truL, ↓DL.q_any, ↓DL.q_all, ↓DL.q_dnew, ↓DL.q_dget, ↓DL.q_dix, ↓DL.q_dput, ↓DL.q_ext1, ↓DL.q_rg2, ↓DL.q_rg2K, ↓DL.q_tv16, ↓DL.q_st16, ↓DL.q_tv17, ↓DL.q_st17, ↓DL.q_tv18, ↓DL.q_st18, ↓DL.q_tv19, ↓DL.q_st19, ↓DL.q_tv20, ↓DL.q_st20, ↓DL.q_tv21, ↓DL.q_st21, ↓DL.q_tv22, ↓DL.q_st22, ↓DL.q_tv23, ↓DL.q_st23, ↓DL.q_tv24, ↓DL.q_st24, ↓DL.q_tv25, ↓DL.q_st25, ↓DL.q_tv26, ↓DL.q_st26, ↓DL.q_tv27, ↓DL.q_st27, ↓DL.q_tv28, ↓DL.q_st28, ↓DL.q_tv29, ↓DL.q_st29, ↓DL.q_tv30, ↓DL.q_st30, ↓DL.q_tv31, ↓DL.q_st31, ↓DL.q_tv32, ↓DL.q_st32, ↓DL.q_tv33, ↓DL.q_st33, ↓DL.q_tv34, ↓DL.q_st34, ↓DL.q_tv35, ↓DL.q_st35, ↓DL.q_en, ↓DL.q_enK, ↓DL.q_listD, ↓DL.q_keys, ↓DL.q_caRg1, ↓DL.q_rgv, ↓DL.q_minL, ↓DL.q_inP]))
namespace K04
open PySem PySem.Spec PyProof.Rows L2 DL K00 K01
theorem flat_int (ns : List Int) : (ns.map D.int).all flatD = true := by
  induction ns with
  | nil => rfl
  | cons n ns ih => simpa [flatD] using ih
theorem inD_intl (x : Int) (ns : List Int) : inD (.int x) (ns.map .int) = ns.contains x := by
  induction ns with
  | nil => rfl
  | cons n ns ih =>
    simp only [List.map_cons, List.contains_cons, inD_ii, ih]
    rw [Bool.beq_eq_decide_eq]
    congr 1
    exact decide_eq_decide.mpr ⟨fun h => h.symm, fun h => h.symm⟩
theorem atI_bl {bs : List Bool} {r : Int} (h0 : 0 ≤ r) (h1 : r < (bs.length : Int)) : atI (bs.map D.bl) r = some (.bl (atB bs r)) := by
  have hi : r.toNat < bs.length := by omega
  have z : atI (bs.map D.bl) ((r.toNat : Nat) : Int) = some (.bl bs[r.toNat]) := atI_nat (by rw [List.getElem?_map, List.getElem?_eq_getElem hi]; rfl)
  rw [show ((r.toNat : Nat) : Int) = r by omega] at z
  rw [z]
  unfold atB
  rw [List.getD_eq_getElem?_getD, List.getElem?_eq_getElem hi]
  rfl
def oS : Option Ls → D
  | none => .non
  | some s => sD s
theorem inLp_ok : ∀ (ks : List Kd) (p : Lp) (i : Nat) (k : Kd), wfLp ks p → ks[i]? = some k → ∃ s, (lpD p)[i]? = some (sD s) ∧ wfS k s ∧ ∀ x, inLp p i x = inS s x
  | [], p, i, k, _, e => by simp at e
  | k :: ks, .nil, i, _, w, _ => by simp [wfLp] at w
  | k :: ks, .cons s t, 0, k', w, e => by
    simp only [wfLp] at w
    simp only [List.getElem?_cons_zero, Option.some.injEq] at e
    subst e
    exact ⟨s, by simp [lpD], w.1, fun x => by simp [inLp]⟩
  | k :: ks, .cons s t, i + 1, k', w, e => by
    simp only [wfLp] at w
    obtain ⟨s', e1, w1, i1⟩ := inLp_ok ks t i k' w.2 (by simpa using e)
    exact ⟨s', by simpa [lpD] using e1, w1, fun x => by simp only [inLp]; exact i1 x⟩
def spInN (n : Nat) : Sp' := fun ds h Q _ => ∃ k s v, ds = [sD s, v] ∧ k.depth ≤ n ∧ wfS k s ∧ isL k v = true ∧ Q (.bl (inS s v)) h
theorem rd__law_in (n : Nat) (ds : List D) (h : DH) (Q : VK') (E' : XK') (q : spInN (n + 1) ds h Q E') : t__law_in (spInN n) (ends Q) (slots n__law_in ds) h := by
  obtain ⟨k, s, v, rfl, hd, hw, hv, q⟩ := q
  show t__law_in _ (ends Q) [some (sD s), some v, none, none, none] h
  unfold t__law_in
  cases k with
  | nm ns =>
    cases s <;> simp only [wfS] at hw
    rename_i xs
    obtain ⟨x, rfl, m⟩ := nm_form hv
    simp only [sD]
    ((walk_at "dl7"); repeat (simp only [flat_str, inD_str]; (walk_at "dl7")))
    exact ⟨rfl, fin (by simpa [inS] using q)⟩
  | it =>
    cases s <;> simp only [wfS] at hw
    rename_i lo bel mem hi abv
    obtain ⟨i, rfl⟩ := it_form hv
    simp only [inS] at q
    unfold inI at q
    have b0 : (0 : Int) < (bel.length : Int) := by have := hw.1.1; omega
    have a0 : (0 : Int) < (abv.length : Int) := by have := hw.2.1.1; omega
    simp only [sD]
    walk_at "dl7"
    refine sif_i (fun c => ?_) (fun c => ?_)
    · have c := of_decide_eq_true c
      rw [if_pos c] at q
      ((walk_at "dl7"); repeat (simp only [List.length_map]; (walk_at "dl7")))
      refine ⟨a0, ?_⟩
      rw [q_ixt]
      exact ⟨_, atI_bl (Int.emod_nonneg _ (by omega)) (Int.emod_lt_of_pos _ a0), fin q⟩
    · have c : ¬ hi ≤ i := by simpa using c
      rw [if_neg c] at q
      walk_at "dl7"
      refine sif_i (fun c => ?_) (fun c => ?_)
      · have c := of_decide_eq_true c
        rw [if_pos c] at q
        ((walk_at "dl7"); repeat (simp only [List.length_map]; (walk_at "dl7")))
        refine ⟨b0, ?_⟩
        rw [q_ixt]
        exact ⟨_, atI_bl (Int.emod_nonneg _ (by omega)) (Int.emod_lt_of_pos _ b0), fin q⟩
      · have c : ¬ i ≤ lo := by simpa using c
        rw [if_neg c] at q
        ((walk_at "dl7"); repeat (simp only [flat_int, inD_intl]; (walk_at "dl7")))
        exact ⟨rfl, fin q⟩
  | pr a b =>
    simp only [Kd.depth] at hd
    cases s <;> simp only [wfS] at hw
    rename_i r
    obtain ⟨x, y, rfl, p1, p2⟩ := pr_form hv
    simp only [inS] at q
    simp only [sD]
    walk_at "dl7"
    refine for_ind (fun xs τ g => ∃ (t : Rw) (z : Option D), xs = rwD t ∧ τ = [some (.tup [.str "pairs", .tup (rwD r)]), some (.tup [.str "pair", x, y]), none, none, z] ∧ wfRw a b t ∧ inRw r x y = inRw t x y ∧ g = h) ?_ ?_ _ _ _ ⟨r, none, rfl, rfl, hw, rfl, rfl⟩
    · rintro τ g ⟨t, z, e, rfl, w, e2, rfl⟩
      cases t with
      | cons _ _ _ => cases e
      | nil =>
        rw [q_fnil]
        walk_at "dl7"
        rw [e2] at q
        exact fin q
    · rintro d ds ih τ g ⟨t, z, e, rfl, w, e2, rfl⟩
      cases t with
      | nil => cases e
      | cons f s t =>
        simp only [rwD, List.cons.injEq] at e
        obtain ⟨rfl, rfl⟩ := e
        simp only [wfRw] at w
        simp only [inRw] at e2
        rw [q_fcons]
        walk_at "dl7"
        refine ⟨a, f, x, rfl, by omega, w.1, p1, ?_⟩
        cases c : inS f x with
        | true =>
          rw [c, if_pos rfl] at e2
          rw [e2] at q
          walk_at "dl7"
          exact ⟨b, s, y, rfl, by omega, w.2.1, p2, fin q⟩
        | false =>
          rw [c, if_neg Bool.false_ne_true] at e2
          walk_at "dl7"
          exact ih _ _ ⟨t, _, rfl, rfl, w.2.2, e2, rfl⟩
  | ei ks =>
    simp only [Kd.depth] at hd
    cases s <;> simp only [wfS] at hw
    rename_i p
    obtain ⟨i, x, k1, rfl, i0, e1, p1⟩ := ei_form hv
    have := Kd.depth_mem (List.mem_of_getElem? e1)
    obtain ⟨s, e2, w2, i2⟩ := inLp_ok _ _ _ _ hw e1
    have e3 : atI (lpD p) i = some (sD s) := by
      have z : atI (lpD p) ((i.toNat : Nat) : Int) = some (sD s) := atI_nat e2
      rwa [show ((i.toNat : Nat) : Int) = i by omega] at z
    simp only [sD]
    walk_at "dl7"
    rw [q_ixt]
    refine ⟨_, e3, ?_⟩
    walk_at "dl7"
    refine ⟨k1, s, x, rfl, by omega, w2, p1, fin ?_⟩
    simpa [inS, i2] using q
  | mb k1 =>
    simp only [Kd.depth] at hd
    cases s <;> simp only [wfS] at hw
    rename_i b s
    simp only [sD]
    rcases mb_form hv with rfl | ⟨x, rfl, p1⟩
    · walk_at "dl7"
      exact fin (by simpa [inS] using q)
    · walk_at "dl7"
      exact ⟨k1, s, x, rfl, by omega, hw, p1, fin (by simpa [inS] using q)⟩
end K04
set_option Elab.async false
set_option linter.all false
set_option maxRecDepth 100000
set_option maxHeartbeats 1000000
local macro_rules | `(tactic| walk_at "dl7") => `(tactic| (try simp only [↓DL.q_nx, ↓DL.q_seq, ↓DL.q_br, ↓DL.q_ct, ↓DL.q_drop, ↓DL.q_ret, ↓DL.q_retn, ↓DL.q_ifs, ↓DL.q_asg, ↓DL.q_gn, ↓DL.q_gsub, ↓DL.q_gtup, ↓DL.q_gco, ↓DL.q_gni, ↓DL.q_for, ↓DL.q_yes, ↓DL.q_c, ↓DL.q_to, ↓DL.q_tu, ↓DL.q_tb, ↓DL.q_isB, ↓DL.q_isI, ↓DL.q_ch, ↓DL.q_and, ↓DL.q_or, ↓DL.q_orp, ↓DL.q_not, ↓DL.q_andv, ↓DL.q_orv, ↓DL.q_notv, ↓DL.q_if, ↓DL.q_an, ↓DL.q_ac, ↓DL.q_tup, ↓DL.q_lis, ↓DL.q_own, ↓DL.q_call, ↓DL.q_cb, ↓DL.q_bm, ↓DL.q_sl, ↓DL.q_slt, ↓DL.q_sll, ↓DL.q_pn, ↓DL.q_pe, ↓DL.q_addi, ↓DL.q_adds, ↓DL.q_addt, ↓DL.q_addl, ↓DL.q_I2, ↓DL.q_neg, ↓DL.q_eqi, ↓DL.q_eqs, ↓DL.q_eqb, ↓DL.q_neb, ↓DL.q_nei, ↓DL.q_nes, ↓DL.q_eq_non_int, ↓DL.q_ne_non_int, ↓DL.q_eq_non_bl, ↓DL.q_ne_non_bl, ↓DL.q_eq_non_str, ↓DL.q_ne_non_str, ↓DL.q_eq_int_non, ↓DL.q_ne_int_non, ↓DL.q_eq_bl_non, ↓DL.q_ne_bl_non, ↓DL.q_eq_str_non, ↓DL.q_ne_str_non, ↓DL.q_eq_int_str, ↓DL.q_ne_int_str, ↓DL.q_eq_str_int, ↓DL.q_ne_str_int, ↓DL.q_eq_bl_str, ↓DL.q_ne_bl_str, ↓DL.q_eq_str_bl, ↓DL.q_ne_str_bl, ↓DL.q_eq_non_non, ↓DL.q_ne_non_non, ↓DL.q_isnon_bl, ↓DL.q_isnon_int, ↓DL.q_isnon_str, ↓DL.q_isnon_tup, ↓DL.q_isnon_lis, ↓DL.q_isnon_non, ↓DL.q_int, ↓DL.q_inl, ↓DL.q_isn, ↓DL.q_ixc, ↓DL.q_lent, ↓DL.q_lenl, ↓DL.q_lenc, ↓DL.q_lens, ↓DL.q_is, ↓DL.q_toi, ↓DL.q_tob, ↓DL.q_abs, ↓DL.q_max, ↓DL.q_min, ↓DL.q_list, ↓DL.q_listo, ↓DL.q_tuple, ↓DL.q_sum, ↓DL.q_kt, ↓DL.q_kl, ↓DL.q_kc, ↓DL.q_tv0, ↓DL.q_st0, ↓DL.q_tv1, ↓DL.q_st1, ↓DL.q_tv2, ↓DL.q_st2, ↓DL.q_tv3, ↓DL.q_st3, ↓DL.q_tv4, ↓DL.q_st4, ↓DL.q_tv5, ↓DL.q_st5, ↓DL.q_tv6, ↓DL.q_st6, ↓DL.q_tv7, ↓DL.q_st7, ↓DL.q_tv8, ↓DL.q_st8, ↓DL.q_tv9, ↓DL.q_st9, ↓DL.q_tv10, ↓DL.q_st10, ↓DL.q_tv11, ↓DL.q_st11, ↓DL.q_tv12, ↓DL.q_st12, ↓DL.q_tv13, ↓DL.q_st13, ↓DL.q_tv14, ↓DL.q_st14, ↓DL.q_tv15, ↓DL.q_st15, ↓DL.q_ixt0, ↓DL.q_ixl0, ↓DL.q_ixt1, ↓DL.q_ixl1, ↓DL.q_ixt2, ↓DL.q_ixl2, ↓DL.q_ixt3, ↓DL.q_ixl3, ↓DL.q_ixt4, ↓DL.q_ixl4, ↓DL.q_oixr, ↓DL.q_oinr, ↓DL.q_olen, ↓DL.q_okr, ↓DL.q_oapp, ↓DL.q_olsr, ↓DL.q_osetD, ↓DL.q_ln0, ↓DL.q_sz0, ↓DL.q_ln1, ↓DL.q_sz1, ↓DL.q_ln2, ↓DL.q_sz2, ↓DL.q_ln3, ↓DL.q_sz3, ↓DL.q_ln4, ↓DL.q_sz4, ↓DL.q_ln5, ↓DL.q_sz5, ↓DL.q_ln6, ↓DL.q_sz6, ↓DL.q_ln7, ↓DL.q_sz7, ↓DL.q_ln8, ↓DL.q_sz8, ↓DL.q_wseq, ↓DL.q_wt, ↓DL.q_wl, ↓DL.q_wc, ↓DL.q_wr, ↓DL.q_wr1, ↓DL.q_wr1', ↓DL.q_setL0, ↓DL.q_setL1, ↓DL.q_setL2, ↓DL.q_setL3, ↓DL.q_setL4, ↓DL.q_pl_non, ↓DL.q_in_non_int, ↓DL.q_in_non_bool, ↓DL.q_in_non_str, ↓DL.q_in_non_tuple, ↓DL.q_in_non_list, ↓DL.q_pl_bl, ↓DL.q_in_bl_int, ↓DL.q_in_bl_bool, ↓DL.q_in_bl_str, ↓DL.q_in_bl_tuple, ↓DL.q_in_bl_list, ↓DL.q_pl_int, ↓DL.q_in_int_int, ↓DL.q_in_int_bool, ↓DL.q_in_int_str, ↓DL.q_in_int_tuple, ↓DL.q_in_int_list, ↓DL.q_pl_str, ↓DL.q_in_str_int, ↓DL.q_in_str_bool, ↓DL.q_in_str_str, ↓DL.q_in_str_tuple, ↓DL.q_in_str_list, ↓DL.q_pl_tup, ↓DL.q_in_tup_int, ↓DL.q_in_tup_bool, ↓DL.q_in_tup_str, ↓DL.q_in_tup_tuple, ↓DL.q_in_tup_list, ↓DL.q_pl_lis, ↓DL.q_in_lis_int, ↓DL.q_in_lis_bool, ↓DL.q_in_lis_str, ↓DL.q_in_lis_tuple, ↓DL.q_in_lis_list, ↓DL.q_ty_int, ↓DL.q_ty_bool, ↓DL.q_ty_str, ↓DL.q_ty_tuple, ↓DL.q_ty_list, DL.sif_t, DL.sif_f, DL.ofStr_inj, String.reduceEq, decide_true, decide_false, Bool.not_true, Bool.not_false, true_and, and_true, List.length_cons, List.length_nil, Int.reduceAdd, Int.reduceMul, Int.reduceNeg, Int.reduceSub, Nat.reduceAdd, if_true, if_false, Bool.false_eq_true, Int.reduceEq, Int.reduceLT, Int.reduceLE, eq_self, not_false_eq_true, DL.mulOk, or_true, true_or, and_self, Int.reduceToNat, Nat.reduceLT, Int.reducePow, DL.put_same, DL.put_put]))
namespace K04
open PySem PySem.Spec PyProof.Rows L2 DL K00 K01
def spAnyKind : Sp' := fun ds h Q _ => ∃ a, ds = [.ref a] ∧ Tp h a ∧ ∀ k t, Kd.ok k → k.depth ≤ 3 → k.cnt ≤ 6 → TOk t → Q (kD k) (put h a t)
theorem rd__law_any_kind (ds : List D) (h : DH) (Q : VK') (E' : XK') (q : spAnyKind ds h Q E') : t__law_any_kind spDraw (spKind 3) (ends Q) (slots n__law_any_kind ds) h := by
  obtain ⟨a, rfl, tp, q⟩ := q
  show t__law_any_kind _ _ (ends Q) [some (.ref a), none] h
  unfold t__law_any_kind
  walk_at "dl7"
  refine drw tp (fun r t r0 r1 ot => ?_)
  walk_at "dl7"
  refine sif_i (fun c => ?_) (fun c => ?_)
  · walk_at "dl7"
    exact fin (q .it t trivial (by decide) (by decide) ot)
  · have c : ¬ r < 2 := by simpa using c
    walk_at "dl7"
    rw [q_ixl]
    obtain ⟨d, e, m⟩ := pick (xs := [D.int 6, .int 3, .int 6]) (r := r - 2) (by omega) (by simp only [List.length_cons, List.length_nil]; omega)
    refine ⟨d, e, ?_⟩
    obtain ⟨j, rfl, j1, j2⟩ : ∃ j : Int, d = .int j ∧ 1 ≤ j ∧ j ≤ 6 := by
      simp only [List.mem_cons, List.not_mem_nil, or_false] at m
      rcases m with rfl | rfl | rfl <;> exact ⟨_, rfl, by decide, by decide⟩
    walk_at "dl7"
    refine ⟨a, 3, j, rfl, by decide, by decide, by omega, by omega, tp_put ot, fun k t hk kd kc ot => ?_⟩
    walk_at "dl7"
    exact fin (q k t hk (by omega) (by omega) ot)
def spConds (n : Nat) : Sp' := fun ds h Q _ => ∃ c, ds = [cD c] ∧ c.depth ≤ n ∧ Q (.int c.cnt) h
theorem rd__law_conditions (n : Nat) (ds : List D) (h : DH) (Q : VK') (E' : XK') (q : spConds (n + 1) ds h Q E') : t__law_conditions (spConds n) (ends Q) (slots n__law_conditions ds) h := by
  obtain ⟨c, rfl, hd, q⟩ := q
  show t__law_conditions _ (ends Q) [some (cD c)] h
  unfold t__law_conditions
  cases c with
  | an a b =>
    simp only [Cn.depth] at hd
    simp only [Cn.cnt] at q
    simp only [cD]
    ((walk_at "dl7"); repeat (simp only [DL.flatD, List.all_cons, List.all_nil, DL.inD_sc, DL.inD_ic, DL.inD_ii, DL.inD_nil, Bool.and_true, Bool.or_false, Bool.or_true, Bool.true_or, Bool.false_or]; (walk_at "dl7")))
    refine ⟨a, rfl, by omega, ?_⟩
    walk_at "dl7"
    refine ⟨b, rfl, by omega, ?_⟩
    walk_at "dl7"
    exact fin (by rw [show (1 + (a.cnt : Int) + (b.cnt : Int)) = ((1 + a.cnt + b.cnt : Nat) : Int) by omega]; exact q)
  | orr a b =>
    simp only [Cn.depth] at hd
    simp only [Cn.cnt] at q
    simp only [cD]
    ((walk_at "dl7"); repeat (simp only [DL.flatD, List.all_cons, List.all_nil, DL.inD_sc, DL.inD_ic, DL.inD_ii, DL.inD_nil, Bool.and_true, Bool.or_false, Bool.or_true, Bool.true_or, Bool.false_or]; (walk_at "dl7")))
    refine ⟨a, rfl, by omega, ?_⟩
    walk_at "dl7"
    refine ⟨b, rfl, by omega, ?_⟩
    walk_at "dl7"
    exact fin (by rw [show (1 + (a.cnt : Int) + (b.cnt : Int)) = ((1 + a.cnt + b.cnt : Nat) : Int) by omega]; exact q)
  | ng c | fs c | sn c | so c =>
    simp only [Cn.depth] at hd
    simp only [Cn.cnt] at q
    simp only [cD]
    ((walk_at "dl7"); repeat (simp only [DL.flatD, List.all_cons, List.all_nil, DL.inD_sc, DL.inD_ic, DL.inD_ii, DL.inD_nil, Bool.and_true, Bool.or_false, Bool.or_true, Bool.true_or, Bool.false_or]; (walk_at "dl7")))
    refine ⟨c, rfl, by omega, ?_⟩
    walk_at "dl7"
    exact fin (by rw [show (1 + (c.cnt : Int)) = ((1 + c.cnt : Nat) : Int) by omega]; exact q)
  | cs i c =>
    simp only [Cn.depth] at hd
    simp only [Cn.cnt] at q
    simp only [cD]
    ((walk_at "dl7"); repeat (simp only [DL.flatD, List.all_cons, List.all_nil, DL.inD_sc, DL.inD_ic, DL.inD_ii, DL.inD_nil, Bool.and_true, Bool.or_false, Bool.or_true, Bool.true_or, Bool.false_or]; (walk_at "dl7")))
    refine ⟨c, rfl, by omega, ?_⟩
    walk_at "dl7"
    exact fin (by rw [show (1 + (c.cnt : Int)) = ((1 + c.cnt : Nat) : Int) by omega]; exact q)
  | _ =>
    simp only [cD]
    ((walk_at "dl7"); repeat (simp only [DL.flatD, List.all_cons, List.all_nil, DL.inD_sc, DL.inD_ic, DL.inD_ii, DL.inD_nil, Bool.and_true, Bool.or_false, Bool.or_true, Bool.true_or, Bool.false_or]; (walk_at "dl7")))
    exact fin q
def Dr (k : Kd) (c : Cn) : Prop := okC c ∧ fits0 k c
def thy (top md : Int) : D := .tup [.int top, .int md]
def spComparison : Sp' := fun ds h Q _ => ∃ a top md, ds = [.ref a, thy top md] ∧ 0 ≤ top ∧ top ≤ 20 ∧ Tp h a ∧ ∀ c t, Dr .it c → c.cnt = 1 → TOk t → Q (cD c) (put h a t)
theorem rd__law_comparison (ds : List D) (h : DH) (Q : VK') (E' : XK') (q : spComparison ds h Q E') : t__law_comparison spDraw (ends Q) (slots n__law_comparison ds) h := by
  obtain ⟨a, top, md, rfl, h0, h1, tp, q⟩ := q
  show t__law_comparison _ (ends Q) [some (.ref a), some (.tup [.int top, .int md]), none, none] h
  unfold t__law_comparison
  walk_at "dl7"
  refine drw tp (fun c t c0 c1 ot => ?_)
  walk_at "dl7"
  refine drw (tp_put ot) (fun r t r0 r1 ot => ?_) (by omega)
  walk_at "dl7"
  refine ⟨fun τ g => ∃ (u : Int) (t : DO), τ = [some (.ref a), some (.tup [.int top, .int md]), some (.int c), some (.int u)] ∧ TOk t ∧ g = put h a t ∧ -20 ≤ u ∧ u ≤ 20, ?_, ?_⟩
  · walk_at "dl7"
    refine sif_i (fun b => ?_) (fun b => ?_)
    · have b := of_decide_eq_true b
      walk_at "dl7"
      rw [q_ixl]
      obtain ⟨d, e, m⟩ := pick (xs := [D.int 0, .int top, .int (-top)]) c0 (by simp only [List.length_cons, List.length_nil]; omega)
      refine ⟨d, e, ?_⟩
      obtain ⟨j, rfl, j1, j2⟩ : ∃ j : Int, d = .int j ∧ -20 ≤ j ∧ j ≤ 20 := by
        simp only [List.mem_cons, List.not_mem_nil, or_false] at m
        rcases m with rfl | rfl | rfl <;> exact ⟨_, rfl, by omega, by omega⟩
      walk_at "dl7"
      exact ⟨_, _, rfl, ot, rfl, j1, j2⟩
    · walk_at "dl7"
      exact ⟨_, _, rfl, ot, rfl, by omega, by omega⟩
  · rintro τ g ⟨u, t, rfl, ot, rfl, u1, u2⟩
    walk_at "dl7"
    refine drw (tp_put ot) (fun r t r0 r1 ot => ?_)
    walk_at "dl7"
    rw [q_ixl]
    obtain ⟨d, e, m⟩ := pick (xs := [D.str "<", .str "=", .str ">"]) r0 (by simp only [List.length_cons, List.length_nil]; omega)
    refine ⟨d, e, ?_⟩
    simp only [List.mem_cons, List.not_mem_nil, or_false] at m
    rcases m with rfl | rfl | rfl
    · walk_at "dl7"; exact fin (q (.lt u) t ⟨⟨u1, u2⟩, rfl⟩ rfl ot)
    · walk_at "dl7"; exact fin (q (.eq u) t ⟨⟨u1, u2⟩, rfl⟩ rfl ot)
    · walk_at "dl7"; exact fin (q (.gt u) t ⟨⟨u1, u2⟩, rfl⟩ rfl ot)
def spModulus : Sp' := fun ds h Q _ => ∃ a top md, ds = [.ref a, thy top md] ∧ Tp h a ∧ ∀ c t, Dr .it c → c.cnt = 1 → TOk t → Q (cD c) (put h a t)
theorem rd__law_modulus (ds : List D) (h : DH) (Q : VK') (E' : XK') (q : spModulus ds h Q E') : t__law_modulus spDraw (ends Q) (slots n__law_modulus ds) h := by
  obtain ⟨a, top, md, rfl, tp, q⟩ := q
  show t__law_modulus _ (ends Q) [some (.ref a), some (.tup [.int top, .int md]), none, none] h
  unfold t__law_modulus
  walk_at "dl7"
  rw [q_lc]
  walk_at "dl7"
  intro p np
  refine lc_ind (fun xs acc g => ∃ as : List Int, acc = as.map D.int ∧ (∀ x ∈ as, 1 ≤ x ∧ x ≤ 4) ∧ (∀ x ∈ xs, ∃ j, x = D.int j ∧ 1 ≤ j ∧ j ≤ 4) ∧ acc.length + xs.length ≤ 4 ∧ (as ≠ [] ∨ .int 1 ∈ xs) ∧ g = put h p .hid) ?_ ?_ _ _ _ ⟨[], rfl, by simp, ?_, by decide, .inr List.mem_cons_self, rfl⟩
  · rintro acc g ⟨as, rfl, ha, _, hl, hex, rfl⟩
    have l1 : 1 ≤ as.length := by
      rcases hex with z | z
      · exact List.length_pos_iff.mpr z
      · cases z
    simp only [List.length_map, List.length_nil] at hl
    rw [q_lnil]
    walk_at "dl7"
    rw [del_put np]
    refine drw tp (fun r t r0 r1 ot => ?_) (by rw [List.length_map]; omega)
    walk_at "dl7"
    refine drw (tp_put ot) (fun r2 t r20 r21 ot => ?_) (by rw [List.length_map]; omega)
    walk_at "dl7"
    rw [q_ixl]
    rw [List.length_map] at r1 r21
    obtain ⟨d, e, m⟩ := pick (xs := as.map D.int) (r := max r r2) (by omega) (by rw [List.length_map]; omega)
    obtain ⟨j, mj, rfl⟩ := List.mem_map.mp m
    refine ⟨_, e, ?_⟩
    have jj := ha j mj
    walk_at "dl7"
    refine drw (tp_put ot) (fun r3 t r30 r31 ot => ?_) (by omega)
    walk_at "dl7"
    exact fin (q (.md j r3) t ⟨⟨by omega, by obtain e | e | e | e : j = 1 ∨ j = 2 ∨ j = 3 ∨ j = 4 := (by omega) <;> (subst e; rfl)⟩, rfl⟩ rfl ot)
  · rintro x xs ih acc g ⟨as, rfl, ha, hx, hl, hex, rfl⟩
    obtain ⟨j, rfl, j1, j4⟩ := hx x List.mem_cons_self
    simp only [List.length_cons, List.length_map] at hl
    rw [q_lcons]
    walk_at "dl7"
    refine ⟨by omega, ?_⟩
    refine sif_i (fun z => ?_) (fun z => ?_)
    · walk_at "dl7"
      refine ⟨Nat.lt_of_le_of_lt (show _ ≤ 4 by rw [List.length_map]; omega) (by decide), ih _ _ ⟨as ++ [j], by simp, ?_, fun y m => hx y (List.mem_cons_of_mem _ m), by simp only [List.length_append, List.length_map, List.length_cons, List.length_nil]; omega, .inl (by simp), rfl⟩⟩
      intro y m
      rcases List.mem_append.mp m with m | m
      · exact ha y m
      · rw [List.mem_singleton.mp m]; exact ⟨j1, j4⟩
    · refine ih _ _ ⟨as, rfl, ha, fun y m => hx y (List.mem_cons_of_mem _ m), by simp only [List.length_map]; omega, ?_, rfl⟩
      rcases hex with w | w
      · exact .inl w
      · rcases List.mem_cons.mp w with w | w
        · cases w
          exact absurd (Int.emod_one md) (by simpa using z)
        · exact .inr w
  · intro x m
    simp only [List.mem_cons, List.not_mem_nil, or_false] at m
    rcases m with rfl | rfl | rfl | rfl <;> exact ⟨_, rfl, by decide, by decide⟩
def spCond (n : Nat) : Sp' := fun ds h Q _ => ∃ (a : Addr) (k : Kd) (top md room : Int), ds = [.ref a, kD k, thy top md, .int room] ∧ k.ok ∧ k.cnt ≤ 100 ∧ 0 ≤ top ∧ top ≤ 20 ∧ 1 ≤ room ∧ room ≤ n ∧ Tp h a ∧ ∀ c t, Dr k c → (c.cnt : Int) ≤ room → TOk t → Q (cD c) (put h a t)
theorem rd__law_leaf (n : Nat) (ds : List D) (h : DH) (Q : VK') (E' : XK') (q : spCond (n + 1) ds h Q E') : t__law_leaf spDraw spModulus spComparison (spCond n) (ends Q) (slots n__law_leaf ds) h := by
  obtain ⟨a, k, top, md, room, rfl, hk, hc, h0, h1, hr, hn, tp, q⟩ := q
  show t__law_leaf _ _ _ _ (ends Q) [some (.ref a), some (kD k), some (.tup [.int top, .int md]), some (.int room), none, none, none] h
  unfold t__law_leaf
  walk_at "dl7"
  refine drw tp (fun c t c0 c1 ot => ?_)
  walk_at "dl7"
  refine sif_i (fun b => ?_) (fun b => ?_)
  · walk_at "dl7"
    refine drw (tp_put ot) (fun r t r0 r1 ot => ?_)
    walk_at "dl7"
    rw [q_ixl]
    obtain ⟨d, e, m⟩ := pick (xs := [D.tup [.str "true"], .tup [.str "false"]]) r0 (by simp only [List.length_cons, List.length_nil]; omega)
    refine ⟨d, e, ?_⟩
    simp only [List.mem_cons, List.not_mem_nil, or_false] at m
    rcases m with rfl | rfl
    · exact fin (q .tt t ⟨trivial, by cases k <;> rfl⟩ (by simp only [Cn.cnt]; omega) ot)
    · exact fin (q .ff t ⟨trivial, by cases k <;> rfl⟩ (by simp only [Cn.cnt]; omega) ot)
  · cases k with
    | nm ns =>
      simp only [kD]
      obtain ⟨n1, n4, no⟩ := hk
      walk_at "dl7"
      refine drw (tp_put ot) (fun r t r0 r1 ot => ?_) (by rw [List.length_map]; omega)
      walk_at "dl7"
      rw [q_ixt]
      obtain ⟨d, e, m⟩ := pick (xs := ns.map D.str) r0 (by rw [List.length_map] at r1 ⊢; omega)
      obtain ⟨s, ms, rfl⟩ := List.mem_map.mp m
      refine ⟨_, e, ?_⟩
      walk_at "dl7"
      exact fin (q (.is s) t ⟨trivial, by simpa [fits0, fitsC] using ms⟩ (by simp only [Cn.cnt]; omega) ot)
    | it =>
      simp only [kD]
      walk_at "dl7"
      refine sif_i (fun b2 => ?_) (fun b2 => ?_)
      · walk_at "dl7"
        refine sif_i (fun b3 => ?_) (fun b3 => ?_)
        · walk_at "dl7"
          refine ⟨a, top, md, rfl, tp_put ot, fun c t dc cc ot => ?_⟩
          walk_at "dl7"
          exact fin (q c t dc (by omega) ot)
        · walk_at "dl7"
          refine ⟨a, top, md, rfl, h0, h1, tp_put ot, fun c t dc cc ot => ?_⟩
          walk_at "dl7"
          exact fin (q c t dc (by omega) ot)
      · walk_at "dl7"
        refine ⟨a, top, md, rfl, h0, h1, tp_put ot, fun c t dc cc ot => ?_⟩
        walk_at "dl7"
        exact fin (q c t dc (by omega) ot)
    | pr k1 k2 =>
      simp only [Kd.cnt] at hc
      simp only [kD]
      walk_at "dl7"
      refine sif_i (fun b2 => ?_) (fun b2 => ?_)
      · walk_at "dl7"
        exact fin (q .tt t ⟨trivial, rfl⟩ (by simp only [Cn.cnt]; omega) ot)
      · have b2 : ¬ room = 1 := by simpa using b2
        walk_at "dl7"
        refine drw (tp_put ot) (fun r t r0 r1 ot => ?_)
        have rr : r = 0 ∨ r = 1 := by omega
        rcases rr with rfl | rfl
        · walk_at "dl7"
          refine ⟨a, k1, top, md, room - 1, rfl, hk.1, by omega, h0, h1, by omega, by omega, tp_put ot, fun c t dc cc ot => ?_⟩
          walk_at "dl7"
          exact fin (q (.fs c) t ⟨dc.1, dc.2⟩ (by simp only [Cn.cnt]; omega) ot)
        · walk_at "dl7"
          refine ⟨a, k2, top, md, room - 1, rfl, hk.2, by omega, h0, h1, by omega, by omega, tp_put ot, fun c t dc cc ot => ?_⟩
          walk_at "dl7"
          exact fin (q (.sn c) t ⟨dc.1, dc.2⟩ (by simp only [Cn.cnt]; omega) ot)
    | ei ks =>
      simp only [Kd.cnt] at hc
      have ln := Kd.len_cnts ks
      have l1 : 1 ≤ ks.length := hk.1
      simp only [kD]
      walk_at "dl7"
      refine sif_i (fun b2 => ?_) (fun b2 => ?_)
      · walk_at "dl7"
        exact fin (q .tt t ⟨trivial, rfl⟩ (by simp only [Cn.cnt]; omega) ot)
      · have b2 : ¬ room = 1 := by simpa using b2
        walk_at "dl7"
        refine drw (tp_put ot) (fun r t r0 r1 ot => ?_) (by rw [len_kDs]; omega)
        rw [len_kDs] at r1
        have hr : r.toNat < ks.length := by omega
        have eg := List.getElem?_eq_getElem hr
        have mk := List.getElem_mem hr
        have m2 := Kd.cnt_mem mk
        walk_at "dl7"
        rw [q_ixt]
        refine ⟨_, atI_kDs r0 eg, ?_⟩
        walk_at "dl7"
        refine ⟨a, ks[r.toNat], top, md, room - 1, rfl, Kd.oks_mem.mp hk.2 _ mk, by omega, h0, h1, by omega, by omega, tp_put ot, fun c t dc cc ot => ?_⟩
        walk_at "dl7"
        exact fin (q (.cs r c) t ⟨⟨r0, dc.1⟩, by simp only [fits0, fitsC, eg]; exact dc.2⟩ (by simp only [Cn.cnt]; omega) ot)
    | mb k1 =>
      simp only [Kd.cnt] at hc
      simp only [kD]
      walk_at "dl7"
      refine sif_i (fun b2 => ?_) (fun b2 => ?_)
      · walk_at "dl7"
        exact fin (q .no t ⟨trivial, rfl⟩ (by simp only [Cn.cnt]; omega) ot)
      · have b2 : ¬ room = 1 ∧ ¬ c = 1 := by simpa using b2
        walk_at "dl7"
        refine sif_i (fun b3 => absurd (of_decide_eq_true b3) b2.1) (fun b3 => ?_)
        walk_at "dl7"
        refine ⟨a, k1, top, md, room - 1, rfl, hk, by omega, h0, h1, by omega, by omega, tp_put ot, fun c t dc cc ot => ?_⟩
        walk_at "dl7"
        exact fin (q (.so c) t ⟨dc.1, dc.2⟩ (by simp only [Cn.cnt]; omega) ot)
theorem rd__law_condition (n : Nat) (hn : n ≤ 50) (ds : List D) (h : DH) (Q : VK') (E' : XK') (q : spCond (n + 1) ds h Q E') : t__law_condition spDraw (spCond n) (spConds 50) (spCond (n + 1)) (ends Q) (slots n__law_condition ds) h := by
  obtain ⟨a, k, top, md, room, rfl, hk, hc, h0, h1, hr, hn, tp, q⟩ := q
  show t__law_condition _ _ _ _ (ends Q) [some (.ref a), some (kD k), some (.tup [.int top, .int md]), some (.int room), none, none, none] h
  unfold t__law_condition
  walk_at "dl7"
  refine drw tp (fun r t r0 r1 ot => ?_)
  have leaf : ∀ {τ5 τ6 : Option D}, tret (tcall (spCond (n + 1)) (fun _ _ => False) (tac (tv 0) (tac (tv 1) (tac (tv 2) (tac (tv 3) tan))))) (ends Q) [some (.ref a), some (kD k), some (.tup [.int top, .int md]), some (.int room), some (.int r), τ5, τ6] (put h a t) := fun {τ5 τ6} => by
    walk_at "dl7"
    refine ⟨a, k, top, md, room, rfl, hk, hc, h0, h1, hr, hn, tp_put ot, fun c t dc cc ot => ?_⟩
    walk_at "dl7"
    exact fin (q c t dc cc ot)
  walk_at "dl7"
  refine sif_i (fun b1 => ?_) (fun b1 => ?_)
  · have b1 := of_decide_eq_true b1
    walk_at "dl7"
    refine sif_i (fun b2 => ?_) (fun b2 => ?_)
    · walk_at "dl7"
      refine ⟨a, k, top, md, room - 1, rfl, hk, hc, h0, h1, by omega, by omega, tp_put ot, fun c t dc cc ot => ?_⟩
      walk_at "dl7"
      exact fin (q (.ng c) t ⟨dc.1, by simpa [fits0, fitsC] using dc.2⟩ (by simp only [Cn.cnt]; omega) ot)
    · walk_at "dl7"
      refine sif_i (fun b3 => ?_) (fun b3 => ?_)
      · have b3 := of_decide_eq_true b3
        walk_at "dl7"
        refine sif_i (fun b4 => ?_) (fun b4 => ?_)
        · walk_at "dl7"
          refine ⟨a, k, top, md, room - 2, rfl, hk, hc, h0, h1, by omega, by omega, tp_put ot, fun c t dc cc ot => ?_⟩
          walk_at "dl7"
          have dd := c.depth_cnt
          have cp := Cn.cnt_pos c
          refine ⟨c, rfl, by omega, ?_⟩
          walk_at "dl7"
          refine ⟨a, k, top, md, room - 1 - c.cnt, rfl, hk, hc, h0, h1, by omega, by omega, tp_put ot, fun c2 t dc2 cc2 ot => ?_⟩
          walk_at "dl7"
          refine drw (tp_put ot) (fun r t r0 r1 ot => ?_)
          walk_at "dl7"
          rw [q_ixl]
          obtain ⟨d, e, m⟩ := pick (xs := [D.str "and", .str "or"]) r0 (by simp only [List.length_cons, List.length_nil]; omega)
          refine ⟨d, e, ?_⟩
          simp only [List.mem_cons, List.not_mem_nil, or_false] at m
          rcases m with rfl | rfl
          · walk_at "dl7"
            exact fin (q (.an c c2) t ⟨⟨dc.1, dc2.1⟩, by simpa [fits0, fitsC] using ⟨dc.2, dc2.2⟩⟩ (by simp only [Cn.cnt]; omega) ot)
          · walk_at "dl7"
            exact fin (q (.orr c c2) t ⟨⟨dc.1, dc2.1⟩, by simpa [fits0, fitsC] using ⟨dc.2, dc2.2⟩⟩ (by simp only [Cn.cnt]; omega) ot)
        · exact leaf
      · exact leaf
  · walk_at "dl7"
    refine sif_i (fun b3 => ?_) (fun b3 => ?_)
    · have b3 := of_decide_eq_true b3
      exact absurd b1 (by simp; omega)
    · exact leaf
end K04
set_option Elab.async false
set_option linter.all false
set_option maxRecDepth 100000
set_option maxHeartbeats 1000000
namespace K04
open PySem PySem.Spec PyProof.Rows L2 DL K00 K01
def f13 : D → D
  | .lis [_, c] => c
  | d => d
end K04
set_option Elab.async false
set_option linter.all false
set_option maxRecDepth 100000
set_option maxHeartbeats 1000000
namespace K04
open PySem PySem.Spec PyProof.Rows L2 DL K00 K01
end K04
-- set2
set_option Elab.async false
set_option linter.all false
set_option maxRecDepth 100000
set_option maxHeartbeats 1000000
local macro_rules | `(tactic| walk_at "dl7") => `(tactic| (try simp only [↓DL.q_nx, ↓DL.q_seq, ↓DL.q_br, ↓DL.q_ct, ↓DL.q_drop, ↓DL.q_ret, ↓DL.q_retn, ↓DL.q_ifs, ↓DL.q_asg, ↓DL.q_gn, ↓DL.q_gsub, ↓DL.q_gtup, ↓DL.q_gco, ↓DL.q_gni, ↓DL.q_for, ↓DL.q_yes, ↓DL.q_c, ↓DL.q_to, ↓DL.q_tu, ↓DL.q_tb, ↓DL.q_isB, ↓DL.q_isI, ↓DL.q_ch, ↓DL.q_and, ↓DL.q_or, ↓DL.q_orp, ↓DL.q_not, ↓DL.q_andv, ↓DL.q_orv, ↓DL.q_notv, ↓DL.q_if, ↓DL.q_an, ↓DL.q_ac, ↓DL.q_tup, ↓DL.q_lis, ↓DL.q_own, ↓DL.q_call, ↓DL.q_cb, ↓DL.q_bm, ↓DL.q_sl, ↓DL.q_slt, ↓DL.q_sll, ↓DL.q_pn, ↓DL.q_pe, ↓DL.q_addi, ↓DL.q_adds, ↓DL.q_addt, ↓DL.q_addl, ↓DL.q_I2, ↓DL.q_neg, ↓DL.q_eqi, ↓DL.q_eqs, ↓DL.q_eqb, ↓DL.q_neb, ↓DL.q_nei, ↓DL.q_nes, ↓DL.q_eq_non_int, ↓DL.q_ne_non_int, ↓DL.q_eq_non_bl, ↓DL.q_ne_non_bl, ↓DL.q_eq_non_str, ↓DL.q_ne_non_str, ↓DL.q_eq_int_non, ↓DL.q_ne_int_non, ↓DL.q_eq_bl_non, ↓DL.q_ne_bl_non, ↓DL.q_eq_str_non, ↓DL.q_ne_str_non, ↓DL.q_eq_int_str, ↓DL.q_ne_int_str, ↓DL.q_eq_str_int, ↓DL.q_ne_str_int, ↓DL.q_eq_bl_str, ↓DL.q_ne_bl_str, ↓DL.q_eq_str_bl, ↓DL.q_ne_str_bl, ↓DL.q_eq_non_non, ↓DL.q_ne_non_non, ↓DL.q_isnon_bl, ↓DL.q_isnon_int, ↓DL.q_isnon_str, ↓DL.q_isnon_tup, ↓DL.q_isnon_lis, ↓DL.q_isnon_non, ↓DL.q_int, ↓DL.q_inl, ↓DL.q_isn, ↓DL.q_ixc, ↓DL.q_lent, ↓DL.q_lenl, ↓DL.q_lenc, ↓DL.q_lens, ↓DL.q_is, ↓DL.q_toi, ↓DL.q_tob, ↓DL.q_abs, ↓DL.q_max, ↓DL.q_min, ↓DL.q_list, ↓DL.q_listo, ↓DL.q_tuple, ↓DL.q_sum, ↓DL.q_kt, ↓DL.q_kl, ↓DL.q_kc, ↓DL.q_tv0, ↓DL.q_st0, ↓DL.q_tv1, ↓DL.q_st1, ↓DL.q_tv2, ↓DL.q_st2, ↓DL.q_tv3, ↓DL.q_st3, ↓DL.q_tv4, ↓DL.q_st4, ↓DL.q_tv5, ↓DL.q_st5, ↓DL.q_tv6, ↓DL.q_st6, ↓DL.q_tv7, ↓DL.q_st7, ↓DL.q_tv8, ↓DL.q_st8, ↓DL.q_tv9, ↓DL.q_st9, ↓DL.q_tv10, ↓DL.q_st10, ↓DL.q_tv11, ↓DL.q_st11, ↓DL.q_tv12, ↓DL.q_st12, ↓DL.q_tv13, ↓DL.q_st13, ↓DL.q_tv14, ↓DL.q_st14, ↓DL.q_tv15, ↓DL.q_st15, ↓DL.q_ixt0, ↓DL.q_ixl0, ↓DL.q_ixt1, ↓DL.q_ixl1, ↓DL.q_ixt2, ↓DL.q_ixl2, ↓DL.q_ixt3, ↓DL.q_ixl3, ↓DL.q_ixt4, ↓DL.q_ixl4, ↓DL.q_oixr, ↓DL.q_oinr, ↓DL.q_olen, ↓DL.q_okr, ↓DL.q_oapp, ↓DL.q_olsr, ↓DL.q_osetD, ↓DL.q_ln0, ↓DL.q_sz0, ↓DL.q_ln1, ↓DL.q_sz1, ↓DL.q_ln2, ↓DL.q_sz2, ↓DL.q_ln3, ↓DL.q_sz3, ↓DL.q_ln4, ↓DL.q_sz4, ↓DL.q_ln5, ↓DL.q_sz5, ↓DL.q_ln6, ↓DL.q_sz6, ↓DL.q_ln7, ↓DL.q_sz7, ↓DL.q_ln8, ↓DL.q_sz8, ↓DL.q_wseq, ↓DL.q_wt, ↓DL.q_wl, ↓DL.q_wc, ↓DL.q_wr, ↓DL.q_wr1, ↓DL.q_wr1', ↓DL.q_setL0, ↓DL.q_setL1, ↓DL.q_setL2, ↓DL.q_setL3, ↓DL.q_setL4, ↓DL.q_pl_non, ↓DL.q_in_non_int, ↓DL.q_in_non_bool, ↓DL.q_in_non_str, ↓DL.q_in_non_tuple, ↓DL.q_in_non_list, ↓DL.q_pl_bl, ↓DL.q_in_bl_int, ↓DL.q_in_bl_bool, ↓DL.q_in_bl_str, ↓DL.q_in_bl_tuple, ↓DL.q_in_bl_list, ↓DL.q_pl_int, ↓DL.q_in_int_int, ↓DL.q_in_int_bool, ↓DL.q_in_int_str, ↓DL.q_in_int_tuple, ↓DL.q_in_int_list, ↓DL.q_pl_str, ↓DL.q_in_str_int, ↓DL.q_in_str_bool, ↓DL.q_in_str_str, ↓DL.q_in_str_tuple, ↓DL.q_in_str_list, ↓DL.q_pl_tup, ↓DL.q_in_tup_int, ↓DL.q_in_tup_bool, ↓DL.q_in_tup_str, ↓DL.q_in_tup_tuple, ↓DL.q_in_tup_list, ↓DL.q_pl_lis, ↓DL.q_in_lis_int, ↓DL.q_in_lis_bool, ↓DL.q_in_lis_str, ↓DL.q_in_lis_tuple, ↓DL.q_in_lis_list, ↓DL.q_ty_int, ↓DL.q_ty_bool, ↓DL.q_ty_str, ↓DL.q_ty_tuple, ↓DL.q_ty_list, DL.sif_t, DL.sif_f, DL.ofStr_inj, String.reduceEq, decide_true, decide_false, Bool.not_true, Bool.not_false, true_and, and_true, List.length_cons, List.length_nil, Int.reduceAdd, Int.reduceMul, Int.reduceNeg, Int.reduceSub, Nat.reduceAdd, if_true, if_false, Bool.false_eq_true, Int.reduceEq, Int.reduceLT, Int.reduceLE, eq_self, not_false_eq_true, DL.mulOk, or_true, true_or, and_self, Int.reduceToNat, Nat.reduceLT, Int.reducePow, DL.put_same, DL.put_put, ↓DL.q_tru, ↓DL.q_truB, ↓DL.q_truI, ↓DL.q_truT, ↓DL.q_truL, ↓DL.q_any, ↓DL.q_all, ↓DL.q_dnew, ↓DL.q_dget, ↓DL.q_dix, ↓DL.q_dput, ↓DL.q_ext1, ↓DL.q_rg2, ↓DL.q_rg2K, ↓DL.q_tv16, ↓DL.q_st16, ↓DL.q_tv17, ↓DL.q_st17, ↓DL.q_tv18, ↓DL.q_st18, ↓DL.q_tv19, ↓DL.q_st19, ↓DL.q_tv20, ↓DL.q_st20, ↓DL.q_tv21, ↓DL.q_st21, ↓DL.q_tv22, ↓DL.q_st22, ↓DL.q_tv23, ↓DL.q_st23, ↓DL.q_tv24, ↓DL.q_st24, ↓DL.q_tv25, ↓DL.q_st25, ↓DL.q_tv26, ↓DL.q_st26, ↓DL.q_tv27, ↓DL.q_st27, ↓DL.q_tv28, ↓DL.q_st28, ↓DL.q_tv29, ↓DL.q_st29, ↓DL.q_tv30, ↓DL.q_st30, ↓DL.q_tv31, ↓DL.q_st31, ↓DL.q_tv32, ↓DL.q_st32, ↓DL.q_tv33, ↓DL.q_st33, ↓DL.q_tv34, ↓DL.q_st34, ↓DL.q_tv35, ↓DL.q_st35, ↓DL.q_en, ↓DL.q_enK, ↓DL.q_listD, ↓DL.q_keys, ↓DL.q_caRg1, ↓DL.q_rgv, ↓DL.q_minL, ↓DL.q_inP]))
namespace K22
open PySem PySem.Spec PyProof.Rows L2 DL K00 K01 K04
abbrev tru : Kd → Ls → Bool := fun _ _ => true
theorem sz1000 {n : Nat} (h : n ≤ 1000) : n ≤ sizeLine := Nat.le_trans h (by decide)
def spHasEnd : Sp' := fun ds h Q _ => ∃ M S, ds = [mD M, tI S] ∧ M.ok ∧ stsOk M.n S ∧ Q (.bl (anyEnd M S)) h
theorem rd_has_end (ds : List D) (h : DH) (Q : VK') (E' : XK') (q : spHasEnd ds h Q E') : t_has_end (ends Q) (slots n_has_end ds) h := by
  obtain ⟨M, S, rfl, o, os, q⟩ := q
  show t_has_end (ends Q) [some (mD M), some (tI S), none] h
  unfold t_has_end
  unfold mD tI at *
  have sl := sts_len os (by have := o.n9; omega)
  walk_at "dl7"
  rw [q_lc]
  walk_at "dl7"
  intro p np
  refine lc_all D.int (fun x => D.bl (M.en.contains x)) trivial S [] (sz1000 (by simpa using sl)) ?_ ?_
  · intro x mx R r
    ((walk_at "dl7"); repeat (simp only [flat_int, inD_intl]; (walk_at "dl7")))
    exact ⟨rfl, r⟩
  · rw [List.nil_append]
    walk_at "dl7"
    refine ⟨S.map fun x => M.en.contains x, by rw [List.map_map]; rfl, ?_⟩
    rw [del_put np]
    refine fin ?_
    rw [List.any_map]
    exact q
theorem rd__law_has_end (ds : List D) (h : DH) (Q : VK') (E' : XK') (q : spHasEnd ds h Q E') : t__law_has_end (ends Q) (slots n__law_has_end ds) h := by
  obtain ⟨M, S, rfl, o, os, q⟩ := q
  show t__law_has_end (ends Q) [some (mD M), some (tI S), none] h
  unfold t__law_has_end
  unfold mD tI at *
  have sl := sts_len os (by have := o.n9; omega)
  walk_at "dl7"
  rw [q_lc]
  walk_at "dl7"
  intro p np
  refine lc_map D.int (fun x => M.en.contains x) D.int trivial S [] (sz1000 (by simpa using sl)) ?_ ?_ ?_
  · intro x mx R r
    ((walk_at "dl7"); repeat (simp only [flat_int, inD_intl]; (walk_at "dl7")))
    exact ⟨rfl, r⟩
  · intro x mx _ R r
    walk_at "dl7"
    exact r
  · rw [List.nil_append]
    walk_at "dl7"
    rw [del_put np]
    refine fin ?_
    have e : decide (0 < (((S.filter fun x => M.en.contains x).map D.int).length : Int)) = anyEnd M S := by
      rw [List.length_map]
      unfold anyEnd
      cases ea : S.any (fun q => M.en.contains q) with
      | true =>
        obtain ⟨x, mx, hx⟩ := List.any_eq_true.mp ea
        have : 0 < (S.filter fun x => M.en.contains x).length := List.length_pos_of_mem (List.mem_filter.mpr ⟨mx, hx⟩)
        exact decide_eq_true (by omega)
      | false =>
        have : S.filter (fun x => M.en.contains x) = [] := List.filter_eq_nil_iff.mpr fun x mx hx => by
          have := List.any_eq_true.mpr ⟨x, mx, hx⟩
          rw [ea] at this; cases this
        rw [this]; rfl
    rw [e]; exact q
end K22
set_option Elab.async false
set_option linter.all false
set_option maxRecDepth 100000
set_option maxHeartbeats 1000000
local macro_rules | `(tactic| walk_at "dl7") => `(tactic| (try simp only [↓DL.q_nx, ↓DL.q_seq, ↓DL.q_br, ↓DL.q_ct, ↓DL.q_drop, ↓DL.q_ret, ↓DL.q_retn, ↓DL.q_ifs, ↓DL.q_asg, ↓DL.q_gn, ↓DL.q_gsub, ↓DL.q_gtup, ↓DL.q_gco, ↓DL.q_gni, ↓DL.q_for, ↓DL.q_yes, ↓DL.q_c, ↓DL.q_to, ↓DL.q_tu, ↓DL.q_tb, ↓DL.q_isB, ↓DL.q_isI, ↓DL.q_ch, ↓DL.q_and, ↓DL.q_or, ↓DL.q_orp, ↓DL.q_not, ↓DL.q_andv, ↓DL.q_orv, ↓DL.q_notv, ↓DL.q_if, ↓DL.q_an, ↓DL.q_ac, ↓DL.q_tup, ↓DL.q_lis, ↓DL.q_own, ↓DL.q_call, ↓DL.q_cb, ↓DL.q_bm, ↓DL.q_sl, ↓DL.q_slt, ↓DL.q_sll, ↓DL.q_pn, ↓DL.q_pe, ↓DL.q_addi, ↓DL.q_adds, ↓DL.q_addt, ↓DL.q_addl, ↓DL.q_I2, ↓DL.q_neg, ↓DL.q_eqi, ↓DL.q_eqs, ↓DL.q_eqb, ↓DL.q_neb, ↓DL.q_nei, ↓DL.q_nes, ↓DL.q_eq_non_int, ↓DL.q_ne_non_int, ↓DL.q_eq_non_bl, ↓DL.q_ne_non_bl, ↓DL.q_eq_non_str, ↓DL.q_ne_non_str, ↓DL.q_eq_int_non, ↓DL.q_ne_int_non, ↓DL.q_eq_bl_non, ↓DL.q_ne_bl_non, ↓DL.q_eq_str_non, ↓DL.q_ne_str_non, ↓DL.q_eq_int_str, ↓DL.q_ne_int_str, ↓DL.q_eq_str_int, ↓DL.q_ne_str_int, ↓DL.q_eq_bl_str, ↓DL.q_ne_bl_str, ↓DL.q_eq_str_bl, ↓DL.q_ne_str_bl, ↓DL.q_eq_non_non, ↓DL.q_ne_non_non, ↓DL.q_isnon_bl, ↓DL.q_isnon_int, ↓DL.q_isnon_str, ↓DL.q_isnon_tup, ↓DL.q_isnon_lis, ↓DL.q_isnon_non, ↓DL.q_int, ↓DL.q_inl, ↓DL.q_isn, ↓DL.q_ixc, ↓DL.q_lent, ↓DL.q_lenl, ↓DL.q_lenc, ↓DL.q_lens, ↓DL.q_is, ↓DL.q_toi, ↓DL.q_tob, ↓DL.q_abs, ↓DL.q_max, ↓DL.q_min, ↓DL.q_list, ↓DL.q_listo, ↓DL.q_tuple, ↓DL.q_sum, ↓DL.q_kt, ↓DL.q_kl, ↓DL.q_kc, ↓DL.q_tv0, ↓DL.q_st0, ↓DL.q_tv1, ↓DL.q_st1, ↓DL.q_tv2, ↓DL.q_st2, ↓DL.q_tv3, ↓DL.q_st3, ↓DL.q_tv4, ↓DL.q_st4, ↓DL.q_tv5, ↓DL.q_st5, ↓DL.q_tv6, ↓DL.q_st6, ↓DL.q_tv7, ↓DL.q_st7, ↓DL.q_tv8, ↓DL.q_st8, ↓DL.q_tv9, ↓DL.q_st9, ↓DL.q_tv10, ↓DL.q_st10, ↓DL.q_tv11, ↓DL.q_st11, ↓DL.q_tv12, ↓DL.q_st12, ↓DL.q_tv13, ↓DL.q_st13, ↓DL.q_tv14, ↓DL.q_st14, ↓DL.q_tv15, ↓DL.q_st15, ↓DL.q_ixt0, ↓DL.q_ixl0, ↓DL.q_ixt1, ↓DL.q_ixl1, ↓DL.q_ixt2, ↓DL.q_ixl2, ↓DL.q_ixt3, ↓DL.q_ixl3, ↓DL.q_ixt4, ↓DL.q_ixl4, ↓DL.q_oixr, ↓DL.q_oinr, ↓DL.q_olen, ↓DL.q_okr, ↓DL.q_oapp, ↓DL.q_olsr, ↓DL.q_osetD, ↓DL.q_ln0, ↓DL.q_sz0, ↓DL.q_ln1, ↓DL.q_sz1, ↓DL.q_ln2, ↓DL.q_sz2, ↓DL.q_ln3, ↓DL.q_sz3, ↓DL.q_ln4, ↓DL.q_sz4, ↓DL.q_ln5, ↓DL.q_sz5, ↓DL.q_ln6, ↓DL.q_sz6, ↓DL.q_ln7, ↓DL.q_sz7, ↓DL.q_ln8, ↓DL.q_sz8, ↓DL.q_wseq, ↓DL.q_wt, ↓DL.q_wl, ↓DL.q_wc, ↓DL.q_wr, ↓DL.q_wr1, ↓DL.q_wr1', ↓DL.q_setL0, ↓DL.q_setL1, ↓DL.q_setL2, ↓DL.q_setL3, ↓DL.q_setL4, ↓DL.q_pl_non, ↓DL.q_in_non_int, ↓DL.q_in_non_bool, ↓DL.q_in_non_str, ↓DL.q_in_non_tuple, ↓DL.q_in_non_list, ↓DL.q_pl_bl, ↓DL.q_in_bl_int, ↓DL.q_in_bl_bool, ↓DL.q_in_bl_str, ↓DL.q_in_bl_tuple, ↓DL.q_in_bl_list, ↓DL.q_pl_int, ↓DL.q_in_int_int, ↓DL.q_in_int_bool, ↓DL.q_in_int_str, ↓DL.q_in_int_tuple, ↓DL.q_in_int_list, ↓DL.q_pl_str, ↓DL.q_in_str_int, ↓DL.q_in_str_bool, ↓DL.q_in_str_str, ↓DL.q_in_str_tuple, ↓DL.q_in_str_list, ↓DL.q_pl_tup, ↓DL.q_in_tup_int, ↓DL.q_in_tup_bool, ↓DL.q_in_tup_str, ↓DL.q_in_tup_tuple, ↓DL.q_in_tup_list, ↓DL.q_pl_lis, ↓DL.q_in_lis_int, ↓DL.q_in_lis_bool, ↓DL.q_in_lis_str, ↓DL.q_in_lis_tuple, ↓DL.q_in_lis_list, ↓DL.q_ty_int, ↓DL.q_ty_bool, ↓DL.q_ty_str, ↓DL.q_ty_tuple, ↓DL.q_ty_list, DL.sif_t, DL.sif_f, DL.ofStr_inj, String.reduceEq, decide_true, decide_false, Bool.not_true, Bool.not_false, true_and, and_true, List.length_cons, List.length_nil, Int.reduceAdd, Int.reduceMul, Int.reduceNeg, Int.reduceSub, Nat.reduceAdd, if_true, if_false, Bool.false_eq_true, Int.reduceEq, Int.reduceLT, Int.reduceLE, eq_self, not_false_eq_true, DL.mulOk, or_true, true_or, and_self, Int.reduceToNat, Nat.reduceLT, Int.reducePow, DL.put_same, DL.put_put]))
namespace K04
open PySem PySem.Spec PyProof.Rows L2 DL K00 K01
variable {dm : Kd → Ls → Prop} {S : Kd → Ls → Bool}
end K04
set_option Elab.async false
set_option linter.all false
set_option maxRecDepth 100000
set_option maxHeartbeats 1000000
namespace K03
open PySem PySem.Spec PyProof.Rows L2 DL K00
def Stp (d : D) : Prop := d = .str "first" ∨ d = .str "second" ∨ d = .str "some" ∨ ∃ i : Int, d = .int i ∧ 0 ≤ i
def kindBelow : Kd → D → Option Kd
  | .pr a b, .str s => if s = "first" then some a else if s = "second" then some b else none
  | .mb k, .str s => if s = "some" then some k else none
  | .ei ks, .int i => ks[i.toNat]?
  | _, _ => none
def kindAt : Kd → List D → Option Kd
  | k, [] => some k
  | k, s :: p => match kindBelow k s with | some k' => kindAt k' p | none => none
def oK : Option Kd → D | some k => kD k | none => .non
def sp_kind_at : Sp' := fun ds h Q _ => ∃ k p, ds = [kD k, .tup p] ∧ (∀ s ∈ p, Stp s) ∧ Q (oK (kindAt k p)) h
def partBelow (v s : D) : Option D := match v, s with
  | .tup [t, x, y], .str s => if isStr t "pair" then (if s = "first" then some x else if s = "second" then some y else none) else none
  | .tup [t, .int i, x], .int j => if isStr t "case" ∧ i = j then some x else none
  | .tup [t, x], .str s => if isStr t "some" ∧ s = "some" then some x else none
  | _, _ => none
def partAt : D → List D → Option D
  | v, [] => some v
  | v, s :: p => match partBelow v s with | some v' => partAt v' p | none => none
def oD : Option D → D | some v => v | none => .non
def Lt (v : D) : Prop := ∃ k : Kd, isL k v = true
end K03
set_option Elab.async false
set_option linter.all false
set_option maxRecDepth 100000
set_option maxHeartbeats 1000000
namespace K03
open PySem PySem.Spec PyProof.Rows L2 DL K00
def sp_part_at : Sp' := fun ds h Q _ => ∃ v p, ds = [v, .tup p] ∧ Lt v ∧ val v 40 = true ∧ (∀ s ∈ p, Stp s) ∧ Q (oD (partAt v p)) h
end K03
set_option Elab.async false
set_option linter.all false
set_option maxRecDepth 100000
set_option maxHeartbeats 1000000
namespace K03
open PySem PySem.Spec PyProof.Rows L2 DL K00
theorem kd_val : ∀ (n : Nat) (k : Kd), k.depth ≤ n → k.ok → val (kD k) (2 * n) = true
  | 0, k, h, _ => by have := k.depth_pos; omega
  | n + 1, k, h, o => by
    rw [show 2 * (n + 1) = (2 * n + 1) + 1 by omega]
    cases k with
    | nm ns =>
      simp only [kD, val, vals, sok_of, Bool.true_and, Bool.and_true]
      exact vals_mem.mpr fun x m => by
        obtain ⟨y, hy, rfl⟩ := List.mem_map.mp m
        simpa [val] using (o.2.2 y hy).1
    | it => simp only [kD, val, vals, sok_of, Bool.true_and]
    | pr a b =>
      simp only [Kd.depth] at h
      simp only [kD, val, vals, sok_of, Bool.true_and, Bool.and_true, Bool.and_eq_true]
      exact ⟨val_mono _ _ _ (by omega) (kd_val n a (by omega) o.1), val_mono _ _ _ (by omega) (kd_val n b (by omega) o.2)⟩
    | ei ks =>
      simp only [Kd.depth] at h
      simp only [kD, val, vals, sok_of, Bool.true_and, Bool.and_true]
      exact vals_mem.mpr fun x m => by
        rw [kDs_map] at m
        obtain ⟨y, hy, rfl⟩ := List.mem_map.mp m
        have := Kd.depth_mem hy
        exact kd_val n y (by omega) (Kd.oks_mem.mp o.2 y hy)
    | mb k =>
      simp only [Kd.depth] at h
      simp only [kD, val, vals, sok_of, Bool.true_and, Bool.and_true]
      exact val_mono _ _ _ (by omega) (kd_val n k (by omega) o)
end K03
set_option Elab.async false
set_option linter.all false
set_option maxRecDepth 100000
set_option maxHeartbeats 1000000
namespace K02
open PySem PySem.Spec PyProof.Rows L2 DL K00 K01
theorem all_app {k : Kd} {xs ys : List D} : allL k (xs ++ ys) = (allL k xs && allL k ys) := by simp [allL]
theorem small {n : Nat} (h : n ≤ 40) : n ≤ sizeLine := Nat.le_trans h (by decide)
def sp__law_answers : Sp' := fun ds h Q _ => ∃ k xs ys, ds = [kD k, .tup xs, .tup ys] ∧ k.depth ≤ 3 ∧ xs.length ≤ 20 ∧ ys.length ≤ 20 ∧ (∀ v ∈ xs ++ ys, val v 40 = true) ∧ allL k xs = true ∧ allL k ys = true ∧ Q (.bl true) h
def sp__law_refused : Sp' := fun ds h Q _ => ∃ k xs ys, ds = [kD k, .tup xs, .tup ys] ∧ k.depth ≤ 3 ∧ xs.length ≤ 20 ∧ ys.length ≤ 20 ∧ (∀ v ∈ xs ++ ys, val v 40 = true) ∧ allL k (xs ++ ys) = false ∧ Q (.bl true) h
end K02
set_option Elab.async false
set_option linter.all false
set_option maxRecDepth 100000
set_option maxHeartbeats 1000000
namespace K02
open PySem PySem.Spec PyProof.Rows L2 DL K00 K01
def spWord : Sp' := fun ds h Q _ => ∃ (a : Addr) (k : Kd) (m : Int), ds = [.ref a, kD k, .tup [.int 20, .int 12], .int m] ∧ k.ok ∧ k.depth ≤ 3 ∧ k.cnt ≤ 100 ∧ 0 ≤ m ∧ m ≤ 8 ∧ Tp h a ∧ ∀ vs t, allL k vs = true → (vs.length : Int) ≤ m → TOk t → Q (.tup vs) (put h a t)
theorem all_take {k : Kd} {xs : List D} (n : Nat) (h : allL k xs = true) : allL k (xs.take n) = true := List.all_eq_true.mpr fun x m => List.all_eq_true.mp h x (List.mem_of_mem_take m)
theorem all_drop {k : Kd} {xs : List D} (n : Nat) (h : allL k xs = true) : allL k (xs.drop n) = true := List.all_eq_true.mpr fun x m => List.all_eq_true.mp h x (List.mem_of_mem_drop m)
theorem cut_front {xs : List D} {r : Int} (h0 : 0 ≤ r) : cutD xs none (some r) = xs.take r.toNat := by
  by_cases h : r ≤ (xs.length : Int)
  · exact cut_take h0 h
  · unfold DL.cutD
    have e : HT.sIx xs.length xs.length (some r) = xs.length := by
      unfold HT.sIx
      simp only [show ¬ r < 0 by omega, if_false]
      omega
    rw [e, HT.sIx_none, List.drop_zero, List.take_of_length_le (by omega), List.take_of_length_le (by omega)]
theorem cut_rest {xs : List D} {r : Int} (h0 : 0 ≤ r) : cutD xs (some r) none = xs.drop r.toNat := by
  by_cases h : r ≤ (xs.length : Int)
  · exact cut_drop h0 h
  · unfold DL.cutD
    have e : HT.sIx xs.length 0 (some r) = xs.length := by
      unfold HT.sIx
      simp only [show ¬ r < 0 by omega, if_false]
      omega
    rw [e, HT.sIx_none, List.drop_of_length_le (Nat.le_refl _), List.drop_of_length_le (by omega)]
    simp
def spChanged : Sp' := fun ds h Q _ => ∃ (a : Addr) (k : Kd) (vs : List D), ds = [.ref a, kD k, .tup vs] ∧ k.ok ∧ k.depth ≤ 3 ∧ k.cnt ≤ 100 ∧ vs.length ≤ 8 ∧ allL k vs = true ∧ Tp h a ∧ ∀ ws t, allL k ws = true → ws.length ≤ 8 → TOk t → Q (.tup ws) (put h a t)
theorem rd__law_changed (ds : List D) (h : DH) (Q : VK') (E' : XK') (q : spChanged ds h Q E') : t__law_changed spDraw spWord (spLetter 3) (spNear 3) (ends Q) (slots n__law_changed ds) h := by
  obtain ⟨a, k, vs, rfl, hk, hd, hc, hl, hv, tp, q⟩ := q
  show t__law_changed _ _ _ _ (ends Q) [some (.ref a), some (kD k), some (.tup vs), none, none] h
  unfold t__law_changed
  walk_at "dl7"
  refine drw tp (fun c t c0 c1 ot => ?_)
  walk_at "dl7"
  refine sif_i (fun b1 => ?_) (fun b1 => ?_)
  · walk_at "dl7"
    exact ⟨a, k, 8, rfl, hk, hd, hc, by decide, by decide, tp_put ot, fun ws t hw lw ot => by rw [put_put]; exact fin (q ws t hw (by omega) ot)⟩
  · walk_at "dl7"
    refine sif_i (fun b2 => ?_) (fun b2 => ?_)
    · walk_at "dl7"
      exact ⟨a, k, 8, rfl, hk, hd, hc, by decide, by decide, tp_put ot, fun ws t hw lw ot => by rw [put_put]; exact fin (q ws t hw (by omega) ot)⟩
    · have l1 : 1 ≤ vs.length := by have := of_decide_eq_false b2; omega
      walk_at "dl7"
      refine drw (tp_put ot) (fun r t r0 r1 ot => ?_) (by omega)
      have rl : r.toNat < vs.length := by omega
      have eg := List.getElem?_eq_getElem rl
      have ai : atI vs r = some vs[r.toNat] := by
        have z : atI vs ((r.toNat : Nat) : Int) = some vs[r.toNat] := atI_nat eg
        rwa [show ((r.toNat : Nat) : Int) = r by omega] at z
      have ltk : (vs.take r.toNat).length = r.toNat := by rw [List.length_take]; omega
      have ldr : (vs.drop r.toNat).length = vs.length - r.toNat := List.length_drop
      ((walk_at "dl7"); repeat (simp only [cut_front r0]; (walk_at "dl7")))
      refine sif_i (fun b3 => ?_) (fun b3 => ?_)
      · ((walk_at "dl7"); repeat (simp only [cut_front r0]; (walk_at "dl7")))
        exact fin (q _ t (all_take _ hv) (by omega) ot)
      · walk_at "dl7"
        refine sif_i (fun b4 => ?_) (fun b4 => ?_)
        · walk_at "dl7"
          refine sif_i (fun b5 => ?_) (fun b5 => ?_)
          · have b5 := of_decide_eq_true b5
            ((walk_at "dl7"); repeat (simp only [cut_front r0, cut_rest r0]; (walk_at "dl7")))
            refine ⟨a, k, 20, .int 12, rfl, hk, hd, hc, by decide, by decide, tp_put ot, fun u t lu ot => ?_⟩
            ((walk_at "dl7"); repeat (simp only [cut_front r0, cut_rest r0]; (walk_at "dl7")))
            exact ⟨small (by omega), small (by rw [List.length_append]; simp only [List.length_cons, List.length_nil]; omega), fin (q _ t (by rw [all_app, all_app, all_take _ hv, all_drop _ hv]; simp [allL, lu.1]) (by rw [List.length_append, List.length_append]; simp only [List.length_cons, List.length_nil]; omega) ot)⟩
          · walk_at "dl7"
            refine sif_i (fun b6 => ?_) (fun b6 => ?_)
            · ((walk_at "dl7"); repeat (simp only [cut_front r0, cut_rest r0]; (walk_at "dl7")))
              exact ⟨small (by omega), fin (q _ t (by rw [all_app, all_take _ hv, all_drop _ hv]; rfl) (by rw [List.length_append]; omega) ot)⟩
            · ((walk_at "dl7"); repeat (simp only [cut_front r0, cut_rest r0]; (walk_at "dl7")))
              rw [q_ixt]
              refine ⟨_, ai, ?_⟩
              walk_at "dl7"
              refine ⟨a, k, _, rfl, hk, hd, hd, hc, List.all_eq_true.mp hv _ (List.getElem_mem rl), tp_put ot, fun u t lu ot => ?_⟩
              ((walk_at "dl7"); repeat (simp only [cut_front r0, cut_rest (show 0 ≤ r + 1 by omega)]; (walk_at "dl7")))
              have ld2 : (vs.drop (r + 1).toNat).length = vs.length - (r + 1).toNat := List.length_drop
              exact ⟨small (by omega), small (by rw [List.length_append]; simp only [List.length_cons, List.length_nil]; omega), fin (q _ t (by rw [all_app, all_app, all_take _ hv, all_drop _ hv]; simp [allL, lu]) (by rw [List.length_append, List.length_append]; simp only [List.length_cons, List.length_nil]; omega) ot)⟩
        · walk_at "dl7"
          refine sif_i (fun b6 => ?_) (fun b6 => ?_)
          · ((walk_at "dl7"); repeat (simp only [cut_front r0, cut_rest r0]; (walk_at "dl7")))
            exact ⟨small (by omega), fin (q _ t (by rw [all_app, all_take _ hv, all_drop _ hv]; rfl) (by rw [List.length_append]; omega) ot)⟩
          · ((walk_at "dl7"); repeat (simp only [cut_front r0, cut_rest r0]; (walk_at "dl7")))
            rw [q_ixt]
            refine ⟨_, ai, ?_⟩
            walk_at "dl7"
            refine ⟨a, k, _, rfl, hk, hd, hd, hc, List.all_eq_true.mp hv _ (List.getElem_mem rl), tp_put ot, fun u t lu ot => ?_⟩
            ((walk_at "dl7"); repeat (simp only [cut_front r0, cut_rest (show 0 ≤ r + 1 by omega)]; (walk_at "dl7")))
            have ld2 : (vs.drop (r + 1).toNat).length = vs.length - (r + 1).toNat := List.length_drop
            exact ⟨small (by omega), small (by rw [List.length_append]; simp only [List.length_cons, List.length_nil]; omega), fin (q _ t (by rw [all_app, all_app, all_take _ hv, all_drop _ hv]; simp [allL, lu]) (by rw [List.length_append, List.length_append]; simp only [List.length_cons, List.length_nil]; omega) ot)⟩
end K02
-- set2
set_option Elab.async false
set_option linter.all false
set_option maxRecDepth 100000
set_option maxHeartbeats 1000000
local macro_rules | `(tactic| walk_at "dl7") => `(tactic| (try simp only [↓DL.q_nx, ↓DL.q_seq, ↓DL.q_br, ↓DL.q_ct, ↓DL.q_drop, ↓DL.q_ret, ↓DL.q_retn, ↓DL.q_ifs, ↓DL.q_asg, ↓DL.q_gn, ↓DL.q_gsub, ↓DL.q_gtup, ↓DL.q_gco, ↓DL.q_gni, ↓DL.q_for, ↓DL.q_yes, ↓DL.q_c, ↓DL.q_to, ↓DL.q_tu, ↓DL.q_tb, ↓DL.q_isB, ↓DL.q_isI, ↓DL.q_ch, ↓DL.q_and, ↓DL.q_or, ↓DL.q_orp, ↓DL.q_not, ↓DL.q_andv, ↓DL.q_orv, ↓DL.q_notv, ↓DL.q_if, ↓DL.q_an, ↓DL.q_ac, ↓DL.q_tup, ↓DL.q_lis, ↓DL.q_own, ↓DL.q_call, ↓DL.q_cb, ↓DL.q_bm, ↓DL.q_sl, ↓DL.q_slt, ↓DL.q_sll, ↓DL.q_pn, ↓DL.q_pe, ↓DL.q_addi, ↓DL.q_adds, ↓DL.q_addt, ↓DL.q_addl, ↓DL.q_I2, ↓DL.q_neg, ↓DL.q_eqi, ↓DL.q_eqs, ↓DL.q_eqb, ↓DL.q_neb, ↓DL.q_nei, ↓DL.q_nes, ↓DL.q_eq_non_int, ↓DL.q_ne_non_int, ↓DL.q_eq_non_bl, ↓DL.q_ne_non_bl, ↓DL.q_eq_non_str, ↓DL.q_ne_non_str, ↓DL.q_eq_int_non, ↓DL.q_ne_int_non, ↓DL.q_eq_bl_non, ↓DL.q_ne_bl_non, ↓DL.q_eq_str_non, ↓DL.q_ne_str_non, ↓DL.q_eq_int_str, ↓DL.q_ne_int_str, ↓DL.q_eq_str_int, ↓DL.q_ne_str_int, ↓DL.q_eq_bl_str, ↓DL.q_ne_bl_str, ↓DL.q_eq_str_bl, ↓DL.q_ne_str_bl, ↓DL.q_eq_non_non, ↓DL.q_ne_non_non, ↓DL.q_isnon_bl, ↓DL.q_isnon_int, ↓DL.q_isnon_str, ↓DL.q_isnon_tup, ↓DL.q_isnon_lis, ↓DL.q_isnon_non, ↓DL.q_int, ↓DL.q_inl, ↓DL.q_isn, ↓DL.q_ixc, ↓DL.q_lent, ↓DL.q_lenl, ↓DL.q_lenc, ↓DL.q_lens, ↓DL.q_is, ↓DL.q_toi, ↓DL.q_tob, ↓DL.q_abs, ↓DL.q_max, ↓DL.q_min, ↓DL.q_list, ↓DL.q_listo, ↓DL.q_tuple, ↓DL.q_sum, ↓DL.q_kt, ↓DL.q_kl, ↓DL.q_kc, ↓DL.q_tv0, ↓DL.q_st0, ↓DL.q_tv1, ↓DL.q_st1, ↓DL.q_tv2, ↓DL.q_st2, ↓DL.q_tv3, ↓DL.q_st3, ↓DL.q_tv4, ↓DL.q_st4, ↓DL.q_tv5, ↓DL.q_st5, ↓DL.q_tv6, ↓DL.q_st6, ↓DL.q_tv7, ↓DL.q_st7, ↓DL.q_tv8, ↓DL.q_st8, ↓DL.q_tv9, ↓DL.q_st9, ↓DL.q_tv10, ↓DL.q_st10, ↓DL.q_tv11, ↓DL.q_st11, ↓DL.q_tv12, ↓DL.q_st12, ↓DL.q_tv13, ↓DL.q_st13, ↓DL.q_tv14, ↓DL.q_st14, ↓DL.q_tv15, ↓DL.q_st15, ↓DL.q_ixt0, ↓DL.q_ixl0, ↓DL.q_ixt1, ↓DL.q_ixl1, ↓DL.q_ixt2, ↓DL.q_ixl2, ↓DL.q_ixt3, ↓DL.q_ixl3, ↓DL.q_ixt4, ↓DL.q_ixl4, ↓DL.q_oixr, ↓DL.q_oinr, ↓DL.q_olen, ↓DL.q_okr, ↓DL.q_oapp, ↓DL.q_olsr, ↓DL.q_osetD, ↓DL.q_ln0, ↓DL.q_sz0, ↓DL.q_ln1, ↓DL.q_sz1, ↓DL.q_ln2, ↓DL.q_sz2, ↓DL.q_ln3, ↓DL.q_sz3, ↓DL.q_ln4, ↓DL.q_sz4, ↓DL.q_ln5, ↓DL.q_sz5, ↓DL.q_ln6, ↓DL.q_sz6, ↓DL.q_ln7, ↓DL.q_sz7, ↓DL.q_ln8, ↓DL.q_sz8, ↓DL.q_wseq, ↓DL.q_wt, ↓DL.q_wl, ↓DL.q_wc, ↓DL.q_wr, ↓DL.q_wr1, ↓DL.q_wr1', ↓DL.q_setL0, ↓DL.q_setL1, ↓DL.q_setL2, ↓DL.q_setL3, ↓DL.q_setL4, ↓DL.q_pl_non, ↓DL.q_in_non_int, ↓DL.q_in_non_bool, ↓DL.q_in_non_str, ↓DL.q_in_non_tuple, ↓DL.q_in_non_list, ↓DL.q_pl_bl, ↓DL.q_in_bl_int, ↓DL.q_in_bl_bool, ↓DL.q_in_bl_str, ↓DL.q_in_bl_tuple, ↓DL.q_in_bl_list, ↓DL.q_pl_int, ↓DL.q_in_int_int, ↓DL.q_in_int_bool, ↓DL.q_in_int_str, ↓DL.q_in_int_tuple, ↓DL.q_in_int_list, ↓DL.q_pl_str, ↓DL.q_in_str_int, ↓DL.q_in_str_bool, ↓DL.q_in_str_str, ↓DL.q_in_str_tuple, ↓DL.q_in_str_list, ↓DL.q_pl_tup, ↓DL.q_in_tup_int, ↓DL.q_in_tup_bool, ↓DL.q_in_tup_str, ↓DL.q_in_tup_tuple, ↓DL.q_in_tup_list, ↓DL.q_pl_lis, ↓DL.q_in_lis_int, ↓DL.q_in_lis_bool, ↓DL.q_in_lis_str, ↓DL.q_in_lis_tuple, ↓DL.q_in_lis_list, ↓DL.q_ty_int, ↓DL.q_ty_bool, ↓DL.q_ty_str, ↓DL.q_ty_tuple, ↓DL.q_ty_list, DL.sif_t, DL.sif_f, DL.ofStr_inj, String.reduceEq, decide_true, decide_false, Bool.not_true, Bool.not_false, true_and, and_true, List.length_cons, List.length_nil, Int.reduceAdd, Int.reduceMul, Int.reduceNeg, Int.reduceSub, Nat.reduceAdd, if_true, if_false, Bool.false_eq_true, Int.reduceEq, Int.reduceLT, Int.reduceLE, eq_self, not_false_eq_true, DL.mulOk, or_true, true_or, and_self, Int.reduceToNat, Nat.reduceLT, Int.reducePow, DL.put_same, DL.put_put, ↓DL.q_tru, ↓DL.q_truB, ↓DL.q_truI, ↓DL.q_truT, ↓DL.q_truL, ↓DL.q_any, ↓DL.q_all, ↓DL.q_dnew, ↓DL.q_dget, ↓DL.q_dix, ↓DL.q_dput, ↓DL.q_ext1, ↓DL.q_rg2, ↓DL.q_rg2K, ↓DL.q_tv16, ↓DL.q_st16, ↓DL.q_tv17, ↓DL.q_st17, ↓DL.q_tv18, ↓DL.q_st18, ↓DL.q_tv19, ↓DL.q_st19, ↓DL.q_tv20, ↓DL.q_st20, ↓DL.q_tv21, ↓DL.q_st21, ↓DL.q_tv22, ↓DL.q_st22, ↓DL.q_tv23, ↓DL.q_st23, ↓DL.q_tv24, ↓DL.q_st24, ↓DL.q_tv25, ↓DL.q_st25, ↓DL.q_tv26, ↓DL.q_st26, ↓DL.q_tv27, ↓DL.q_st27, ↓DL.q_tv28, ↓DL.q_st28, ↓DL.q_tv29, ↓DL.q_st29, ↓DL.q_tv30, ↓DL.q_st30, ↓DL.q_tv31, ↓DL.q_st31, ↓DL.q_tv32, ↓DL.q_st32, ↓DL.q_tv33, ↓DL.q_st33, ↓DL.q_tv34, ↓DL.q_st34, ↓DL.q_tv35, ↓DL.q_st35, ↓DL.q_en, ↓DL.q_enK, ↓DL.q_listD, ↓DL.q_keys, ↓DL.q_caRg1, ↓DL.q_rgv, ↓DL.q_minL, ↓DL.q_inP]))
namespace K22
open PySem PySem.Spec PyProof.Rows L2 DL K00 K01 K04
def spPart : Sp' := fun ds h Q _ => ∃ a m, ds = [.ref a, .int m] ∧ 0 ≤ m ∧ m ≤ 40 ∧ Tp h a ∧ ∀ S t, stsOk m S → TOk t → Q (tI S) (put h a t)
theorem rd__law_part (ds : List D) (h : DH) (Q : VK') (E' : XK') (q : spPart ds h Q E') : t__law_part spDraw (ends Q) (slots n__law_part ds) h := by
  obtain ⟨a, m, rfl, m0, m9, tp, q⟩ := q
  show t__law_part _ (ends Q) [some (.ref a), some (.int m), none] h
  unfold t__law_part
  obtain ⟨t0, et, ot⟩ := tp
  have hh : h = put h a t0 := (put_get et).symm
  walk_at "dl7"
  rw [q_lc]
  walk_at "dl7"
  refine ⟨by omega, by omega, ?_⟩
  intro p np
  have pa : p ≠ a := fun e => by rw [e, et] at np; cases np
  refine lc_ind (fun xs acc g => ∃ (i : Int) (S : List Int) (t : DO), xs = rngD i (m - i).toNat ∧ acc = S.map D.int ∧ stsOk i S ∧ 0 ≤ i ∧ i ≤ m ∧ g = put (put h a t) p .hid ∧ TOk t) ?_ ?_ _ _ _ ⟨0, [], t0, by simp, rfl, ⟨List.Pairwise.nil, fun _ m => by cases m⟩, by omega, m0, by rw [← hh], ot⟩
  · rintro acc g ⟨i, S, t, e, rfl, os, i0, im, rfl, ot⟩
    rw [q_lnil]
    walk_at "dl7"
    rw [del_put (by rw [put_ne pa]; exact np)]
    exact fin (q S t (sts_up os im) ot)
  · rintro x xs ih acc g ⟨i, S, t, e, rfl, os, i0, im, rfl, ot⟩
    have sl := sts_len0 os
    have im2 : i < m := by
      apply Classical.byContradiction
      intro z
      rw [show (m - i).toNat = 0 by omega, rngD_zero] at e
      cases e
    rw [show (m - i).toNat = (m - (i + 1)).toNat + 1 by omega, rngD_succ] at e
    cases e
    rw [q_lcons]
    walk_at "dl7"
    refine drwU pa ot (fun r t r0 r1 ot => ?_)
    walk_at "dl7"
    refine sif_i (fun c => ?_) (fun c => ?_)
    · walk_at "dl7"
      refine ⟨Nat.lt_of_le_of_lt (show _ ≤ 1000 by rw [List.length_map]; omega) (by decide), ih _ _ ⟨i + 1, S ++ [i], t, rfl, by simp, sts_snoc os i0, by omega, by omega, rfl, ot⟩⟩
    · exact ih _ _ ⟨i + 1, S, t, rfl, rfl, sts_up os (by omega), by omega, by omega, rfl, ot⟩
def Drm (k : Kd) (room : Nat) (M : Mc) : Prop := M.ok ∧ M.k = k ∧ (∀ s ∈ M.sp, Dr k s.2.1 ∧ s.2.1.cnt ≤ room)
def spMachine : Sp' := fun ds h Q _ => ∃ (a : Addr) (k : Kd) (top md sts steps room : Int), ds = [.ref a, kD k, thy top md, .int sts, .int steps, .int room] ∧ k.ok ∧ k.depth ≤ 3 ∧ k.cnt ≤ 100 ∧ 0 ≤ top ∧ top ≤ 20 ∧ 1 ≤ sts ∧ sts ≤ 20 ∧ 0 ≤ steps ∧ steps ≤ 20 ∧ 1 ≤ room ∧ room ≤ 8 ∧ Tp h a ∧
  ∀ M t, Drm k room.toNat M → (M.sp.length : Int) ≤ steps → M.n ≤ sts → TOk t → Q (mD M) (put h a t)
theorem dr_cn {k : Kd} {c : Cn} (h : Dr k c) (hc : c.cnt ≤ 20) : cnOk k c := ⟨h.1, fits0_dom c k h.2, fits0_fits h.2, hc⟩
theorem rd__law_machine (ds : List D) (h : DH) (Q : VK') (E' : XK') (q : spMachine ds h Q E') : t__law_machine spDraw spPart (spCond 8) (spConds 50) (ends Q) (slots n__law_machine ds) h := by
  obtain ⟨a, k, top, md, sts, steps, room, rfl, hk, kd, kc, h0, h1, s1, s9, p0, p9, r1, r9, tp, q⟩ := q
  show t__law_machine _ _ _ _ (ends Q) [some (.ref a), some (kD k), some (.tup [.int top, .int md]), some (.int sts), some (.int steps), some (.int room), none, none, none, none, none, none, none, none] h
  unfold t__law_machine
  walk_at "dl7"
  refine drw tp (fun m t m0 m1 ot => ?_) (by omega)
  have n1 : 1 ≤ 1 + m := by omega
  have n9 : 1 + m ≤ sts := by omega
  walk_at "dl7"
  generalize 1 + m = n at n1 n9 ⊢
  refine drw (tp_put ot) (fun q0 t q00 q01 ot => ?_) (by omega)
  walk_at "dl7"
  refine ⟨fun τ g => ∃ S t, τ = [some (.ref a), some (kD k), some (.tup [.int top, .int md]), some (.int sts), some (.int steps), some (.int room), some (.int n), some (tI S), none, none, none, none, none, none] ∧ stsOk n S ∧ g = put h a t ∧ TOk t, ?_, ?_⟩
  · walk_at "dl7"
    refine drw (tp_put ot) (fun r t _ _ ot => ?_)
    walk_at "dl7"
    refine sif_i (fun _ => ?_) (fun _ => ?_)
    · walk_at "dl7"
      refine ⟨a, n, rfl, by omega, by omega, tp_put ot, fun S t os ot => ?_⟩
      walk_at "dl7"
      exact ⟨S, t, rfl, os, rfl, ot⟩
    · walk_at "dl7"
      exact ⟨[q0], t, rfl, sts_one q00 (by omega), rfl, ot⟩
  · rintro τ g ⟨S, t, rfl, oS, rfl, ot⟩
    walk_at "dl7"
    refine ⟨a, n, rfl, by omega, by omega, tp_put ot, fun E t oE ot => ?_⟩
    walk_at "dl7"
    refine ⟨fun τ g => ∃ E t, τ = [some (.ref a), some (kD k), some (.tup [.int top, .int md]), some (.int sts), some (.int steps), some (.int room), some (.int n), some (tI S), some (tI E), none, none, none, none, none] ∧ stsOk n E ∧ g = put h a t ∧ TOk t, ?_, ?_⟩
    · walk_at "dl7"
      refine drw (tp_put ot) (fun r t _ _ ot => ?_)
      walk_at "dl7"
      refine sif_i (fun _ => ?_) (fun _ => ?_)
      · walk_at "dl7"
        refine drw (tp_put ot) (fun q1 t q10 q11 ot => ?_) (by omega)
        walk_at "dl7"
        exact ⟨[q1], t, rfl, sts_one q10 (by omega), rfl, ot⟩
      · walk_at "dl7"
        exact ⟨E, t, rfl, oE, rfl, ot⟩
    · rintro τ g ⟨E, t, rfl, oE, rfl, ot⟩
      walk_at "dl7"
      intro p np
      have pa := ne_put np
      have nh := free_put np
      refine drwU pa ot (fun x t x0 x1 ot => ?_) (by omega)
      walk_at "dl7"
      refine drwU pa ot (fun y t y0 y1 ot => ?_) (by omega)
      walk_at "dl7"
      refine ⟨by omega, by omega, ?_⟩
      have em : (steps - min x y).toNat ≤ steps.toNat := by omega
      generalize hz : (steps - min x y).toNat = z at em
      refine for_ind (fun xs τ g => ∃ (i : Int) (rem : Nat) (sp : List (Int × Cn × Int)) (t : DO) (x10 x11 x12 x13 : Option D), xs = rngD i rem ∧ τ = [some (.ref a), some (kD k), some (.tup [.int top, .int md]), some (.int sts), some (.int steps), some (.int room), some (.int n), some (tI S), some (tI E), some (.ref p), x10, x11, x12, x13] ∧
        sp.length + rem ≤ steps.toNat ∧ (∀ s ∈ sp, (0 ≤ s.1 ∧ s.1 < n ∧ 0 ≤ s.2.2 ∧ s.2.2 < n) ∧ Dr k s.2.1 ∧ (s.2.1.cnt : Int) ≤ room) ∧ g = put (put h a t) p (.lst (sp.map stD)) ∧ TOk t) ?_ ?_ _ _ _ ⟨0, z, [], t, none, none, none, none, rfl, rfl, by simp; omega, by simp, rfl, ot⟩
      · rintro τ g ⟨i, rem, sp, t, x10, x11, x12, x13, e, rfl, hl, hs, rfl, ot⟩
        rw [q_fnil]
        ((walk_at "dl7"); repeat (simp only [ownK]; (walk_at "dl7")))
        refine ⟨put h a t, Sub.put Sub.refl (by rw [put_ne pa]; exact nh), q ⟨k, n, S, E, sp⟩ t ⟨⟨hk, kd, kc, n1, by show n ≤ 40; omega, oS, oE, by show sp.length ≤ 50; omega, fun s m => ?_⟩, rfl, fun s m => ?_⟩ (by show (sp.length : Int) ≤ steps; omega) n9 ot⟩
        · have := hs s m
          exact ⟨this.1.1, this.1.2.1, this.1.2.2.1, this.1.2.2.2, dr_cn this.2.1 (by have := this.2.2; omega)⟩
        · have := hs s m
          exact ⟨this.2.1, by have := this.2.2; omega⟩
      · rintro x xs ih τ g ⟨i, rem, sp, t, x10, x11, x12, x13, e, rfl, hl, hs, rfl, ot⟩
        cases rem with
        | zero => cases e
        | succ rem =>
          rw [rngD_succ] at e
          cases e
          rw [q_fcons]
          walk_at "dl7"
          refine drwU pa ot (fun r t r0 r1' ot => ?_) (by omega)
          walk_at "dl7"
          refine ⟨a, k, top, md, 1 + r, rfl, hk, kc, h0, h1, by omega, by omega, tp_under pa ot, fun c t dc cc ot => ?_⟩
          rw [put3 pa]
          walk_at "dl7"
          refine drwU pa ot (fun ch t ch0 ch1 ot => ?_)
          walk_at "dl7"
          refine ⟨fun τ g => ∃ c t, τ = [some (.ref a), some (kD k), some (.tup [.int top, .int md]), some (.int sts), some (.int steps), some (.int room), some (.int n), some (tI S), some (tI E), some (.ref p), some (.int i), some (cD c), some (.int ch), x13] ∧ Dr k c ∧ (c.cnt : Int) ≤ room ∧ g = put (put h a t) p (.lst (sp.map stD)) ∧ TOk t, ?_, ?_⟩
          · ((walk_at "dl7"); repeat (simp only [ownK]; (walk_at "dl7")))
            refine ⟨_, put_same, ?_⟩
            refine sif_i (fun b1 => ?_) (fun b1 => ?_)
            · walk_at "dl7"
              refine sif_i (fun b2 => ?_) (fun b2 => ?_)
              · ((walk_at "dl7"); repeat (simp only [ownK]; (walk_at "dl7")))
                have ne : sp ≠ [] := by
                  intro z
                  rw [z] at b1
                  cases b1
                have l1 := List.length_pos_iff.mpr ne
                refine drwU pa ot (fun j t j0 j1 ot => ?_) (by rw [List.length_map]; omega)
                rw [List.length_map] at j1
                ((walk_at "dl7"); repeat (simp only [ownK]; (walk_at "dl7")))
                obtain ⟨d, e, m⟩ := pick (xs := sp.map stD) j0 (by rw [List.length_map]; omega)
                obtain ⟨s, ms, rfl⟩ := List.mem_map.mp m
                refine ⟨_, e, ?_⟩
                simp only [stD]
                walk_at "dl7"
                have os := hs s ms
                have cc2 := s.2.1.depth_cnt
                refine ⟨fun τ g => ∃ c, τ = [some (.ref a), some (kD k), some (.tup [.int top, .int md]), some (.int sts), some (.int steps), some (.int room), some (.int n), some (tI S), some (tI E), some (.ref p), some (.int i), some (cD c), some (.int ch), x13] ∧ Dr k c ∧ (c.cnt : Int) ≤ room ∧ g = put (put h a t) p (.lst (sp.map stD)), ?_, ?_⟩
                · walk_at "dl7"
                  refine sif_i (fun b3 => ?_) (fun b3 => ?_)
                  · walk_at "dl7"
                    refine ⟨s.2.1, rfl, by omega, ?_⟩
                    walk_at "dl7"
                    refine sif_i (fun b4 => ?_) (fun b4 => ?_)
                    · have b4 := of_decide_eq_true b4
                      walk_at "dl7"
                      exact ⟨.ng s.2.1, rfl, ⟨os.2.1.1, by simpa [fits0, fitsC] using os.2.1.2⟩, by simp only [Cn.cnt]; omega⟩
                    · walk_at "dl7"
                      exact ⟨s.2.1, rfl, os.2.1, os.2.2⟩
                  · walk_at "dl7"
                    exact ⟨s.2.1, rfl, os.2.1, os.2.2⟩
                · rintro τ g ⟨c, rfl, dc, cc, rfl⟩
                  exact ⟨c, t, rfl, dc, cc, rfl, ot⟩
              · walk_at "dl7"
                exact ⟨c, t, rfl, dc, by omega, rfl, ot⟩
            · walk_at "dl7"
              exact ⟨c, t, rfl, dc, by omega, rfl, ot⟩
          · rintro τ g ⟨c, t, rfl, dc, cc, rfl, ot⟩
            walk_at "dl7"
            refine drwU pa ot (fun u t u0 u1 ot => ?_) (by omega)
            ((walk_at "dl7"); repeat (simp only [ownK]; (walk_at "dl7")))
            refine drwU pa ot (fun v t v0 v1 ot => ?_) (by omega)
            ((walk_at "dl7"); repeat (simp only [ownK]; (walk_at "dl7")))
            refine ⟨Nat.lt_of_le_of_lt (show _ ≤ 1000 by rw [List.length_map]; omega) (by decide), ?_⟩
            refine ih _ _ ⟨i + 1, rem, sp ++ [(u, c, v)], t, _, _, _, _, rfl, rfl, by rw [List.length_append]; simp only [List.length_cons, List.length_nil]; omega, fun s m => ?_, ?_, ot⟩
            · rcases List.mem_append.mp m with m | m
              · exact hs s m
              · rw [List.mem_singleton.mp m]
                exact ⟨⟨u0, by show u < n; omega, v0, by show v < n; omega⟩, dc, cc⟩
            · rw [List.map_append]; rfl
end K22
set_option Elab.async false
set_option linter.all false
set_option maxRecDepth 100000
set_option maxHeartbeats 1000000
namespace DL
open PySem PySem.Spec PyProof.Rows L2
mutual
/-- no truths, no lists in it -/
def nb : D → Bool
  | .non => true
  | .int _ => true
  | .str _ => true
  | .tup xs => nbs xs
  | _ => false
def nbs : List D → Bool
  | [] => true
  | x :: xs => nb x && nbs xs
end
theorem nbs_mem {xs : List D} : nbs xs = true ↔ ∀ x ∈ xs, nb x = true := by
  induction xs with
  | nil => simp [nbs]
  | cons x xs ih => simp [nbs, ih]
theorem deq_tl {x y : D} {xs ys : List D} : deq (.tup (x :: xs)) (.tup []) = false ∧ deq (.tup []) (.tup (y :: ys)) = false := by
  unfold deq
  simp only [toPy, toPys]
  constructor
  · cases toPy x <;> cases toPys xs <;> simp [PyData.eqv, PyData.eqvAll]
  · cases toPy y <;> cases toPys ys <;> simp [PyData.eqv, PyData.eqvAll]
theorem deq_tupx {xs : List D} : ∀ {e : D}, nb e = true → deq (.tup xs) e = true → ∃ ys, e = .tup ys
  | .non, _, h => by unfold deq at h; simp only [toPy] at h; cases e : toPys xs <;> rw [e] at h <;> simp [PyData.eqv] at h
  | .int _, _, h => by unfold deq at h; simp only [toPy] at h; cases e : toPys xs <;> rw [e] at h <;> simp [PyData.eqv] at h
  | .str _, _, h => by unfold deq at h; simp only [toPy] at h; cases e : toPys xs <;> rw [e] at h <;> simp [PyData.eqv] at h
  | .tup ys, _, _ => ⟨ys, rfl⟩
mutual
theorem deq_nb : ∀ (d e : D), nb d = true → nb e = true → deq d e = true → d = e
  | .non, e, _, he, h => by
    cases e with
    | tup ys => unfold deq at h; simp only [toPy] at h; cases e : toPys ys <;> rw [e] at h <;> simp [PyData.eqv] at h
    | non => rfl
    | int i => simp [deq, toPy, PyData.eqv] at h
    | str i => simp [deq, toPy, PyData.eqv] at h
    | _ => cases he
  | .int i, e, _, he, h => by
    cases e with
    | tup ys => unfold deq at h; simp only [toPy] at h; cases e : toPys ys <;> rw [e] at h <;> simp [PyData.eqv] at h
    | non => simp [deq, toPy, PyData.eqv] at h
    | int j => rw [deq_int] at h; rw [of_decide_eq_true h]
    | str i => simp [deq, toPy, PyData.eqv] at h
    | _ => cases he
  | .str x, e, _, he, h => by
    cases e with
    | tup ys => unfold deq at h; simp only [toPy] at h; cases e : toPys ys <;> rw [e] at h <;> simp [PyData.eqv] at h
    | non => simp [deq, toPy, PyData.eqv] at h
    | int j => simp [deq, toPy, PyData.eqv] at h
    | str y => simp [deq, toPy, PyData.eqv] at h; rw [h]
    | _ => cases he
  | .tup xs, e, hd, he, h => by
    obtain ⟨ys, rfl⟩ := deq_tupx he h
    rw [deqs_nb xs ys (by simpa [nb] using hd) (by simpa [nb] using he) h]
theorem deqs_nb : ∀ (xs ys : List D), nbs xs = true → nbs ys = true → deq (.tup xs) (.tup ys) = true → xs = ys
  | [], [], _, _, _ => rfl
  | [], y :: ys, _, _, h => by rw [(deq_tl (x := .non) (xs := [])).2] at h; cases h
  | x :: xs, [], _, _, h => by rw [(deq_tl (y := .non) (ys := [])).1] at h; cases h
  | x :: xs, y :: ys, hx, hy, h => by
    simp only [nbs, Bool.and_eq_true] at hx hy
    rw [deq_cons, Bool.and_eq_true] at h
    rw [deq_nb x y hx.1 hy.1 h.1, deqs_nb xs ys hx.2 hy.2 h.2]
end
mutual
theorem deq_refl : ∀ d : D, nb d = true → deq d d = true
  | .non, _ => rfl
  | .int i, _ => by rw [deq_int]; simp
  | .str x, _ => by simp [deq, toPy, PyData.eqv]
  | .tup xs, h => deqs_refl xs (by simpa [nb] using h)
theorem deqs_refl : ∀ xs : List D, nbs xs = true → deq (.tup xs) (.tup xs) = true
  | [], _ => deq_nil
  | x :: xs, h => by
    simp only [nbs, Bool.and_eq_true] at h
    rw [deq_cons, deq_refl x h.1, deqs_refl xs h.2]; rfl
end
theorem deq_iff {d e : D} (hd : nb d = true) (he : nb e = true) : deq d e = true ↔ d = e := ⟨deq_nb d e hd he, fun h => by rw [h]; exact deq_refl e he⟩
mutual
theorem nb_kD : ∀ k : Kd, nb (kD k) = true
  | .nm ns => by simp only [kD, nb, nbs, Bool.and_true, Bool.true_and]; exact nbs_mem.mpr fun x m => by obtain ⟨n, _, rfl⟩ := List.mem_map.mp m; rfl
  | .it => rfl
  | .pr a b => by simp only [kD, nb, nbs, nb_kD a, nb_kD b, Bool.and_true]
  | .ei ks => by simp only [kD, nb, nbs, nb_kDs ks, Bool.and_true]
  | .mb k => by simp only [kD, nb, nbs, nb_kD k, Bool.and_true]
theorem nb_kDs : ∀ ks : List Kd, nbs (kDs ks) = true
  | [] => rfl
  | k :: ks => by simp only [kDs, nbs, nb_kD k, nb_kDs ks, Bool.and_true]
end
mutual
theorem kD_inj : ∀ a b : Kd, kD a = kD b → a = b
  | .nm ns, b, h => by
    cases b <;> simp only [kD, D.tup.injEq, List.cons.injEq, D.str.injEq, ofStr_inj, String.reduceEq, false_and, and_true, true_and, List.map_inj_left, reduceCtorEq, List.cons_ne_nil, and_false] at h
    rename_i ms
    have : ns = ms := (List.map_inj_right (f := D.str) (fun x y e => by cases e; rfl)).mp h
    rw [this]
  | .it, b, h => by
    cases b <;> simp only [kD, D.tup.injEq, List.cons.injEq, D.str.injEq, ofStr_inj, String.reduceEq, false_and, and_true, true_and, reduceCtorEq, List.nil_eq, List.cons_ne_nil, and_false] at h
    rfl
  | .pr a a2, b, h => by
    cases b <;> simp only [kD, D.tup.injEq, List.cons.injEq, D.str.injEq, ofStr_inj, String.reduceEq, false_and, and_true, true_and, reduceCtorEq, List.nil_eq, List.cons_ne_nil, and_false] at h
    rw [kD_inj a _ h.1, kD_inj a2 _ h.2]
  | .ei ks, b, h => by
    cases b <;> simp only [kD, D.tup.injEq, List.cons.injEq, D.str.injEq, ofStr_inj, String.reduceEq, false_and, and_true, true_and, reduceCtorEq, List.nil_eq, List.cons_ne_nil, and_false] at h
    rw [kDs_inj ks _ h]
  | .mb k, b, h => by
    cases b <;> simp only [kD, D.tup.injEq, List.cons.injEq, D.str.injEq, ofStr_inj, String.reduceEq, false_and, and_true, true_and, reduceCtorEq, List.nil_eq, List.cons_ne_nil, and_false] at h
    rw [kD_inj k _ h]
theorem kDs_inj : ∀ a b : List Kd, kDs a = kDs b → a = b
  | [], [], _ => rfl
  | [], y :: ys, h => by cases h
  | x :: xs, [], h => by cases h
  | x :: xs, y :: ys, h => by
    simp only [kDs, List.cons.injEq] at h
    rw [kD_inj x y h.1, kDs_inj xs ys h.2]
end
theorem deq_kD {a b : Kd} : deq (kD a) (kD b) = true ↔ a = b := ⟨fun h => kD_inj a b (deq_nb _ _ (nb_kD a) (nb_kD b) h), fun h => by rw [h]; exact deq_refl _ (nb_kD b)⟩
end DL
-- set2
set_option Elab.async false
set_option linter.all false
set_option maxRecDepth 100000
set_option maxHeartbeats 1000000
namespace K41
open PySem PySem.Spec PyProof.Rows L2 DL K00 K01 K03 K04 K22
abbrev Spp := Int × Cn × Int
def shf (m : Int) (S : List Int) : List Int := S.map (· + m)
def shfS (m : Int) (sp : List Spp) : List Spp := sp.map fun s => (s.1 + m, s.2.1, s.2.2 + m)
def intoE (M : Mc) (G : List Int) : List Spp := (M.sp.filter fun s => M.en.contains s.2.2).flatMap fun s => G.map fun g => (s.1, s.2.1, g)
def flw (F G : Mc) : Mc := ⟨F.k, F.n + G.n, if anyEnd F F.st = true then F.st ++ shf F.n G.st else F.st, if anyEnd G G.st = true then F.en ++ shf F.n G.en else shf F.n G.en, F.sp ++ intoE F (shf F.n G.st) ++ shfS F.n G.sp⟩
def rpt (M : Mc) : Mc := ⟨M.k, M.n + 1, M.st ++ [M.n], M.en ++ [M.n], M.sp ++ intoE M M.st⟩
def bkw (M : Mc) : Mc := ⟨M.k, M.n, M.en, M.st, M.sp.map fun s => (s.2.2, s.2.1, s.1)⟩
theorem sc_kD (a b : Kd) : sc (kD a) (kD b) = none := by cases a <;> cases b <;> rfl
theorem neK {a : Kd} {h : DH} {Q : VK'} (oa : a.ok) (da : a.depth ≤ 3) : opNe (kD a) (kD a) h Q = Q (.bl false) h := by
  unfold opNe
  rw [sc_kD]
  have e : deq (kD a) (kD a) = true := deq_kD.mpr rfl
  exact propext ⟨fun q => by have q := q.2.2; rw [e] at q; exact q, fun q => ⟨val_ok (kd_val 3 a da oa), val_ok (kd_val 3 a da oa), by rw [e]; exact q⟩⟩
theorem sum_const {α : Type} (l : List α) (n : Nat) : (l.map fun _ => n).sum = l.length * n := by
  induction l with
  | nil => simp
  | cons a l ih => rw [List.map_cons, List.sum_cons, ih, List.length_cons, Nat.succ_mul, Nat.add_comm]
def spChkK : Sp' := fun ds h Q _ => ∃ F G, ds = [mD F, mD G] ∧ F.ok ∧ G.ok ∧ F.k = G.k ∧ Q .non h
theorem rd_check_kinds (c : Addr) (ds : List D) (h : DH) (Q : VK') (E' : XK') (q : spChkK ds h Q E') : t_check_kinds c E' (ends Q) (slots n_check_kinds ds) h := by
  obtain ⟨F, G, rfl, of, og, e, q⟩ := q
  show t_check_kinds _ _ (ends Q) [some (mD F), some (mD G)] h
  unfold t_check_kinds mD
  walk_at "dl7"
  rw [← e, neK of.kk of.kd]
  walk_at "dl7"
  exact fin q
def spShf : Sp' := fun ds h Q _ => ∃ S m, ds = [tI S, .int m] ∧ S.length ≤ 1000 ∧ Q (tI (shf m S)) h
theorem rd_shifted (ds : List D) (h : DH) (Q : VK') (E' : XK') (q : spShf ds h Q E') : t_shifted (ends Q) (slots n_shifted ds) h := by
  obtain ⟨S, m, rfl, hl, q⟩ := q
  show t_shifted (ends Q) [some (tI S), some (.int m), none] h
  unfold t_shifted
  unfold tI at *
  walk_at "dl7"
  rw [q_lc]
  walk_at "dl7"
  intro p np
  refine lc_all D.int (fun x => D.int (x + m)) trivial S [] (sz1000 (by simpa using hl)) (fun x _ R r => ?_) ?_
  · walk_at "dl7"
    exact r
  · rw [List.nil_append]
    walk_at "dl7"
    rw [del_put np]
    refine fin ?_
    unfold shf at q
    rw [List.map_map] at q
    exact q
theorem lcT3 {i j k : Nat} {te : TE'} {C : DH → Prop} {τ : St'} {Q : List D → DH → Prop} {h : DH} (f : Spp → D) (hc : C h) : ∀ (l : List Spp) (acc : List D), acc.length + l.length ≤ sizeLine → (∀ s ∈ l, ∀ R : VK', R (f s) h → te (setA τ [i, j, k] [.int s.1, cD s.2.1, .int s.2.2]) h R) →
    Q (acc ++ l.map f) h → lcT [i, j, k] tyes te C τ Q (l.map stD) acc h
  | [], acc, _, _, q => ⟨hc, by simpa using q⟩
  | s :: l, acc, hl, he, q => by
    simp only [List.length_cons] at hl
    refine ⟨hc, _, rfl, rfl, ?_⟩
    show (if true = true then te (setA τ [i, j, k] [.int s.1, cD s.2.1, .int s.2.2]) h (fun y h2 => acc.length < sizeLine ∧ lcT [i, j, k] tyes te C τ Q (l.map stD) (acc ++ [y]) h2) else lcT [i, j, k] tyes te C τ Q (l.map stD) acc h)
    rw [if_pos rfl]
    refine he s List.mem_cons_self _ ⟨by omega, lcT3 f hc l _ (by simp only [List.length_append, List.length_cons, List.length_nil]; omega) (fun s m => he s (List.mem_cons_of_mem _ m)) ?_⟩
    rw [List.append_assoc]
    exact q
def spShfS : Sp' := fun ds h Q _ => ∃ sp m, ds = [.tup (sp.map stD), .int m] ∧ sp.length ≤ 1000 ∧ Q (.tup ((shfS m sp).map stD)) h
theorem rd_shifted_steps (ds : List D) (h : DH) (Q : VK') (E' : XK') (q : spShfS ds h Q E') : t_shifted_steps (ends Q) (slots n_shifted_steps ds) h := by
  obtain ⟨sp, m, rfl, hl, q⟩ := q
  show t_shifted_steps (ends Q) [some (.tup (sp.map stD)), some (.int m), none, none, none] h
  unfold t_shifted_steps
  walk_at "dl7"
  rw [q_lcTr]
  walk_at "dl7"
  intro p np
  refine lcT3 (fun s => stD (s.1 + m, s.2.1, s.2.2 + m)) trivial sp [] (sz1000 (by simpa using hl)) (fun s _ R r => ?_) ?_
  · ((walk_at "dl7"); repeat (simp only [setA]; (walk_at "dl7")))
    exact r
  · rw [List.nil_append]
    walk_at "dl7"
    rw [del_put np]
    refine fin ?_
    unfold shfS at q
    rw [List.map_map] at q
    exact q
def spIntoE : Sp' := fun ds h Q _ => ∃ M G, ds = [mD M, tI G] ∧ M.ok ∧ G.length ≤ 1000 ∧ Q (.tup ((intoE M G).map stD)) h
theorem rd_into_ends (ds : List D) (h : DH) (Q : VK') (E' : XK') (q : spIntoE ds h Q E') : t_into_ends (ends Q) (slots n_into_ends ds) h := by
  obtain ⟨M, G, rfl, o, hl, q⟩ := q
  have sl := o.sl
  show t_into_ends (ends Q) [some (mD M), some (tI G), none, none, none] h
  unfold t_into_ends mD tI
  walk_at "dl7"
  rw [q_lc]
  walk_at "dl7"
  intro p np
  refine lc_map stD (fun s : Spp => M.en.contains s.2.2) stD trivial M.sp [] (sz1000 (by simp; omega)) (fun s _ R r => ?_) (fun s _ _ R r => ?_) ?_
  · simp only [stD]
    ((walk_at "dl7"); repeat (simp only [flat_int, inD_intl]; (walk_at "dl7")))
    exact ⟨rfl, r⟩
  · simp only [stD]
    walk_at "dl7"
    exact r
  · rw [List.nil_append]
    walk_at "dl7"
    rw [del_put np, q_lc2]
    walk_at "dl7"
    intro p np
    refine lcO_map stD (fun _ => true) (fun _ => G) D.int (fun _ _ => true) (fun (s : Spp) g => stD (s.1, s.2.1, g)) (fun _ => trivial) (M.sp.filter fun s => M.en.contains s.2.2) [] ?_ (fun _ _ _ _ r => r) (fun s _ _ acc R r => ?_) (fun _ _ _ _ _ _ _ r => r) (fun s _ _ g _ _ acc R r => ?_) ?_
    · rw [sum_const, List.length_nil, Nat.zero_add]
      have h1 := List.length_filter_le (fun s : Spp => M.en.contains s.2.2) M.sp
      exact Nat.le_trans (Nat.mul_le_mul (Nat.le_trans h1 sl) hl) (by decide)
    · walk_at "dl7"
      exact r _ fun _ => trivial
    · simp only [stD]
      walk_at "dl7"
      exact r
    · rw [List.nil_append]
      walk_at "dl7"
      rw [del_put' np]
      refine fin ?_
      have e : (((M.sp.filter fun s : Spp => M.en.contains s.2.2).filter fun _ => true).flatMap fun s => ((G.filter fun _ => true).map fun g => stD (s.1, s.2.1, g))) = (intoE M G).map stD := by
        have e1 : ∀ {α : Type} (l : List α), (l.filter fun _ => true) = l := fun l => List.filter_eq_self.mpr fun _ _ => rfl
        unfold intoE
        rw [List.map_flatMap]
        simp only [e1, List.map_map]
        rfl
      rw [e]
      exact q
theorem shf_len {m : Int} {S : List Int} : (shf m S).length = S.length := List.length_map _
def sz40 {M : Mc} (o : M.ok) {S : List Int} (h : stsOk M.n S) : S.length ≤ 40 := Nat.le_trans (sts_len0 h) (by have := o.n9; omega)
theorem tI_app {A B : List Int} : D.tup (A.map .int ++ B.map .int) = tI (A ++ B) := by unfold tI; rw [List.map_append]
def spFlw : Sp' := fun ds h Q _ => ∃ F G, ds = [mD F, mD G] ∧ F.ok ∧ G.ok ∧ F.k = G.k ∧ Q (mD (flw F G)) h
theorem rd_followed (ds : List D) (h : DH) (Q : VK') (E' : XK') (q : spFlw ds h Q E') : t_followed spChkK spShf spHasEnd spIntoE spShfS E' (ends Q) (slots n_followed ds) h := by
  obtain ⟨F, G, rfl, f, g, ek, q⟩ := q
  have f50 := f.sl
  have g50 := g.sl
  have gst := sz40 g g.st
  have gen := sz40 g g.en
  have fst := sz40 f f.st
  have fen := sz40 f f.en
  have hi : (intoE F (shf F.n G.st)).length ≤ 2000 := by
    unfold intoE
    rw [List.length_flatMap]
    have e : (fun s : Spp => ((shf F.n G.st).map fun g => (s.1, s.2.1, g)).length) = fun _ => (shf F.n G.st).length := by funext s; rw [List.length_map]
    rw [e, sum_const, shf_len]
    have h1 := List.length_filter_le (fun s : Spp => F.en.contains s.2.2) F.sp
    exact Nat.le_trans (Nat.mul_le_mul (Nat.le_trans h1 f50) gst) (by decide)
  have z : ∀ {n : Nat}, n ≤ 10000 → n ≤ sizeLine := fun h => Nat.le_trans h (by decide)
  show t_followed _ _ _ _ _ _ (ends Q) [some (mD F), some (mD G), none, none, none, none, none] h
  unfold t_followed
  have ef : mD F = .tup [kD F.k, .int F.n, tI F.st, tI F.en, .tup (F.sp.map stD)] := rfl
  have eg : mD G = .tup [kD G.k, .int G.n, tI G.st, tI G.en, .tup (G.sp.map stD)] := rfl
  walk_at "dl7"
  refine ⟨F, G, rfl, f, g, ek, ?_⟩
  rw [ef, eg]
  walk_at "dl7"
  refine ⟨G.st, F.n, rfl, by omega, ?_⟩
  walk_at "dl7"
  refine ⟨fun τ g' => τ = [some (mD F), some (mD G), some (.int F.n), some (tI (shf F.n G.st)), some (tI (flw F G).st), none, none] ∧ h = g', ?_, ?_⟩
  · walk_at "dl7"
    refine ⟨F, F.st, rfl, f, f.st, ?_⟩
    walk_at "dl7"
    refine sif_i (fun c => ?_) (fun c => ?_)
    · unfold tI
      walk_at "dl7"
      refine ⟨z (by rw [List.length_map, List.length_map, shf_len]; omega), ?_⟩
      rw [tI_app]
      show _ = [_, _, _, _, some (tI (if anyEnd F F.st = true then _ else _)), _, _]
      rw [if_pos c]
      rfl
    · walk_at "dl7"
      show _ = [_, _, _, _, some (tI (if anyEnd F F.st = true then _ else _)), _, _]
      rw [if_neg (by rw [c]; decide)]
      rfl
  · rintro τ g' ⟨rfl, rfl⟩
    rw [ef, eg]
    walk_at "dl7"
    refine ⟨G.en, F.n, rfl, by omega, ?_⟩
    walk_at "dl7"
    refine ⟨fun τ g' => τ = [some (mD F), some (mD G), some (.int F.n), some (tI (shf F.n G.st)), some (tI (flw F G).st), some (tI (flw F G).en), none] ∧ h = g', ?_, ?_⟩
    · walk_at "dl7"
      refine ⟨G, G.st, rfl, g, g.st, ?_⟩
      walk_at "dl7"
      refine sif_i (fun c => ?_) (fun c => ?_)
      · unfold tI
        walk_at "dl7"
        refine ⟨z (by rw [List.length_map, List.length_map, shf_len]; omega), ?_⟩
        rw [tI_app]
        show _ = [_, _, _, _, _, some (tI (if anyEnd G G.st = true then _ else _)), _]
        rw [if_pos c]
        rfl
      · walk_at "dl7"
        show _ = [_, _, _, _, _, some (tI (if anyEnd G G.st = true then _ else _)), _]
        rw [if_neg (by rw [c]; decide)]
        rfl
    · rintro τ g' ⟨rfl, rfl⟩
      rw [ef, eg]
      walk_at "dl7"
      refine ⟨F, shf F.n G.st, rfl, f, by rw [shf_len]; omega, ?_⟩
      walk_at "dl7"
      refine ⟨z (by rw [List.length_map, List.length_map]; omega), ?_⟩
      refine ⟨G.sp, F.n, rfl, by omega, ?_⟩
      walk_at "dl7"
      refine ⟨z (by rw [List.length_append, List.length_map, List.length_map, List.length_map]; unfold shfS; rw [List.length_map]; omega), ?_⟩
      refine fin ?_
      rw [← List.map_append, ← List.map_append]
      exact q
def spRpt : Sp' := fun ds h Q _ => ∃ M, ds = [mD M] ∧ M.ok ∧ Q (mD (rpt M)) h
def spBkw : Sp' := fun ds h Q _ => ∃ M, ds = [mD M] ∧ M.ok ∧ Q (mD (bkw M)) h
theorem rd_repeated (ds : List D) (h : DH) (Q : VK') (E' : XK') (q : spRpt ds h Q E') : t_repeated spIntoE (ends Q) (slots n_repeated ds) h := by
  obtain ⟨M, rfl, o, q⟩ := q
  have h50 := o.sl
  have hst := sz40 o o.st
  have hen := sz40 o o.en
  have hi : (intoE M M.st).length ≤ 2000 := by
    unfold intoE
    rw [List.length_flatMap]
    have e : (fun s : Spp => (M.st.map fun g => (s.1, s.2.1, g)).length) = fun _ => M.st.length := by funext s; rw [List.length_map]
    rw [e, sum_const]
    have h1 := List.length_filter_le (fun s : Spp => M.en.contains s.2.2) M.sp
    exact Nat.le_trans (Nat.mul_le_mul (Nat.le_trans h1 h50) hst) (by decide)
  have z : ∀ {n : Nat}, n ≤ 10000 → n ≤ sizeLine := fun h => Nat.le_trans h (by decide)
  have em : mD M = .tup [kD M.k, .int M.n, tI M.st, tI M.en, .tup (M.sp.map stD)] := rfl
  show t_repeated _ (ends Q) [some (mD M), none, none, none, none, none] h
  unfold t_repeated
  rw [em]
  unfold tI
  walk_at "dl7"
  refine ⟨z (by rw [List.length_map]; simp; omega), z (by rw [List.length_map]; simp; omega), ?_⟩
  refine ⟨M, M.st, rfl, o, by omega, ?_⟩
  walk_at "dl7"
  refine ⟨z (by rw [List.length_map, List.length_map]; omega), ?_⟩
  refine fin ?_
  unfold mD rpt tI at q
  rw [List.map_append, List.map_append, List.map_append] at q
  exact q
theorem rd_backwards (ds : List D) (h : DH) (Q : VK') (E' : XK') (q : spBkw ds h Q E') : t_backwards (ends Q) (slots n_backwards ds) h := by
  obtain ⟨M, rfl, o, q⟩ := q
  have h50 := o.sl
  have em : mD M = .tup [kD M.k, .int M.n, tI M.st, tI M.en, .tup (M.sp.map stD)] := rfl
  show t_backwards (ends Q) [some (mD M), none, none, none, none, none, none, none, none] h
  unfold t_backwards
  rw [em]
  walk_at "dl7"
  rw [q_lcTr]
  walk_at "dl7"
  intro p np
  refine lcT3 (fun s => stD (s.2.2, s.2.1, s.1)) trivial M.sp [] (sz1000 (by simp; omega)) (fun s _ R r => ?_) ?_
  · ((walk_at "dl7"); repeat (simp only [setA]; (walk_at "dl7")))
    exact r
  · rw [List.nil_append]
    walk_at "dl7"
    rw [del_put np]
    refine fin ?_
    unfold mD bkw at q
    rw [List.map_map] at q
    exact q
end K41
-- set2
set_option Elab.async false
set_option linter.all false
set_option maxRecDepth 100000
set_option maxHeartbeats 1000000
namespace K41
open PySem PySem.Spec PyProof.Rows L2 DL K00 K01 K03 K04 K22
inductive Deed | fl | rp | bk
deriving DecidableEq
def Deed.s : Deed → Str
  | .fl => "followed"
  | .rp => "repeated"
  | .bk => "backwards"
abbrev Pr := List Int × List Int
def addT (n : Int) (A B : List Int) : List Int := (rngI n).filter fun q => A.contains q || B.contains q
def opn (F G : Mc) : Deed → Pr
  | .fl => (F.st, if anyEnd F F.st = true then G.st else [])
  | .rp => (F.st, [0])
  | .bk => (F.en, [])
def mvd (F G : Mc) (p : Pr) (v : D) : Deed → Pr
  | .fl => (bhd F p.1 v, if anyEnd F (bhd F p.1 v) = true then addT G.n (bhd G p.2 v) G.st else bhd G p.2 v)
  | .rp => (if anyEnd F (bhd F p.1 v) = true then addT F.n (bhd F p.1 v) F.st else bhd F p.1 v, [])
  | .bk => (bhd (bkw F) p.1 v, [])
def jen (F G : Mc) (p : Pr) : Deed → Bool
  | .fl => anyEnd G p.2
  | .rp => anyEnd F p.1 || decide (p.2 = [0])
  | .bk => p.1.any fun q => F.st.contains q
def tld (F G : Mc) : Deed → Mc
  | .fl => flw F G
  | .rp => rpt F
  | .bk => bkw F
def emb (F G : Mc) (p : Pr) : Deed → List Int
  | .fl => p.1 ++ shf F.n p.2
  | .rp => if p.2 = [0] then p.1 ++ [F.n] else p.1
  | .bk => p.1
structure Vp (F G : Mc) (d : Deed) (p : Pr) : Prop where
  l : stsOk F.n p.1
  r : stsOk G.n p.2
  e : d = .fl → anyEnd F p.1 = true → ∀ q ∈ G.st, q ∈ p.2
structure Sm (M : Mc) : Prop where
  ok : M.ok
  n4 : M.n ≤ 4
  s6 : M.sp.length ≤ 6
theorem anyEnd_iff {M : Mc} {S : List Int} : anyEnd M S = true ↔ ∃ q ∈ S, q ∈ M.en := by
  unfold anyEnd
  rw [List.any_eq_true]
  constructor
  · rintro ⟨q, a, b⟩; exact ⟨q, a, by simpa using b⟩
  · rintro ⟨q, a, b⟩; exact ⟨q, a, by simpa using b⟩
theorem mem_bhd {M : Mc} {S : List Int} {v : D} {q : Int} : q ∈ bhd M S v ↔ (0 ≤ q ∧ q < M.n) ∧ ∃ s ∈ M.sp, s.1 ∈ S ∧ metC inS s.2.1 v = true ∧ s.2.2 = q := by
  unfold bhd tgts hit
  rw [List.mem_filter, rngI_mem]
  refine and_congr Iff.rfl ?_
  rw [List.contains_iff_mem, List.mem_map]
  constructor
  · rintro ⟨s, m, rfl⟩
    rw [List.mem_filter] at m
    have := m.2
    simp only [Bool.and_eq_true, List.contains_iff_mem] at this
    exact ⟨s, m.1, this.1, this.2, rfl⟩
  · rintro ⟨s, m, a, b, rfl⟩
    exact ⟨s, List.mem_filter.mpr ⟨m, by simp only [Bool.and_eq_true, List.contains_iff_mem]; exact ⟨a, b⟩⟩, rfl⟩
theorem mem_bhd' {M : Mc} (o : M.ok) {S : List Int} {v : D} {q : Int} : q ∈ bhd M S v ↔ ∃ s ∈ M.sp, s.1 ∈ S ∧ metC inS s.2.1 v = true ∧ s.2.2 = q := by
  rw [mem_bhd]
  exact ⟨fun z => z.2, fun ⟨s, m, a, b, c⟩ => ⟨by have := o.sp s m; rw [← c]; exact ⟨this.2.2.1, this.2.2.2.1⟩, s, m, a, b, c⟩⟩
theorem mem_addT {n q : Int} {A B : List Int} (a : ∀ x ∈ A, 0 ≤ x ∧ x < n) (b : ∀ x ∈ B, 0 ≤ x ∧ x < n) : q ∈ addT n A B ↔ q ∈ A ∨ q ∈ B := by
  unfold addT
  rw [List.mem_filter, rngI_mem]
  simp only [Bool.or_eq_true, List.contains_iff_mem]
  exact ⟨fun z => z.2, fun z => ⟨z.elim (a q) (b q), z⟩⟩
theorem addT_ok {n : Int} {A B : List Int} : stsOk n (addT n A B) := ⟨(rngI_asc n).filter _, fun q m => rngI_mem.mp (List.mem_filter.mp m).1⟩
theorem mem_shf {m q : Int} {S : List Int} : q ∈ shf m S ↔ q - m ∈ S := by
  unfold shf
  rw [List.mem_map]
  constructor
  · rintro ⟨x, mx, rfl⟩
    rw [show x + m - m = x by omega]; exact mx
  · intro z
    exact ⟨q - m, z, by omega⟩
theorem shf_ok {n m : Int} {S : List Int} (h : stsOk m S) : (shf n S).Pairwise (· < ·) ∧ ∀ q ∈ shf n S, n ≤ q ∧ q < n + m := by
  refine ⟨?_, fun q mq => ?_⟩
  · unfold shf
    exact List.Pairwise.map _ (fun a b (l : a < b) => by show a + n < b + n; omega) h.1
  · have := h.2 _ (mem_shf.mp mq)
    omega
theorem cat_ok {n m : Int} {A B : List Int} (a : stsOk n A) (b : stsOk m B) (n0 : 0 ≤ n) (m0 : 0 ≤ m) : stsOk (n + m) (A ++ shf n B) := by
  have sb := shf_ok (n := n) b
  refine ⟨List.pairwise_append.mpr ⟨a.1, sb.1, fun x mx y my => ?_⟩, fun x mx => ?_⟩
  · have h1 := a.2 x mx
    have h2 := sb.2 y my
    omega
  · rcases List.mem_append.mp mx with z | z
    · have := a.2 x z; omega
    · have := sb.2 x z; omega
theorem sts_nil {n : Int} : stsOk n [] := ⟨.nil, fun _ m => by cases m⟩
theorem opn_vp {F G : Mc} (f : Sm F) (g : Sm G) (d : Deed) : Vp F G d (opn F G d) := by
  cases d with
  | fl =>
    refine ⟨f.ok.st, ?_, fun _ e => ?_⟩
    · show stsOk G.n (if anyEnd F F.st = true then G.st else [])
      split
      · exact g.ok.st
      · exact sts_nil
    · show ∀ q ∈ G.st, q ∈ (if anyEnd F F.st = true then G.st else [])
      rw [if_pos (show anyEnd F F.st = true from e)]
      exact fun _ m => m
  | rp => exact ⟨f.ok.st, sts_one (Int.le_refl 0) (by have := g.ok.n1; omega), fun z => by cases z⟩
  | bk => exact ⟨f.ok.en, sts_nil, fun z => by cases z⟩
theorem mvd_vp {F G : Mc} (f : Sm F) (g : Sm G) (d : Deed) (p : Pr) (v : D) : Vp F G d (mvd F G p v d) := by
  cases d with
  | fl =>
    refine ⟨bhd_ok _ _ _, ?_, fun _ e => ?_⟩
    · show stsOk G.n (if anyEnd F (bhd F p.1 v) = true then addT G.n (bhd G p.2 v) G.st else bhd G p.2 v)
      split
      · exact addT_ok
      · exact bhd_ok _ _ _
    · show ∀ q ∈ G.st, q ∈ (if anyEnd F (bhd F p.1 v) = true then addT G.n (bhd G p.2 v) G.st else bhd G p.2 v)
      rw [if_pos (show anyEnd F (bhd F p.1 v) = true from e)]
      exact fun q m => (mem_addT (bhd_ok _ _ _).2 g.ok.st.2).mpr (.inr m)
  | rp =>
    refine ⟨?_, sts_nil, fun z => by cases z⟩
    show stsOk F.n (if anyEnd F (bhd F p.1 v) = true then addT F.n (bhd F p.1 v) F.st else bhd F p.1 v)
    split
    · exact addT_ok
    · exact bhd_ok _ _ _
  | bk => exact ⟨bhd_ok (bkw F) _ _, sts_nil, fun z => by cases z⟩
theorem emb_opn (F G : Mc) (d : Deed) : emb F G (opn F G d) d = (tld F G d).st := by
  cases d with
  | fl =>
    show F.st ++ shf F.n (if anyEnd F F.st = true then G.st else []) = (if anyEnd F F.st = true then F.st ++ shf F.n G.st else F.st)
    split
    · rfl
    · exact List.append_nil _
  | rp => rfl
  | bk => rfl
theorem emb_jen {F G : Mc} (f : Sm F) (g : Sm G) {d : Deed} {p : Pr} (h : Vp F G d p) : anyEnd (tld F G d) (emb F G p d) = jen F G p d := by
  rw [Bool.eq_iff_iff]
  have f1 := f.ok.n1
  have g1 := g.ok.n1
  cases d with
  | fl =>
    show anyEnd (flw F G) (p.1 ++ shf F.n p.2) = true ↔ anyEnd G p.2 = true
    rw [anyEnd_iff, anyEnd_iff]
    have hr : ∀ q, q ∈ shf F.n p.2 ∧ q ∈ shf F.n G.en ↔ q - F.n ∈ p.2 ∧ q - F.n ∈ G.en := fun q => by rw [mem_shf, mem_shf]
    show (∃ q ∈ p.1 ++ shf F.n p.2, q ∈ (if anyEnd G G.st = true then F.en ++ shf F.n G.en else shf F.n G.en)) ↔ _
    constructor
    · rintro ⟨q, m, n⟩
      have back : q ∈ shf F.n G.en → ∃ q ∈ p.2, q ∈ G.en := fun n => by
        have nb := (shf_ok (n := F.n) g.ok.en).2 q n
        rcases List.mem_append.mp m with m | m
        · have := h.l.2 q m; omega
        · exact ⟨_, (hr q).mp ⟨m, n⟩⟩
      by_cases c : anyEnd G G.st = true
      · rw [if_pos c] at n
        rcases List.mem_append.mp n with n | n
        · have nb := f.ok.en.2 q n
          rcases List.mem_append.mp m with m | m
          · obtain ⟨z, mz, nz⟩ := anyEnd_iff.mp c
            exact ⟨z, h.e rfl (anyEnd_iff.mpr ⟨q, m, n⟩) z mz, nz⟩
          · have := (shf_ok (n := F.n) h.r).2 q m; omega
        · exact back n
      · rw [if_neg c] at n
        exact back n
    · rintro ⟨q, m, n⟩
      have m1 : q + F.n ∈ shf F.n p.2 := mem_shf.mpr (by rw [show q + F.n - F.n = q by omega]; exact m)
      have n1 : q + F.n ∈ shf F.n G.en := mem_shf.mpr (by rw [show q + F.n - F.n = q by omega]; exact n)
      refine ⟨q + F.n, List.mem_append_right _ m1, ?_⟩
      split
      · exact List.mem_append_right _ n1
      · exact n1
  | rp =>
    show anyEnd (rpt F) (if p.2 = [0] then p.1 ++ [F.n] else p.1) = true ↔ (anyEnd F p.1 || decide (p.2 = [0])) = true
    rw [Bool.or_eq_true, decide_eq_true_eq, anyEnd_iff, anyEnd_iff]
    show (∃ q ∈ (if p.2 = [0] then p.1 ++ [F.n] else p.1), q ∈ F.en ++ [F.n]) ↔ _
    have lo : ∀ q ∈ p.1, q ∈ F.en ++ [F.n] → q ∈ F.en := fun q m n => by
      rcases List.mem_append.mp n with n | n
      · exact n
      · have := h.l.2 q m
        rw [List.mem_singleton.mp n] at this
        omega
    constructor
    · rintro ⟨q, m, n⟩
      by_cases c : p.2 = [0]
      · exact .inr c
      · rw [if_neg c] at m
        exact .inl ⟨q, m, lo q m n⟩
    · rintro (⟨q, m, n⟩ | c)
      · refine ⟨q, ?_, List.mem_append_left _ n⟩
        split
        · exact List.mem_append_left _ m
        · exact m
      · rw [if_pos c]
        exact ⟨F.n, by simp, by simp⟩
  | bk =>
    show anyEnd (bkw F) p.1 = true ↔ _
    rfl
theorem mem_intoE {M : Mc} {G : List Int} {s : Spp} : s ∈ intoE M G ↔ ∃ t ∈ M.sp, t.2.2 ∈ M.en ∧ ∃ g ∈ G, s = (t.1, t.2.1, g) := by
  unfold intoE
  rw [List.mem_flatMap]
  constructor
  · rintro ⟨t, m, n⟩
    rw [List.mem_filter, List.contains_iff_mem] at m
    obtain ⟨g, mg, rfl⟩ := List.mem_map.mp n
    exact ⟨t, m.1, m.2, g, mg, rfl⟩
  · rintro ⟨t, m, e, g, mg, rfl⟩
    exact ⟨t, List.mem_filter.mpr ⟨m, by rw [List.contains_iff_mem]; exact e⟩, List.mem_map.mpr ⟨g, mg, rfl⟩⟩
theorem emb_mvd {F G : Mc} (f : Sm F) (g : Sm G) {d : Deed} {p : Pr} (h : Vp F G d p) (v : D) : emb F G (mvd F G p v d) d = bhd (tld F G d) (emb F G p d) v := by
  have f1 := f.ok.n1
  have g1 := g.ok.n1
  cases d with
  | fl =>
    have vp := mvd_vp f g .fl p v
    refine asc_eq _ _ (cat_ok vp.l vp.r (by omega) (by omega)).1 (bhd_ok _ _ _).1 fun q => ?_
    have inL : ∀ x : Int, x < F.n → (x ∈ p.1 ++ shf F.n p.2 ↔ x ∈ p.1) := fun x hx => by
      rw [List.mem_append]
      exact ⟨fun z => z.elim id fun z => by have := (shf_ok (n := F.n) h.r).2 x z; omega, .inl⟩
    have inR : ∀ x : Int, 0 ≤ x → (x + F.n ∈ p.1 ++ shf F.n p.2 ↔ x ∈ p.2) := fun x hx => by
      rw [List.mem_append, mem_shf, show x + F.n - F.n = x by omega]
      exact ⟨fun z => z.elim (fun z => by have := h.l.2 _ z; omega) id, .inr⟩
    have el : ∀ x, x ∈ (mvd F G p v .fl).1 ↔ ∃ s ∈ F.sp, s.1 ∈ p.1 ∧ metC inS s.2.1 v = true ∧ s.2.2 = x := fun x => mem_bhd' f.ok
    have er : ∀ x, x ∈ (mvd F G p v .fl).2 ↔ (∃ s ∈ G.sp, s.1 ∈ p.2 ∧ metC inS s.2.1 v = true ∧ s.2.2 = x) ∨ (anyEnd F (bhd F p.1 v) = true ∧ x ∈ G.st) := fun x => by
      show x ∈ (if anyEnd F (bhd F p.1 v) = true then addT G.n (bhd G p.2 v) G.st else bhd G p.2 v) ↔ _
      split
      · rename_i c
        rw [mem_addT (bhd_ok _ _ _).2 g.ok.st.2, mem_bhd' g.ok]
        exact ⟨fun z => z.imp id fun m => ⟨c, m⟩, fun z => z.imp id fun m => m.2⟩
      · rename_i c
        rw [mem_bhd' g.ok]
        exact ⟨.inl, fun z => z.elim id fun m => absurd m.1 c⟩
    show q ∈ (mvd F G p v .fl).1 ++ shf F.n (mvd F G p v .fl).2 ↔ q ∈ bhd (flw F G) (p.1 ++ shf F.n p.2) v
    rw [List.mem_append, mem_shf, el, er, mem_bhd]
    show _ ↔ (0 ≤ q ∧ q < F.n + G.n) ∧ ∃ s ∈ F.sp ++ intoE F (shf F.n G.st) ++ shfS F.n G.sp, _
    constructor
    · rintro (⟨s, m, a, b, rfl⟩ | ⟨s, m, a, b, e⟩ | ⟨c, m⟩)
      · have os := f.ok.sp s m
        exact ⟨by omega, s, List.mem_append_left _ (List.mem_append_left _ m), (inL _ os.2.1).mpr a, b, rfl⟩
      · have os := g.ok.sp s m
        refine ⟨by omega, (s.1 + F.n, s.2.1, s.2.2 + F.n), List.mem_append_right _ (List.mem_map.mpr ⟨s, m, rfl⟩), (inR _ os.1).mpr a, b, ?_⟩
        show s.2.2 + F.n = q
        omega
      · have := g.ok.st.2 _ m
        obtain ⟨x, mx, ex⟩ := anyEnd_iff.mp c
        obtain ⟨s, ms, a, b, rfl⟩ := (mem_bhd' f.ok).mp mx
        have os := f.ok.sp s ms
        exact ⟨by omega, (s.1, s.2.1, q), List.mem_append_left _ (List.mem_append_right _ (mem_intoE.mpr ⟨s, ms, ex, q, mem_shf.mpr m, rfl⟩)), (inL _ os.2.1).mpr a, b, rfl⟩
    · rintro ⟨_, s, m, a, b, rfl⟩
      rcases List.mem_append.mp m with m | m
      · rcases List.mem_append.mp m with m | m
        · have os := f.ok.sp s m
          exact .inl ⟨s, m, (inL _ os.2.1).mp a, b, rfl⟩
        · obtain ⟨t, mt, et, z, mz, rfl⟩ := mem_intoE.mp m
          have os := f.ok.sp t mt
          exact .inr (.inr ⟨anyEnd_iff.mpr ⟨t.2.2, (mem_bhd' f.ok).mpr ⟨t, mt, (inL _ os.2.1).mp a, b, rfl⟩, et⟩, mem_shf.mp mz⟩)
      · obtain ⟨t, mt, rfl⟩ := List.mem_map.mp m
        have os := g.ok.sp t mt
        exact .inr (.inl ⟨t, mt, (inR _ os.1).mp a, b, by show t.2.2 = t.2.2 + F.n - F.n; omega⟩)
  | rp =>
    have vp := mvd_vp f g .rp p v
    have e0 : emb F G (mvd F G p v .rp) .rp = (mvd F G p v .rp).1 := rfl
    rw [e0]
    refine asc_eq _ _ vp.l.1 (bhd_ok _ _ _).1 fun q => ?_
    have inL : ∀ x : Int, x < F.n → (x ∈ emb F G p .rp ↔ x ∈ p.1) := fun x hx => by
      show x ∈ (if p.2 = [0] then p.1 ++ [F.n] else p.1) ↔ _
      split
      · rw [List.mem_append, List.mem_singleton]
        exact ⟨fun z => z.elim id fun z => by omega, .inl⟩
      · rfl
    have el : q ∈ (mvd F G p v .rp).1 ↔ (∃ s ∈ F.sp, s.1 ∈ p.1 ∧ metC inS s.2.1 v = true ∧ s.2.2 = q) ∨ (anyEnd F (bhd F p.1 v) = true ∧ q ∈ F.st) := by
      show q ∈ (if anyEnd F (bhd F p.1 v) = true then addT F.n (bhd F p.1 v) F.st else bhd F p.1 v) ↔ _
      split
      · rename_i c
        rw [mem_addT (bhd_ok _ _ _).2 f.ok.st.2, mem_bhd' f.ok]
        exact ⟨fun z => z.imp id fun m => ⟨c, m⟩, fun z => z.imp id fun m => m.2⟩
      · rename_i c
        rw [mem_bhd' f.ok]
        exact ⟨.inl, fun z => z.elim id fun m => absurd m.1 c⟩
    rw [el, mem_bhd]
    show _ ↔ (0 ≤ q ∧ q < F.n + 1) ∧ ∃ s ∈ F.sp ++ intoE F F.st, _
    constructor
    · rintro (⟨s, m, a, b, rfl⟩ | ⟨c, m⟩)
      · have os := f.ok.sp s m
        exact ⟨by omega, s, List.mem_append_left _ m, (inL _ os.2.1).mpr a, b, rfl⟩
      · have := f.ok.st.2 _ m
        obtain ⟨x, mx, ex⟩ := anyEnd_iff.mp c
        obtain ⟨s, ms, a, b, rfl⟩ := (mem_bhd' f.ok).mp mx
        have os := f.ok.sp s ms
        exact ⟨by omega, (s.1, s.2.1, q), List.mem_append_right _ (mem_intoE.mpr ⟨s, ms, ex, q, m, rfl⟩), (inL _ os.2.1).mpr a, b, rfl⟩
    · rintro ⟨_, s, m, a, b, rfl⟩
      rcases List.mem_append.mp m with m | m
      · have os := f.ok.sp s m
        exact .inl ⟨s, m, (inL _ os.2.1).mp a, b, rfl⟩
      · obtain ⟨t, mt, et, z, mz, rfl⟩ := mem_intoE.mp m
        have os := f.ok.sp t mt
        exact .inr ⟨anyEnd_iff.mpr ⟨t.2.2, (mem_bhd' f.ok).mpr ⟨t, mt, (inL _ os.2.1).mp a, b, rfl⟩, et⟩, mz⟩
  | bk => rfl
theorem intoE_len (M : Mc) (G : List Int) : (intoE M G).length ≤ M.sp.length * G.length := by
  unfold intoE
  rw [List.length_flatMap]
  have e : (fun s : Spp => (G.map fun g => (s.1, s.2.1, g)).length) = fun _ => G.length := by funext s; rw [List.length_map]
  rw [e, sum_const]
  exact Nat.mul_le_mul (List.length_filter_le _ _) (Nat.le_refl _)
theorem st_len {M : Mc} (m : Sm M) {S : List Int} (h : stsOk M.n S) : S.length ≤ 4 := Nat.le_trans (sts_len0 h) (by have := m.n4; omega)
theorem tld_ok {F G : Mc} (f : Sm F) (g : Sm G) (e : F.k = G.k) (d : Deed) : (tld F G d).ok := by
  have f1 := f.ok.n1
  have g1 := g.ok.n1
  have f4 := f.n4
  have g4 := g.n4
  cases d with
  | fl =>
    refine ⟨f.ok.kk, f.ok.kd, f.ok.kc, by show 1 ≤ F.n + G.n; omega, by show F.n + G.n ≤ 40; omega, ?_, ?_, ?_, ?_⟩
    · show stsOk (F.n + G.n) (if anyEnd F F.st = true then F.st ++ shf F.n G.st else F.st)
      split
      · exact cat_ok f.ok.st g.ok.st (by omega) (by omega)
      · exact sts_up f.ok.st (by omega)
    · show stsOk (F.n + G.n) (if anyEnd G G.st = true then F.en ++ shf F.n G.en else shf F.n G.en)
      split
      · exact cat_ok f.ok.en g.ok.en (by omega) (by omega)
      · exact (List.nil_append (shf F.n G.en)) ▸ cat_ok sts_nil g.ok.en (by omega) (by omega)
    · show (F.sp ++ intoE F (shf F.n G.st) ++ shfS F.n G.sp).length ≤ 50
      have h1 := intoE_len F (shf F.n G.st)
      have h2 : (shf F.n G.st).length ≤ 4 := by unfold shf; rw [List.length_map]; exact st_len g g.ok.st
      have h3 := Nat.mul_le_mul f.s6 h2
      have h4 := f.s6
      have h5 := g.s6
      rw [List.length_append, List.length_append]
      unfold shfS
      rw [List.length_map]
      omega
    · intro s m
      rcases List.mem_append.mp m with m | m
      · rcases List.mem_append.mp m with m | m
        · have := f.ok.sp s m
          exact ⟨this.1, by show s.1 < F.n + G.n; omega, this.2.2.1, by show s.2.2 < F.n + G.n; omega, this.2.2.2.2⟩
        · obtain ⟨t, mt, et, z, mz, rfl⟩ := mem_intoE.mp m
          have := f.ok.sp t mt
          have zb := (shf_ok (n := F.n) g.ok.st).2 z mz
          exact ⟨this.1, by show t.1 < F.n + G.n; omega, by show 0 ≤ z; omega, by show z < F.n + G.n; omega, this.2.2.2.2⟩
      · obtain ⟨t, mt, rfl⟩ := List.mem_map.mp m
        have := g.ok.sp t mt
        exact ⟨by show 0 ≤ t.1 + F.n; omega, by show t.1 + F.n < F.n + G.n; omega, by show 0 ≤ t.2.2 + F.n; omega, by show t.2.2 + F.n < F.n + G.n; omega, by show cnOk F.k _; rw [e]; exact this.2.2.2.2⟩
  | rp =>
    refine ⟨f.ok.kk, f.ok.kd, f.ok.kc, by show 1 ≤ F.n + 1; omega, by show F.n + 1 ≤ 40; omega, sts_snoc f.ok.st (by omega), sts_snoc f.ok.en (by omega), ?_, ?_⟩
    · show (F.sp ++ intoE F F.st).length ≤ 50
      have h1 := intoE_len F F.st
      have h3 := Nat.mul_le_mul f.s6 (st_len f f.ok.st)
      have h4 := f.s6
      rw [List.length_append]
      omega
    · intro s m
      show 0 ≤ s.1 ∧ s.1 < F.n + 1 ∧ 0 ≤ s.2.2 ∧ s.2.2 < F.n + 1 ∧ cnOk F.k s.2.1
      rcases List.mem_append.mp m with m | m
      · have := f.ok.sp s m
        exact ⟨this.1, by omega, this.2.2.1, by omega, this.2.2.2.2⟩
      · obtain ⟨t, mt, et, z, mz, rfl⟩ := mem_intoE.mp m
        have := f.ok.sp t mt
        have zb := f.ok.st.2 z mz
        exact ⟨this.1, by show t.1 < F.n + 1; omega, zb.1, by show z < F.n + 1; omega, this.2.2.2.2⟩
  | bk =>
    refine ⟨f.ok.kk, f.ok.kd, f.ok.kc, f.ok.n1, f.ok.n9, f.ok.en, f.ok.st, by show (F.sp.map _).length ≤ 50; rw [List.length_map]; exact f.ok.sl, fun s m => ?_⟩
    obtain ⟨t, mt, rfl⟩ := List.mem_map.mp m
    have := f.ok.sp t mt
    exact ⟨this.2.2.1, this.2.2.2.1, this.1, this.2.1, this.2.2.2.2⟩
theorem tld_sp {F G : Mc} {P : Cn → Prop} (f : ∀ s ∈ F.sp, P s.2.1) (g : ∀ s ∈ G.sp, P s.2.1) (d : Deed) : ∀ s ∈ (tld F G d).sp, P s.2.1 := by
  intro s m
  cases d with
  | fl =>
    rcases List.mem_append.mp m with m | m
    · rcases List.mem_append.mp m with m | m
      · exact f s m
      · obtain ⟨t, mt, _, _, _, rfl⟩ := mem_intoE.mp m
        exact f t mt
    · obtain ⟨t, mt, rfl⟩ := List.mem_map.mp m
      exact g t mt
  | rp =>
    rcases List.mem_append.mp m with m | m
    · exact f s m
    · obtain ⟨t, mt, _, _, _, rfl⟩ := mem_intoE.mp m
      exact f t mt
  | bk =>
    obtain ⟨t, mt, rfl⟩ := List.mem_map.mp m
    exact f t mt
theorem nodup_bits : ∀ (n : Nat) (L : List (List Bool)), (∀ x ∈ L, x.length = n) → L.Nodup → L.length ≤ 2 ^ n
  | 0, L, hl, nd => by
    cases L with
    | nil => simp
    | cons a L =>
      cases L with
      | nil => simp
      | cons b L =>
        have ha := List.length_eq_zero_iff.mp (hl a (by simp))
        have hb := List.length_eq_zero_iff.mp (hl b (by simp))
        rw [ha, hb] at nd
        simp at nd
  | n + 1, L, hl, nd => by
    have part : ∀ b : Bool, ((L.filter fun x => x.head? == some b).map List.tail).length ≤ 2 ^ n := fun b => by
      refine nodup_bits n _ (fun x m => ?_) ?_
      · obtain ⟨y, my, rfl⟩ := List.mem_map.mp m
        have := hl y (List.mem_filter.mp my).1
        rw [List.length_tail]; omega
      · unfold List.Nodup
        rw [List.pairwise_map]
        refine List.Pairwise.imp_of_mem (fun {x y} mx my ne e => ne ?_) (List.Pairwise.filter _ nd)
        have hx := (List.mem_filter.mp mx).2
        have hy := (List.mem_filter.mp my).2
        cases x with
        | nil => simp at hx
        | cons c x =>
          cases y with
          | nil => simp at hy
          | cons c' y =>
            simp only [List.head?_cons, beq_iff_eq, Option.some.injEq] at hx hy
            rw [hx, hy, show x = y from e]
    have e : L.length = (L.filter fun x => x.head? == some true).length + (L.filter fun x => x.head? == some false).length := by
      clear part nd
      induction L with
      | nil => rfl
      | cons a L ih =>
        have ih := ih fun x m => hl x (List.mem_cons_of_mem _ m)
        have ha := hl a List.mem_cons_self
        cases a with
        | nil => cases ha
        | cons c a => cases c <;> simp [List.filter_cons, ih] <;> omega
    have h1 := part true
    have h2 := part false
    rw [List.length_map] at h1 h2
    rw [Nat.pow_succ]
    omega
theorem few {F G : Mc} (f : Sm F) (g : Sm G) {d : Deed} {L : List Pr} (h : ∀ p ∈ L, Vp F G d p) (nd : L.Nodup) : L.length ≤ 256 := by
  have z := nodup_bits (F.n.toNat + G.n.toNat) (L.map fun p => ((rngI F.n).map fun q => p.1.contains q) ++ ((rngI G.n).map fun q => p.2.contains q)) (fun x m => by
    obtain ⟨p, _, rfl⟩ := List.mem_map.mp m
    rw [List.length_append, List.length_map, List.length_map, rngI_len, rngI_len]) (by
    unfold List.Nodup
    rw [List.pairwise_map]
    refine List.Pairwise.imp_of_mem (fun {x y} mx my ne e => ne ?_) nd
    obtain ⟨e1, e2⟩ := List.append_inj e (by rw [List.length_map, List.length_map])
    have same : ∀ {n : Int} {A B : List Int}, stsOk n A → stsOk n B → (rngI n).map (fun q => A.contains q) = (rngI n).map (fun q => B.contains q) → A = B := fun {n A B} a b e => by
      have e := List.map_inj_left.mp e
      refine asc_eq _ _ a.1 b.1 fun x => ⟨fun m => ?_, fun m => ?_⟩
      · have := e x (rngI_mem.mpr (a.2 x m))
        rw [← List.contains_iff_mem, ← this, List.contains_iff_mem]; exact m
      · have := e x (rngI_mem.mpr (b.2 x m))
        rw [← List.contains_iff_mem, this, List.contains_iff_mem]; exact m
    exact Prod.ext (same (h x mx).l (h y my).l e1) (same (h x mx).r (h y my).r e2))
  rw [List.length_map] at z
  refine Nat.le_trans z (Nat.le_trans (Nat.pow_le_pow_right (by decide) (show F.n.toNat + G.n.toNat ≤ 8 by have := f.n4; have := g.n4; omega)) (by decide))
end K41
-- set2
set_option Elab.async false
set_option linter.all false
set_option maxRecDepth 100000
set_option maxHeartbeats 1000000
namespace K41
open PySem PySem.Spec PyProof.Rows L2 DL K00 K01 K03 K04 K22
def Gr (h g : DH) : Prop := ∀ b, h b ≠ none → g b = h b
section
variable {h g k : DH} {a p : Addr}
theorem Gr.refl : Gr h h := fun _ _ => rfl
theorem Gr.trans (e : Gr h g) (f : Gr g k) : Gr h k := fun b n => by
  have e1 := e b n
  rw [f b (by rw [e1]; exact n), e1]
theorem Gr.keep (e : Gr h g) {o : DO} (hp : h p = some o) : g p = some o := by rw [e p (by rw [hp]; simp), hp]
theorem Gr.fresh (e : Gr h g) (np : g p = none) : h p = none := Classical.byContradiction fun z => z (by rw [← e p z, np])
theorem Gr.put (e : Gr h g) {o : DO} (np : h p = none) : Gr h (put g p o) := fun b n => by
  by_cases c : b = p
  · subst c; exact absurd np n
  · rw [put_ne c]; exact e b n
theorem Gr.hid {o : DO} (np : h p = none) (e : Gr (DL.put h p o) g) : Gr h (del g p) := fun b n => by
  have c : b ≠ p := fun c => n (by rw [c]; exact np)
  rw [del_ne c, e b (by rw [put_ne c]; exact n), put_ne c]
def GrT (a : Addr) (h g : DH) : Prop := Tp g a ∧ ∀ b, b ≠ a → h b ≠ none → g b = h b
theorem GrT.of {t : DO} (o : TOk t) (e : Gr (DL.put h a t) g) : GrT a h g :=
  ⟨⟨t, e.keep put_same, o⟩, fun b n m => by rw [e b (by rw [put_ne n]; exact m), put_ne n]⟩
theorem GrT.refl (t : Tp h a) : GrT a h h := ⟨t, fun _ _ _ => rfl⟩
theorem GrT.draw (e : GrT a h g) {t : DO} (o : TOk t) : GrT a h (DL.put g a t) := ⟨tp_put o, fun b n m => by rw [put_ne n]; exact e.2 b n m⟩
theorem GrT.gr (e : GrT a h g) (f : Gr g k) : GrT a h k := by
  obtain ⟨⟨t, et, ot⟩, e2⟩ := e
  refine ⟨⟨t, f.keep et, ot⟩, fun b n m => ?_⟩
  rw [f b (by rw [e2 b n m]; exact m), e2 b n m]
theorem GrT.trans (e : GrT a h g) (f : GrT a g k) : GrT a h k := ⟨f.1, fun b n m => by
  have e1 := e.2 b n m
  rw [f.2 b n (by rw [e1]; exact m), e1]⟩
theorem GrT.keep (e : GrT a h g) (n : p ≠ a) {o : DO} (hp : h p = some o) : g p = some o := by rw [e.2 p n (by rw [hp]; simp), hp]
theorem GrT.ne (e : GrT a h g) (np : g p = none) : p ≠ a := by
  obtain ⟨⟨t, et, _⟩, _⟩ := e
  intro z; rw [z, et] at np; cases np
end
def LsAt (h g : DH) (r : D) (l : List D) : Prop := r = .lis l ∨ ∃ p, r = .ref p ∧ h p = none ∧ g p = some (.lst l)
def LsX (p : Addr) (g : DH) (r : D) (l : List D) : Prop := r = .lis l ∨ ∃ b, r = .ref b ∧ b ≠ p ∧ g b = some (.lst l)
theorem LsAt.x {h g : DH} {r : D} {l : List D} {p : Addr} (a : LsAt h g r l) (n : h p ≠ none) : LsX p g r l :=
  a.imp id fun ⟨b, e, hb, gb⟩ => ⟨b, e, fun z => n (z ▸ hb), gb⟩
theorem LsX.put {p : Addr} {g : DH} {r : D} {l : List D} {o : DO} (a : LsX p g r l) : LsX p (put g p o) r l :=
  a.imp id fun ⟨b, e, n, gb⟩ => ⟨b, e, n, by rw [put_ne n]; exact gb⟩
theorem LsX.gr {p : Addr} {g k : DH} {r : D} {l : List D} (a : LsX p g r l) (e : Gr g k) : LsX p k r l :=
  a.imp id fun ⟨b, er, n, gb⟩ => ⟨b, er, n, e.keep gb⟩
theorem LsX.walk {p : Addr} {g : DH} {r : D} {l : List D} {T : List D → (DH → Prop) → DH → Prop} (a : LsX p g r l) (q : ∀ C : DH → Prop, (∀ g', (∀ b, b ≠ p → g' b = g b) → C g') → T l C g) : walkD r g T := by
  rcases a with rfl | ⟨b, rfl, n, gb⟩
  · exact q _ fun _ _ => trivial
  · exact ⟨l, gb, q _ fun g' e => by rw [e b n]; exact gb⟩
mutual
def mny (m : Nat) : Kd → Nat
  | .nm ns => ns.length
  | .it => m
  | .pr a b => mny m a * mny m b
  | .ei ks => mnys m ks
  | .mb k => 1 + mny m k
def mnys (m : Nat) : List Kd → Nat
  | [] => 0
  | k :: ks => mny m k + mnys m ks
end
theorem mnys_sum (m : Nat) : ∀ ks : List Kd, (mnys m ks : Int) = (ks.map fun k => (mny m k : Int)).sum
  | [] => rfl
  | k :: ks => by rw [List.map_cons, List.sum_cons, ← mnys_sum m ks, mnys]; omega
theorem cnts_len : ∀ ks : List Kd, ks.length ≤ Kd.cnts ks
  | [] => Nat.le_refl _
  | k :: ks => by
    have := cnts_len ks
    have := k.cnt_pos
    simp only [List.length_cons, Kd.cnts]
    omega
mutual
theorem mny_pos {m : Nat} (hm : 1 ≤ m) : ∀ k : Kd, k.ok → 1 ≤ mny m k
  | .nm ns, o => by simp only [mny]; exact o.1
  | .it, _ => by simp only [mny]; exact hm
  | .pr a b, o => by simp only [mny]; exact Nat.mul_pos (mny_pos hm a o.1) (mny_pos hm b o.2)
  | .ei ks, o => by simp only [mny]; exact Nat.le_trans o.1 (mnys_len hm ks o.2)
  | .mb k, _ => by simp only [mny]; omega
theorem mnys_len {m : Nat} (hm : 1 ≤ m) : ∀ ks : List Kd, Kd.oks ks → ks.length ≤ mnys m ks
  | [], _ => Nat.zero_le _
  | k :: ks, o => by
    have h1 := mny_pos hm k o.1
    have h2 := mnys_len hm ks o.2
    simp only [List.length_cons, mnys]
    omega
end
theorem pow_add_le {B a b c d : Nat} (hB : 4 ≤ B) (h1 : a ≤ B ^ c) (h2 : b ≤ B ^ d) (hc : 1 ≤ c) (hd : 1 ≤ d) : a + b ≤ B ^ (c + d) := by
  have e1 : 4 ≤ B ^ c := Nat.le_trans hB (by have := Nat.pow_le_pow_right (show 0 < B by omega) hc; rwa [Nat.pow_one] at this)
  have e2 : 4 ≤ B ^ d := Nat.le_trans hB (by have := Nat.pow_le_pow_right (show 0 < B by omega) hd; rwa [Nat.pow_one] at this)
  rw [Nat.pow_add]
  generalize B ^ c = x at *
  generalize B ^ d = y at *
  have := Nat.mul_le_mul e1 (Nat.le_refl y)
  have := Nat.mul_le_mul (Nat.le_refl x) e2
  omega
mutual
theorem mny_le {B m : Nat} (hB : 4 ≤ B) (hm : m ≤ B) : ∀ k : Kd, k.ok → mny m k ≤ B ^ k.cnt
  | .nm ns, o => by simp only [mny, Kd.cnt, Nat.pow_one]; exact Nat.le_trans o.2.1 hB
  | .it, _ => by simp only [mny, Kd.cnt, Nat.pow_one]; exact hm
  | .pr a b, o => by
    simp only [mny, Kd.cnt]
    have h1 := mny_le hB hm a o.1
    have h2 := mny_le hB hm b o.2
    refine Nat.le_trans (Nat.mul_le_mul h1 h2) ?_
    rw [← Nat.pow_add]
    exact Nat.pow_le_pow_right (by omega) (by omega)
  | .ei ks, o => by
    simp only [mny, Kd.cnt]
    exact Nat.le_trans (mnys_le hB hm ks o.2) (Nat.pow_le_pow_right (by omega) (by omega))
  | .mb k, o => by
    simp only [mny, Kd.cnt]
    have h1 := mny_le hB hm k o
    have := k.cnt_pos
    exact pow_add_le hB (c := 1) (by rw [Nat.pow_one]; omega) h1 (by decide) this
theorem mnys_le {B m : Nat} (hB : 4 ≤ B) (hm : m ≤ B) : ∀ ks : List Kd, Kd.oks ks → mnys m ks ≤ B ^ Kd.cnts ks
  | [], _ => by simp [mnys, Kd.cnts]
  | [k], o => by
    simp only [mnys, Kd.cnts, Nat.add_zero]
    exact mny_le hB hm k o.1
  | k :: k2 :: ks, o => by
    have h1 := mny_le hB hm k o.1
    have h2 := mnys_le hB hm (k2 :: ks) o.2
    have h3 := cnts_len (k2 :: ks)
    simp only [List.length_cons] at h3
    rw [mnys, Kd.cnts]
    exact pow_add_le hB h1 h2 k.cnt_pos (by omega)
end
def spMany (n : Nat) : Sp' := fun ds h Q _ => ∃ (k : Kd) (m : Nat), ds = [kD k, .int (m : Int)] ∧ k.depth ≤ n ∧ k.cnt ≤ 6 ∧ k.ok ∧ m ≤ 100 ∧ Q (.int (mny m k : Int)) h
theorem rd__law_many (n : Nat) (ds : List D) (h : DH) (Q : VK') (E' : XK') (q : spMany (n + 1) ds h Q E') : t__law_many (spMany n) (ends Q) (slots n__law_many ds) h := by
  obtain ⟨k, m, rfl, hd, hc, ok, hm, q⟩ := q
  show t__law_many _ (ends Q) [some (kD k), some (.int (m : Int)), none] h
  unfold t__law_many
  cases k with
  | nm ns =>
    simp only [kD]
    ((walk_at "dl7"); repeat (simp only [List.length_map]; (walk_at "dl7")))
    exact fin q
  | it =>
    simp only [kD]
    walk_at "dl7"
    exact fin q
  | pr x y =>
    simp only [Kd.depth] at hd
    simp only [Kd.cnt] at hc
    simp only [kD]
    walk_at "dl7"
    refine ⟨x, m, rfl, by omega, by omega, ok.1, hm, ?_⟩
    walk_at "dl7"
    refine ⟨y, m, rfl, by omega, by omega, ok.2, hm, ?_⟩
    walk_at "dl7"
    have b1 : mny m x ≤ 1000000000000 := Nat.le_trans (mny_le (by decide) hm x ok.1) (Nat.le_trans (Nat.pow_le_pow_right (by decide) (show x.cnt ≤ 6 by omega)) (by decide))
    refine ⟨.inl ⟨by omega, by omega⟩, ?_⟩
    refine fin ?_
    simp only [mny] at q
    rw [← Int.natCast_mul]
    exact q
  | ei ks =>
    simp only [Kd.depth] at hd
    simp only [Kd.cnt] at hc
    have hl := cnts_len ks
    simp only [kD]
    walk_at "dl7"
    rw [q_lc]
    walk_at "dl7"
    intro p np
    rw [kDs_map]
    refine lc_all kD (fun k => D.int (mny m k : Int)) trivial ks [] (sz1000 (by simp; omega)) (fun k mk R r => ?_) ?_
    · have := Kd.depth_mem mk
      have := Kd.cnt_mem mk
      walk_at "dl7"
      refine ⟨k, m, rfl, by omega, by omega, Kd.oks_mem.mp ok.2 k mk, hm, ?_⟩
      walk_at "dl7"
      exact r
    · rw [List.nil_append]
      walk_at "dl7"
      refine ⟨ks.map fun k => (mny m k : Int), by rw [List.map_map]; rfl, ?_⟩
      rw [del_put np]
      refine fin ?_
      rw [← mnys_sum]
      simp only [mny] at q
      exact q
  | mb x =>
    simp only [Kd.depth] at hd
    simp only [Kd.cnt] at hc
    simp only [kD]
    walk_at "dl7"
    refine ⟨x, m, rfl, by omega, by omega, ok, hm, ?_⟩
    walk_at "dl7"
    refine fin ?_
    simp only [mny] at q
    rw [show (1 : Int) + (mny m x : Int) = ((1 + mny m x : Nat) : Int) by omega]
    exact q
def ThOk (k : Kd) (lim : Int) (t0 t1 : Nat) : Prop := t0 ≤ 20 ∧ t1 ≤ 12 ∧ ((mny (2 * (t0 + t1) + 1) k : Int) ≤ lim ∨ (t0 = 0 ∧ t1 = 1))
def spTheory : Sp' := fun ds h Q _ => ∃ (a : Addr) (k : Kd) (lim : Int), ds = [.ref a, kD k, .int lim] ∧ k.depth ≤ 3 ∧ k.cnt ≤ 6 ∧ k.ok ∧ Tp h a ∧ ∀ (t0 t1 : Nat) t, ThOk k lim t0 t1 → TOk t → Q (thy t0 t1) (put h a t)
theorem rd__law_theory (ds : List D) (h : DH) (Q : VK') (E' : XK') (q : spTheory ds h Q E') : t__law_theory spDraw (spMany 3) (ends Q) (slots n__law_theory ds) h := by
  obtain ⟨a, k, lim, rfl, hd, hc, ok, tp, q⟩ := q
  show t__law_theory _ _ (ends Q) [some (.ref a), some (kD k), some (.int lim), none, none] h
  unfold t__law_theory
  walk_at "dl7"
  refine ⟨by decide, ?_⟩
  refine drw tp (fun r t r0 r1 ot => ?_) (by decide)
  walk_at "dl7"
  have me : ∀ x ∈ ([thy 20 12, thy 20 4, thy 20 6, thy 20 1, thy 7 12, thy 6 4, thy 4 6] ++ [thy 3 4, thy 2 3, thy 3 2, thy 2 2, thy 1 2, thy 1 1] : List D), ∃ t0 t1 : Nat, x = thy t0 t1 ∧ t0 ≤ 20 ∧ t1 ≤ 12 := by
    intro x m
    simp only [List.cons_append, List.nil_append, List.mem_cons, List.not_mem_nil, or_false] at m
    rcases m with rfl | rfl | rfl | rfl | rfl | rfl | rfl | rfl | rfl | rfl | rfl | rfl | rfl
    · exact ⟨20, 12, rfl, by decide, by decide⟩
    · exact ⟨20, 4, rfl, by decide, by decide⟩
    · exact ⟨20, 6, rfl, by decide, by decide⟩
    · exact ⟨20, 1, rfl, by decide, by decide⟩
    · exact ⟨7, 12, rfl, by decide, by decide⟩
    · exact ⟨6, 4, rfl, by decide, by decide⟩
    · exact ⟨4, 6, rfl, by decide, by decide⟩
    · exact ⟨3, 4, rfl, by decide, by decide⟩
    · exact ⟨2, 3, rfl, by decide, by decide⟩
    · exact ⟨3, 2, rfl, by decide, by decide⟩
    · exact ⟨2, 2, rfl, by decide, by decide⟩
    · exact ⟨1, 2, rfl, by decide, by decide⟩
    · exact ⟨1, 1, rfl, by decide, by decide⟩
  generalize hM : ([thy 20 12, thy 20 4, thy 20 6, thy 20 1, thy 7 12, thy 6 4, thy 4 6] ++ [thy 3 4, thy 2 3, thy 3 2, thy 2 2, thy 1 2, thy 1 1] : List D) = menu at me
  have hM2 : ([D.tup [D.int 20, D.int 12], D.tup [D.int 20, D.int 4], D.tup [D.int 20, D.int 6], D.tup [D.int 20, D.int 1], D.tup [D.int 7, D.int 12], D.tup [D.int 6, D.int 4], D.tup [D.int 4, D.int 6]] ++ [D.tup [D.int 3, D.int 4], D.tup [D.int 2, D.int 3], D.tup [D.int 3, D.int 2], D.tup [D.int 2, D.int 2], D.tup [D.int 1, D.int 2], D.tup [D.int 1, D.int 1]]) = menu := hM
  rw [hM2]
  refine for_ind (fun xs τ g => ∃ x4, τ = [some (.ref a), some (kD k), some (.int lim), some (.lis menu), x4] ∧ (∀ x ∈ xs, ∃ t0 t1 : Nat, x = thy t0 t1 ∧ t0 ≤ 20 ∧ t1 ≤ 12) ∧ put h a t = g) ?_ ?_ _ _ _ ⟨none, rfl, fun x m => me x (List.mem_of_mem_drop (List.mem_of_mem_take m)), rfl⟩
  · rintro τ g ⟨x4, rfl, _, rfl⟩
    rw [q_fnil]
    walk_at "dl7"
    exact fin (q 0 1 t ⟨by decide, by decide, .inr ⟨rfl, rfl⟩⟩ ot)
  · rintro x xs ih τ g ⟨x4, rfl, hx, rfl⟩
    obtain ⟨t0, t1, rfl, h0, h1⟩ := hx x List.mem_cons_self
    have nxt := fun x4 => ih _ _ ⟨x4, rfl, fun y m => hx y (List.mem_cons_of_mem _ m), rfl⟩
    rw [q_fcons]
    unfold thy
    walk_at "dl7"
    refine ⟨k, 2 * (t0 + t1) + 1, ?_, hd, hc, ok, by omega, ?_⟩
    · rw [show (2 : Int) * ((t0 : Int) + (t1 : Int)) + 1 = ((2 * (t0 + t1) + 1 : Nat) : Int) by omega]
    · walk_at "dl7"
      refine sif_i (fun c => ?_) (fun c => ?_)
      · walk_at "dl7"
        exact fin (q t0 t1 t ⟨h0, h1, .inl (of_decide_eq_true c)⟩ ot)
      · exact nxt _
def Mk (k : Kd) (l : List D) : Prop := ∀ x ∈ l, ∃ v b, x = .tup [v, .bl b] ∧ isL k v = true
theorem Mk.app {k : Kd} {l m : List D} (a : Mk k l) (b : Mk k m) : Mk k (l ++ m) := fun x h => (List.mem_append.mp h).elim (a x) (b x)
theorem Mk.one {k : Kd} {v : D} {b : Bool} (h : isL k v = true) : Mk k [.tup [v, .bl b]] := fun x m => ⟨v, b, List.mem_singleton.mp m, h⟩
def spMarked (n : Nat) : Sp' := fun ds h Q _ => ∃ (k : Kd) (t0 t1 : Nat), ds = [kD k, thy t0 t1] ∧ k.depth ≤ n ∧ k.ok ∧ t0 ≤ 20 ∧ t1 ≤ 12 ∧ mny (2 * (t0 + t1) + 1) k ≤ 100000 ∧
  ∀ r l g, Gr h g → LsAt h g r l → Mk k l → l.length = mny (2 * (t0 + t1) + 1) k → Q r g
theorem rd__law_marked (n : Nat) (ds : List D) (h : DH) (Q : VK') (E' : XK') (q : spMarked (n + 1) ds h Q E') : t__law_marked (spMarked n) (ends Q) (slots n__law_marked ds) h := by
  obtain ⟨k, t0, t1, rfl, hd, ok, h0, h1, hm, q⟩ := q
  show t__law_marked _ (ends Q) [some (kD k), some (thy t0 t1), none, none, none, none, none, none, none, none] h
  unfold t__law_marked
  have z : ∀ {n : Nat}, n ≤ 100000 → n < sizeLine := fun h => Nat.lt_of_le_of_lt h (by decide)
  have m1 : 1 ≤ 2 * (t0 + t1) + 1 := by omega
  generalize hM : 2 * (t0 + t1) + 1 = M at hm q m1
  cases k with
  | nm ns =>
    have ln := ok.2.1
    simp only [kD]
    walk_at "dl7"
    rw [q_lc]
    walk_at "dl7"
    intro p np
    refine lc_all D.str (fun x => D.tup [.str x, .bl false]) trivial ns [] (sz1000 (by simp; omega)) (fun x _ R r => ?_) ?_
    · walk_at "dl7"
      exact r
    · rw [List.nil_append]
      walk_at "dl7"
      rw [del_put np]
      refine fin (q _ _ _ Gr.refl (.inl rfl) (fun x m => ?_) (by simp only [mny, List.length_map]))
      obtain ⟨y, my, rfl⟩ := List.mem_map.mp m
      exact ⟨_, _, rfl, by simp only [isL]; exact List.contains_iff_mem.mpr my⟩
  | it =>
    simp only [kD]
    unfold thy
    walk_at "dl7"
    intro p np
    refine ⟨⟨by omega, by omega⟩, ?_⟩
    refine for_ind (fun xs τ g => ∃ (i : Int) (rem : Nat) (l : List D) (x3 : Option D), xs = rngD i rem ∧ τ = [some (.tup [.str "integers"]), some (.tup [.int t0, .int t1]), some (.ref p), x3, none, none, none, none, none, none] ∧ Mk .it l ∧ l.length + 2 * rem = M ∧ g = put h p (.lst l)) ?_ ?_ _ _ _ ⟨1, (t0 + t1 + 1 - 1 : Int).toNat, [.tup [.int 0, .bl false]], none, rfl, rfl, Mk.one (k := .it) (v := .int 0) rfl, by simp only [List.length_cons, List.length_nil]; omega, rfl⟩
    · rintro τ g ⟨i, rem, l, x3, e, rfl, ml, hl, rfl⟩
      rw [q_fnil]
      walk_at "dl7"
      have r0 : rem = 0 := by
        cases rem with
        | zero => rfl
        | succ n => rw [rngD_succ] at e; cases e
      exact fin (q _ l _ (Gr.refl.put np) (.inr ⟨p, rfl, np, put_same⟩) ml (by simp only [mny]; omega))
    · rintro x xs ih τ g ⟨i, rem, l, x3, e, rfl, ml, hl, rfl⟩
      cases rem with
      | zero => cases e
      | succ rem =>
        rw [rngD_succ] at e
        cases e
        simp only [mny] at hm
        rw [q_fcons]
        ((walk_at "dl7"); repeat (simp only [ownK]; (walk_at "dl7")))
        refine ⟨z (by omega), z (by simp only [List.length_append, List.length_cons, List.length_nil]; omega), ?_⟩
        exact ih _ _ ⟨i + 1, rem, _, _, rfl, rfl, (ml.app (Mk.one (k := .it) (v := .int i) rfl)).app (Mk.one (k := .it) (v := .int (-i)) rfl), by simp only [List.length_append, List.length_cons, List.length_nil]; omega, rfl⟩
  | pr x y =>
    simp only [Kd.depth] at hd
    have p1 := mny_pos m1 x ok.1
    have p2 := mny_pos m1 y ok.2
    simp only [mny] at hm
    have b1 : mny M x ≤ 100000 := Nat.le_trans (Nat.le_mul_of_pos_right _ p2) hm
    have b2 : mny M y ≤ 100000 := Nat.le_trans (Nat.le_mul_of_pos_left _ p1) hm
    simp only [kD]
    walk_at "dl7"
    intro p np
    refine ⟨y, t0, t1, rfl, by omega, ok.2, h0, h1, by rw [hM]; exact b2, fun r2 l2 g2 e2 a2 k2 n2 => ?_⟩
    walk_at "dl7"
    refine ⟨x, t0, t1, rfl, by omega, ok.1, h0, h1, by rw [hM]; exact b1, fun r1 l1 g1 e1 a1 k1 n1 => ?_⟩
    have hA : put h p (.lst []) p ≠ none := by rw [put_same]; exact fun z => by cases z
    have gA : g2 p = some (.lst []) := e2.keep put_same
    have x2 := (a2.x hA).gr e1
    have x1 : LsX p g1 r1 l1 := a1.x (by rw [gA]; exact fun z => by cases z)
    have gp : g1 p = some (.lst []) := e1.keep gA
    have ge : ∀ acc, Gr h (put g1 p (.lst acc)) := fun acc b n => by
      have c : b ≠ p := fun c => n (by rw [c]; exact np)
      rw [put_ne c, (e2.trans e1) b (by rw [put_ne c]; exact n), put_ne c]
    have g1e : g1 = put g1 p (.lst []) := by
      funext b
      by_cases c : b = p
      · subst c; rw [put_same, gp]
      · rw [put_ne c]
    rw [g1e]
    refine x1.put.walk fun C hC => ?_
    refine for_ind (fun xs τ g => ∃ (acc : List D) (x5 x6 : Option D), τ = [some (.tup [.str "pair", kD x, kD y]), some (.tup [.int t0, .int t1]), some (.ref p), none, some r2, x5, x6, none, none, none] ∧ Mk x xs ∧ Mk (.pr x y) acc ∧ acc.length + xs.length * l2.length = mny M x * mny M y ∧ g = put g1 p (.lst acc)) ?_ ?_ _ _ _ ⟨[], none, none, rfl, k1, (fun _ m => by cases m), by rw [List.length_nil, Nat.zero_add, n1, n2, hM], rfl⟩
    · rintro τ g ⟨acc, x5, x6, rfl, _, ka, na, rfl⟩
      rw [q_fnil]
      refine ⟨hC _ fun b n => by rw [put_ne n, put_ne n], ?_⟩
      walk_at "dl7"
      exact fin (q _ acc _ (ge acc) (.inr ⟨p, rfl, np, put_same⟩) ka (by simp only [mny]; rw [← na]; simp))
    · rintro e1' xs ih τ g ⟨acc, x5, x6, rfl, kx, ka, na, rfl⟩
      obtain ⟨v1, c1, rfl, i1⟩ := kx _ List.mem_cons_self
      rw [q_fcons]
      refine ⟨hC _ fun b n => by rw [put_ne n, put_ne n], ?_⟩
      walk_at "dl7"
      refine x2.put.walk fun C2 hC2 => ?_
      refine for_ind (fun ys τ g => ∃ (acc : List D) (x6 : Option D), τ = [some (.tup [.str "pair", kD x, kD y]), some (.tup [.int t0, .int t1]), some (.ref p), none, some r2, some (.tup [v1, .bl c1]), x6, none, none, none] ∧ Mk y ys ∧ Mk (.pr x y) acc ∧ acc.length + ys.length + xs.length * l2.length = mny M x * mny M y ∧ g = put g1 p (.lst acc)) ?_ ?_ _ _ _ ⟨acc, _, rfl, k2, ka, by rw [← na, List.length_cons, Nat.succ_mul]; omega, rfl⟩
      · rintro τ g ⟨acc, x6, rfl, _, ka, na, rfl⟩
        rw [q_fnil]
        refine ⟨hC2 _ fun b n => by rw [put_ne n, put_ne n], ?_⟩
        exact ih _ _ ⟨acc, _, _, rfl, fun u m => kx u (List.mem_cons_of_mem _ m), ka, by rw [← na, List.length_nil]; omega, rfl⟩
      · rintro e2' ys ih2 τ g ⟨acc, x6, rfl, ky, ka, na, rfl⟩
        obtain ⟨v2, c2, rfl, i2⟩ := ky _ List.mem_cons_self
        rw [List.length_cons] at na
        rw [q_fcons]
        refine ⟨hC2 _ fun b n => by rw [put_ne n, put_ne n], ?_⟩
        have i3 : isL (.pr x y) (.tup [.str "pair", v1, v2]) = true := by simp only [isL]; rw [i1, i2]; rfl
        walk_at "dl7"
        refine ⟨by unfold ownK; rw [put_same]; trivial, sif_i (fun _ => ?_) (fun _ => ?_)⟩
        · ((walk_at "dl7"); repeat (simp only [ownK]; (walk_at "dl7")))
          refine ⟨z (by omega), ?_⟩
          exact ih2 _ _ ⟨_, _, rfl, fun u m => ky u (List.mem_cons_of_mem _ m), ka.app (Mk.one i3), by rw [List.length_append, List.length_singleton]; omega, rfl⟩
        · ((walk_at "dl7"); repeat (simp only [ownK]; (walk_at "dl7")))
          refine ⟨z (by omega), ?_⟩
          exact ih2 _ _ ⟨_, _, rfl, fun u m => ky u (List.mem_cons_of_mem _ m), ka.app (Mk.one i3), by rw [List.length_append, List.length_singleton]; omega, rfl⟩
  | ei ks =>
    simp only [Kd.depth] at hd
    simp only [mny] at hm
    simp only [kD]
    walk_at "dl7"
    intro p np
    have kl := mnys_len m1 ks ok.2
    have kl2 : ks.length ≤ 100000 := by omega
    have ekl : (kDs ks).length = ks.length := by rw [kDs_map, List.length_map]
    rw [ekl]
    refine ⟨by omega, by omega, ?_⟩
    rw [Int.toNat_natCast]
    refine for_ind (fun xs τ g => ∃ (i rem : Nat) (acc : List D) (x7 x8 : Option D), xs = rngD (i : Int) rem ∧ i + rem = ks.length ∧ τ = [some (.tup [.str "either", .tup (kDs ks)]), some (thy t0 t1), some (.ref p), none, none, none, none, x7, x8, none] ∧ Mk (.ei ks) acc ∧ acc.length + mnys M (ks.drop i) = mnys M ks ∧ g p = some (.lst acc) ∧ ∀ b, b ≠ p → h b ≠ none → g b = h b) ?_ ?_ _ _ _ ⟨0, ks.length, [], none, none, rfl, by omega, rfl, (fun _ m => by cases m), by simp, put_same, fun b n _ => put_ne n⟩
    · rintro τ g ⟨i, rem, acc, x7, x8, e, hi, rfl, ka, na, gp, ge⟩
      rw [q_fnil]
      have r0 : rem = 0 := by
        cases rem with
        | zero => rfl
        | succ n => rw [rngD_succ] at e; cases e
      rw [List.drop_eq_nil_of_le (by omega)] at na
      walk_at "dl7"
      refine fin (q _ acc _ (fun b n => ?_) (.inr ⟨p, rfl, np, gp⟩) ka (by simp only [mny]; rw [← na]; simp [mnys]))
      exact ge b (fun c => n (by rw [c]; exact np)) n
    · rintro x xs ih τ g ⟨i, rem, acc, x7, x8, e, hi, rfl, ka, na, gp, ge⟩
      cases rem with
      | zero => cases e
      | succ rem =>
        rw [rngD_succ] at e
        cases e
        have il : i < ks.length := by omega
        have ek : ks[i]? = some ks[i] := List.getElem?_eq_getElem il
        have mk := List.getElem_mem il
        rw [List.drop_eq_getElem_cons il] at na
        generalize hk : ks[i] = k at na ek mk
        have dk := Kd.depth_mem mk
        have okk := Kd.oks_mem.mp ok.2 k mk
        simp only [mnys] at na
        rw [q_fcons]
        walk_at "dl7"
        refine ⟨_, atI_kDs (by omega) (by rw [Int.toNat_natCast]; exact ek), ?_⟩
        refine ⟨k, t0, t1, rfl, by omega, okk, h0, h1, by rw [hM]; omega, fun r2 l2 g2 e2 a2 k2 n2 => ?_⟩
        have x2 := a2.x (p := p) (by rw [gp]; exact fun z => by cases z)
        have gp2 := e2.keep gp
        have g1e : g2 = put g2 p (.lst acc) := by
          funext b
          by_cases c : b = p
          · subst c; rw [put_same, gp2]
          · rw [put_ne c]
        have ge2 : ∀ acc b, b ≠ p → h b ≠ none → (put g2 p (.lst acc)) b = h b := fun acc b n m => by
          have e1 := ge b n m
          rw [put_ne n, e2 b (by rw [e1]; exact m), e1]
        rw [g1e]
        refine x2.put.walk fun C hC => ?_
        refine for_ind (fun ys τ g => ∃ (acc : List D) (x8 : Option D), τ = [some (.tup [.str "either", .tup (kDs ks)]), some (thy t0 t1), some (.ref p), none, none, none, none, some (.int (i : Int)), x8, none] ∧ Mk k ys ∧ Mk (.ei ks) acc ∧ acc.length + ys.length + mnys M (ks.drop (i + 1)) = mnys M ks ∧ g = put g2 p (.lst acc)) ?_ ?_ _ _ _ ⟨acc, _, rfl, k2, ka, by rw [n2, hM]; omega, rfl⟩
        · rintro τ g ⟨acc, x8, rfl, _, ka, na, rfl⟩
          rw [q_fnil]
          refine ⟨hC _ fun b n => by rw [put_ne n, put_ne n], ?_⟩
          exact ih _ _ ⟨i + 1, rem, acc, _, _, rfl, by omega, rfl, ka, by simpa using na, put_same, ge2 acc⟩
        · rintro e1' ys ih2 τ g ⟨acc, x8, rfl, kx, ka, na, rfl⟩
          obtain ⟨v1, c1, rfl, i1⟩ := kx _ List.mem_cons_self
          rw [List.length_cons] at na
          rw [q_fcons]
          refine ⟨hC _ fun b n => by rw [put_ne n, put_ne n], ?_⟩
          ((walk_at "dl7"); repeat (simp only [ownK]; (walk_at "dl7")))
          refine ⟨z (by omega), ?_⟩
          have iv : isL (.ei ks) (.tup [.str "case", .int (i : Int), v1]) = true := by
            simp only [isL]
            rw [isLn_get, Int.toNat_natCast, ek]
            simp only [i1, isStr, Bool.and_true, decide_true, Bool.true_and, decide_eq_true_eq]
            omega
          exact ih2 _ _ ⟨_, _, rfl, fun u m => kx u (List.mem_cons_of_mem _ m), ka.app (Mk.one iv), by rw [List.length_append, List.length_singleton]; omega, rfl⟩
  | mb x =>
    simp only [Kd.depth] at hd
    simp only [mny] at hm
    simp only [kD]
    ((walk_at "dl7"); repeat (simp only [ownK]; (walk_at "dl7")))
    intro p np
    refine ⟨z (by decide), x, t0, t1, rfl, by omega, ok, h0, h1, by rw [hM]; omega, fun r2 l2 g2 e2 a2 k2 n2 => ?_⟩
    have hA : put h p (.lst [.tup [.tup [.str "none"], .bl false]]) p ≠ none := by rw [put_same]; exact fun z => by cases z
    have gp : g2 p = some (.lst [.tup [.tup [.str "none"], .bl false]]) := e2.keep put_same
    have x2 := a2.x hA
    have ge : ∀ acc, Gr h (put g2 p (.lst acc)) := fun acc b n => by
      have c : b ≠ p := fun c => n (by rw [c]; exact np)
      rw [put_ne c, e2 b (by rw [put_ne c]; exact n), put_ne c]
    have g1e : g2 = put g2 p (.lst [.tup [.tup [.str "none"], .bl false]]) := by
      funext b
      by_cases c : b = p
      · subst c; rw [put_same, gp]
      · rw [put_ne c]
    rw [g1e]
    refine x2.put.walk fun C hC => ?_
    refine for_ind (fun xs τ g => ∃ (acc : List D) (x8 : Option D), τ = [some (.tup [.str "maybe", kD x]), some (.tup [.int t0, .int t1]), some (.ref p), none, none, none, none, none, x8, none] ∧ Mk x xs ∧ Mk (.mb x) acc ∧ acc.length + xs.length = 1 + mny M x ∧ g = put g2 p (.lst acc)) ?_ ?_ _ _ _ ⟨[.tup [.tup [.str "none"], .bl false]], none, rfl, k2, Mk.one (k := .mb x) (v := .tup [.str "none"]) rfl, by rw [List.length_singleton, n2, hM], rfl⟩
    · rintro τ g ⟨acc, x8, rfl, _, ka, na, rfl⟩
      rw [q_fnil]
      refine ⟨hC _ fun b n => by rw [put_ne n, put_ne n], ?_⟩
      walk_at "dl7"
      exact fin (q _ acc _ (ge acc) (.inr ⟨p, rfl, np, put_same⟩) ka (by simp only [mny]; rw [← na]; simp))
    · rintro e1' xs ih τ g ⟨acc, x8, rfl, kx, ka, na, rfl⟩
      obtain ⟨v1, c1, rfl, i1⟩ := kx _ List.mem_cons_self
      rw [List.length_cons] at na
      rw [q_fcons]
      refine ⟨hC _ fun b n => by rw [put_ne n, put_ne n], ?_⟩
      ((walk_at "dl7"); repeat (simp only [ownK]; (walk_at "dl7")))
      refine ⟨z (by omega), ?_⟩
      exact ih _ _ ⟨_, _, rfl, fun u m => kx u (List.mem_cons_of_mem _ m), ka.app (Mk.one (k := .mb x) (v := .tup [.str "some", v1]) (by simp only [isL]; rw [i1]; rfl)), by rw [List.length_append, List.length_singleton]; omega, rfl⟩
def spLetters41 (n : Nat) : Sp' := fun ds h Q _ => ∃ (k : Kd) (t0 t1 : Nat), ds = [kD k, thy t0 t1] ∧ k.depth ≤ n ∧ k.ok ∧ t0 ≤ 20 ∧ t1 ≤ 12 ∧ mny (2 * (t0 + t1) + 1) k ≤ 100000 ∧
  ∀ l g, Gr h g → (∀ v ∈ l, isL k v = true) → l.length = mny (2 * (t0 + t1) + 1) k → Q (.lis l) g
theorem mk_split {k : Kd} : ∀ {l : List D}, Mk k l → ∃ vs : List (D × Bool), l = vs.map (fun p => .tup [p.1, .bl p.2]) ∧ ∀ p ∈ vs, isL k p.1 = true
  | [], _ => ⟨[], rfl, fun _ m => by cases m⟩
  | x :: l, h => by
    obtain ⟨v, b, rfl, i⟩ := h _ List.mem_cons_self
    obtain ⟨vs, rfl, hv⟩ := mk_split fun y m => h y (List.mem_cons_of_mem _ m)
    refine ⟨(v, b) :: vs, rfl, fun p m => ?_⟩
    rcases List.mem_cons.mp m with rfl | m
    · exact i
    · exact hv p m
theorem rd__law_letters (n : Nat) (ds : List D) (h : DH) (Q : VK') (E' : XK') (q : spLetters41 n ds h Q E') : t__law_letters (spMarked n) (ends Q) (slots n__law_letters ds) h := by
  obtain ⟨k, t0, t1, rfl, hd, ok, h0, h1, hm, q⟩ := q
  show t__law_letters _ (ends Q) [some (kD k), some (thy t0 t1), none] h
  unfold t__law_letters
  walk_at "dl7"
  rw [q_lc]
  walk_at "dl7"
  refine ⟨k, t0, t1, rfl, hd, ok, h0, h1, hm, fun r l g e a mk nl => ?_⟩
  obtain ⟨vs, rfl, hv⟩ := mk_split mk
  rw [List.length_map] at nl
  have fin2 : ∀ g', Gr h g' → (ends Q).rt (.lis (vs.map (·.1))) g' := fun g' e => fin (q _ _ e (fun v m => by
    obtain ⟨p, mp, rfl⟩ := List.mem_map.mp m
    exact hv p mp) (by rw [List.length_map]; exact nl))
  have go : ∀ (C : DH → Prop) (p : Addr), g p = none → C (put g p .hid) → lcS 2 tyes (to opIx (tv 2) (tc (.int 0))) C [some (kD k), some (thy t0 t1), none] (fun ds h2 => (ends Q).rt (.lis ds) (del h2 p)) (vs.map fun p => D.tup [p.1, .bl p.2]) [] (put g p .hid) := fun C p np hc => by
    refine lc_all (fun p : D × Bool => D.tup [p.1, .bl p.2]) (fun p => p.1) hc vs [] (by rw [List.length_nil, nl]; exact Nat.le_trans (by omega) (show 100000 ≤ sizeLine by decide)) (fun p _ R r => ?_) ?_
    · walk_at "dl7"
      exact r
    · rw [List.nil_append, del_put np]
      exact fin2 _ e
  rcases a with rfl | ⟨b, rfl, hb, gb⟩
  · exact fun p np => go _ p np trivial
  · exact ⟨_, gb, fun p np => go _ p np (by rw [put_ne (fun z => by rw [z, np] at gb; cases gb)]; exact gb)⟩
def thm (k : Kd) (t0 t1 : Nat) (l : List D) : D := .lis [kD k, thy t0 t1, .lis l]
structure Thm (k : Kd) (t0 t1 : Nat) (l : List D) : Prop where
  kk : k.ok
  kd : k.depth ≤ 3
  kc : k.cnt ≤ 6
  a0 : t0 ≤ 20
  a1 : t1 ≤ 12
  ls : ∀ v ∈ l, isL k v = true
  ln : l.length ≤ 5000
def spTheme : Sp' := fun ds h Q _ => ∃ (a : Addr) (lim : Int), ds = [.ref a, .int lim] ∧ lim ≤ 5000 ∧ Tp h a ∧ ∀ k t0 t1 l g, Thm k t0 t1 l → GrT a h g → Q (thm k t0 t1 l) g
theorem rd__law_theme (ds : List D) (h : DH) (Q : VK') (E' : XK') (q : spTheme ds h Q E') : t__law_theme spAnyKind spTheory (spLetters41 3) (ends Q) (slots n__law_theme ds) h := by
  obtain ⟨a, lim, rfl, hlim, tp, q⟩ := q
  show t__law_theme _ _ _ (ends Q) [some (.ref a), some (.int lim), none, none] h
  unfold t__law_theme
  walk_at "dl7"
  refine ⟨a, rfl, tp, fun k t hk kd kc ot => ?_⟩
  walk_at "dl7"
  refine ⟨a, k, lim, rfl, kd, kc, hk, tp_put ot, fun t0 t1 t tk ot => ?_⟩
  walk_at "dl7"
  have hm : mny (2 * (t0 + t1) + 1) k ≤ 5000 := by
    rcases tk.2.2 with c | ⟨rfl, rfl⟩
    · omega
    · exact Nat.le_trans (mny_le (B := 4) (by decide) (by decide) k hk) (Nat.le_trans (Nat.pow_le_pow_right (by decide) kc) (by decide))
  refine ⟨k, t0, t1, rfl, kd, hk, tk.1, tk.2.1, by omega, fun l g e hl nl => ?_⟩
  walk_at "dl7"
  exact fin (q k t0 t1 l g ⟨hk, kd, kc, tk.1, tk.2.1, hl, by omega⟩ (GrT.of ot e))
end K41
-- set2
set_option Elab.async false
set_option linter.all false
set_option maxRecDepth 100000
set_option maxHeartbeats 1000000
namespace K41
open PySem PySem.Spec PyProof.Rows L2 DL K00 K01 K03 K04 K22
theorem own_i {g : DH} {p : Addr} {ds : List D} {k : List D → Prop} (e : g p = some (.lst ds)) (q : k ds) : ownK g p k := by
  unfold ownK
  rw [e]
  exact q
abbrev spMet41 : Sp' := spLawMeets wf3 tru inS 40
theorem met_call {k : Kd} {c : Cn} {v : D} {h : DH} {Q : VK'} (o : cnOk k c) (i : isL k v = true) (q : Q (.bl (metC inS c v)) h) : spMet41 [cD c, v] h Q (fun _ _ => False) :=
  ⟨k, c, v, rfl, by have := c.depth_cnt; have := o.2.2.2; omega, o.1, o.2.1, o.2.2.1, i, q⟩
def trB (M : Mc) (v : D) : List Bool := M.sp.map fun s => metC inS s.2.1 v
def trD (M : Mc) (v : D) : D := .lis ((trB M v).map .bl)
theorem trD_eq (M : Mc) (v : D) : trD M v = .lis (M.sp.map fun s => .bl (metC inS s.2.1 v)) := by unfold trD trB; rw [List.map_map]; rfl
def spTruths : Sp' := fun ds h Q _ => ∃ M l, ds = [mD M, .lis l] ∧ M.ok ∧ (∀ v ∈ l, isL M.k v = true) ∧ l.length ≤ 6000 ∧ ∀ p, h p = none → Q (.ref p) (put h p (.lst (l.map (trD M))))
theorem rd__law_truths (ds : List D) (h : DH) (Q : VK') (E' : XK') (q : spTruths ds h Q E') : t__law_truths spMet41 (ends Q) (slots n__law_truths ds) h := by
  obtain ⟨M, l, rfl, o, hl, ll, q⟩ := q
  have h50 := o.sl
  show t__law_truths _ (ends Q) [some (mD M), some (.lis l), none, none, none] h
  unfold t__law_truths
  walk_at "dl7"
  intro p np
  refine for_ind (fun xs τ g => ∃ (ys : List D) (x3 : Option D), l = ys ++ xs ∧ τ = [some (mD M), some (.lis l), some (.ref p), x3, none] ∧ g = put h p (.lst (ys.map (trD M)))) ?_ ?_ _ _ _ ⟨[], none, rfl, rfl, rfl⟩
  · rintro τ g ⟨ys, x3, e, rfl, rfl⟩
    rw [q_fnil]
    walk_at "dl7"
    rw [List.append_nil] at e
    rw [← e]
    exact fin (q p np)
  · rintro v xs ih τ g ⟨ys, x3, e, rfl, rfl⟩
    have iv := hl v (by rw [e]; simp)
    have nl : ys.length ≤ 6000 := by rw [e, List.length_append] at ll; omega
    rw [q_fcons]
    unfold mD
    ((walk_at "dl7"); repeat (simp only [ownK]; (walk_at "dl7")))
    rw [q_lc]
    walk_at "dl7"
    intro p2 np2
    refine lc_all stD (fun s : Spp => D.bl (metC inS s.2.1 v)) trivial M.sp [] (sz1000 (by simp; omega)) (fun s ms R r => ?_) ?_
    · simp only [stD]
      walk_at "dl7"
      exact met_call (o.sp s ms).2.2.2.2 iv r
    · rw [List.nil_append]
      walk_at "dl7"
      rw [del_put np2]
      ((walk_at "dl7"); repeat (simp only [ownK]; (walk_at "dl7")))
      refine ⟨by rw [List.length_map]; exact Nat.lt_of_le_of_lt nl (by decide), ?_⟩
      exact ih _ _ ⟨ys ++ [v], _, by rw [e]; simp, rfl, by rw [List.map_append, List.map_singleton, trD_eq M v]⟩
def spWhere : Sp' := fun ds h Q _ => ∃ (k : Kd) (cs : List Cn) (l : List D), ds = [.lis (cs.map cD), .lis l] ∧ (∀ c ∈ cs, cnOk k c) ∧ (∀ v ∈ l, isL k v = true) ∧ cs.length ≤ 1000 ∧ l.length ≤ 6000 ∧
  ∀ p q g (cl : List (List Bool × D)), Gr h g → h p = none → g p = some (.lst (cl.map fun x => .tup [.tup (x.1.map .bl), x.2])) → (∀ x ∈ cl, x.2 ∈ l) → cl.length ≤ l.length → Q (.lis [.ref p, .ref q]) g
theorem rd__law_where (ds : List D) (h : DH) (Q : VK') (E' : XK') (q : spWhere ds h Q E') : t__law_where spMet41 (ends Q) (slots n__law_where ds) h := by
  obtain ⟨k, cs, l, rfl, hc, hl, lc, ll, q⟩ := q
  show t__law_where _ (ends Q) [some (.lis (cs.map cD)), some (.lis l), none, none, none, none, none, none] h
  unfold t__law_where
  ((walk_at "dl7"); repeat (simp only [q_ednew]; (walk_at "dl7")))
  intro p1 n1 p2 n2 p3 n3
  have n21 : p2 ≠ p1 := ne_put n2
  have n2' : h p2 = none := free_put n2
  have n32 : p3 ≠ p2 := ne_put n3
  have n3' := free_put n3
  have n31 : p3 ≠ p1 := ne_put n3'
  have n3'' : h p3 = none := free_put n3'
  refine for_ind (fun xs τ g => ∃ (ys : List D) (ps : List (D × D)) (cl : List (List Bool × D)) (wl : List D) (x5 x6 : Option D), l = ys ++ xs ∧ τ = [some (.lis (cs.map cD)), some (.lis l), some (.ref p1), some (.ref p2), some (.ref p3), x5, x6, none] ∧
    Gr h g ∧ g p1 = some (.ded ps) ∧ g p2 = some (.lst (cl.map fun x => .tup [.tup (x.1.map .bl), x.2])) ∧ g p3 = some (.lst wl) ∧ ps.length ≤ ys.length ∧ cl.length ≤ ys.length ∧ wl.length ≤ ys.length ∧ ∀ x ∈ cl, x.2 ∈ l) ?_ ?_ _ _ _
    ⟨[], [], [], [], none, none, rfl, rfl, ((Gr.refl.put n1).put n2').put n3'', by rw [put_ne (Ne.symm n31), put_ne (Ne.symm n21), put_same], by rw [put_ne (Ne.symm n32), put_same]; rfl, put_same, Nat.le_refl _, Nat.le_refl _, Nat.le_refl _, fun _ m => by cases m⟩
  · rintro τ g ⟨ys, ps, cl, wl, x5, x6, e, rfl, gr, g1, g2, g3, l1, l2, l3, hcl⟩
    rw [q_fnil]
    walk_at "dl7"
    rw [List.append_nil] at e
    exact fin (q p2 p3 g cl gr n2' g2 hcl (by rw [e]; exact l2))
  · rintro v xs ih τ g ⟨ys, ps, cl, wl, x5, x6, e, rfl, gr, g1, g2, g3, l1, l2, l3, hcl⟩
    have iv := hl v (by rw [e]; simp)
    have yl : ys.length < 6000 := by rw [e, List.length_append, List.length_cons] at ll; omega
    have z : ∀ {n : Nat}, n ≤ ys.length → n < sizeLine := fun h => Nat.lt_of_le_of_lt (Nat.le_trans h (by omega)) (show 6000 < sizeLine by decide)
    rw [q_fcons]
    walk_at "dl7"
    rw [q_lc]
    walk_at "dl7"
    intro p np
    have bsl : cs.length ≤ sizeLine := Nat.le_trans lc (by decide)
    refine lc_all cD (fun c => D.bl (metC inS c v)) trivial cs [] (by simpa using bsl) (fun c mc R r => ?_) ?_
    · walk_at "dl7"
      exact met_call (hc c mc) iv r
    · rw [List.nil_append]
      walk_at "dl7"
      rw [del_put np, show (cs.map fun c => D.bl (metC inS c v)) = ((cs.map fun c => metC inS c v).map D.bl) from by rw [List.map_map]; rfl]
      generalize (cs.map fun c => metC inS c v) = bs
      refine ⟨fun τ g' => ∃ (ps : List (D × D)) (cl : List (List Bool × D)), τ = [some (.lis (cs.map cD)), some (.lis l), some (.ref p1), some (.ref p2), some (.ref p3), some v, some (.tup (bs.map .bl)), none] ∧
        Gr h g' ∧ g' p1 = some (.ded ps) ∧ g' p2 = some (.lst (cl.map fun x => .tup [.tup (x.1.map .bl), x.2])) ∧ g' p3 = some (.lst wl) ∧ ps.length ≤ ys.length + 1 ∧ cl.length ≤ ys.length + 1 ∧ (∀ x ∈ cl, x.2 ∈ l) ∧ (eV ps (kB bs)).isSome = true, ?_, ?_⟩
      · walk_at "dl7"
        rw [q_einE g1 (isK_B bs)]
        walk_at "dl7"
        refine sif_i (fun c => ?_) (fun c => ?_)
        · walk_at "dl7"
          refine own_i g2 ?_
          rw [q_gesub]
          walk_at "dl7"
          refine ⟨p1, ps, kB bs, rfl, g1, isK_B bs, z l1, ?_⟩
          walk_at "dl7"
          have g2' : put g p1 (.ded (ePut ps (kB bs) (.tup (bs.map .bl)) (.int (cl.map fun x => D.tup [.tup (x.1.map .bl), x.2]).length))) p2 = some (.lst (cl.map fun x => .tup [.tup (x.1.map .bl), x.2])) := by rw [put_ne n21]; exact g2
          refine ⟨own_i g2' trivial, own_i g2' ⟨by rw [List.length_map]; exact z l2, ?_⟩⟩
          refine ⟨_, cl ++ [(bs, v)], (gr.put n1).put n2', by rw [put_ne (Ne.symm n21), put_same], by rw [List.map_append]; rfl, by rw [put_ne n32, put_ne n31]; exact g3, Nat.le_trans ePut_len (by omega), by rw [List.length_append, List.length_singleton]; omega, fun x m => ?_, ?_⟩
          · rcases List.mem_append.mp m with m | m
            · exact hcl x m
            · rw [List.mem_singleton.mp m, e]; simp
          · rw [eV_put (isK_B bs).2.1, if_pos rfl]; rfl
        · walk_at "dl7"
          refine ⟨ps, cl, gr, g1, g2, g3, by omega, by omega, hcl, ?_⟩
          simpa using c
      · rintro τ g' ⟨ps, cl, rfl, gr, g1, g2, g3, l1, l2, hcl, sm⟩
        obtain ⟨d, ed⟩ := Option.isSome_iff_exists.mp sm
        walk_at "dl7"
        rw [q_eixE g1 (isK_B bs) ed]
        walk_at "dl7"
        refine ⟨own_i g3 trivial, own_i g3 ⟨z l3, ?_⟩⟩
        exact ih _ _ ⟨ys ++ [v], ps, cl, wl ++ [d], _, _, by rw [e]; simp, rfl, gr.put n3'', by rw [put_ne (Ne.symm n31)]; exact g1, by rw [put_ne (Ne.symm n32)]; exact g2, put_same, by rw [List.length_append, List.length_singleton]; omega, by rw [List.length_append, List.length_singleton]; omega, by rw [List.length_append, List.length_append, List.length_singleton, List.length_singleton]; omega, hcl⟩
end K41
-- set2
set_option Elab.async false
set_option linter.all false
set_option maxRecDepth 100000
set_option maxHeartbeats 1000000
namespace K41
open PySem PySem.Spec PyProof.Rows L2 DL K00 K01 K03 K04 K22
def cnsOf (Ms : List Mc) : List Cn := Ms.flatMap fun M => M.sp.map (·.2.1)
theorem cns_len : ∀ {Ms : List Mc}, (∀ M ∈ Ms, M.ok) → (cnsOf Ms).length ≤ 50 * Ms.length
  | [], _ => Nat.le_refl _
  | M :: Ms, h => by
    have i := cns_len (Ms := Ms) fun N m => h N (List.mem_cons_of_mem _ m)
    have := (h M List.mem_cons_self).sl
    unfold cnsOf at i ⊢
    rw [List.flatMap_cons, List.length_append, List.length_map, List.length_cons]
    omega
def spCnsOf : Sp' := fun ds h Q _ => ∃ Ms : List Mc, ds = [.lis (Ms.map mD)] ∧ (∀ M ∈ Ms, M.ok) ∧ Ms.length ≤ 20 ∧ Q (.lis ((cnsOf Ms).map cD)) h
theorem rd__law_conditions_of (ds : List D) (h : DH) (Q : VK') (E' : XK') (q : spCnsOf ds h Q E') : t__law_conditions_of (ends Q) (slots n__law_conditions_of ds) h := by
  obtain ⟨Ms, rfl, ho, ll, q⟩ := q
  show t__law_conditions_of (ends Q) [some (.lis (Ms.map mD)), none, none, none] h
  unfold t__law_conditions_of
  walk_at "dl7"
  refine for_ind (fun xs τ g => ∃ (As Bs : List Mc) (x2 : Option D), xs = Bs.map mD ∧ Ms = As ++ Bs ∧ τ = [some (.lis (Ms.map mD)), some (.lis ((cnsOf As).map cD)), x2, none] ∧ h = g) ?_ ?_ _ _ _ ⟨[], Ms, none, rfl, rfl, rfl, rfl⟩
  · rintro τ g ⟨As, Bs, x2, e, e2, rfl, rfl⟩
    rw [q_fnil]
    walk_at "dl7"
    have e : Bs = [] := List.map_eq_nil_iff.mp e.symm
    subst e
    rw [List.append_nil] at e2
    rw [← e2]
    exact fin q
  · rintro x xs ih τ g ⟨As, Bs, x2, e, e2, rfl, rfl⟩
    cases Bs with
    | nil => cases e
    | cons M Bs =>
      rw [List.map_cons, List.cons.injEq] at e
      obtain ⟨rfl, rfl⟩ := e
      have oM := ho M (by rw [e2]; simp)
      have h50 := oM.sl
      have la := cns_len (Ms := As) fun N m => ho N (by rw [e2]; simp [m])
      have ll2 : As.length ≤ 20 := by rw [e2, List.length_append] at ll; omega
      rw [q_fcons]
      unfold mD
      walk_at "dl7"
      rw [q_lc]
      walk_at "dl7"
      intro p np
      refine lc_all stD (fun s : Spp => cD s.2.1) trivial M.sp [] (sz1000 (by simp; omega)) (fun s ms R r => ?_) ?_
      · simp only [stD]
        walk_at "dl7"
        exact r
      · rw [List.nil_append]
        walk_at "dl7"
        rw [del_put np]
        refine ⟨Nat.le_trans (by rw [List.length_map, List.length_map]; omega) (show 2000 ≤ sizeLine by decide), ?_⟩
        have ec : (cnsOf (As ++ [M])).map cD = (cnsOf As).map cD ++ M.sp.map fun s => cD s.2.1 := by
          unfold cnsOf
          rw [List.flatMap_append, List.flatMap_singleton, List.map_append, List.map_map]
          rfl
        exact ih _ _ ⟨As ++ [M], Bs, some (mD M), rfl, by rw [e2]; simp, by rw [ec]; rfl, rfl⟩
def spSigns : Sp' := fun ds h Q _ => ∃ (a : Addr) (k : Kd) (t0 t1 : Nat) (l : List D) (Ms : List Mc), ds = [.ref a, thm k t0 t1 l, .lis (Ms.map mD)] ∧ Thm k t0 t1 l ∧ (∀ M ∈ Ms, M.ok ∧ M.k = k) ∧ Ms.length ≤ 20 ∧ Tp h a ∧
  ∀ sl g, GrT a h g → (∀ v ∈ sl, isL k v = true) → sl.length ≤ 6000 → Q (.lis sl) g
theorem rd__law_signs (ds : List D) (h : DH) (Q : VK') (E' : XK') (q : spSigns ds h Q E') : t__law_signs spCnsOf spWhere (spLetter 3) (ends Q) (slots n__law_signs ds) h := by
  obtain ⟨a, k, t0, t1, l, Ms, rfl, th, ho, ll, tp, q⟩ := q
  have a0 := th.a0
  have kc := th.kc
  show t__law_signs _ _ _ (ends Q) [some (.ref a), some (thm k t0 t1 l), some (.lis (Ms.map mD)), none, none, none] h
  unfold t__law_signs thm
  walk_at "dl7"
  rw [q_lc]
  walk_at "dl7"
  refine ⟨Ms, rfl, fun M m => (ho M m).1, ll, ?_⟩
  walk_at "dl7"
  have cl := cns_len fun M m => (ho M m).1
  refine ⟨k, cnsOf Ms, l, rfl, fun c m => ?_, th.ls, by omega, Nat.le_trans th.ln (by decide), fun p q2 g cl gr hp gp hcl ncl => ?_⟩
  · obtain ⟨M, mM, mc⟩ := List.mem_flatMap.mp m
    obtain ⟨s, ms, rfl⟩ := List.mem_map.mp mc
    have := ((ho M mM).1.sp s ms).2.2.2.2
    rw [(ho M mM).2] at this
    exact this
  · walk_at "dl7"
    refine own_i gp fun p3 n3 => ?_
    have pp : p ≠ p3 := fun z => by rw [← z, gp] at n3; cases n3
    have ln := th.ln
    refine lc_all (fun x : List Bool × D => D.tup [.tup (x.1.map .bl), x.2]) (fun x => x.2) (by rw [put_ne pp]; exact gp) cl [] (Nat.le_trans (by rw [List.length_nil]; omega) (show 5000 ≤ sizeLine by decide)) (fun x mx R r => ?_) ?_
    · walk_at "dl7"
      exact r
    · rw [List.nil_append]
      walk_at "dl7"
      rw [del_put n3]
      have gt : GrT a h g := (GrT.refl tp).gr gr
      generalize hA : cl.map (fun x => x.2) = A
      have mA : ∀ v ∈ A, isL k v = true := fun v m => by
        rw [← hA] at m
        obtain ⟨x, mx, rfl⟩ := List.mem_map.mp m
        exact th.ls _ (hcl x mx)
      have lA : A.length ≤ 5000 := by rw [← hA, List.length_map]; omega
      rw [q_lc]
      walk_at "dl7"
      have rg : rngD 0 2 = [.int 0, .int 1] := rfl
      rw [rg]
      intro p n4
      have pa := gt.ne n4
      have gp' := gt
      obtain ⟨⟨t, et, ot⟩, ge⟩ := gt
      have tp1 : Tp (put g p .hid) a := ⟨t, by rw [put_ne (Ne.symm pa)]; exact et, ot⟩
      rw [q_lcons]
      refine ⟨trivial, ?_⟩
      walk_at "dl7"
      refine ⟨a, k, t0, .int t1, rfl, th.kk, th.kd, by omega, by omega, by omega, tp1, fun v1 t2 e1 ot2 => ?_⟩
      walk_at "dl7"
      refine ⟨show 0 < sizeLine by decide, ?_⟩
      rw [q_lcons]
      refine ⟨trivial, ?_⟩
      walk_at "dl7"
      refine ⟨a, k, t0, .int t1, rfl, th.kk, th.kd, by omega, by omega, by omega, tp_put ot2, fun v2 t3 e2 ot3 => ?_⟩
      walk_at "dl7"
      rw [q_lnil]
      refine ⟨show 1 < sizeLine by decide, trivial, ?_⟩
      walk_at "dl7"
      refine ⟨Nat.le_trans (by simp only [List.length_append, List.length_cons, List.length_nil]; omega) (show 6000 ≤ sizeLine by decide), ?_⟩
      refine fin (q _ _ ⟨⟨t3, by rw [del_ne (Ne.symm pa), put_same], ot3⟩, fun b n m => ?_⟩ (fun v m => ?_) (by simp only [List.length_append, List.length_cons, List.length_nil]; omega))
      · have bp : b ≠ p := fun z => by rw [z] at m; exact m (by rw [← gp'.2 p pa (by rw [← z]; exact fun y => m (z ▸ y)), n4])
        rw [del_ne bp, put_ne n, put_ne bp, ge b n m]
      · rcases List.mem_append.mp m with m | m
        · exact mA v m
        · simp only [List.nil_append, List.cons_append, List.mem_cons, List.not_mem_nil, or_false] at m
          rcases m with rfl | rfl
          · exact e1.1
          · exact e2.1
structure Gm (k : Kd) (M : Mc) : Prop where
  sm : Sm M
  ek : M.k = k
  dr : ∀ s ∈ M.sp, Dr k s.2.1
  c8 : ∀ s ∈ M.sp, s.2.1.cnt ≤ 8
def spPlainM : Sp' := fun ds h Q _ => ∃ (a : Addr) (k : Kd) (t0 t1 : Nat) (l : List D), ds = [.ref a, thm k t0 t1 l] ∧ Thm k t0 t1 l ∧ Tp h a ∧ ∀ M t, Gm k M → TOk t → Q (mD M) (put h a t)
theorem rd__law_plain_machine (ds : List D) (h : DH) (Q : VK') (E' : XK') (q : spPlainM ds h Q E') : t__law_plain_machine spDraw spMachine (ends Q) (slots n__law_plain_machine ds) h := by
  obtain ⟨a, k, t0, t1, l, rfl, th, tp, q⟩ := q
  have a0 := th.a0
  have kc := th.kc
  show t__law_plain_machine _ _ (ends Q) [some (.ref a), some (thm k t0 t1 l), none] h
  unfold t__law_plain_machine thm
  walk_at "dl7"
  refine drw tp (fun r t r0 r1 ot => ?_)
  walk_at "dl7"
  obtain ⟨d, ed, md⟩ := pick (xs := [D.lis [.int 2, .int 4, .int 3], .lis [.int 2, .int 6, .int 8], .lis [.int 3, .int 4, .int 3], .lis [.int 3, .int 5, .int 2], .lis [.int 3, .int 6, .int 2], .lis [.int 4, .int 6, .int 2]]) r0 (by simp only [List.length_cons, List.length_nil]; omega)
  have hd : ∃ s st rm : Int, d = .lis [.int s, .int st, .int rm] ∧ 1 ≤ s ∧ s ≤ 4 ∧ 0 ≤ st ∧ st ≤ 6 ∧ 1 ≤ rm ∧ rm ≤ 8 := by
    simp only [List.mem_cons, List.not_mem_nil, or_false] at md
    rcases md with rfl | rfl | rfl | rfl | rfl | rfl <;> exact ⟨_, _, _, rfl, by decide, by decide, by decide, by decide, by decide, by decide⟩
  obtain ⟨s, st, rm, rfl, s1, s4, u0, u6, m1, m8⟩ := hd
  rw [q_ixl]
  refine ⟨_, ed, ?_⟩
  walk_at "dl7"
  refine ⟨a, k, t0, t1, s, st, rm, rfl, th.kk, th.kd, by omega, by omega, by omega, s1, by omega, u0, by omega, m1, m8, tp_put ot, fun M t dM hl hn ot => ?_⟩
  walk_at "dl7"
  exact fin (q M t ⟨⟨dM.1, by omega, by omega⟩, dM.2.1, fun s m => (dM.2.2 s m).1, fun s m => by have := (dM.2.2 s m).2; omega⟩ ot)
theorem gm_en {k : Kd} {n : Int} {S E E' : List Int} {sp : List Spp} (g : Gm k ⟨k, n, S, E, sp⟩) (e : stsOk n E') : Gm k ⟨k, n, S, E', sp⟩ :=
  ⟨⟨⟨g.sm.ok.kk, g.sm.ok.kd, g.sm.ok.kc, g.sm.ok.n1, g.sm.ok.n9, g.sm.ok.st, e, g.sm.ok.sl, g.sm.ok.sp⟩, g.sm.n4, g.sm.s6⟩, rfl, g.dr, g.c8⟩
theorem gm_st {k : Kd} {n : Int} {S E S' : List Int} {sp : List Spp} (g : Gm k ⟨k, n, S, E, sp⟩) (e : stsOk n S') : Gm k ⟨k, n, S', E, sp⟩ :=
  ⟨⟨⟨g.sm.ok.kk, g.sm.ok.kd, g.sm.ok.kc, g.sm.ok.n1, g.sm.ok.n9, e, g.sm.ok.en, g.sm.ok.sl, g.sm.ok.sp⟩, g.sm.n4, g.sm.s6⟩, rfl, g.dr, g.c8⟩
theorem gm_sp {k : Kd} {n : Int} {S E : List Int} {sp sp' : List Spp} (g : Gm k ⟨k, n, S, E, sp⟩) (hl : sp'.length ≤ 6) (h : ∀ s ∈ sp', (0 ≤ s.1 ∧ s.1 < n ∧ 0 ≤ s.2.2 ∧ s.2.2 < n) ∧ Dr k s.2.1 ∧ s.2.1.cnt ≤ 8) : Gm k ⟨k, n, S, E, sp'⟩ :=
  ⟨⟨⟨g.sm.ok.kk, g.sm.ok.kd, g.sm.ok.kc, g.sm.ok.n1, g.sm.ok.n9, g.sm.ok.st, g.sm.ok.en, by show sp'.length ≤ 50; omega, fun s m => by
    obtain ⟨⟨a, b, c, d⟩, e, f⟩ := h s m
    exact ⟨a, b, c, d, dr_cn e (by omega)⟩⟩, g.sm.n4, hl⟩, rfl, fun s m => (h s m).2.1, fun s m => (h s m).2.2⟩
def flp (n : Int) (S : List Int) (s : Int) : List Int := (rngI n).filter fun q => !decide (S.contains q = decide (q = s))
theorem flp_ok {n : Int} {S : List Int} {s : Int} : stsOk n (flp n S s) := ⟨(rngI_asc n).filter _, fun q m => rngI_mem.mp (List.mem_filter.mp m).1⟩
theorem set_i {ds : List D} {i : Int} {d : D} {k : List D → Prop} (h0 : 0 ≤ i) (h1 : i < (ds.length : Int)) (q : k (ds.set i.toNat d)) : setL ds i d k := ⟨i.toNat, by unfold ixN; rw [if_pos h0, if_pos h1], q⟩
def spChg : Sp' := fun ds h Q _ => ∃ (a : Addr) (k : Kd) (t0 t1 : Nat) (M : Mc), ds = [.ref a, kD k, thy t0 t1, mD M] ∧ k.cnt ≤ 6 ∧ t0 ≤ 20 ∧ Gm k M ∧ Tp h a ∧ ∀ M' g, Gm k M' → GrT a h g → Q (mD M') g
theorem rd__law_changed (ds : List D) (h : DH) (Q : VK') (E' : XK') (q : spChg ds h Q E') : t__law_changed spDraw (spCond 8) (ends Q) (slots n__law_changed ds) h := by
  obtain ⟨a, k, t0, t1, M, rfl, kc, a0, gm, tp, q⟩ := q
  have o := gm.sm.ok
  have n4 := gm.sm.n4
  have n1 := o.n1
  have s6 := gm.sm.s6
  obtain ⟨mk, n, S, E, sp⟩ := M
  obtain rfl : mk = k := gm.ek
  simp only at n4 n1 s6
  have ost := o.st
  have oen := o.en
  simp only at ost oen
  have hS := st_len gm.sm ost
  have hE := st_len gm.sm oen
  show t__law_changed _ _ (ends Q) [some (.ref a), some (kD mk), some (thy t0 t1), some (.tup [kD mk, .int n, tI S, tI E, .tup (sp.map stD)]), none, none, none, none, none, none, none, none] h
  unfold t__law_changed thy tI
  walk_at "dl7"
  refine drw tp (fun ch t c0 c1 ot => ?_)
  walk_at "dl7"
  refine drw (tp_put ot) (fun s t s0 s1 ot => ?_) (by omega)
  walk_at "dl7"
  intro p np
  have gt : GrT a h (put (put h a t) p (.lst (sp.map stD))) := (GrT.refl tp |>.draw ot).gr (Gr.refl.put np)
  refine sif_i (fun c => ?_) (fun c => ?_)
  · walk_at "dl7"
    rw [q_lc]
    walk_at "dl7"
    refine ⟨by omega, by omega, fun p2 np2 => ?_⟩
    rw [rngD_I]
    refine lc_map D.int (fun q => !decide (E.contains q = decide (q = s))) D.int trivial (rngI n) [] (sz1000 (by rw [rngI_len, List.length_nil]; omega)) (fun x mx R r => ?_) (fun x mx _ R r => ?_) ?_
    · ((walk_at "dl7"); repeat (simp only [flat_int, inD_intl]; (walk_at "dl7")))
      exact ⟨rfl, r⟩
    · walk_at "dl7"
      exact r
    · rw [List.nil_append]
      walk_at "dl7"
      rw [del_put np2]
      exact fin (q (⟨mk, n, S, flp n E s, sp⟩) _ (gm_en gm flp_ok) gt)
  · walk_at "dl7"
    refine ⟨_, put_same, ?_⟩
    refine sif_i (fun c2 => ?_) (fun c2 => ?_)
    · walk_at "dl7"
      rw [q_lc]
      walk_at "dl7"
      refine ⟨by omega, by omega, fun p2 np2 => ?_⟩
      rw [rngD_I]
      refine lc_map D.int (fun q => !decide (E.contains q = decide (q = s))) D.int trivial (rngI n) [] (sz1000 (by rw [rngI_len, List.length_nil]; omega)) (fun x mx R r => ?_) (fun x mx _ R r => ?_) ?_
      · ((walk_at "dl7"); repeat (simp only [flat_int, inD_intl]; (walk_at "dl7")))
        exact ⟨rfl, r⟩
      · walk_at "dl7"
        exact r
      · rw [List.nil_append]
        walk_at "dl7"
        rw [del_put np2]
        exact fin (q (⟨mk, n, S, flp n E s, sp⟩) _ (gm_en gm flp_ok) gt)
    · walk_at "dl7"
      have l0 : sp ≠ [] := fun z => by rw [z] at c2; cases c2
      have l1 : 1 ≤ sp.length := List.length_pos_iff.mpr l0
      refine sif_i (fun c3 => ?_) (fun c3 => ?_)
      · walk_at "dl7"
        rw [q_lc]
        walk_at "dl7"
        refine ⟨by omega, by omega, fun p2 np2 => ?_⟩
        rw [rngD_I]
        refine lc_map D.int (fun q => !decide (S.contains q = decide (q = s))) D.int trivial (rngI n) [] (sz1000 (by rw [rngI_len, List.length_nil]; omega)) (fun x mx R r => ?_) (fun x mx _ R r => ?_) ?_
        · ((walk_at "dl7"); repeat (simp only [flat_int, inD_intl]; (walk_at "dl7")))
          exact ⟨rfl, r⟩
        · walk_at "dl7"
          exact r
        · rw [List.nil_append]
          walk_at "dl7"
          rw [del_put np2]
          exact fin (q (⟨mk, n, flp n S s, E, sp⟩) _ (gm_st gm flp_ok) gt)
      · walk_at "dl7"
        have pa := ne_put np
        have nh := free_put np
        refine own_i put_same ?_
        refine drwU pa ot (fun at' t r0 r1 ot => ?_) (by rw [List.length_map]; omega)
        rw [List.length_map] at r1
        have hj : at'.toNat < sp.length := by omega
        have ej : atI (sp.map stD) at' = some (stD sp[at'.toNat]) := by
          have z : atI (sp.map stD) ((at'.toNat : Nat) : Int) = some (stD sp[at'.toNat]) := atI_nat (by rw [List.getElem?_map, List.getElem?_eq_getElem hj]; rfl)
          rwa [show ((at'.toNat : Nat) : Int) = at' by omega] at z
        have os := o.sp _ (List.getElem_mem hj)
        have ds := gm.dr _ (List.getElem_mem hj)
        have cs := gm.c8 _ (List.getElem_mem hj)
        simp only at os ds cs
        have gtt : ∀ t o, TOk t → GrT a h (put (put h a t) p o) := fun t o ot => ((GrT.refl tp).draw ot).gr (Gr.refl.put (by rw [put_ne pa]; exact nh))
        generalize sp[at'.toNat] = st at os ds cs ej
        obtain ⟨u, c, v⟩ := st
        simp only at os ds cs
        walk_at "dl7"
        refine own_i put_same ⟨_, ej, ?_⟩
        simp only [stD]
        walk_at "dl7"
        refine ⟨fun τ g => ∃ (st : Spp) (t : DO), τ = [some (.ref a), some (kD mk), some (thy t0 t1), some (mD ⟨mk, n, S, E, sp⟩), some (.int ch), some (.int s), some (.ref p), none, none, some (.int at'), some (stD (u, c, v)), none] ∧ ((0 ≤ st.1 ∧ st.1 < n ∧ 0 ≤ st.2.2 ∧ st.2.2 < n) ∧ Dr mk st.2.1 ∧ st.2.1.cnt ≤ 8) ∧ TOk t ∧ g = put (put h a t) p (.lst ((sp.set at'.toNat st).map stD)), ?_, ?_⟩
        · walk_at "dl7"
          refine sif_i (fun c5 => ?_) (fun c5 => ?_)
          · walk_at "dl7"
            refine ⟨a, mk, t0, t1, 2, rfl, o.kk, by omega, by omega, by omega, by decide, by decide, ⟨t, by rw [put_ne (Ne.symm pa), put_same], ot⟩, fun c' t' dc cc ot' => ?_⟩
            walk_at "dl7"
            rw [put_comm pa, put_put]
            refine own_i put_same (set_i (by omega) (by rw [List.length_map]; omega) ⟨(u, c', v), t', rfl, ⟨⟨os.1, os.2.1, os.2.2.1, os.2.2.2.1⟩, dc, by show c'.cnt ≤ 8; omega⟩, ot', by rw [put_put, List.map_set]; rfl⟩)
          · walk_at "dl7"
            refine own_i put_same (set_i (by omega) (by rw [List.length_map]; omega) ⟨(u, c, s), t, rfl, ⟨⟨os.1, os.2.1, s0, by show s < n; omega⟩, ds, cs⟩, ot, by rw [List.map_set]; rfl⟩)
        · rintro τ g ⟨st, t, rfl, os, ot, rfl⟩
          unfold mD thy tI
          walk_at "dl7"
          refine own_i put_same ?_
          refine fin (q ⟨mk, n, S, E, sp.set at'.toNat st⟩ _ (gm_sp gm (by rw [List.length_set]; exact s6) fun s' m => ?_) (gtt t _ ot))
          rcases List.mem_or_eq_of_mem_set m with m | rfl
          · have := o.sp s' m
            exact ⟨⟨this.1, this.2.1, this.2.2.1, this.2.2.2.1⟩, gm.dr s' m, gm.c8 s' m⟩
          · exact os
end K41
-- set2
set_option Elab.async false
set_option linter.all false
set_option maxRecDepth 100000
set_option maxHeartbeats 1000000
namespace K41
open PySem PySem.Spec PyProof.Rows L2 DL K00 K01 K03 K04 K22
theorem inD2 (a b c : Str) : inD (.str a) [.str b, .str c] = (decide (a = b) || decide (a = c)) := by
  have := inD_str a [b, c]
  simp only [List.map_cons, List.map_nil] at this
  rw [this]
  simp [List.contains_cons, Bool.beq_eq_decide_eq]
theorem inD3 (a b c d : Str) : inD (.str a) [.str b, .str c, .str d] = (decide (a = b) || (decide (a = c) || decide (a = d))) := by
  have := inD_str a [b, c, d]
  simp only [List.map_cons, List.map_nil] at this
  rw [this]
  simp [List.contains_cons, Bool.beq_eq_decide_eq]
theorem flatS (b : Str) : flatD (.str b) = true := rfl
theorem isIi (i : Int) : isInt (.int i) = true := rfl
theorem all2 (b c : Str) : [D.str b, .str c].all flatD = true := rfl
theorem all3 (b c d : Str) : [D.str b, .str c, .str d].all flatD = true := rfl
def spFits41 (n : Nat) : Sp' := fun ds h Q _ => ∃ k c, ds = [kD k, cD c] ∧ c.depth ≤ n ∧ okC c ∧ fits0 k c ∧ Q (.bl true) h
theorem rd__law_fits (n : Nat) (ds : List D) (h : DH) (Q : VK') (E' : XK') (q : spFits41 (n + 1) ds h Q E') : t__law_fits (spFits41 n) (fun _ _ _ _ => False) sp_is_integer (ends Q) (slots n__law_fits ds) h := by
  obtain ⟨k, c, rfl, hd, ho, hf, q⟩ := q
  show t__law_fits _ _ _ (ends Q) [some (kD k), some (cD c), none] h
  unfold t__law_fits
  unfold fits0 at hf
  cases c with
  | tt => simp only [cD]; ((walk_at "dl7"); repeat (simp only [Bool.or_false, Bool.or_true, Bool.true_or, Bool.false_or, flatS, all2, all3, inD2, inD3]; (walk_at "dl7"))); exact fin q
  | ff => simp only [cD]; ((walk_at "dl7"); repeat (simp only [Bool.or_false, Bool.or_true, Bool.true_or, Bool.false_or, flatS, all2, all3, inD2, inD3]; (walk_at "dl7"))); exact fin q
  | ng c =>
    simp only [Cn.depth] at hd
    simp only [fitsC] at hf
    simp only [cD]; ((walk_at "dl7"); repeat (simp only [Bool.or_false, Bool.or_true, Bool.true_or, Bool.false_or, flatS, all2, all3, inD2, inD3]; (walk_at "dl7")))
    exact ⟨k, c, rfl, by omega, ho, hf, fin q⟩
  | an a b =>
    simp only [Cn.depth] at hd
    simp only [fitsC, Bool.and_eq_true] at hf
    simp only [cD]; ((walk_at "dl7"); repeat (simp only [Bool.or_false, Bool.or_true, Bool.true_or, Bool.false_or, flatS, all2, all3, inD2, inD3]; (walk_at "dl7")))
    refine ⟨k, a, rfl, by omega, ho.1, hf.1, ?_⟩
    ((walk_at "dl7"); repeat (simp only [Bool.or_false, Bool.or_true, Bool.true_or, Bool.false_or, flatS, all2, all3, inD2, inD3]; (walk_at "dl7")))
    exact ⟨k, b, rfl, by omega, ho.2, hf.2, fin q⟩
  | orr a b =>
    simp only [Cn.depth] at hd
    simp only [fitsC, Bool.and_eq_true] at hf
    simp only [cD]; ((walk_at "dl7"); repeat (simp only [Bool.or_false, Bool.or_true, Bool.true_or, Bool.false_or, flatS, all2, all3, inD2, inD3]; (walk_at "dl7")))
    refine ⟨k, a, rfl, by omega, ho.1, hf.1, ?_⟩
    ((walk_at "dl7"); repeat (simp only [Bool.or_false, Bool.or_true, Bool.true_or, Bool.false_or, flatS, all2, all3, inD2, inD3]; (walk_at "dl7")))
    exact ⟨k, b, rfl, by omega, ho.2, hf.2, fin q⟩
  | inn s => simp [fitsC] at hf
  | is s =>
    cases k <;> simp only [fitsC] at hf <;> first | cases hf | skip
    simp only [cD, kD]; ((walk_at "dl7"); repeat (simp only [Bool.or_false, Bool.or_true, Bool.true_or, Bool.false_or, flatS, all2, all3, inD2, inD3, inD_str]; (walk_at "dl7")))
    refine ⟨flat_str _, ?_⟩
    rw [hf]
    exact fin q
  | lt i =>
    cases k <;> simp only [fitsC] at hf <;> first | cases hf | skip
    simp only [cD, kD]; ((walk_at "dl7"); repeat (simp only [Bool.or_false, Bool.or_true, Bool.true_or, Bool.false_or, flatS, all2, all3, inD2, inD3]; (walk_at "dl7")))
    exact ⟨.int i, rfl, rfl, fin q⟩
  | eq i =>
    cases k <;> simp only [fitsC] at hf <;> first | cases hf | skip
    simp only [cD, kD]; ((walk_at "dl7"); repeat (simp only [Bool.or_false, Bool.or_true, Bool.true_or, Bool.false_or, flatS, all2, all3, inD2, inD3]; (walk_at "dl7")))
    exact ⟨.int i, rfl, rfl, fin q⟩
  | gt i =>
    cases k <;> simp only [fitsC] at hf <;> first | cases hf | skip
    simp only [cD, kD]; ((walk_at "dl7"); repeat (simp only [Bool.or_false, Bool.or_true, Bool.true_or, Bool.false_or, flatS, all2, all3, inD2, inD3]; (walk_at "dl7")))
    exact ⟨.int i, rfl, rfl, fin q⟩
  | md m r =>
    cases k <;> simp only [fitsC] at hf <;> first | cases hf | skip
    simp only [cD, kD]; ((walk_at "dl7"); repeat (simp only [Bool.or_false, Bool.or_true, Bool.true_or, Bool.false_or, flatS, all2, all3, inD2, inD3]; (walk_at "dl7")))
    refine ⟨.int m, rfl, rfl, ?_⟩
    ((walk_at "dl7"); repeat (simp only [isIi]; (walk_at "dl7")))
    refine ⟨.int r, rfl, rfl, ?_⟩
    ((walk_at "dl7"); repeat (simp only [isIi]; (walk_at "dl7")))
    have m0 : (0 : Int) < m := ho.1
    rw [decide_eq_true m0]
    exact fin q
  | no =>
    cases k <;> simp only [fitsC] at hf <;> first | cases hf | skip
    simp only [cD, kD]; ((walk_at "dl7"); repeat (simp only [Bool.or_false, Bool.or_true, Bool.true_or, Bool.false_or, flatS, all2, all3, inD2, inD3]; (walk_at "dl7")))
    exact fin q
  | fs c =>
    simp only [Cn.depth] at hd
    cases k <;> simp only [fitsC] at hf <;> first | cases hf | skip
    rename_i a b
    simp only [cD, kD]; ((walk_at "dl7"); repeat (simp only [Bool.or_false, Bool.or_true, Bool.true_or, Bool.false_or, flatS, all2, all3, inD2, inD3]; (walk_at "dl7")))
    exact ⟨a, c, rfl, by omega, ho, hf, fin q⟩
  | sn c =>
    simp only [Cn.depth] at hd
    cases k <;> simp only [fitsC] at hf <;> first | cases hf | skip
    rename_i a b
    simp only [cD, kD]; ((walk_at "dl7"); repeat (simp only [Bool.or_false, Bool.or_true, Bool.true_or, Bool.false_or, flatS, all2, all3, inD2, inD3]; (walk_at "dl7")))
    exact ⟨b, c, rfl, by omega, ho, hf, fin q⟩
  | so c =>
    simp only [Cn.depth] at hd
    cases k <;> simp only [fitsC] at hf <;> first | cases hf | skip
    rename_i a
    simp only [cD, kD]; ((walk_at "dl7"); repeat (simp only [Bool.or_false, Bool.or_true, Bool.true_or, Bool.false_or, flatS, all2, all3, inD2, inD3]; (walk_at "dl7")))
    exact ⟨a, c, rfl, by omega, ho, hf, fin q⟩
  | cs i c =>
    simp only [Cn.depth] at hd
    cases k <;> simp only [fitsC] at hf <;> first | cases hf | skip
    rename_i ks
    have i0 : 0 ≤ i := ho.1
    cases eg : ks[i.toNat]? with
    | none => rw [eg] at hf; cases hf
    | some k2 =>
      rw [eg] at hf
      have hi : i.toNat < ks.length := (List.getElem?_eq_some_iff.mp eg).1
      simp only [cD, kD]; ((walk_at "dl7"); repeat (simp only [Bool.or_false, Bool.or_true, Bool.true_or, Bool.false_or, flatS, all2, all3, inD2, inD3, len_kDs]; (walk_at "dl7")))
      refine ⟨.int i, rfl, rfl, ?_⟩
      ((walk_at "dl7"); repeat (simp only [isIi, len_kDs]; (walk_at "dl7")))
      refine sif_i (fun c1 => ?_) (fun c1 => ?_)
      · ((walk_at "dl7"); repeat (simp only [len_kDs]; (walk_at "dl7")))
        refine sif_i (fun c2 => ?_) (fun c2 => ?_)
        · walk_at "dl7"
          refine ⟨_, atI_kDs i0 eg, ?_⟩
          exact ⟨k2, c, rfl, by omega, ho.2, hf, fin q⟩
        · simp at c2
          omega
      · simp at c1
        omega
def spSts : Sp' := fun ds h Q _ => ∃ n S, ds = [.int n, tI S] ∧ stsOk n S ∧ Q (.bl true) h
theorem rd__law_is_states (ds : List D) (h : DH) (Q : VK') (E' : XK') (q : spSts ds h Q E') : t__law_is_states sp_is_integer (ends Q) (slots n__law_is_states ds) h := by
  obtain ⟨n, S, rfl, o, q⟩ := q
  show t__law_is_states _ (ends Q) [some (.int n), some (tI S), none, none] h
  unfold t__law_is_states tI
  walk_at "dl7"
  refine for_ind (fun xs τ g => ∃ (B : List Int) (l : Int) (x3 : Option D), xs = B.map .int ∧ τ = [some (.int n), some (.tup (S.map .int)), some (.int l), x3] ∧ B.Pairwise (· < ·) ∧ (∀ q ∈ B, l < q ∧ q < n) ∧ h = g) ?_ ?_ _ _ _ ⟨S, -1, none, rfl, rfl, o.1, fun q m => by have := o.2 q m; omega, rfl⟩
  · rintro τ g ⟨B, l, x3, _, rfl, _, _, rfl⟩
    rw [q_fnil]
    walk_at "dl7"
    exact fin q
  · rintro x xs ih τ g ⟨B, l, x3, e, rfl, pB, hB, rfl⟩
    cases B with
    | nil => cases e
    | cons b B =>
      rw [List.map_cons, List.cons.injEq] at e
      obtain ⟨rfl, rfl⟩ := e
      have hb := hB b List.mem_cons_self
      rw [q_fcons]
      walk_at "dl7"
      refine ⟨.int b, rfl, rfl, ?_⟩
      walk_at "dl7"
      refine sif_i (fun c => ?_) (fun c => ?_)
      · simp only [isIi, Bool.not_true, Bool.false_or, Bool.or_eq_true, decide_eq_true_eq] at c
        omega
      · walk_at "dl7"
        exact ih _ _ ⟨B, b, _, rfl, rfl, (List.pairwise_cons.mp pB).2, fun q m => ⟨(List.pairwise_cons.mp pB).1 q m, (hB q (List.mem_cons_of_mem _ m)).2⟩, rfl⟩
def spIsM : Sp' := fun ds h Q _ => ∃ M : Mc, ds = [kD M.k, mD M] ∧ M.ok ∧ (∀ s ∈ M.sp, Dr M.k s.2.1 ∧ s.2.1.cnt ≤ 20) ∧ Q (.bl true) h
theorem rd__law_is_machine (ds : List D) (h : DH) (Q : VK') (E' : XK') (q : spIsM ds h Q E') : t__law_is_machine sp_is_integer spSts (spFits41 20) (ends Q) (slots n__law_is_machine ds) h := by
  obtain ⟨M, rfl, o, hd, q⟩ := q
  have n1 := o.n1
  have em : mD M = .tup [kD M.k, .int M.n, tI M.st, tI M.en, .tup (M.sp.map stD)] := rfl
  show t__law_is_machine _ _ _ (ends Q) [some (kD M.k), some (mD M), none] h
  unfold t__law_is_machine
  rw [em]
  unfold tI
  walk_at "dl7"
  rw [neK o.kk o.kd]
  walk_at "dl7"
  refine ⟨.int M.n, rfl, rfl, ?_⟩
  ((walk_at "dl7"); repeat (simp only [isIi]; (walk_at "dl7")))
  refine sif_i (fun c => ?_) (fun c => ?_)
  · have := of_decide_eq_true c
    omega
  walk_at "dl7"
  refine ⟨M.n, M.st, rfl, o.st, ?_⟩
  walk_at "dl7"
  refine ⟨M.n, M.en, rfl, o.en, ?_⟩
  walk_at "dl7"
  refine for_ind (fun xs τ g => ∃ (B : List Spp) (x2 : Option D), xs = B.map stD ∧ τ = [some (kD M.k), some (mD M), x2] ∧ (∀ s ∈ B, s ∈ M.sp) ∧ h = g) ?_ ?_ _ _ _ ⟨M.sp, none, rfl, rfl, fun _ m => m, rfl⟩
  · rintro τ g ⟨B, x2, _, rfl, _, rfl⟩
    rw [q_fnil]
    walk_at "dl7"
    exact fin q
  · rintro x xs ih τ g ⟨B, x2, e, rfl, hB, rfl⟩
    cases B with
    | nil => cases e
    | cons b B =>
      rw [List.map_cons, List.cons.injEq] at e
      obtain ⟨rfl, rfl⟩ := e
      have mb := hB b List.mem_cons_self
      have os := o.sp b mb
      have db := hd b mb
      have dd := b.2.1.depth_cnt
      rw [q_fcons, em]
      simp only [stD]
      walk_at "dl7"
      refine ⟨M.n, [b.1], rfl, sts_one os.1 os.2.1, ?_⟩
      walk_at "dl7"
      refine ⟨M.n, [b.2.2], rfl, sts_one os.2.2.1 os.2.2.2.1, ?_⟩
      walk_at "dl7"
      refine ⟨M.k, b.2.1, rfl, by omega, db.1.1, db.1.2, ?_⟩
      walk_at "dl7"
      exact ih _ _ ⟨B, _, rfl, rfl, fun s m => hB s (List.mem_cons_of_mem _ m), rfl⟩
def dI : Deed → Int
  | .fl => 0
  | .rp => 1
  | .bk => 2
def spCall41 : Sp' := fun ds h Q _ => ∃ (d : Deed) (F G : Mc), ds = [.int (dI d), mD F, mD G] ∧ F.ok ∧ G.ok ∧ F.k = G.k ∧ Q (mD (tld F G d)) h
theorem rd__law_call (ds : List D) (h : DH) (Q : VK') (E' : XK') (q : spCall41 ds h Q E') : t__law_call spFlw spRpt spBkw (ends Q) (slots n__law_call ds) h := by
  obtain ⟨d, F, G, rfl, f, g, e, q⟩ := q
  show t__law_call _ _ _ (ends Q) [some (.int (dI d)), some (mD F), some (mD G)] h
  unfold t__law_call
  cases d with
  | fl =>
    unfold dI
    walk_at "dl7"
    exact ⟨F, G, rfl, f, g, e, fin q⟩
  | rp =>
    unfold dI
    walk_at "dl7"
    exact ⟨F, rfl, f, fin q⟩
  | bk =>
    unfold dI
    walk_at "dl7"
    exact ⟨F, rfl, f, fin q⟩
def spAfter : Sp' := fun ds h Q _ => ∃ (M : Mc) (S : List Int) (v : D), ds = [mD M, tI S, trD M v] ∧ M.ok ∧ Q (tI (bhd M S v)) h
theorem rd__law_after (ds : List D) (h : DH) (Q : VK') (E' : XK') (q : spAfter ds h Q E') : t__law_after (ends Q) (slots n__law_after ds) h := by
  obtain ⟨M, S, v, rfl, o, q⟩ := q
  have h50 := o.sl
  have h9 := o.n9
  have n1 := o.n1
  have em : mD M = .tup [kD M.k, .int M.n, tI M.st, tI M.en, .tup (M.sp.map stD)] := rfl
  show t__law_after (ends Q) [some (mD M), some (tI S), some (trD M v), none, none, none] h
  unfold t__law_after
  rw [em, trD_eq]
  ((walk_at "dl7"); repeat (simp only [List.length_map]; (walk_at "dl7")))
  intro p np
  refine ⟨by omega, by omega, ?_⟩
  rw [Int.toNat_natCast]
  refine for_ind (fun xs τ g => ∃ (i rem : Nat) (x4 : Option D), xs = rngD (i : Int) rem ∧ i + rem = M.sp.length ∧ τ = [some (mD M), some (tI S), some (trD M v), some (.ref p), x4, none] ∧ g = put h p (.lst ((((M.sp.take i).filter (hit S v)).map (·.2.2)).map .int))) ?_ ?_ _ _ _ ⟨0, M.sp.length, none, rfl, by omega, by rw [trD_eq]; rfl, rfl⟩
  · rintro τ g ⟨i, rem, x4, e, hi, rfl, rfl⟩
    rw [q_fnil]
    have r0 : rem = 0 := by
      cases rem with
      | zero => rfl
      | succ n => rw [rngD_succ] at e; cases e
    rw [List.take_of_length_le (by omega), em]
    walk_at "dl7"
    rw [q_lc]
    walk_at "dl7"
    refine ⟨by omega, by omega, fun p2 np2 => ?_⟩
    have p21 := ne_put np2
    rw [rngD_I]
    refine lc_map D.int (fun q => (tgts M S v).contains q) D.int trivial (rngI M.n) [] (sz1000 (by rw [rngI_len, List.length_nil]; omega)) (fun x mx R r => ?_) (fun x mx _ R r => ?_) ?_
    · walk_at "dl7"
      refine own_i (by rw [put_ne (Ne.symm p21), put_same]) ?_
      ((walk_at "dl7"); repeat (simp only [flat_int, inD_intl]; (walk_at "dl7")))
      exact ⟨rfl, r⟩
    · walk_at "dl7"
      exact r
    · rw [List.nil_append]
      walk_at "dl7"
      rw [del_put np2]
      exact ⟨h, Sub.put Sub.refl np, q⟩
  · rintro x xs ih τ g ⟨i, rem, x4, e, hi, rfl, rfl⟩
    cases rem with
    | zero => cases e
    | succ rem =>
      rw [rngD_succ] at e
      cases e
      have il : i < M.sp.length := by omega
      have ej : atI (M.sp.map stD) (i : Int) = some (stD M.sp[i]) := atI_nat (by rw [List.getElem?_map, List.getElem?_eq_getElem il]; rfl)
      have et : atI (M.sp.map fun s => D.bl (metC inS s.2.1 v)) (i : Int) = some (.bl (metC inS M.sp[i].2.1 v)) := atI_nat (by rw [List.getElem?_map, List.getElem?_eq_getElem il]; rfl)
      have tk : M.sp.take (i + 1) = M.sp.take i ++ [M.sp[i]] := by rw [List.take_succ, List.getElem?_eq_getElem il]; rfl
      have tl : (((M.sp.take i).filter (hit S v)).map (·.2.2)).length ≤ 50 := by
        rw [List.length_map]
        exact Nat.le_trans (List.length_filter_le _ _) (by rw [List.length_take]; omega)
      generalize M.sp[i] = st at ej et tk
      have nxt := fun x4 => ih [some (mD M), some (tI S), some (trD M v), some (.ref p), x4, none] _ ⟨i + 1, rem, x4, rfl, by omega, rfl, rfl⟩
      rw [q_fcons, em, trD_eq]
      unfold tI
      walk_at "dl7"
      refine ⟨fun τ g => τ = [some (mD M), some (tI S), some (trD M v), some (.ref p), some (.int (i : Int)), none] ∧ g = put h p (.lst ((((M.sp.take (i + 1)).filter (hit S v)).map (·.2.2)).map .int)), ?_, ?_⟩
      · walk_at "dl7"
        refine ⟨_, et, ?_⟩
        cases e1 : metC inS st.2.1 v with
        | false =>
          walk_at "dl7"
          rw [tk, List.filter_append, List.filter_cons_of_neg (by unfold hit; rw [e1]; simp), List.filter_nil, List.append_nil, trD_eq]
          exact ⟨rfl, rfl⟩
        | true =>
          walk_at "dl7"
          refine ⟨_, ej, ?_⟩
          simp only [stD]
          ((walk_at "dl7"); repeat (simp only [flat_int, inD_intl]; (walk_at "dl7")))
          refine ⟨rfl, ?_⟩
          cases e2 : S.contains st.1 with
          | false =>
            rw [sif_f]
            walk_at "dl7"
            rw [tk, List.filter_append, List.filter_cons_of_neg (by unfold hit; rw [e2]; simp), List.filter_nil, List.append_nil, trD_eq]
            exact ⟨rfl, rfl⟩
          | true =>
            rw [sif_t]
            walk_at "dl7"
            refine ⟨own_i put_same trivial, _, ej, ?_⟩
            simp only [stD]
            walk_at "dl7"
            refine own_i put_same ⟨Nat.lt_of_le_of_lt (by rw [List.length_map]; exact tl) (show 50 < sizeLine by decide), ?_⟩
            rw [tk, List.filter_append, List.filter_cons_of_pos (by unfold hit; rw [e1, e2]; rfl), List.filter_nil, List.map_append, List.map_append, trD_eq]
            exact ⟨rfl, rfl⟩
      · rintro τ g ⟨rfl, rfl⟩
        exact nxt _
end K41
-- set2
set_option Elab.async false
set_option linter.all false
set_option maxRecDepth 100000
set_option maxHeartbeats 1000000
namespace K41
open PySem PySem.Spec PyProof.Rows L2 DL K00 K01 K03 K04 K22
def prD (p : Pr) : D := .tup [tI p.1, tI p.2]
theorem nb_tI (S : List Int) : nb (tI S) = true := by
  unfold tI
  simp only [nb]
  exact nbs_mem.mpr fun x m => by obtain ⟨n, _, rfl⟩ := List.mem_map.mp m; rfl
theorem map_int_inj : ∀ {S T : List Int}, S.map D.int = T.map D.int → S = T
  | [], [], _ => rfl
  | [], _ :: _, e => by cases e
  | _ :: _, [], e => by cases e
  | a :: S, b :: T, e => by
    rw [List.map_cons, List.map_cons, List.cons.injEq] at e
    rw [D.int.inj e.1, map_int_inj e.2]
theorem tI_inj {S T : List Int} (e : tI S = tI T) : S = T := map_int_inj (D.tup.inj e)
theorem eq_tI {S T : List Int} {h : DH} {Q : VK'} : opEq (tI S) (tI T) h Q = Q (.bl (decide (S = T))) h := by
  have e : deq (tI S) (tI T) = decide (S = T) := by
    rw [Bool.eq_iff_iff, deq_iff (nb_tI S) (nb_tI T), decide_eq_true_eq]
    exact ⟨tI_inj, fun e => by rw [e]⟩
  rw [← e]
  show (dOk (tI S) ∧ dOk (tI T) ∧ _) = _
  exact propext ⟨fun q => q.2.2, fun q => ⟨val_ok (val_tI S), val_ok (val_tI T), q⟩⟩
def spOpened : Sp' := fun ds h Q _ => ∃ (d : Deed) (F G : Mc), ds = [.str d.s, mD F, mD G] ∧ F.ok ∧ G.ok ∧ Q (prD (opn F G d)) h
theorem rd__law_opened (ds : List D) (h : DH) (Q : VK') (E' : XK') (q : spOpened ds h Q E') : t__law_opened spHasEnd (ends Q) (slots n__law_opened ds) h := by
  obtain ⟨d, F, G, rfl, f, g, q⟩ := q
  have ef : mD F = .tup [kD F.k, .int F.n, tI F.st, tI F.en, .tup (F.sp.map stD)] := rfl
  have eg : mD G = .tup [kD G.k, .int G.n, tI G.st, tI G.en, .tup (G.sp.map stD)] := rfl
  show t__law_opened _ (ends Q) [some (.str d.s), some (mD F), some (mD G)] h
  unfold t__law_opened
  cases d with
  | bk =>
    unfold Deed.s
    rw [ef]
    walk_at "dl7"
    exact fin q
  | rp =>
    unfold Deed.s
    rw [ef]
    walk_at "dl7"
    exact fin q
  | fl =>
    unfold Deed.s
    rw [ef]
    ((walk_at "dl7"); repeat (simp only [Bool.or_false, Bool.or_true, Bool.true_or, Bool.false_or, flatS, all2, all3, inD2, inD3]; (walk_at "dl7")))
    refine ⟨F, F.st, rfl, f, f.st, ?_⟩
    unfold opn prD at q
    cases e : anyEnd F F.st with
    | true =>
      rw [e, if_pos rfl] at q
      rw [eg]
      ((walk_at "dl7"); repeat (simp only [Bool.or_false, Bool.or_true, Bool.true_or, Bool.false_or]; (walk_at "dl7")))
      exact fin q
    | false =>
      rw [e, if_neg (by decide)] at q
      ((walk_at "dl7"); repeat (simp only [Bool.or_false, Bool.or_true, Bool.true_or, Bool.false_or]; (walk_at "dl7")))
      exact fin q
def spJEnd : Sp' := fun ds h Q _ => ∃ (d : Deed) (F G : Mc) (p : Pr), ds = [.str d.s, mD F, mD G, prD p] ∧ F.ok ∧ G.ok ∧ stsOk F.n p.1 ∧ stsOk G.n p.2 ∧ Q (.bl (jen F G p d)) h
theorem rd__law_joined_end (ds : List D) (h : DH) (Q : VK') (E' : XK') (q : spJEnd ds h Q E') : t__law_joined_end spHasEnd (ends Q) (slots n__law_joined_end ds) h := by
  obtain ⟨d, F, G, p, rfl, f, g, s1, s2, q⟩ := q
  have ef : mD F = .tup [kD F.k, .int F.n, tI F.st, tI F.en, .tup (F.sp.map stD)] := rfl
  show t__law_joined_end _ (ends Q) [some (.str d.s), some (mD F), some (mD G), some (prD p), none, none] h
  unfold t__law_joined_end prD
  cases d with
  | bk =>
    unfold Deed.s
    rw [ef]
    unfold tI
    walk_at "dl7"
    rw [q_lc]
    walk_at "dl7"
    intro p1 n1
    have l1 := sts_len s1 (by have := f.n9; omega)
    refine lc_map D.int (fun x => F.st.contains x) D.int trivial p.1 [] (sz1000 (by simpa using l1)) (fun x mx R r => ?_) (fun x mx _ R r => ?_) ?_
    · ((walk_at "dl7"); repeat (simp only [flat_int, inD_intl]; (walk_at "dl7")))
      exact ⟨rfl, r⟩
    · walk_at "dl7"
      exact r
    · rw [List.nil_append]
      walk_at "dl7"
      rw [del_put n1, List.length_map]
      have e : decide ((0 : Int) < ((p.1.filter fun x => F.st.contains x).length : Int)) = jen F G p .bk := by
        rw [Bool.eq_iff_iff, decide_eq_true_eq]
        show _ ↔ (p.1.any fun q => F.st.contains q) = true
        rw [List.any_eq_true]
        constructor
        · intro z
          obtain ⟨x, m⟩ := List.exists_mem_of_length_pos (l := p.1.filter fun x => F.st.contains x) (by omega)
          rw [List.mem_filter] at m
          exact ⟨x, m⟩
        · rintro ⟨x, m⟩
          exact Int.natCast_pos.mpr (List.length_pos_of_mem (List.mem_filter.mpr m))
      rw [e]
      exact fin q
  | rp =>
    unfold Deed.s
    walk_at "dl7"
    refine ⟨F, p.1, rfl, f, s1, ?_⟩
    unfold jen at q
    walk_at "dl7"
    cases e : anyEnd F p.1 with
    | true =>
      rw [e, Bool.true_or] at q
      walk_at "dl7"
      exact fin q
    | false =>
      rw [e, Bool.false_or] at q
      walk_at "dl7"
      rw [show D.tup [D.int 0] = tI [0] from rfl, eq_tI]
      exact fin q
  | fl =>
    unfold Deed.s
    walk_at "dl7"
    refine ⟨F, p.1, rfl, f, s1, ?_⟩
    walk_at "dl7"
    exact ⟨G, p.2, rfl, g, s2, fin q⟩
theorem pick_rng {α β : Type} (sp : List α) (d : α) (P : α → Bool) (f : α → β) : ((rngI (sp.length : Int)).filter fun k => P (sp.getD k.toNat d)).map (fun k => f (sp.getD k.toNat d)) = (sp.filter P).map f := by
  have e : sp = (rngI (sp.length : Int)).map fun k => sp.getD k.toNat d := by
    unfold rngI
    rw [List.map_map, Int.toNat_natCast]
    apply List.ext_getElem?
    intro i
    rw [List.getElem?_map]
    by_cases c : i < sp.length
    · rw [List.getElem?_range c, Option.map_some, Function.comp, Int.toNat_natCast, List.getD_eq_getElem?_getD, List.getElem?_eq_getElem c]; rfl
    · rw [List.getElem?_eq_none (by omega), List.getElem?_eq_none (by rw [List.length_range]; omega)]; rfl
  conv => rhs; rw [e]
  rw [List.filter_map, List.map_map]
  rfl
def d0 : Spp := (0, .tt, 0)
def spMoved41 : Sp' := fun ds h Q _ => ∃ (d : Deed) (F G : Mc) (p : Pr) (v : D), ds = [.str d.s, mD F, mD G, prD p, trD F v, trD G v] ∧ F.ok ∧ G.ok ∧ stsOk F.n p.1 ∧ stsOk G.n p.2 ∧ Q (prD (mvd F G p v d)) h
theorem rd__law_moved (ds : List D) (h : DH) (Q : VK') (E' : XK') (q : spMoved41 ds h Q E') : t__law_moved spAfter spHasEnd (ends Q) (slots n__law_moved ds) h := by
  obtain ⟨d, F, G, p, v, rfl, f, g, s1, s2, q⟩ := q
  have ef : mD F = .tup [kD F.k, .int F.n, tI F.st, tI F.en, .tup (F.sp.map stD)] := rfl
  have eg : mD G = .tup [kD G.k, .int G.n, tI G.st, tI G.en, .tup (G.sp.map stD)] := rfl
  have f1 := f.n1
  have f9 := f.n9
  have g1 := g.n1
  have g9 := g.n9
  have f50 := f.sl
  show t__law_moved _ _ (ends Q) [some (.str d.s), some (mD F), some (mD G), some (prD p), some (trD F v), some (trD G v), none, none, none, none, none] h
  unfold t__law_moved prD
  cases d with
  | bk =>
    unfold Deed.s
    rw [ef, trD_eq, trD_eq]
    walk_at "dl7"
    rw [q_lc]
    ((walk_at "dl7"); repeat (simp only [List.length_map]; (walk_at "dl7")))
    refine ⟨by omega, by omega, fun p1 n1 => ?_⟩
    rw [rngD_I]
    have p1' := s1
    refine lc_map D.int (fun k => metC inS (F.sp.getD k.toNat d0).2.1 v && p.1.contains (F.sp.getD k.toNat d0).2.2) (fun k => D.int (F.sp.getD k.toNat d0).1) trivial (rngI (F.sp.length : Int)) [] (sz1000 (by rw [rngI_len, List.length_nil, Int.toNat_natCast]; omega)) (fun k mk R r => ?_) (fun k mk _ R r => ?_) ?_
    · have kb := rngI_mem.mp mk
      have il : k.toNat < F.sp.length := by omega
      have eg : F.sp.getD k.toNat d0 = F.sp[k.toNat] := by rw [List.getD_eq_getElem?_getD, List.getElem?_eq_getElem il]; rfl
      have ej : atI (F.sp.map stD) k = some (stD F.sp[k.toNat]) := by
        have z : atI (F.sp.map stD) ((k.toNat : Nat) : Int) = some (stD F.sp[k.toNat]) := atI_nat (by rw [List.getElem?_map, List.getElem?_eq_getElem il]; rfl)
        rwa [show ((k.toNat : Nat) : Int) = k by omega] at z
      have et : atI (F.sp.map fun s => D.bl (metC inS s.2.1 v)) k = some (.bl (metC inS F.sp[k.toNat].2.1 v)) := by
        have z : atI (F.sp.map fun s => D.bl (metC inS s.2.1 v)) ((k.toNat : Nat) : Int) = some (.bl (metC inS F.sp[k.toNat].2.1 v)) := atI_nat (by rw [List.getElem?_map, List.getElem?_eq_getElem il]; rfl)
        rwa [show ((k.toNat : Nat) : Int) = k by omega] at z
      rw [eg] at r
      generalize F.sp[k.toNat] = st at ej et r
      walk_at "dl7"
      refine ⟨_, et, ?_⟩
      cases e1 : metC inS st.2.1 v with
      | false =>
        rw [e1, Bool.false_and] at r
        walk_at "dl7"
        exact r
      | true =>
        rw [e1, Bool.true_and] at r
        walk_at "dl7"
        refine ⟨_, ej, ?_⟩
        simp only [stD]
        unfold tI
        ((walk_at "dl7"); repeat (simp only [flat_int, inD_intl]; (walk_at "dl7")))
        exact ⟨rfl, r⟩
    · have kb := rngI_mem.mp mk
      have il : k.toNat < F.sp.length := by omega
      have eg : F.sp.getD k.toNat d0 = F.sp[k.toNat] := by rw [List.getD_eq_getElem?_getD, List.getElem?_eq_getElem il]; rfl
      have ej : atI (F.sp.map stD) k = some (stD F.sp[k.toNat]) := by
        have z : atI (F.sp.map stD) ((k.toNat : Nat) : Int) = some (stD F.sp[k.toNat]) := atI_nat (by rw [List.getElem?_map, List.getElem?_eq_getElem il]; rfl)
        rwa [show ((k.toNat : Nat) : Int) = k by omega] at z
      rw [eg] at r
      generalize F.sp[k.toNat] = st at ej r
      walk_at "dl7"
      refine ⟨_, ej, ?_⟩
      simp only [stD]
      walk_at "dl7"
      exact r
    · rw [List.nil_append, pick_rng F.sp d0 (fun s => metC inS s.2.1 v && p.1.contains s.2.2) (fun s => D.int s.1), del_put n1, show ((F.sp.filter fun s => metC inS s.2.1 v && p.1.contains s.2.2).map fun s => D.int s.1) = ((F.sp.filter fun s => metC inS s.2.1 v && p.1.contains s.2.2).map fun s => s.1).map D.int from by rw [List.map_map]; rfl]
      generalize hfd : ((F.sp.filter fun s => metC inS s.2.1 v && p.1.contains s.2.2).map fun s => s.1) = fd
      rw [q_lc]
      walk_at "dl7"
      refine ⟨by omega, by omega, fun p2 n2 => ?_⟩
      rw [rngD_I]
      refine lc_map D.int (fun x => fd.contains x) D.int trivial (rngI F.n) [] (sz1000 (by rw [rngI_len, List.length_nil]; omega)) (fun x mx R r => ?_) (fun x mx _ R r => ?_) ?_
      · ((walk_at "dl7"); repeat (simp only [flat_int, inD_intl]; (walk_at "dl7")))
        exact ⟨rfl, r⟩
      · walk_at "dl7"
        exact r
      · rw [List.nil_append]
        walk_at "dl7"
        rw [del_put n2]
        have eb : (rngI F.n).filter (fun x => fd.contains x) = bhd (bkw F) p.1 v := by
          refine asc_eq _ _ ((rngI_asc F.n).filter _) (bhd_ok _ _ _).1 fun x => ?_
          rw [mem_bhd, List.mem_filter, rngI_mem, List.contains_iff_mem, ← hfd, List.mem_map]
          refine and_congr Iff.rfl ⟨?_, ?_⟩
          · rintro ⟨s, ms, rfl⟩
            rw [List.mem_filter, Bool.and_eq_true, List.contains_iff_mem] at ms
            exact ⟨(s.2.2, s.2.1, s.1), List.mem_map.mpr ⟨s, ms.1, rfl⟩, ms.2.2, ms.2.1, rfl⟩
          · rintro ⟨s, ms, a, b, rfl⟩
            obtain ⟨t, mt, rfl⟩ := List.mem_map.mp ms
            exact ⟨t, List.mem_filter.mpr ⟨mt, by rw [Bool.and_eq_true, List.contains_iff_mem]; exact ⟨b, a⟩⟩, rfl⟩
        rw [eb]
        exact fin q
  | rp =>
    unfold Deed.s
    walk_at "dl7"
    refine ⟨F, p.1, v, rfl, f, ?_⟩
    walk_at "dl7"
    refine ⟨fun τ g => τ = [some (.str "repeated"), some (mD F), some (mD G), some (prD p), some (trD F v), some (trD G v), none, some (tI (mvd F G p v .rp).1), none, none, none] ∧ h = g, ?_, ?_⟩
    · walk_at "dl7"
      refine ⟨F, _, rfl, f, bhd_ok F p.1 v, ?_⟩
      walk_at "dl7"
      refine sif_i (fun c => ?_) (fun c => ?_)
      · rw [ef]
        walk_at "dl7"
        rw [q_lc]
        walk_at "dl7"
        refine ⟨by omega, by omega, fun p2 n2 => ?_⟩
        rw [rngD_I]
        refine lc_map D.int (fun x => (bhd F p.1 v).contains x || F.st.contains x) D.int trivial (rngI F.n) [] (sz1000 (by rw [rngI_len, List.length_nil]; omega)) (fun x mx R r => ?_) (fun x mx _ R r => ?_) ?_
        · unfold tI
          ((walk_at "dl7"); repeat (simp only [flat_int, inD_intl]; (walk_at "dl7")))
          cases e1 : (bhd F p.1 v).contains x with
          | true =>
            rw [e1, Bool.true_or] at r
            walk_at "dl7"
            exact ⟨rfl, r⟩
          | false =>
            rw [e1, Bool.false_or] at r
            walk_at "dl7"
            exact ⟨rfl, rfl, flat_int _, by rw [inD_intl]; exact r⟩
        · walk_at "dl7"
          exact r
        · rw [List.nil_append, del_put n2]
          refine ⟨?_, rfl⟩
          rw [show (mvd F G p v .rp).1 = (if anyEnd F (bhd F p.1 v) = true then addT F.n (bhd F p.1 v) F.st else bhd F p.1 v) from rfl, if_pos c]
          rfl
      · walk_at "dl7"
        rw [show (mvd F G p v .rp).1 = (if anyEnd F (bhd F p.1 v) = true then addT F.n (bhd F p.1 v) F.st else bhd F p.1 v) from rfl, if_neg (by rw [c]; decide)]
        rfl
    · rintro τ g ⟨rfl, rfl⟩
      unfold prD
      ((walk_at "dl7"); repeat (simp only [Bool.or_false, Bool.or_true, Bool.true_or, Bool.false_or, flatS, all2, all3, inD2, inD3]; (walk_at "dl7")))
      exact fin q
  | fl =>
    unfold Deed.s
    walk_at "dl7"
    refine ⟨F, p.1, v, rfl, f, ?_⟩
    walk_at "dl7"
    refine ⟨fun τ g => τ = [some (.str "followed"), some (mD F), some (mD G), some (prD p), some (trD F v), some (trD G v), none, some (tI (bhd F p.1 v)), none, none, none] ∧ h = g, ?_, ?_⟩
    · walk_at "dl7"
      rfl
    · rintro τ g ⟨rfl, rfl⟩
      unfold prD
      ((walk_at "dl7"); repeat (simp only [Bool.or_false, Bool.or_true, Bool.true_or, Bool.false_or, flatS, all2, all3, inD2, inD3]; (walk_at "dl7")))
      refine ⟨G, p.2, v, rfl, g, ?_⟩
      walk_at "dl7"
      refine ⟨fun τ g => τ = [some (.str "followed"), some (mD F), some (mD G), some (prD p), some (trD F v), some (trD G v), none, some (tI (bhd F p.1 v)), some (tI (mvd F G p v .fl).2), none, none] ∧ h = g, ?_, ?_⟩
      · walk_at "dl7"
        refine ⟨F, _, rfl, f, bhd_ok F p.1 v, ?_⟩
        walk_at "dl7"
        refine sif_i (fun c => ?_) (fun c => ?_)
        · rw [eg]
          walk_at "dl7"
          rw [q_lc]
          walk_at "dl7"
          refine ⟨by omega, by omega, fun p2 n2 => ?_⟩
          rw [rngD_I]
          refine lc_map D.int (fun x => (bhd G p.2 v).contains x || G.st.contains x) D.int trivial (rngI G.n) [] (sz1000 (by rw [rngI_len, List.length_nil]; omega)) (fun x mx R r => ?_) (fun x mx _ R r => ?_) ?_
          · unfold tI
            ((walk_at "dl7"); repeat (simp only [flat_int, inD_intl]; (walk_at "dl7")))
            cases e1 : (bhd G p.2 v).contains x with
            | true =>
              rw [e1, Bool.true_or] at r
              walk_at "dl7"
              exact ⟨rfl, r⟩
            | false =>
              rw [e1, Bool.false_or] at r
              walk_at "dl7"
              exact ⟨rfl, rfl, flat_int _, by rw [inD_intl]; exact r⟩
          · walk_at "dl7"
            exact r
          · rw [List.nil_append, del_put n2]
            refine ⟨?_, rfl⟩
            rw [show (mvd F G p v .fl).2 = (if anyEnd F (bhd F p.1 v) = true then addT G.n (bhd G p.2 v) G.st else bhd G p.2 v) from rfl, if_pos c]
            rfl
        · walk_at "dl7"
          rw [show (mvd F G p v .fl).2 = (if anyEnd F (bhd F p.1 v) = true then addT G.n (bhd G p.2 v) G.st else bhd G p.2 v) from rfl, if_neg (by rw [c]; decide)]
          rfl
      · rintro τ g ⟨rfl, rfl⟩
        walk_at "dl7"
        exact fin q
end K41
-- set2
set_option Elab.async false
set_option linter.all false
set_option maxRecDepth 100000
set_option maxHeartbeats 4000000
namespace K41
open PySem PySem.Spec PyProof.Rows L2 DL K00 K01 K03 K04 K22
def Row (g : DH) (F G : Mc) (d : Deed) (l : List D) (PL : List Pr) (b : Addr) (p : Pr) (n : Nat) : Prop :=
  ∃ row : List Int, g b = some (.lst (row.map .int)) ∧ row.length = n ∧ ∀ (j : Nat) (v : D), j < n → l[j]? = some v → ∃ i : Nat, row[j]? = some (i : Int) ∧ PL[i]? = some (mvd F G p v d)
def Chart (g : DH) (F G : Mc) (d : Deed) (l : List D) (r : D) : Prop :=
  ∃ (a w : Addr) (PL : List Pr) (RA : List Addr) (x : D), r = .lis [.ref a, .lis (PL.map fun p => .bl (jen F G p d)), .ref w, x] ∧ g a = some (.lst (RA.map .ref)) ∧ RA.length = PL.length ∧ PL[0]? = some (opn F G d) ∧ (∀ p ∈ PL, Vp F G d p) ∧
    ∀ (k : Nat) (p : Pr) (b : Addr), PL[k]? = some p → RA[k]? = some b → Row g F G d l PL b p l.length
theorem Chart.gr {g k : DH} {F G : Mc} {d : Deed} {l : List D} {r : D} (c : Chart g F G d l r) (e : Gr g k) : Chart k F G d l r := by
  obtain ⟨a, w, PL, RA, x, er, ea, h1, h2, h3, h4⟩ := c
  refine ⟨a, w, PL, RA, x, er, e.keep ea, h1, h2, h3, fun k p b e1 e2 => ?_⟩
  obtain ⟨row, gb, q⟩ := h4 k p b e1 e2
  exact ⟨row, e.keep gb, q⟩
def spDChart : Sp' := fun ds h Q _ => ∃ (d : Deed) (F G : Mc) (l : List D), ds = [.str d.s, mD F, mD G, .lis l] ∧ Sm F ∧ Sm G ∧ F.k = G.k ∧ (∀ v ∈ l, isL F.k v = true) ∧ l.length ≤ 6000 ∧ ∀ r g, Gr h g → Chart g F G d l r → Q r g
def spSpeaks : Sp' := fun ds h Q _ => ∃ (d : Deed) (F G : Mc) (l : List D) (r : D) (m : Nat), ds = [mD (tld F G d), r, .lis l, .int (m : Int)] ∧ Sm F ∧ Sm G ∧ F.k = G.k ∧ (∀ v ∈ l, isL F.k v = true) ∧ l.length ≤ 6000 ∧ m ≤ 1000 ∧ Chart h F G d l r ∧ ∀ g, Gr h g → Q (.bl true) g
structure Ch (h g : DH) (F G : Mc) (d : Deed) (l : List D) (p4 p5 p6 p7 p8 p9 : Addr) (PL : List Pr) (WL : List D) (RA : List Addr) (ps : List (D × D)) : Prop where
  gr : Gr h g
  e4 : g p4 = some (.lst (l.map (trD F)))
  e5 : g p5 = some (.lst (l.map (trD G)))
  e6 : g p6 = some (.lst (PL.map prD))
  e7 : g p7 = some (.ded ps)
  e8 : g p8 = some (.lst WL)
  e9 : g p9 = some (.lst (RA.map .ref))
  vp : ∀ p ∈ PL, Vp F G d p
  nd : PL.Nodup
  p0 : PL[0]? = some (opn F G d)
  kn : ∀ (i : Nat) (p : Pr), PL[i]? = some p → eV ps (kPr p) = some (.int (i : Int))
  ku : ∀ p, p ∉ PL → eV ps (kPr p) = none
  kl : ps.length ≤ PL.length
  wl : WL.length = PL.length
  ww : ∀ (i : Nat) (w : D), WL[i]? = some w → ∃ ds : List D, w = .tup ds ∧ ds.length ≤ i
  rd : ∀ b ∈ RA, (b ≠ p6 ∧ b ≠ p7 ∧ b ≠ p8 ∧ b ≠ p9)
  rs : ∀ b ∈ RA, g b ≠ none
  rl : RA.length ≤ PL.length
  rr : ∀ (j : Nat) (p : Pr) (b : Addr), PL[j]? = some p → RA[j]? = some b → Row g F G d l PL b p l.length
structure Df (h : DH) (p4 p5 p6 p7 p8 p9 : Addr) : Prop where
  n64 : p6 ≠ p4
  n65 : p6 ≠ p5
  n74 : p7 ≠ p4
  n75 : p7 ≠ p5
  n76 : p7 ≠ p6
  n84 : p8 ≠ p4
  n85 : p8 ≠ p5
  n86 : p8 ≠ p6
  n87 : p8 ≠ p7
  n94 : p9 ≠ p4
  n95 : p9 ≠ p5
  n96 : p9 ≠ p6
  n97 : p9 ≠ p7
  n98 : p9 ≠ p8
  h6 : h p6 = none
  h7 : h p7 = none
  h8 : h p8 = none
  h9 : h p9 = none
section
variable {h g : DH} {F G : Mc} {d : Deed} {l : List D} {p4 p5 p6 p7 p8 p9 : Addr} {PL : List Pr} {WL : List D} {RA : List Addr} {ps : List (D × D)}
theorem get_app {α : Type} {l m : List α} {i : Nat} {a : α} (e : l[i]? = some a) : (l ++ m)[i]? = some a := by
  rw [List.getElem?_append_left (List.getElem?_eq_some_iff.mp e).1]; exact e
theorem Row.put {b p : Addr} {q : Pr} {o : DO} {n : Nat} (r : Row g F G d l PL b q n) (ne : b ≠ p) : Row (put g p o) F G d l PL b q n := by
  obtain ⟨row, gb, x⟩ := r
  exact ⟨row, by rw [put_ne ne]; exact gb, x⟩
theorem Row.more {b : Addr} {q : Pr} {M : List Pr} {n : Nat} (r : Row g F G d l PL b q n) : Row g F G d l (PL ++ M) b q n := by
  obtain ⟨row, gb, x, y⟩ := r
  refine ⟨row, gb, x, fun j v lt e => ?_⟩
  obtain ⟨i, a, b⟩ := y j v lt e
  exact ⟨i, a, get_app b⟩
theorem Ch.off (c : Ch h g F G d l p4 p5 p6 p7 p8 p9 PL WL RA ps) {b : Addr} {o : DO} (hb : h b = none) (a4 : b ≠ p4) (a5 : b ≠ p5) (a6 : b ≠ p6) (a7 : b ≠ p7) (a8 : b ≠ p8) (a9 : b ≠ p9) (ar : b ∉ RA) : Ch h (put g b o) F G d l p4 p5 p6 p7 p8 p9 PL WL RA ps :=
  ⟨c.gr.put hb, by rw [put_ne (Ne.symm a4)]; exact c.e4, by rw [put_ne (Ne.symm a5)]; exact c.e5, by rw [put_ne (Ne.symm a6)]; exact c.e6, by rw [put_ne (Ne.symm a7)]; exact c.e7, by rw [put_ne (Ne.symm a8)]; exact c.e8, by rw [put_ne (Ne.symm a9)]; exact c.e9,
    c.vp, c.nd, c.p0, c.kn, c.ku, c.kl, c.wl, c.ww, c.rd, fun x m => by rw [put_ne (fun z : x = b => ar (z ▸ m))]; exact c.rs x m, c.rl, fun j p x e1 e2 => (c.rr j p x e1 e2).put (fun z => ar (z ▸ List.mem_of_getElem? e2))⟩
theorem Ch.add (D0 : Df h p4 p5 p6 p7 p8 p9) (c : Ch h g F G d l p4 p5 p6 p7 p8 p9 PL WL RA ps) {q : Pr} (vq : Vp F G d q) (nq : q ∉ PL) {ws : List D} (hw : ws.length ≤ WL.length) :
    Ch h (put (put (put g p7 (.ded (ePut ps (kPr q) (prD q) (.int (PL.length : Int))))) p6 (.lst (PL.map prD ++ [prD q]))) p8 (.lst (WL ++ [.tup ws]))) F G d l p4 p5 p6 p7 p8 p9 (PL ++ [q]) (WL ++ [.tup ws]) RA (ePut ps (kPr q) (prD q) (.int (PL.length : Int))) := by
  have iq : isK (prD q) (kPr q) := isK_Pr q
  refine ⟨((c.gr.put D0.h7).put D0.h6).put D0.h8, ?_, ?_, ?_, ?_, put_same, ?_, ?_, ?_, get_app c.p0, ?_, ?_, ?_, ?_, ?_, c.rd, ?_, by rw [List.length_append]; exact Nat.le_trans c.rl (Nat.le_add_right _ _), ?_⟩
  · rw [put_ne (Ne.symm D0.n84), put_ne (Ne.symm D0.n64), put_ne (Ne.symm D0.n74)]; exact c.e4
  · rw [put_ne (Ne.symm D0.n85), put_ne (Ne.symm D0.n65), put_ne (Ne.symm D0.n75)]; exact c.e5
  · rw [put_ne (Ne.symm D0.n86), put_same, List.map_append]; rfl
  · rw [put_ne (Ne.symm D0.n87), put_ne D0.n76, put_same]
  · rw [put_ne D0.n98, put_ne D0.n96, put_ne D0.n97]; exact c.e9
  · intro p m
    rcases List.mem_append.mp m with m | m
    · exact c.vp p m
    · rw [List.mem_singleton.mp m]; exact vq
  · refine List.nodup_append.mpr ⟨c.nd, List.nodup_cons.mpr ⟨fun z => (List.not_mem_nil z).elim, List.nodup_nil⟩, fun x mx y my z => ?_⟩
    rw [List.mem_singleton.mp my] at z
    exact nq (z ▸ mx)
  · intro i p e
    rw [eV_put iq.2.1]
    by_cases lt : i < PL.length
    · rw [List.getElem?_append_left lt] at e
      rw [if_neg (fun z : kPr p = kPr q => nq (kPr_inj z ▸ List.mem_of_getElem? e))]
      exact c.kn i p e
    · have lt2 := (List.getElem?_eq_some_iff.mp e).1
      rw [List.length_append, List.length_singleton] at lt2
      have ei : i = PL.length := by omega
      subst ei
      rw [List.getElem?_append_right (Nat.le_refl _), Nat.sub_self] at e
      cases e
      rw [if_pos rfl]
  · intro p m
    rw [eV_put iq.2.1, if_neg (fun z => m (by rw [kPr_inj z]; simp))]
    exact c.ku p fun z => m (List.mem_append_left _ z)
  · have := ePut_len (ps := ps) (k := kPr q) (kd := prD q) (v := .int (PL.length : Int))
    have := c.kl
    rw [List.length_append, List.length_singleton]
    omega
  · rw [List.length_append, List.length_append, c.wl]; rfl
  · intro i w e
    by_cases lt : i < WL.length
    · rw [List.getElem?_append_left lt] at e
      exact c.ww i w e
    · have lt2 := (List.getElem?_eq_some_iff.mp e).1
      rw [List.length_append, List.length_singleton] at lt2
      have ei : i = WL.length := by omega
      subst ei
      rw [List.getElem?_append_right (Nat.le_refl _), Nat.sub_self] at e
      cases e
      exact ⟨ws, rfl, hw⟩
  · intro b m
    have r := c.rd b m
    rw [put_ne r.2.2.1, put_ne r.1, put_ne r.2.1]
    exact c.rs b m
  · intro j p b e1 e2
    have mb := List.mem_of_getElem? e2
    have r := c.rd b mb
    have lt : j < PL.length := Nat.lt_of_lt_of_le (List.getElem?_eq_some_iff.mp e2).1 c.rl
    rw [List.getElem?_append_left lt] at e1
    exact ((((c.rr j p b e1 e2).put r.2.1).put r.1).put r.2.2.1).more
theorem Ch.row (D0 : Df h p4 p5 p6 p7 p8 p9) (c : Ch h g F G d l p4 p5 p6 p7 p8 p9 PL WL RA ps) {b : Addr} {p : Pr} (e : PL[RA.length]? = some p) (r : Row g F G d l PL b p l.length) (ne : b ≠ p6 ∧ b ≠ p7 ∧ b ≠ p8 ∧ b ≠ p9) :
    Ch h (put g p9 (.lst (RA.map .ref ++ [.ref b]))) F G d l p4 p5 p6 p7 p8 p9 PL WL (RA ++ [b]) ps := by
  refine ⟨c.gr.put D0.h9, by rw [put_ne (Ne.symm D0.n94)]; exact c.e4, by rw [put_ne (Ne.symm D0.n95)]; exact c.e5, by rw [put_ne (Ne.symm D0.n96)]; exact c.e6, by rw [put_ne (Ne.symm D0.n97)]; exact c.e7, by rw [put_ne (Ne.symm D0.n98)]; exact c.e8, by rw [put_same, List.map_append]; rfl,
    c.vp, c.nd, c.p0, c.kn, c.ku, c.kl, c.wl, c.ww, fun x m => ?_, fun x m => ?_, ?_, fun j q x e1 e2 => ?_⟩
  · rcases List.mem_append.mp m with m | m
    · exact c.rd x m
    · rw [List.mem_singleton.mp m]; exact ne
  · rcases List.mem_append.mp m with m | m
    · rw [put_ne (c.rd x m).2.2.2]; exact c.rs x m
    · rw [List.mem_singleton.mp m, put_ne ne.2.2.2]
      obtain ⟨row, gb, _⟩ := r
      rw [gb]
      exact fun z => by cases z
  · rw [List.length_append, List.length_singleton]
    exact (List.getElem?_eq_some_iff.mp e).1
  · by_cases lt : j < RA.length
    · rw [List.getElem?_append_left lt] at e2
      exact (c.rr j q x e1 e2).put (c.rd x (List.mem_of_getElem? e2)).2.2.2
    · have lt2 := (List.getElem?_eq_some_iff.mp e2).1
      rw [List.length_append, List.length_singleton] at lt2
      have ei : j = RA.length := by omega
      subst ei
      rw [List.getElem?_append_right (Nat.le_refl _), Nat.sub_self] at e2
      cases e2
      rw [e] at e1
      cases e1
      exact r.put ne.2.2.2
end
theorem rd__law_deed_chart (ds : List D) (h : DH) (Q : VK') (E' : XK') (q : spDChart ds h Q E') : t__law_deed_chart spTruths spOpened spMoved41 spJEnd (ends Q) (slots n__law_deed_chart ds) h := by
  obtain ⟨d, F, G, l, rfl, f, g, ek, hl, ll, q⟩ := q
  have of := f.ok
  have og := g.ok
  show t__law_deed_chart _ _ _ _ (ends Q) [some (.str d.s), some (mD F), some (mD G), some (.lis l), none, none, none, none, none, none, none, none, none, none, none, none] h
  unfold t__law_deed_chart
  walk_at "dl7"
  refine ⟨F, l, rfl, of, hl, ll, fun p4 n4 => ?_⟩
  walk_at "dl7"
  refine ⟨G, l, rfl, og, fun v m => by rw [← ek]; exact hl v m, ll, fun p5 n5 => ?_⟩
  walk_at "dl7"
  refine ⟨d, F, G, rfl, of, og, ?_⟩
  walk_at "dl7"
  intro p6 n6
  rw [q_edisp]
  intro p7 n7
  walk_at "dl7"
  have n76 := ne_put n7
  have f7 := free_put n7
  have n75 := ne_put f7
  have f7 := free_put f7
  have n74 := ne_put f7
  have f7 := free_put f7
  have n65 := ne_put n6
  have f6 := free_put n6
  have n64 := ne_put f6
  have f6 := free_put f6
  have n54 := ne_put n5
  have f5 := free_put n5
  refine own_i (by rw [put_ne (Ne.symm n76), put_same]) ?_
  walk_at "dl7"
  refine ⟨kPr (opn F G d), isK_Pr _, fun p8 n8 p9 n9 => ?_⟩
  have n98 := ne_put n9
  have f9 := free_put n9
  have n97 := ne_put f9
  have f9 := free_put f9
  have n96 := ne_put f9
  have f9 := free_put f9
  have n95 := ne_put f9
  have f9 := free_put f9
  have n94 := ne_put f9
  have f9 := free_put f9
  have n87 := ne_put n8
  have f8 := free_put n8
  have n86 := ne_put f8
  have f8 := free_put f8
  have n85 := ne_put f8
  have f8 := free_put f8
  have n84 := ne_put f8
  have f8 := free_put f8
  have D0 : Df h p4 p5 p6 p7 p8 p9 := ⟨n64, n65, n74, n75, n76, n84, n85, n86, n87, n94, n95, n96, n97, n98, f6, f7, f8, f9⟩
  have c0 : Ch h (put (put (put (put (put (put h p4 (.lst (l.map (trD F)))) p5 (.lst (l.map (trD G)))) p6 (.lst [prD (opn F G d)])) p7 (.ded [(prD (opn F G d), .int 0)])) p8 (.lst [.tup []])) p9 (.lst [])) F G d l p4 p5 p6 p7 p8 p9 [opn F G d] [.tup []] [] [(prD (opn F G d), .int 0)] := by
    have ik : nkD (prD (opn F G d)) = some (kPr (opn F G d)) := (isK_Pr (opn F G d)).2.1
    refine ⟨(((((Gr.refl.put n4).put f5).put f6).put f7).put f8).put f9, ?_, ?_, ?_, ?_, ?_, put_same, ?_, by simp, rfl, ?_, ?_, Nat.le_refl _, rfl, ?_, (fun b m => by cases m), (fun b m => by cases m), by simp, (fun j p b _ e => by cases e)⟩
    · rw [put_ne (Ne.symm n94), put_ne (Ne.symm n84), put_ne (Ne.symm n74), put_ne (Ne.symm n64), put_ne (Ne.symm n54), put_same]
    · rw [put_ne (Ne.symm n95), put_ne (Ne.symm n85), put_ne (Ne.symm n75), put_ne (Ne.symm n65), put_same]
    · rw [put_ne (Ne.symm n96), put_ne (Ne.symm n86), put_ne (Ne.symm n76), put_same]; rfl
    · rw [put_ne (Ne.symm n97), put_ne (Ne.symm n87), put_same]
    · rw [put_ne (Ne.symm n98), put_same]
    · intro p m
      rw [List.mem_singleton.mp m]
      exact opn_vp f g d
    · intro i p e
      cases i with
      | zero => cases e; simp [eV, ik]
      | succ i => cases e
    · intro p m
      have ne : ¬ kPr (opn F G d) = kPr p := fun z => m (by rw [kPr_inj z]; simp)
      simp [eV, ik, ne]
    · intro i w e
      cases i with
      | zero => cases e; exact ⟨[], rfl, Nat.zero_le _⟩
      | succ i => cases e
  generalize put (put (put (put (put (put h p4 (.lst (l.map (trD F)))) p5 (.lst (l.map (trD G)))) p6 (.lst [prD (opn F G d)])) p7 (.ded [(prD (opn F G d), .int 0)])) p8 (.lst [.tup []])) p9 (.lst []) = g0 at c0 ⊢
  have few' : ∀ {g PL WL RA ps}, Ch h g F G d l p4 p5 p6 p7 p8 p9 PL WL RA ps → PL.length ≤ 256 := fun c => few f g c.vp c.nd
  have z : ∀ {n : Nat}, n ≤ 10000 → n < sizeLine := fun h => Nat.lt_of_le_of_lt h (by decide)
  refine for_ind (fun xs τ g => ∃ (i rem : Nat) (PL : List Pr) (WL : List D) (RA : List Addr) (ps : List (D × D)) (x10 x11 x12 x13 : Option D), xs = rngD (i : Int) rem ∧ i + rem = 400 ∧ τ = [some (.str d.s), some (mD F), some (mD G), some (.lis l), some (.ref p4), some (.ref p5), some (.ref p6), some (.ref p7), some (.ref p8), some (.ref p9), x10, x11, x12, x13, none, none] ∧
    Ch h g F G d l p4 p5 p6 p7 p8 p9 PL WL RA ps ∧ RA.length = min i PL.length) ?_ ?_ _ _ _ ⟨0, 400, _, _, _, _, none, none, none, none, rfl, rfl, rfl, c0, rfl⟩
  · rintro τ g1 ⟨i, rem, PL, WL, RA, ps, x10, x11, x12, x13, e, hi, rfl, c, hr⟩
    have r0 : rem = 0 := by
      cases rem with
      | zero => rfl
      | succ n => rw [rngD_succ] at e; cases e
    have lP := few' c
    rw [q_fnil]
    walk_at "dl7"
    rw [q_lc]
    walk_at "dl7"
    refine own_i c.e6 fun pX nX => ?_
    have n6X : p6 ≠ pX := fun z => by have := c.e6; rw [z, nX] at this; cases this
    refine lc_all prD (fun p => D.bl (jen F G p d)) (by rw [put_ne n6X]; exact c.e6) PL [] (sz1000 (by rw [List.length_nil]; omega)) (fun p m R r => ?_) ?_
    · walk_at "dl7"
      refine ⟨d, F, G, p, rfl, of, og, (c.vp p m).l, (c.vp p m).r, ?_⟩
      walk_at "dl7"
      exact r
    · rw [List.nil_append, del_put nX, q_lc]
      walk_at "dl7"
      intro pY nY
      refine lc_pure (fun _ => true) (fun v => D.tup [.tup [], v]) trivial l [] (Nat.le_of_lt (z (by rw [List.length_nil]; omega))) (fun v _ R r => r) (fun v _ _ R r => ?_) ?_
      · walk_at "dl7"
        exact r
      · rw [List.nil_append, del_put nY]
        exact fin (q _ _ c.gr ⟨p9, p8, PL, RA, _, rfl, c.e9, by omega, c.p0, c.vp, c.rr⟩)
  · rintro x xs ih τ g1 ⟨i, rem, PL, WL, RA, ps, x10, x11, x12, x13, e, hi, rfl, c, hr⟩
    cases rem with
    | zero => cases e
    | succ rem =>
      rw [rngD_succ] at e
      cases e
      rw [q_fcons]
      walk_at "dl7"
      refine ⟨fun τ g => ∃ (PL : List Pr) (WL : List D) (RA : List Addr) (ps : List (D × D)) (x11 x12 x13 : Option D), τ = [some (.str d.s), some (mD F), some (mD G), some (.lis l), some (.ref p4), some (.ref p5), some (.ref p6), some (.ref p7), some (.ref p8), some (.ref p9), some (.int (i : Int)), x11, x12, x13, none, none] ∧
        Ch h g F G d l p4 p5 p6 p7 p8 p9 PL WL RA ps ∧ RA.length = min (i + 1) PL.length, ?_, ?_⟩
      · walk_at "dl7"
        refine own_i c.e6 ?_
        refine sif_i (fun c1 => ?_) (fun c1 => ?_)
        · have c1 := of_decide_eq_true c1
          rw [List.length_map] at c1
          have il : i < PL.length := by omega
          walk_at "dl7"
          intro p11 n11
          refine ⟨by omega, by omega, ?_⟩
          rw [Int.toNat_natCast]
          have a4 : p11 ≠ p4 := fun z => by have := c.e4; rw [← z, n11] at this; cases this
          have a5 : p11 ≠ p5 := fun z => by have := c.e5; rw [← z, n11] at this; cases this
          have a6 : p11 ≠ p6 := fun z => by have := c.e6; rw [← z, n11] at this; cases this
          have a7 : p11 ≠ p7 := fun z => by have := c.e7; rw [← z, n11] at this; cases this
          have a8 : p11 ≠ p8 := fun z => by have := c.e8; rw [← z, n11] at this; cases this
          have a9 : p11 ≠ p9 := fun z => by have := c.e9; rw [← z, n11] at this; cases this
          have ar : p11 ∉ RA := fun m => c.rs p11 m n11
          have hb : h p11 = none := c.gr.fresh n11
          have ep : PL[i]? = some PL[i] := List.getElem?_eq_getElem il
          generalize PL[i] = p at ep
          have hr : RA.length = i := by omega
          refine for_ind (fun xs τ g => ∃ (j rem : Nat) (PL : List Pr) (WL : List D) (ps : List (D × D)) (x12 x13 : Option D), xs = rngD (j : Int) rem ∧ j + rem = l.length ∧ τ = [some (.str d.s), some (mD F), some (mD G), some (.lis l), some (.ref p4), some (.ref p5), some (.ref p6), some (.ref p7), some (.ref p8), some (.ref p9), some (.int (i : Int)), some (.ref p11), x12, x13, none, none] ∧
            Ch h g F G d l p4 p5 p6 p7 p8 p9 PL WL RA ps ∧ PL[i]? = some p ∧ Row g F G d l PL p11 p j) ?_ ?_ _ _ _ ⟨0, l.length, PL, WL, ps, _, _, rfl, by omega, rfl, c.off hb a4 a5 a6 a7 a8 a9 ar, ep, ⟨[], put_same, rfl, fun j v lt _ => by omega⟩⟩
          · rintro τ g2 ⟨j, rem', PL, WL, ps, x12, x13, e, hj, rfl, c, ep, rw1⟩
            have r0 : rem' = 0 := by
              cases rem' with
              | zero => rfl
              | succ n => rw [rngD_succ] at e; cases e
            subst r0
            obtain rfl : j = l.length := by omega
            have lP := few' c
            have il2 := (List.getElem?_eq_some_iff.mp ep).1
            rw [q_fnil]
            walk_at "dl7"
            refine ⟨own_i c.e9 trivial, own_i c.e9 ⟨by rw [List.length_map]; exact z (by omega), ?_⟩⟩
            refine ⟨PL, WL, RA ++ [p11], ps, _, _, _, rfl, c.row D0 (by rw [hr]; exact ep) rw1 ⟨a6, a7, a8, a9⟩, by rw [List.length_append, List.length_singleton]; omega⟩
          · rintro x xs2 ih2 τ g2 ⟨j, rem', PL, WL, ps, x12, x13, e, hj, rfl, c, ep, rw1⟩
            cases rem' with
            | zero => cases e
            | succ rem' =>
              rw [rngD_succ] at e
              cases e
              have jl : j < l.length := by omega
              have ej : l[j]? = some l[j] := List.getElem?_eq_getElem jl
              generalize l[j] = v at ej
              have lP := few' c
              have tF : atI (l.map (trD F)) (j : Int) = some (trD F v) := atI_nat (by rw [List.getElem?_map, ej]; rfl)
              have tG : atI (l.map (trD G)) (j : Int) = some (trD G v) := atI_nat (by rw [List.getElem?_map, ej]; rfl)
              have tP : atI (PL.map prD) (i : Int) = some (prD p) := atI_nat (by rw [List.getElem?_map, ep]; rfl)
              have vp := c.vp p (List.mem_of_getElem? ep)
              have vq := mvd_vp f g d p v
              rw [q_fcons]
              walk_at "dl7"
              refine own_i c.e6 ⟨_, tP, ?_⟩
              walk_at "dl7"
              refine own_i c.e4 ⟨_, tF, ?_⟩
              walk_at "dl7"
              refine own_i c.e5 ⟨_, tG, ?_⟩
              walk_at "dl7"
              refine ⟨d, F, G, p, v, rfl, of, og, vp.l, vp.r, ?_⟩
              walk_at "dl7"
              generalize hq : mvd F G p v d = q at vq
              have ikq : isK (prD q) (kPr q) := isK_Pr q
              refine ⟨fun τ g => ∃ (PL : List Pr) (WL : List D) (ps : List (D × D)), τ = [some (.str d.s), some (mD F), some (mD G), some (.lis l), some (.ref p4), some (.ref p5), some (.ref p6), some (.ref p7), some (.ref p8), some (.ref p9), some (.int (i : Int)), some (.ref p11), some (.int (j : Int)), some (prD q), none, none] ∧
                Ch h g F G d l p4 p5 p6 p7 p8 p9 PL WL RA ps ∧ PL[i]? = some p ∧ Row g F G d l PL p11 p j ∧ q ∈ PL, ?_, ?_⟩
              · walk_at "dl7"
                rw [q_einE c.e7 ikq]
                walk_at "dl7"
                refine sif_i (fun c2 => ?_) (fun c2 => ?_)
                · have nq : q ∉ PL := fun m => by
                    obtain ⟨i', ei⟩ := List.getElem?_of_mem m
                    rw [c.kn i' q ei] at c2
                    cases c2
                  obtain ⟨w, ew⟩ : ∃ w, WL[i]? = some w := ⟨_, List.getElem?_eq_getElem (by rw [c.wl]; exact (List.getElem?_eq_some_iff.mp ep).1)⟩
                  obtain ⟨ws, rfl, lw⟩ := c.ww i w ew
                  have tW : atI WL (i : Int) = some (.tup ws) := atI_nat ew
                  have tV : atI l (j : Int) = some v := atI_nat ej
                  have iW := (List.getElem?_eq_some_iff.mp ew).1
                  have wl := c.wl
                  have kl := c.kl
                  have cn := c.add D0 vq nq (ws := ws ++ [v]) (by rw [List.length_append, List.length_singleton]; omega)
                  have rn : Row (put (put (put g2 p7 (.ded (ePut ps (kPr q) (prD q) (.int (PL.length : Int))))) p6 (.lst (PL.map prD ++ [prD q]))) p8 (.lst (WL ++ [.tup (ws ++ [v])]))) F G d l (PL ++ [q]) p11 p j := (((rw1.put a7).put a6).put a8).more
                  walk_at "dl7"
                  refine own_i c.e6 ?_
                  rw [q_gesub, List.length_map]
                  walk_at "dl7"
                  refine ⟨p7, ps, kPr q, rfl, c.e7, ikq, z (by omega), ?_⟩
                  walk_at "dl7"
                  generalize hg3 : put g2 p7 (.ded (ePut ps (kPr q) (prD q) (.int (PL.length : Int)))) = g3 at cn rn
                  have e63 : g3 p6 = some (.lst (PL.map prD)) := by rw [← hg3, put_ne (Ne.symm D0.n76)]; exact c.e6
                  have e83 : g3 p8 = some (.lst WL) := by rw [← hg3, put_ne D0.n87]; exact c.e8
                  have e84 : put g3 p6 (.lst (PL.map prD ++ [prD q])) p8 = some (.lst WL) := by rw [put_ne D0.n86]; exact e83
                  refine ⟨own_i e63 trivial, own_i e63 ⟨by rw [List.length_map]; exact z (by omega), own_i e84 trivial, own_i e84 ⟨_, tW, _, tV, ?_⟩⟩⟩
                  walk_at "dl7"
                  refine ⟨Nat.le_of_lt (z (by omega)), own_i e84 ⟨z (by omega), PL ++ [q], WL ++ [.tup (ws ++ [v])], _, cn, get_app ep, rn, by simp⟩⟩
                · have mq : q ∈ PL := Classical.byContradiction fun nm => by
                    rw [c.ku q nm] at c2
                    cases c2
                  walk_at "dl7"
                  exact ⟨PL, WL, ps, c, ep, rw1, mq⟩
              · rintro τ g3 ⟨PL, WL, ps, rfl, c, ep, rw1, mq⟩
                obtain ⟨i', ei⟩ := List.getElem?_of_mem mq
                obtain ⟨row, gb, lr, qr⟩ := rw1
                walk_at "dl7"
                refine ⟨own_i gb trivial, ?_⟩
                rw [q_eixE c.e7 ikq (c.kn i' q ei)]
                walk_at "dl7"
                refine own_i gb ⟨by rw [List.length_map, lr]; exact z (by omega), ?_⟩
                refine ih2 _ _ ⟨j + 1, rem', PL, WL, ps, _, _, rfl, by omega, rfl, c.off hb a4 a5 a6 a7 a8 a9 ar, ep, ⟨row ++ [(i' : Int)], by rw [put_same, List.map_append]; rfl, by rw [List.length_append, lr]; rfl, fun j2 v2 lt e2 => ?_⟩⟩
                by_cases lt2 : j2 < j
                · obtain ⟨i2, b1, b2⟩ := qr j2 v2 lt2 e2
                  exact ⟨i2, get_app b1, b2⟩
                · obtain rfl : j2 = j := by omega
                  rw [ej] at e2
                  cases e2
                  exact ⟨i', by rw [List.getElem?_append_right (by omega), lr, Nat.sub_self]; rfl, by rw [hq]; exact ei⟩
        · have c1 := of_decide_eq_false c1
          rw [List.length_map] at c1
          walk_at "dl7"
          refine ⟨PL, WL, RA, ps, x11, x12, x13, rfl, c, by omega⟩
      · rintro τ g1 ⟨PL, WL, RA, ps, x11, x12, x13, rfl, c, hr⟩
        exact ih _ _ ⟨i + 1, rem, PL, WL, RA, ps, _, _, _, _, rfl, by omega, rfl, c, hr⟩
theorem emb_ok {F G : Mc} (f : Sm F) (g : Sm G) {d : Deed} {p : Pr} (h : Vp F G d p) : stsOk (tld F G d).n (emb F G p d) := by
  have f1 := f.ok.n1
  have g1 := g.ok.n1
  cases d with
  | fl => exact cat_ok h.l h.r (by omega) (by omega)
  | rp =>
    show stsOk (F.n + 1) (if p.2 = [0] then p.1 ++ [F.n] else p.1)
    split
    · exact sts_snoc h.l (by omega)
    · exact sts_up h.l (by omega)
  | bk => exact h.l
def ndD (n : List Int × Int) : D := .tup [tI n.1, .int n.2]
theorem rd__law_speaks (ds : List D) (h : DH) (Q : VK') (E' : XK') (q : spSpeaks ds h Q E') : t__law_speaks spTruths spHasEnd spAfter (ends Q) (slots n__law_speaks ds) h := by
  obtain ⟨d, F, G, l, r, m, rfl, f, g, ek, hl, ll, hm, ch, q⟩ := q
  have of := f.ok
  have og := g.ok
  have om := tld_ok f g ek d
  have mk : (tld F G d).k = F.k := by cases d <;> rfl
  obtain ⟨ra, w, PL, RA, x, rfl, era, lRA, p0, vP, rr⟩ := ch
  have eT : ∀ p, Vp F G d p → anyEnd (tld F G d) (emb F G p d) = jen F G p d := fun p v => emb_jen f g v
  have sT : ∀ p, Vp F G d p → stsOk (tld F G d).n (emb F G p d) := fun p v => emb_ok f g v
  have mT : ∀ p v, Vp F G d p → bhd (tld F G d) (emb F G p d) v = emb F G (mvd F G p v d) d := fun p v vp => (emb_mvd f g vp v).symm
  have sT0 : (tld F G d).st = emb F G (opn F G d) d := (emb_opn F G d).symm
  have hlT : ∀ v ∈ l, isL (tld F G d).k v = true := fun v mv => by rw [mk]; exact hl v mv
  generalize tld F G d = T at om eT sT mT sT0 hlT ⊢
  show t__law_speaks _ _ _ (ends Q) [some (mD T), some (.lis [.ref ra, .lis (PL.map fun p => .bl (jen F G p d)), .ref w, x]), some (.lis l), some (.int (m : Int)), none, none, none, none, none, none, none] h
  unfold t__law_speaks
  walk_at "dl7"
  refine ⟨T, l, rfl, om, hlT, ll, fun p4 n4 => ?_⟩
  have em : mD T = .tup [kD T.k, .int T.n, tI T.st, tI T.en, .tup (T.sp.map stD)] := rfl
  rw [em]
  walk_at "dl7"
  intro p5 n5
  rw [q_edisp]
  intro p6 n6
  have n65 := ne_put n6
  have f6 := free_put n6
  have n64 := ne_put f6
  have f6 := free_put f6
  have n54 := ne_put n5
  have f5 := free_put n5
  walk_at "dl7"
  refine own_i (by rw [put_ne (Ne.symm n65), put_same]) ?_
  walk_at "dl7"
  refine ⟨kNd (T.st, 0), isK_Nd (T.st, 0), by omega, by omega, ?_⟩
  rw [Int.toNat_natCast]
  refine for_ind (fun xs τ g => ∃ (i rem : Nat) (NL : List (List Int × Int)) (ps : List (D × D)) (x7 x8 x9 x10 : Option D), xs = rngD (i : Int) rem ∧ i + rem = m ∧ τ = [some (mD T), some (.lis [.ref ra, .lis (PL.map fun p => .bl (jen F G p d)), .ref w, x]), some (.lis l), some (.int (m : Int)), some (.ref p4), some (.ref p5), some (.ref p6), x7, x8, x9, x10] ∧
    Gr h g ∧ g p4 = some (.lst (l.map (trD T))) ∧ g p5 = some (.lst (NL.map ndD)) ∧ g p6 = some (.ded ps) ∧ ps.length ≤ NL.length ∧ NL.length ≤ 1 + i * l.length ∧ ∀ n ∈ NL, ∃ (c : Nat) (p : Pr), n = (emb F G p d, (c : Int)) ∧ PL[c]? = some p) ?_ ?_ _ _ _
    ⟨0, m, [(T.st, 0)], [(ndD (T.st, 0), .bl true)], none, none, none, none, rfl, by omega, rfl, ((Gr.refl.put n4).put f5).put f6, by rw [put_ne (Ne.symm n64), put_ne (Ne.symm n54), put_same], by rw [put_ne (Ne.symm n65), put_same]; rfl, put_same, Nat.le_refl _, by simp, fun n mn => ⟨0, opn F G d, by rw [List.mem_singleton.mp mn, sT0]; rfl, p0⟩⟩
  · rintro τ g1 ⟨i, rem, NL, ps, x7, x8, x9, x10, e, hi, rfl, gr, _⟩
    rw [q_fnil]
    walk_at "dl7"
    exact fin (q _ gr)
  · rintro x' xs ih τ g1 ⟨i, rem, NL, ps, x7, x8, x9, x10, e, hi, rfl, gr, g4, g5, g6, lp, ln, hn⟩
    cases rem with
    | zero => cases e
    | succ rem =>
      rw [rngD_succ] at e
      cases e
      have big : (i + 1) * l.length ≤ 1000 * 6000 := Nat.mul_le_mul (by omega) ll
      have bi : (i + 1) * l.length = i * l.length + l.length := Nat.succ_mul _ _
      have z : ∀ {n : Nat}, n ≤ 1 + (i + 1) * l.length → n < sizeLine := fun h => Nat.lt_of_le_of_lt (Nat.le_trans h (by omega)) (show 6000001 < sizeLine by decide)
      rw [q_fcons]
      walk_at "dl7"
      refine ⟨fun τ g => ∃ (NL : List (List Int × Int)) (ps : List (D × D)) (x8 x9 x10 : Option D), τ = [some (mD T), some (.lis [.ref ra, .lis (PL.map fun p => .bl (jen F G p d)), .ref w, x]), some (.lis l), some (.int (m : Int)), some (.ref p4), some (.ref p5), some (.ref p6), some (.int (i : Int)), x8, x9, x10] ∧
        Gr h g ∧ g p4 = some (.lst (l.map (trD T))) ∧ g p5 = some (.lst (NL.map ndD)) ∧ g p6 = some (.ded ps) ∧ ps.length ≤ NL.length ∧ NL.length ≤ 1 + (i + 1) * l.length ∧ ∀ n ∈ NL, ∃ (c : Nat) (p : Pr), n = (emb F G p d, (c : Int)) ∧ PL[c]? = some p, ?_, ?_⟩
      · walk_at "dl7"
        refine own_i g5 ?_
        refine sif_i (fun c1 => ?_) (fun c1 => ?_)
        · have c1 := of_decide_eq_true c1
          rw [List.length_map] at c1
          have il : i < NL.length := by omega
          have en : NL[i]? = some NL[i] := List.getElem?_eq_getElem il
          generalize NL[i] = n at en
          obtain ⟨c, p, rfl, ec⟩ := hn n (List.mem_of_getElem? en)
          have tN : atI (NL.map ndD) (i : Int) = some (ndD (emb F G p d, (c : Int))) := atI_nat (by rw [List.getElem?_map, en]; rfl)
          have vp := vP p (List.mem_of_getElem? ec)
          have tE : atI (PL.map fun p => D.bl (jen F G p d)) (c : Int) = some (.bl (jen F G p d)) := atI_nat (by rw [List.getElem?_map, ec]; rfl)
          walk_at "dl7"
          refine own_i g5 ⟨_, tN, ?_⟩
          unfold ndD
          walk_at "dl7"
          refine ⟨T, emb F G p d, rfl, om, sT p vp, ?_⟩
          walk_at "dl7"
          refine ⟨_, tE, ?_⟩
          rw [eT p vp]
          walk_at "dl7"
          refine own_i g4 ?_
          rw [List.length_map]
          refine ⟨by omega, by omega, ?_⟩
          rw [Int.toNat_natCast]
          refine for_ind (fun xs τ g => ∃ (j rem : Nat) (NL : List (List Int × Int)) (ps : List (D × D)) (x9 x10 : Option D), xs = rngD (j : Int) rem ∧ j + rem = l.length ∧ τ = [some (mD T), some (.lis [.ref ra, .lis (PL.map fun p => .bl (jen F G p d)), .ref w, x]), some (.lis l), some (.int (m : Int)), some (.ref p4), some (.ref p5), some (.ref p6), some (.int (i : Int)), some (ndD (emb F G p d, (c : Int))), x9, x10] ∧
            Gr h g ∧ g p4 = some (.lst (l.map (trD T))) ∧ g p5 = some (.lst (NL.map ndD)) ∧ g p6 = some (.ded ps) ∧ ps.length ≤ NL.length ∧ NL.length ≤ 1 + i * l.length + j ∧ ∀ n ∈ NL, ∃ (c : Nat) (p : Pr), n = (emb F G p d, (c : Int)) ∧ PL[c]? = some p) ?_ ?_ _ _ _
            ⟨0, l.length, NL, ps, x9, x10, rfl, by omega, rfl, gr, g4, g5, g6, lp, by omega, hn⟩
          · rintro τ g1 ⟨j, rem', NL, ps, x9, x10, e, hj, rfl, gr, g4, g5, g6, lp, ln, hn⟩
            have r0 : rem' = 0 := by
              cases rem' with
              | zero => rfl
              | succ n => rw [rngD_succ] at e; cases e
            rw [q_fnil]
            walk_at "dl7"
            refine ⟨NL, ps, _, _, _, rfl, gr, g4, g5, g6, lp, by omega, hn⟩
          · rintro x' xs2 ih2 τ g1 ⟨j, rem', NL, ps, x9, x10, e, hj, rfl, gr, g4, g5, g6, lp, ln, hn⟩
            cases rem' with
            | zero => cases e
            | succ rem' =>
              rw [rngD_succ] at e
              cases e
              have jl : j < l.length := by omega
              have ej : l[j]? = some l[j] := List.getElem?_eq_getElem jl
              generalize l[j] = v at ej
              have tT : atI (l.map (trD T)) (j : Int) = some (trD T v) := atI_nat (by rw [List.getElem?_map, ej]; rfl)
              have eb : ∃ b, RA[c]? = some b := ⟨_, List.getElem?_eq_getElem (by rw [lRA]; exact (List.getElem?_eq_some_iff.mp ec).1)⟩
              obtain ⟨b, eb⟩ := eb
              obtain ⟨row, gb, lr, qr⟩ := rr c p b ec eb
              obtain ⟨i', er, ei⟩ := qr j v jl ej
              have tR : atI (RA.map D.ref) (c : Int) = some (.ref b) := atI_nat (by rw [List.getElem?_map, eb]; rfl)
              have tI' : atI (row.map D.int) (j : Int) = some (.int (i' : Int)) := atI_nat (by rw [List.getElem?_map, er]; rfl)
              rw [q_fcons]
              unfold ndD
              walk_at "dl7"
              refine own_i g4 ⟨_, tT, ?_⟩
              rw [em]
              walk_at "dl7"
              refine ⟨T, emb F G p d, v, rfl, om, ?_⟩
              rw [mT p v vp]
              generalize hq : mvd F G p v d = q' at ei
              walk_at "dl7"
              refine own_i (gr.keep era) ⟨_, tR, ?_⟩
              walk_at "dl7"
              refine own_i (gr.keep gb) ⟨_, tI', ?_⟩
              walk_at "dl7"
              have ikn : isK (D.tup [tI (emb F G q' d), .int (i' : Int)]) (kNd (emb F G q' d, (i' : Int))) := isK_Nd (emb F G q' d, (i' : Int))
              refine ⟨fun τ g => ∃ (NL : List (List Int × Int)) (ps : List (D × D)), τ = [some (mD T), some (.lis [.ref ra, .lis (PL.map fun p => .bl (jen F G p d)), .ref w, x]), some (.lis l), some (.int (m : Int)), some (.ref p4), some (.ref p5), some (.ref p6), some (.int (i : Int)), some (ndD (emb F G p d, (c : Int))), some (.int (j : Int)), some (ndD (emb F G q' d, (i' : Int)))] ∧
                Gr h g ∧ g p4 = some (.lst (l.map (trD T))) ∧ g p5 = some (.lst (NL.map ndD)) ∧ g p6 = some (.ded ps) ∧ ps.length ≤ NL.length ∧ NL.length ≤ 1 + i * l.length + (j + 1) ∧ ∀ n ∈ NL, ∃ (c : Nat) (p : Pr), n = (emb F G p d, (c : Int)) ∧ PL[c]? = some p, ?_, ?_⟩
              · walk_at "dl7"
                rw [q_einE g6 ikn]
                walk_at "dl7"
                refine sif_i (fun c2 => ?_) (fun c2 => ?_)
                · walk_at "dl7"
                  rw [q_gesub]
                  walk_at "dl7"
                  refine ⟨p6, ps, kNd (emb F G q' d, (i' : Int)), rfl, g6, ikn, z (by omega), ?_⟩
                  walk_at "dl7"
                  have g5' : put g1 p6 (.ded (ePut ps (kNd (emb F G q' d, (i' : Int))) (.tup [tI (emb F G q' d), .int (i' : Int)]) (.bl true))) p5 = some (.lst (NL.map ndD)) := by rw [put_ne (Ne.symm n65)]; exact g5
                  refine ⟨own_i g5' trivial, own_i g5' ⟨by rw [List.length_map]; exact z (by omega), ?_⟩⟩
                  refine ⟨NL ++ [(emb F G q' d, (i' : Int))], _, rfl, (gr.put f6).put f5, by rw [put_ne (Ne.symm n54), put_ne (Ne.symm n64)]; exact g4, by rw [List.map_append]; rfl, by rw [put_ne n65, put_same], ?_, by rw [List.length_append, List.length_singleton]; omega, fun n mn => ?_⟩
                  · have := ePut_len (ps := ps) (k := kNd (emb F G q' d, (i' : Int))) (kd := .tup [tI (emb F G q' d), .int (i' : Int)]) (v := .bl true)
                    rw [List.length_append, List.length_singleton]
                    omega
                  · rcases List.mem_append.mp mn with mn | mn
                    · exact hn n mn
                    · exact ⟨i', q', List.mem_singleton.mp mn, ei⟩
                · walk_at "dl7"
                  exact ⟨NL, ps, rfl, gr, g4, g5, g6, lp, by omega, hn⟩
              · rintro τ g1 ⟨NL, ps, rfl, gr, g4, g5, g6, lp, ln, hn⟩
                exact ih2 _ _ ⟨j + 1, rem', NL, ps, _, _, rfl, by omega, rfl, gr, g4, g5, g6, lp, ln, hn⟩
        · have c1 := of_decide_eq_false c1
          walk_at "dl7"
          refine ⟨NL, ps, x8, x9, x10, rfl, gr, g4, g5, g6, lp, by omega, hn⟩
      · rintro τ g1 ⟨NL, ps, x8, x9, x10, rfl, gr, g4, g5, g6, lp, ln, hn⟩
        exact ih _ _ ⟨i + 1, rem, NL, ps, _, _, _, _, rfl, by omega, rfl, gr, g4, g5, g6, lp, ln, hn⟩
end K41
-- set2
set_option Elab.async false
set_option linter.all false
set_option maxRecDepth 100000
set_option maxHeartbeats 4000000
namespace K41
open PySem PySem.Spec PyProof.Rows L2 DL K00 K01 K03 K04 K22
theorem Chart.mv {g k : DH} {F G : Mc} {d : Deed} {l : List D} {r : D} (c : Chart g F G d l r) (e : ∀ b ds, g b = some (.lst ds) → k b = some (.lst ds)) : Chart k F G d l r := by
  obtain ⟨a, w, PL, RA, x, er, ea, h1, h2, h3, h4⟩ := c
  refine ⟨a, w, PL, RA, x, er, e _ _ ea, h1, h2, h3, fun k p b e1 e2 => ?_⟩
  obtain ⟨row, gb, q⟩ := h4 k p b e1 e2
  exact ⟨row, e _ _ gb, q⟩
def bnd (d : Deed) (n m : Int) : Int := match d with
  | .fl => n + m
  | .rp => n + 1
  | .bk => n
theorem tp_ne {g : DH} {a p : Addr} (t : Tp g a) (n : g p = none) : p ≠ a := by
  obtain ⟨t, e, _⟩ := t
  intro z; rw [z, e] at n; cases n
theorem tp_off {g : DH} {a p : Addr} {o : DO} (t : Tp g a) (n : p ≠ a) : Tp (put g p o) a := by
  obtain ⟨t, e, ot⟩ := t
  exact ⟨t, by rw [put_ne (Ne.symm n)]; exact e, ot⟩
theorem rd_law (ds : List D) (h : DH) (Q : VK') (E' : XK') (q : spLaw ds h Q E') : t_law spTape spTheme spDraw spPlainM spChg spSigns spDChart spCall41 spIsM spSpeaks (ends Q) (slots n_law ds) h := by
  obtain ⟨ns, rfl, hl, hn, q⟩ := q
  show t_law _ _ _ _ _ _ _ _ _ _ (ends Q) [some (.scr ns), none, none, none, none, none, none, none, none, none, none, none, none, none, none] h
  unfold t_law
  have done : ∀ h', (ends Q).rt (.bl true) h' := fun h' => fin (q h')
  walk_at "dl7"
  refine ⟨ns, rfl, fun a t na ot => ?_⟩
  walk_at "dl7"
  refine ⟨a, 24, rfl, by decide, tp_put ot, fun k t0 t1 l g th gt => ?_⟩
  unfold thm
  walk_at "dl7"
  refine drw gt.1 (fun dr t r0 r1 ot => ?_)
  have gt := gt.draw ot
  obtain ⟨d, rfl⟩ : ∃ d : Deed, dr = dI d := by
    rcases (show dr = 0 ∨ dr = 1 ∨ dr = 2 by omega) with rfl | rfl | rfl
    · exact ⟨.fl, rfl⟩
    · exact ⟨.rp, rfl⟩
    · exact ⟨.bk, rfl⟩
  walk_at "dl7"
  rw [q_lc]
  walk_at "dl7"
  have rg : rngD 0 2 = [.int 0, .int 1] := rfl
  rw [rg]
  intro p1 n1
  have p1a := ne_put n1
  have tp1 : Tp (put (put g a t) p1 .hid) a := ⟨t, by rw [put_ne (Ne.symm p1a), put_same], ot⟩
  rw [q_lcons]
  refine ⟨trivial, ?_⟩
  walk_at "dl7"
  refine ⟨a, k, t0, t1, l, rfl, th, tp1, fun M1 t2 m1 ot2 => ?_⟩
  walk_at "dl7"
  refine ⟨show 0 < sizeLine by decide, ?_⟩
  rw [q_lcons]
  refine ⟨trivial, ?_⟩
  walk_at "dl7"
  refine ⟨a, k, t0, t1, l, rfl, th, tp_put ot2, fun M2 t3 m2 ot3 => ?_⟩
  walk_at "dl7"
  rw [q_lnil]
  refine ⟨show 1 < sizeLine by decide, trivial, ?_⟩
  walk_at "dl7"
  rw [show ([] ++ [mD M1] ++ [mD M2] : List D) = [mD M1, mD M2] from rfl]
  have tp2 : Tp (del (put (put (put g a t) p1 .hid) a t3) p1) a := ⟨t3, by rw [del_ne (Ne.symm p1a), put_same], ot3⟩
  generalize del (put (put (put g a t) p1 .hid) a t3) p1 = g2 at tp2 ⊢
  refine drw tp2 (fun sd t4 s0 s1 ot4 => ?_)
  have tp3 : Tp (put g2 a t4) a := tp_put ot4
  generalize put g2 a t4 = g3 at tp3 ⊢
  walk_at "dl7"
  refine ⟨.inl ⟨by omega, by omega⟩, fun p np => ?_⟩
  have hs : ∀ c : Bool, 0 ≤ sd * (if c = true then (1 : Int) else 0) ∧ sd * (if c = true then (1 : Int) else 0) < 2 := by
    intro c; cases c <;> simp <;> omega
  have hs := hs (decide (dI d < 1))
  generalize sd * (if decide (dI d < 1) = true then (1 : Int) else 0) = sv at hs ⊢
  have pa := tp_ne tp3 np
  obtain ⟨Mx, ex, hx⟩ : ∃ Mx, atI [mD M1, mD M2] sv = some (mD Mx) ∧ Gm k Mx := by
    rcases (show sv = 0 ∨ sv = 1 by omega) with rfl | rfl
    · exact ⟨M1, rfl, m1⟩
    · exact ⟨M2, rfl, m2⟩
  refine ⟨_, ex, ?_⟩
  refine ⟨a, k, t0, t1, Mx, rfl, th.kc, th.a0, hx, tp_off tp3 pa, fun M' g4 m' gt4 => ?_⟩
  have gp : g4 p = some (.lst [mD M1, mD M2]) := gt4.keep pa put_same
  have tp4 := gt4.1
  walk_at "dl7"
  obtain ⟨C1, C2, ec, hC1, hC2⟩ : ∃ C1 C2, [mD M1, mD M2].set sv.toNat (mD M') = [mD C1, mD C2] ∧ Gm k C1 ∧ Gm k C2 := by
    rcases (show sv = 0 ∨ sv = 1 by omega) with rfl | rfl
    · exact ⟨M', M2, rfl, m', m2⟩
    · exact ⟨M1, M', rfl, m1, m'⟩
  refine own_i gp (set_i hs.1 (by show sv < 2; omega) ?_)
  rw [ec]
  have gp5 : put g4 p (.lst [mD C1, mD C2]) p = some (.lst [mD C1, mD C2]) := put_same
  have tp5 : Tp (put g4 p (.lst [mD C1, mD C2])) a := tp_off tp4 pa
  generalize put g4 p (.lst [mD C1, mD C2]) = g5 at gp5 tp5 ⊢
  refine ⟨_, gp5, show 4 ≤ sizeLine by decide, ?_⟩
  refine ⟨a, k, t0, t1, l, [M1, M2, C1, C2], rfl, th, fun M m => ?_, show 4 ≤ 20 by decide, tp5, fun sl g6 gt6 hsl lsl => ?_⟩
  · simp only [List.mem_cons, List.not_mem_nil, or_false] at m
    rcases m with rfl | rfl | rfl | rfl
    · exact ⟨m1.sm.ok, m1.ek⟩
    · exact ⟨m2.sm.ok, m2.ek⟩
    · exact ⟨hC1.sm.ok, hC1.ek⟩
    · exact ⟨hC2.sm.ok, hC2.ek⟩
  have gp6 : g6 p = some (.lst [mD C1, mD C2]) := gt6.keep pa gp5
  walk_at "dl7"
  rw [q_lc]
  walk_at "dl7"
  intro pc nc
  have pcp : p ≠ pc := fun z => by rw [← z, gp6] at nc; cases nc
  have eds : atI [D.str (Str.ofString "followed"), .str (Str.ofString "repeated"), .str (Str.ofString "backwards")] (dI d) = some (.str d.s) := by cases d <;> rfl
  rw [q_lcons]
  refine ⟨trivial, ?_⟩
  walk_at "dl7"
  refine ⟨_, eds, ?_⟩
  refine ⟨d, M1, M2, sl, rfl, m1.sm, m2.sm, by rw [m1.ek, m2.ek], fun v m => by rw [m1.ek]; exact hsl v m, lsl, fun r1 g7 gr7 ch1 => ?_⟩
  walk_at "dl7"
  refine ⟨show 0 < sizeLine by decide, ?_⟩
  have gp7 : g7 p = some (.lst [mD C1, mD C2]) := gr7.keep (by rw [put_ne pcp]; exact gp6)
  rw [q_lcons]
  refine ⟨trivial, ?_⟩
  walk_at "dl7"
  refine ⟨_, eds, ?_⟩
  walk_at "dl7"
  refine own_i gp7 ?_
  walk_at "dl7"
  refine own_i gp7 ?_
  walk_at "dl7"
  refine ⟨d, C1, C2, sl, rfl, hC1.sm, hC2.sm, by rw [hC1.ek, hC2.ek], fun v m => by rw [hC1.ek]; exact hsl v m, lsl, fun r2 g8 gr8 ch2 => ?_⟩
  walk_at "dl7"
  refine ⟨show 1 < sizeLine by decide, ?_⟩
  rw [q_lnil]
  refine ⟨trivial, ?_⟩
  have gp8 : g8 p = some (.lst [mD C1, mD C2]) := gr8.keep gp7
  have gc8 : g8 pc = some .hid := gr8.keep (gr7.keep put_same)
  have mv : ∀ b ds, g8 b = some (.lst ds) → del g8 pc b = some (.lst ds) := fun b ds e => by
    rw [del_ne (fun z => by rw [z, gc8] at e; cases e)]; exact e
  have ch1 := (ch1.gr gr8).mv mv
  have ch2 := ch2.mv mv
  have gp9 := mv _ _ gp8
  generalize del g8 pc = g9 at ch1 ch2 gp9 ⊢
  walk_at "dl7"
  rw [show ([] ++ [r1] ++ [r2] : List D) = [r1, r2] from rfl]
  refine for_ind (fun xs τ g => ∃ (x5 x12 x13 : Option D), τ = [some (.scr ns), some (.ref a), some (.lis [kD k, thy t0 t1, .lis l]), some (kD k), some (.int (dI d)), x5, some (.lis [mD M1, mD M2]), some (.int sv), some (.ref p), some (.lis sl), some (.lis [.lis [mD M1, mD M2], .ref p]), some (.lis [r1, r2]), x12, x13, none] ∧ (∀ x ∈ xs, x = .int 0 ∨ x = .int 1) ∧ Gr g9 g) ?_ ?_ _ _ _ ⟨none, none, none, rfl, by simp, Gr.refl⟩
  · rintro τ g ⟨x5, x12, x13, rfl, _, gr⟩
    rw [q_fnil]
    walk_at "dl7"
    exact done _
  · rintro x xs ih τ g ⟨x5, x12, x13, rfl, hx, gr⟩
    have gp' := gr.keep gp9
    have ch1' := ch1.gr gr
    have ch2' := ch2.gr gr
    rw [q_fcons]
    rcases hx x List.mem_cons_self with rfl | rfl
    · walk_at "dl7"
      refine ⟨d, M1, M2, rfl, m1.sm.ok, m2.sm.ok, by rw [m1.ek, m2.ek], ?_⟩
      have om := tld_ok m1.sm m2.sm (by rw [m1.ek, m2.ek]) d
      have okk : (tld M1 M2 d).k = k := by rw [← m1.ek]; cases d <;> rfl
      have osp := tld_sp (P := fun c => Dr k c ∧ c.cnt ≤ 20) (F := M1) (G := M2) (fun s m => ⟨m1.dr s m, by have := m1.c8 s m; omega⟩) (fun s m => ⟨m2.dr s m, by have := m2.c8 s m; omega⟩) d
      have bn : (tld M1 M2 d).n = bnd d M1.n M2.n := by cases d <;> rfl
      have eb : atI [D.int (M1.n + M2.n), .int (M1.n + 1), .int M1.n] (dI d) = some (.int (bnd d M1.n M2.n)) := by cases d <;> rfl
      have eA : mD M1 = .tup [kD M1.k, .int M1.n, tI M1.st, tI M1.en, .tup (M1.sp.map stD)] := rfl
      have eB : mD M2 = .tup [kD M2.k, .int M2.n, tI M2.st, tI M2.en, .tup (M2.sp.map stD)] := rfl
      have nx := fun g gr => ih ([some (.scr ns), some (.ref a), some (.lis [kD k, thy t0 t1, .lis l]), some (kD k), some (.int (dI d)), some (.int 0), some (.lis [mD M1, mD M2]), some (.int sv), some (.ref p), some (.lis sl), some (.lis [.lis [mD M1, mD M2], .ref p]), some (.lis [r1, r2]), some (mD (tld M1 M2 d)), some (.int M1.n), none]) g ⟨_, _, _, rfl, fun y m => hx y (List.mem_cons_of_mem _ m), gr⟩
      walk_at "dl7"
      rw [eA]
      walk_at "dl7"
      refine ⟨tld M1 M2 d, by rw [okk], om, fun s m => by rw [okk]; exact osp s m, ?_⟩
      rw [show mD (tld M1 M2 d) = .tup [kD (tld M1 M2 d).k, .int (tld M1 M2 d).n, tI (tld M1 M2 d).st, tI (tld M1 M2 d).en, .tup ((tld M1 M2 d).sp.map stD)] from rfl]
      walk_at "dl7"
      rw [eB]
      walk_at "dl7"
      refine ⟨_, eb, ?_⟩
      walk_at "dl7"
      refine sif_i (fun c => ?_) (fun c => ?_)
      · exact absurd (of_decide_eq_true c) (by rw [bn]; exact Int.lt_irrefl _)
      · walk_at "dl7"
        refine ⟨d, M1, M2, sl, r1, 40, rfl, m1.sm, m2.sm, by rw [m1.ek, m2.ek], fun v m => by rw [m1.ek]; exact hsl v m, lsl, by decide, ch1', fun g' gr' => ?_⟩
        walk_at "dl7"
        exact nx g' (gr.trans gr')
    · walk_at "dl7"
      refine own_i gp' ?_
      walk_at "dl7"
      refine own_i gp' ?_
      walk_at "dl7"
      refine ⟨d, C1, C2, rfl, hC1.sm.ok, hC2.sm.ok, by rw [hC1.ek, hC2.ek], ?_⟩
      have om := tld_ok hC1.sm hC2.sm (by rw [hC1.ek, hC2.ek]) d
      have okk : (tld C1 C2 d).k = k := by rw [← hC1.ek]; cases d <;> rfl
      have osp := tld_sp (P := fun c => Dr k c ∧ c.cnt ≤ 20) (F := C1) (G := C2) (fun s m => ⟨hC1.dr s m, by have := hC1.c8 s m; omega⟩) (fun s m => ⟨hC2.dr s m, by have := hC2.c8 s m; omega⟩) d
      have bn : (tld C1 C2 d).n = bnd d C1.n C2.n := by cases d <;> rfl
      have eb : atI [D.int (C1.n + C2.n), .int (C1.n + 1), .int C1.n] (dI d) = some (.int (bnd d C1.n C2.n)) := by cases d <;> rfl
      have eA : mD C1 = .tup [kD C1.k, .int C1.n, tI C1.st, tI C1.en, .tup (C1.sp.map stD)] := rfl
      have eB : mD C2 = .tup [kD C2.k, .int C2.n, tI C2.st, tI C2.en, .tup (C2.sp.map stD)] := rfl
      have nx := fun g gr => ih ([some (.scr ns), some (.ref a), some (.lis [kD k, thy t0 t1, .lis l]), some (kD k), some (.int (dI d)), some (.int 1), some (.lis [mD M1, mD M2]), some (.int sv), some (.ref p), some (.lis sl), some (.lis [.lis [mD M1, mD M2], .ref p]), some (.lis [r1, r2]), some (mD (tld C1 C2 d)), some (.int C1.n), none]) g ⟨_, _, _, rfl, fun y m => hx y (List.mem_cons_of_mem _ m), gr⟩
      walk_at "dl7"
      refine own_i gp' ?_
      walk_at "dl7"
      rw [eA]
      walk_at "dl7"
      refine ⟨tld C1 C2 d, by rw [okk], om, fun s m => by rw [okk]; exact osp s m, ?_⟩
      rw [show mD (tld C1 C2 d) = .tup [kD (tld C1 C2 d).k, .int (tld C1 C2 d).n, tI (tld C1 C2 d).st, tI (tld C1 C2 d).en, .tup ((tld C1 C2 d).sp.map stD)] from rfl]
      walk_at "dl7"
      refine own_i gp' ?_
      walk_at "dl7"
      rw [eB]
      walk_at "dl7"
      refine ⟨_, eb, ?_⟩
      walk_at "dl7"
      refine sif_i (fun c => ?_) (fun c => ?_)
      · exact absurd (of_decide_eq_true c) (by rw [bn]; exact Int.lt_irrefl _)
      · walk_at "dl7"
        refine ⟨d, C1, C2, sl, r2, 40, rfl, hC1.sm, hC2.sm, by rw [hC1.ek, hC2.ek], fun v m => by rw [hC1.ek]; exact hsl v m, lsl, by decide, ch2', fun g' gr' => ?_⟩
        walk_at "dl7"
        exact nx g' (gr.trans gr')
end K41
set_option Elab.async false
set_option linter.all false
set_option maxRecDepth 100000
namespace WK41
open PySem PySem.Spec PyProof.Rows L2 DL
section
variable {P : Program} {w : World} {K : PySem.W.Frag} {mg : Str → Option Value} {base : Heap}
theorem g__law_whole (T : Tx K mg) : FnD P w K mg base 1 T.f__law_whole T.d__law_whole p__law_whole K00.sp_is_integer := ok__law_whole T (fun ds h Q E ⟨v, e, _⟩ => by rw [e]; rfl) (fun ds h Q E' q => K00.rd__law_whole ds h Q E' q)
theorem g__law_tape (T : Tx K mg) : FnD P w K mg base 1 T.f__law_tape T.d__law_tape p__law_tape spTape := ok__law_tape T (fun ds h Q E ⟨v, e, _⟩ => by rw [e]; rfl) (fun ds h Q E' q => K00.rd__law_tape ds h Q E' q)
theorem g__law_draw (T : Tx K mg) : FnD P w K mg base 1 T.f__law_draw T.d__law_draw p__law_draw spDraw := ok__law_draw T (fun ds h Q E ⟨a, k, e, _⟩ => by rw [e]; rfl) (fun ds h Q E' q => K00.rd__law_draw ds h Q E' q)
theorem g__law_names (T : Tx K mg) : FnD P w K mg base 2 T.f__law_names T.d__law_names p__law_names K00.spNames := ok__law_names T (g__law_draw T) (fun ds h Q E ⟨a, e, _⟩ => by rw [e]; rfl) (fun ds h Q E' q => K00.rd__law_names ds h Q E' q)
theorem g__law_kinds (T : Tx K mg) : ∀ n : Nat, FnD P w K mg base n T.f__law_kinds T.d__law_kinds p__law_kinds (K00.spKinds n)
  | 0 => FnD.none fun ds h Q E ⟨k, _, hd, _⟩ => by have := k.depth_pos; omega
  | n + 1 => ok__law_kinds T (g__law_kinds T n) (fun ds h Q E ⟨k, e, _⟩ => by rw [e]; rfl) (fun ds h Q E' q => K00.rd__law_kinds n ds h Q E' q)
theorem g__law_kind (T : Tx K mg) : ∀ n : Nat, n ≤ 50 → FnD P w K mg base (n + 50) T.f__law_kind T.d__law_kind p__law_kind (K00.spKind n)
  | 0, _ => FnD.none fun ds h Q E ⟨a, d, m, _, h1, h2, _⟩ => by omega
  | n + 1, hn => (ok__law_kind (k := n + 50) T ((g__law_draw T).mono (by omega)) ((g__law_names T).mono (by omega)) (g__law_kind T n (by omega)) ((g__law_kinds T 50).mono (by omega)) (fun ds h Q E ⟨a, d, m, e, _⟩ => by rw [e]; rfl) (fun ds h Q E' q => K00.rd__law_kind n (by omega) ds h Q E' q)).mono (by omega)
theorem g__law_any_kind (T : Tx K mg) : FnD P w K mg base 54 T.f__law_any_kind T.d__law_any_kind p__law_any_kind K04.spAnyKind := ok__law_any_kind T ((g__law_draw T).mono (by omega)) (g__law_kind T 3 (by omega)) (fun ds h Q E ⟨_, e, _⟩ => by rw [e]; rfl) (fun ds h Q E' q => K04.rd__law_any_kind ds h Q E' q)
theorem g__law_integer (T : Tx K mg) : FnD P w K mg base 2 T.f__law_integer T.d__law_integer p__law_integer K00.spInt := ok__law_integer T (g__law_draw T) (fun ds h Q E ⟨a, k, e, _⟩ => by rw [e]; rfl) (fun ds h Q E' q => K00.rd__law_integer ds h Q E' q)
theorem g__law_letter (T : Tx K mg) : ∀ n : Nat, FnD P w K mg base (n + 2) T.f__law_letter T.d__law_letter p__law_letter (K00.spLetter n)
  | 0 => FnD.none fun ds h Q E ⟨a, k, top, x, _, _, hd, _⟩ => by have := k.depth_pos; omega
  | n + 1 => ok__law_letter T ((g__law_draw T).mono (by omega)) ((g__law_integer T).mono (by omega)) (g__law_letter T n) (fun ds h Q E ⟨a, k, top, x, e, _⟩ => by rw [e]; rfl) (fun ds h Q E' q => K00.rd__law_letter n ds h Q E' q)
theorem g__law_inN (T : Tx K mg) : ∀ n : Nat, FnD P w K mg base n T.f__law_in T.d__law_in p__law_in (K04.spInN n)
  | 0 => FnD.none fun ds h Q E ⟨k, _, _, _, hd, _⟩ => by have := k.depth_pos; omega
  | n + 1 => ok__law_in T (g__law_inN T n) (fun ds h Q E ⟨_, _, _, e, _⟩ => by rw [e]; rfl) (fun ds h Q E' q => K04.rd__law_in n ds h Q E' q)
theorem g__law_in (T : Tx K mg) : FnD P w K mg base 3 T.f__law_in T.d__law_in p__law_in (K04.spLawIn wf3 (fun _ _ => true) inS) := (g__law_inN T 3).imp fun ds h Q E ⟨k, s, v, e, d, _, i, q⟩ => ⟨k, s, v, e, d.1, d.2, i, q⟩
theorem g__law_meets {dm : Kd → Ls → Prop} {S : Kd → Ls → Bool} {C : Ls → D → Bool} {j : Nat} (T : Tx K mg) (Gc : FnD P w K mg base j T.f__law_in T.d__law_in p__law_in (K04.spLawIn dm S C)) : ∀ n : Nat, FnD P w K mg base (j + n) T.f__law_meets T.d__law_meets p__law_meets (K04.spLawMeets dm S C n)
  | 0 => FnD.none fun ds h Q E ⟨k, c, v, _, hd, _⟩ => by have := c.depth_pos; omega
  | n + 1 => ok__law_meets T (g__law_meets T Gc n) (Gc.mono (show j ≤ j + n by omega)) (fun ds h Q E ⟨_, _, _, e, _⟩ => by rw [e]; rfl) (fun ds h Q E' q => K04.rd__law_meets n ds h Q E' q)
theorem g__law_conditions (T : Tx K mg) : ∀ n : Nat, FnD P w K mg base n T.f__law_conditions T.d__law_conditions p__law_conditions (K04.spConds n)
  | 0 => FnD.none fun ds h Q E ⟨c, _, hd, _⟩ => by have := c.depth_pos; omega
  | n + 1 => ok__law_conditions T (g__law_conditions T n) (fun ds h Q E ⟨_, e, _⟩ => by rw [e]; rfl) (fun ds h Q E' q => K04.rd__law_conditions n ds h Q E' q)
theorem g__law_comparison (T : Tx K mg) : FnD P w K mg base 2 T.f__law_comparison T.d__law_comparison p__law_comparison K04.spComparison := ok__law_comparison T (g__law_draw T) (fun ds h Q E ⟨_, _, _, e, _⟩ => by rw [e]; rfl) (fun ds h Q E' q => K04.rd__law_comparison ds h Q E' q)
theorem g__law_modulus (T : Tx K mg) : FnD P w K mg base 2 T.f__law_modulus T.d__law_modulus p__law_modulus K04.spModulus := ok__law_modulus T (g__law_draw T) (fun ds h Q E ⟨_, _, _, e, _⟩ => by rw [e]; rfl) (fun ds h Q E' q => K04.rd__law_modulus ds h Q E' q)
theorem g__law_condition2 (T : Tx K mg) : ∀ n : Nat, n ≤ 50 → FnD P w K mg base (2 * n + 60) T.f__law_condition T.d__law_condition p__law_condition (K04.spCond n) ∧ FnD P w K mg base (2 * n + 59) T.f__law_leaf T.d__law_leaf p__law_leaf (K04.spCond n)
  | 0, _ => ⟨FnD.none fun ds h Q E ⟨_, _, _, _, _, _, _, _, _, _, h1, h2, _⟩ => by omega, FnD.none fun ds h Q E ⟨_, _, _, _, _, _, _, _, _, _, h1, h2, _⟩ => by omega⟩
  | n + 1, hn => by
    have i := (g__law_condition2 T n (by omega)).1
    have lf : FnD P w K mg base (2 * n + 61) T.f__law_leaf T.d__law_leaf p__law_leaf (K04.spCond (n + 1)) := ok__law_leaf T ((g__law_draw T).mono (by omega)) ((g__law_modulus T).mono (by omega)) ((g__law_comparison T).mono (by omega)) i (fun ds h Q E ⟨_, _, _, _, _, e, _⟩ => by rw [e]; rfl) (fun ds h Q E' q => K04.rd__law_leaf n ds h Q E' q)
    exact ⟨(ok__law_condition T ((g__law_draw T).mono (by omega)) (i.mono (by omega)) ((g__law_conditions T 50).mono (by omega)) lf (fun ds h Q E ⟨_, _, _, _, _, e, _⟩ => by rw [e]; rfl) (fun ds h Q E' q => K04.rd__law_condition n (by omega) ds h Q E' q)).mono (by omega), lf.mono (by omega)⟩
theorem g__law_part (T : Tx K mg) : FnD P w K mg base 2 T.f__law_part T.d__law_part p__law_part K22.spPart := ok__law_part T (g__law_draw T) (fun ds h Q E ⟨_, _, e, _⟩ => by rw [e]; rfl) (fun ds h Q E' q => K22.rd__law_part ds h Q E' q)
theorem g__law_machine (T : Tx K mg) : FnD P w K mg base 80 T.f__law_machine T.d__law_machine p__law_machine K22.spMachine := ok__law_machine (k := 79) T ((g__law_draw T).mono (by omega)) ((g__law_part T).mono (by omega)) ((g__law_condition2 T 8 (by omega)).1.mono (by omega)) ((g__law_conditions T 50).mono (by omega)) (fun ds h Q E ⟨_, _, _, _, _, _, _, e, _⟩ => by rw [e]; rfl) (fun ds h Q E' q => K22.rd__law_machine ds h Q E' q)
theorem g_check_kinds (T : Tx K mg) : FnD P w K mg base 1 T.f_check_kinds T.d_check_kinds p_check_kinds K41.spChkK := ok_check_kinds (k := 0) T (fun ds h Q E ⟨_, _, e, _⟩ => by rw [e]; rfl) (fun ds h Q E' q => K41.rd_check_kinds T.c_OtherKinds ds h Q E' q)
theorem g_has_end (T : Tx K mg) : FnD P w K mg base 1 T.f_has_end T.d_has_end p_has_end K22.spHasEnd := ok_has_end (k := 0) T  (fun ds h Q E ⟨_, _, e, _⟩ => by rw [e]; rfl) (fun ds h Q E' q => K22.rd_has_end ds h Q E' q)
theorem g_shifted (T : Tx K mg) : FnD P w K mg base 1 T.f_shifted T.d_shifted p_shifted K41.spShf := ok_shifted (k := 0) T  (fun ds h Q E ⟨_, _, e, _⟩ => by rw [e]; rfl) (fun ds h Q E' q => K41.rd_shifted ds h Q E' q)
theorem g_shifted_steps (T : Tx K mg) : FnD P w K mg base 1 T.f_shifted_steps T.d_shifted_steps p_shifted_steps K41.spShfS := ok_shifted_steps (k := 0) T  (fun ds h Q E ⟨_, _, e, _⟩ => by rw [e]; rfl) (fun ds h Q E' q => K41.rd_shifted_steps ds h Q E' q)
theorem g_into_ends (T : Tx K mg) : FnD P w K mg base 1 T.f_into_ends T.d_into_ends p_into_ends K41.spIntoE := ok_into_ends (k := 0) T  (fun ds h Q E ⟨_, _, e, _⟩ => by rw [e]; rfl) (fun ds h Q E' q => K41.rd_into_ends ds h Q E' q)
theorem g_followed (T : Tx K mg) : FnD P w K mg base 2 T.f_followed T.d_followed p_followed K41.spFlw := ok_followed (k := 1) T ((g_check_kinds T).mono (by omega)) ((g_shifted T).mono (by omega)) ((g_has_end T).mono (by omega)) ((g_into_ends T).mono (by omega)) ((g_shifted_steps T).mono (by omega)) (fun ds h Q E ⟨_, _, e, _⟩ => by rw [e]; rfl) (fun ds h Q E' q => K41.rd_followed ds h Q E' q)
theorem g_repeated (T : Tx K mg) : FnD P w K mg base 2 T.f_repeated T.d_repeated p_repeated K41.spRpt := ok_repeated (k := 1) T ((g_into_ends T).mono (by omega)) (fun ds h Q E ⟨_, e, _⟩ => by rw [e]; rfl) (fun ds h Q E' q => K41.rd_repeated ds h Q E' q)
theorem g_backwards (T : Tx K mg) : FnD P w K mg base 1 T.f_backwards T.d_backwards p_backwards K41.spBkw := ok_backwards (k := 0) T  (fun ds h Q E ⟨_, e, _⟩ => by rw [e]; rfl) (fun ds h Q E' q => K41.rd_backwards ds h Q E' q)
theorem g__law_many (T : Tx K mg) : ∀ n : Nat, FnD P w K mg base (n + 1) T.f__law_many T.d__law_many p__law_many (K41.spMany n)
  | 0 => FnD.none fun ds h Q E ⟨k, m, _, hd, _⟩ => by have := k.depth_pos; omega
  | n + 1 => ok__law_many (k := n + 1) T (g__law_many T n) (fun ds h Q E ⟨_, _, e, _⟩ => by rw [e]; rfl) (fun ds h Q E' q => K41.rd__law_many n ds h Q E' q)
theorem g__law_theory (T : Tx K mg) : FnD P w K mg base 30 T.f__law_theory T.d__law_theory p__law_theory K41.spTheory := ok__law_theory (k := 29) T ((g__law_draw T).mono (by omega)) ((g__law_many T 3).mono (by omega)) (fun ds h Q E ⟨_, _, _, e, _⟩ => by rw [e]; rfl) (fun ds h Q E' q => K41.rd__law_theory ds h Q E' q)
theorem g__law_marked (T : Tx K mg) : ∀ n : Nat, FnD P w K mg base (n + 1) T.f__law_marked T.d__law_marked p__law_marked (K41.spMarked n)
  | 0 => FnD.none fun ds h Q E ⟨k, t0, t1, _, hd, _⟩ => by have := k.depth_pos; omega
  | n + 1 => ok__law_marked (k := n + 1) T (g__law_marked T n) (fun ds h Q E ⟨_, _, _, e, _⟩ => by rw [e]; rfl) (fun ds h Q E' q => K41.rd__law_marked n ds h Q E' q)
theorem g__law_letters (T : Tx K mg) : FnD P w K mg base 5 T.f__law_letters T.d__law_letters p__law_letters (K41.spLetters41 3) := ok__law_letters (k := 4) T ((g__law_marked T 3).mono (by omega)) (fun ds h Q E ⟨_, _, _, e, _⟩ => by rw [e]; rfl) (fun ds h Q E' q => K41.rd__law_letters 3 ds h Q E' q)
theorem g__law_theme (T : Tx K mg) : FnD P w K mg base 100 T.f__law_theme T.d__law_theme p__law_theme K41.spTheme := ok__law_theme (k := 99) T ((g__law_any_kind T).mono (by omega)) ((g__law_theory T).mono (by omega)) ((g__law_letters T).mono (by omega)) (fun ds h Q E ⟨_, _, e, _⟩ => by rw [e]; rfl) (fun ds h Q E' q => K41.rd__law_theme ds h Q E' q)
theorem g__law_conditions_of (T : Tx K mg) : FnD P w K mg base 1 T.f__law_conditions_of T.d__law_conditions_of p__law_conditions_of K41.spCnsOf := ok__law_conditions_of (k := 0) T  (fun ds h Q E ⟨_, e, _⟩ => by rw [e]; rfl) (fun ds h Q E' q => K41.rd__law_conditions_of ds h Q E' q)
theorem g__law_where (T : Tx K mg) : FnD P w K mg base 100 T.f__law_where T.d__law_where p__law_where K41.spWhere := ok__law_where (k := 99) T ((g__law_meets T (g__law_in T) 40).mono (by omega)) (fun ds h Q E ⟨_, _, _, e, _⟩ => by rw [e]; rfl) (fun ds h Q E' q => K41.rd__law_where ds h Q E' q)
theorem g__law_signs (T : Tx K mg) : FnD P w K mg base 120 T.f__law_signs T.d__law_signs p__law_signs K41.spSigns := ok__law_signs (k := 119) T ((g__law_conditions_of T).mono (by omega)) ((g__law_where T).mono (by omega)) ((g__law_letter T 3).mono (by omega)) (fun ds h Q E ⟨_, _, _, _, _, _, e, _⟩ => by rw [e]; rfl) (fun ds h Q E' q => K41.rd__law_signs ds h Q E' q)
theorem g__law_truths (T : Tx K mg) : FnD P w K mg base 100 T.f__law_truths T.d__law_truths p__law_truths K41.spTruths := ok__law_truths (k := 99) T ((g__law_meets T (g__law_in T) 40).mono (by omega)) (fun ds h Q E ⟨_, _, e, _⟩ => by rw [e]; rfl) (fun ds h Q E' q => K41.rd__law_truths ds h Q E' q)
theorem g__law_has_end (T : Tx K mg) : FnD P w K mg base 1 T.f__law_has_end T.d__law_has_end p__law_has_end K22.spHasEnd := ok__law_has_end (k := 0) T  (fun ds h Q E ⟨_, _, e, _⟩ => by rw [e]; rfl) (fun ds h Q E' q => K22.rd__law_has_end ds h Q E' q)
theorem g__law_after (T : Tx K mg) : FnD P w K mg base 1 T.f__law_after T.d__law_after p__law_after K41.spAfter := ok__law_after (k := 0) T  (fun ds h Q E ⟨_, _, _, e, _⟩ => by rw [e]; rfl) (fun ds h Q E' q => K41.rd__law_after ds h Q E' q)
theorem g__law_opened (T : Tx K mg) : FnD P w K mg base 2 T.f__law_opened T.d__law_opened p__law_opened K41.spOpened := ok__law_opened (k := 1) T ((g__law_has_end T).mono (by omega)) (fun ds h Q E ⟨_, _, _, e, _⟩ => by rw [e]; rfl) (fun ds h Q E' q => K41.rd__law_opened ds h Q E' q)
theorem g__law_moved (T : Tx K mg) : FnD P w K mg base 2 T.f__law_moved T.d__law_moved p__law_moved K41.spMoved41 := ok__law_moved (k := 1) T ((g__law_after T).mono (by omega)) ((g__law_has_end T).mono (by omega)) (fun ds h Q E ⟨_, _, _, _, _, e, _⟩ => by rw [e]; rfl) (fun ds h Q E' q => K41.rd__law_moved ds h Q E' q)
theorem g__law_joined_end (T : Tx K mg) : FnD P w K mg base 2 T.f__law_joined_end T.d__law_joined_end p__law_joined_end K41.spJEnd := ok__law_joined_end (k := 1) T ((g__law_has_end T).mono (by omega)) (fun ds h Q E ⟨_, _, _, _, e, _⟩ => by rw [e]; rfl) (fun ds h Q E' q => K41.rd__law_joined_end ds h Q E' q)
theorem g__law_deed_chart (T : Tx K mg) : FnD P w K mg base 110 T.f__law_deed_chart T.d__law_deed_chart p__law_deed_chart K41.spDChart := ok__law_deed_chart (k := 109) T ((g__law_truths T).mono (by omega)) ((g__law_opened T).mono (by omega)) ((g__law_moved T).mono (by omega)) ((g__law_joined_end T).mono (by omega)) (fun ds h Q E ⟨_, _, _, _, e, _⟩ => by rw [e]; rfl) (fun ds h Q E' q => K41.rd__law_deed_chart ds h Q E' q)
theorem g__law_speaks (T : Tx K mg) : FnD P w K mg base 110 T.f__law_speaks T.d__law_speaks p__law_speaks K41.spSpeaks := ok__law_speaks (k := 109) T ((g__law_truths T).mono (by omega)) ((g__law_has_end T).mono (by omega)) ((g__law_after T).mono (by omega)) (fun ds h Q E ⟨_, _, _, _, _, _, e, _⟩ => by rw [e]; rfl) (fun ds h Q E' q => K41.rd__law_speaks ds h Q E' q)
theorem g__law_changed (T : Tx K mg) : FnD P w K mg base 100 T.f__law_changed T.d__law_changed p__law_changed K41.spChg := ok__law_changed (k := 99) T ((g__law_draw T).mono (by omega)) ((g__law_condition2 T 8 (by omega)).1.mono (by omega)) (fun ds h Q E ⟨_, _, _, _, _, e, _⟩ => by rw [e]; rfl) (fun ds h Q E' q => K41.rd__law_changed ds h Q E' q)
theorem g__law_plain_machine (T : Tx K mg) : FnD P w K mg base 90 T.f__law_plain_machine T.d__law_plain_machine p__law_plain_machine K41.spPlainM := ok__law_plain_machine (k := 89) T ((g__law_draw T).mono (by omega)) ((g__law_machine T).mono (by omega)) (fun ds h Q E ⟨_, _, _, _, _, e, _⟩ => by rw [e]; rfl) (fun ds h Q E' q => K41.rd__law_plain_machine ds h Q E' q)
theorem g__law_is_shape (T : Tx K mg) : FnD P w K mg base 0 T.f__law_is_shape T.d__law_is_shape p__law_is_shape (fun _ _ _ _ => False) := FnD.none fun _ _ _ _ z => z
theorem g__law_fits (T : Tx K mg) : ∀ n : Nat, FnD P w K mg base (n + 1) T.f__law_fits T.d__law_fits p__law_fits (K41.spFits41 n)
  | 0 => FnD.none fun ds h Q E ⟨k, c, _, hd, _⟩ => by have := c.depth_pos; omega
  | n + 1 => ok__law_fits (k := n + 1) T (g__law_fits T n) ((g__law_is_shape T).mono (by omega)) ((g__law_whole T).mono (by omega)) (fun ds h Q E ⟨_, _, e, _⟩ => by rw [e]; rfl) (fun ds h Q E' q => K41.rd__law_fits n ds h Q E' q)
theorem g__law_is_states (T : Tx K mg) : FnD P w K mg base 2 T.f__law_is_states T.d__law_is_states p__law_is_states K41.spSts := ok__law_is_states (k := 1) T ((g__law_whole T).mono (by omega)) (fun ds h Q E ⟨_, _, e, _⟩ => by rw [e]; rfl) (fun ds h Q E' q => K41.rd__law_is_states ds h Q E' q)
theorem g__law_is_machine (T : Tx K mg) : FnD P w K mg base 40 T.f__law_is_machine T.d__law_is_machine p__law_is_machine K41.spIsM := ok__law_is_machine (k := 39) T ((g__law_whole T).mono (by omega)) ((g__law_is_states T).mono (by omega)) ((g__law_fits T 20).mono (by omega)) (fun ds h Q E ⟨_, e, _⟩ => by rw [e]; rfl) (fun ds h Q E' q => K41.rd__law_is_machine ds h Q E' q)
theorem g__law_call (T : Tx K mg) : FnD P w K mg base 5 T.f__law_call T.d__law_call p__law_call K41.spCall41 := ok__law_call (k := 4) T ((g_followed T).mono (by omega)) ((g_repeated T).mono (by omega)) ((g_backwards T).mono (by omega)) (fun ds h Q E ⟨_, _, _, e, _⟩ => by rw [e]; rfl) (fun ds h Q E' q => K41.rd__law_call ds h Q E' q)
theorem ok_all (T : Tx K mg) : FnD P w K mg base 220 T.f_law T.d_law p_law spLaw :=
  ok_law (k := 219) T ((g__law_tape T).mono (by omega)) ((g__law_theme T).mono (by omega)) ((g__law_draw T).mono (by omega)) ((g__law_plain_machine T).mono (by omega)) ((g__law_changed T).mono (by omega)) ((g__law_signs T).mono (by omega)) ((g__law_deed_chart T).mono (by omega)) ((g__law_call T).mono (by omega)) ((g__law_is_machine T).mono (by omega)) ((g__law_speaks T).mono (by omega))
    (fun ds h Q E ⟨ns, e, _⟩ => by rw [e]; rfl) (fun ds h Q E' q => K41.rd_law ds h Q E' q)
end
end WK41
set_option Elab.async false
set_option linter.all false
namespace WK41
open PySem PySem.Spec PyProof.Rows L2 DL
theorem walk {l : PySem.W.OpenLaw} {q : Program} {loose : List Str} {XP : (Str → Option Value) → Heap → Prop} {YP : World → Heap → Prop}
    {d : DefRec} {K : Params → PySem.W.Frag} (hn : l.most = some 63) (hdf : d.params.defaults = [])
    (hY : ∀ (w : World) (h : Heap),
      YP w h → (K w.params).In h)
    (hd : d.name = "law")
    (F : ∀ (w : World) (mg : Str → Option Value) (h : Heap), (K w.params).In h → h.Ns mainGlobals mg →
      ∃ T : Tx (K w.params) mg, ∀ (s : Shared) (v : Value), BindsTo s T.d_law ⟨[v], []⟩ [("script", v)]) :
    PySem.W.WalkO q loose XP YP l.row.toRowW d []
      (fun f vs => PySem.call f vs) := by
  refine L2.walk_of (n := 63) (k := 220) (x := "script") (CX := fun w => L2N.CX l.prog w) (sp := fun w => lSp (K w.params) spLaw) hn (by decide) hdf ⟨rfl, by decide, by decide⟩ hY (fun w mg fa h hK hG hm => ?_) (fun w H a ns hl hO hS => ?_) fun w H s e s' z => ?_
  · obtain ⟨T, b⟩ := F w mg h hK hG
    rw [hd] at hm
    have e : T.f_law = fa := by
      have z := T.m_law.symm.trans hm
      cases z
      rfl
    exact ⟨T.d_law, b, fun base _ _ => e ▸ ok_all T⟩
  · refine ⟨[.scr ns], fun _ => none, fun d _ => d = .bl true, fun _ _ => False, ⟨.ref a, [], rfl, ⟨a, rfl, ?_⟩, rfl⟩, (fun a o e => by cases e), ⟨ns, rfl, hl, fun _ => rfl, fun _ => rfl⟩, fun d h' v H' _ _ r q => ?_, fun _ _ _ _ _ z => z⟩
    · exact hS.elim (fun z => .inl ⟨rfl, z⟩) .inr
    · subst q; exact r
  · obtain ⟨_, _, _, _, _, _, _, _, _, _, _, _, z⟩ := z
    exact z
end WK41
open PySem PySem.W PyProof.Rows
set_option maxRecDepth 100000 in
set_option maxHeartbeats 0 in
theorem PySem.Challenge.cw_guardwords_k41_followed_repeated_backwar_holds : PySem.Challenge.rw_guardwords_k41_followed_repeated_backwar.Holds := by
  w_on; o_law; k_head; (case hw => w_witness2)
  k_fill
  refine WK41.walk (l := PySem.Challenge.rw_guardwords_k41_followed_repeated_backwar) rfl rfl (fun w h Y => PySem.W.kIn_of Y) rfl ?F
  case F =>
    intro w mg h KX G
    refine' WK41.tx_mk KX G ?a0 ?l0 ?c0 ?k0 ?a1 ?l1 ?c1 ?k1 ?a2 ?l2 ?c2 ?k2 ?a3 ?l3 ?c3 ?k3 ?a4 ?l4 ?c4 ?k4 ?a5 ?l5 ?c5 ?k5 ?a6 ?l6 ?c6 ?k6 ?a7 ?l7 ?c7 ?k7 ?a8 ?l8 ?c8 ?k8 ?a9 ?l9 ?c9 ?k9 ?a10 ?l10 ?c10 ?k10 ?a11 ?l11 ?c11 ?k11 ?a12 ?l12 ?c12 ?k12 ?a13 ?l13 ?c13 ?k13 ?a14 ?l14 ?c14 ?k14 ?a15 ?l15 ?c15 ?k15 ?a16 ?l16 ?c16 ?k16 ?a17 ?l17 ?c17 ?k17 ?a18 ?l18 ?c18 ?k18 ?a19 ?l19 ?c19 ?k19 ?a20 ?l20 ?c20 ?k20 ?a21 ?l21 ?c21 ?k21 ?a22 ?l22 ?c22 ?k22 ?a23 ?l23 ?c23 ?k23 ?a24 ?l24 ?c24 ?k24 ?a25 ?l25 ?c25 ?k25 ?a26 ?l26 ?c26 ?k26 ?a27 ?l27 ?c27 ?k27 ?a28 ?l28 ?c28 ?k28 ?a29 ?l29 ?c29 ?k29 ?a30 ?l30 ?c30 ?k30 ?a31 ?l31 ?c31 ?k31 ?a32 ?l32 ?c32 ?k32 ?a33 ?l33 ?c33 ?k33 ?a34 ?l34 ?c34 ?k34 ?a35 ?l35 ?c35 ?k35 ?a36 ?l36 ?c36 ?k36 ?a37 ?l37 ?c37 ?k37 ?a38 ?l38 ?c38 ?k38 ?a39 ?l39 ?c39 ?k39 ?a40 ?l40 ?c40 ?k40 ?a41 ?l41 ?c41 ?k41 ?a42 ?l42 ?c42 ?k42 ?a43 ?l43 ?c43 ?k43 ?a44 ?l44 ?c44 ?k44 ?a45 ?l45 ?c45 ?k45 ?a46 ?l46 ?c46 ?k46 ?a47 ?l47 ?c47 ?k47 ?a48 ?l48 ?c48 ?k48 ?a49 ?l49 ?c49 ?k49 ?a50 ?l50 ?c50 ?k50 ?a51 ?l51 ?c51 ?k51 ?a52 ?l52 ?c52 ?k52 ?z_abs ?z_any ?z_bool ?z_int ?z_isinstance ?z_len ?z_list ?z_max ?z_min ?z_range ?z_str ?z_sum ?z_tuple ?m_OtherKinds ?x_OtherKinds ?k_OtherKinds ?b_OtherKinds ?t_OtherKinds
    (case a0 => k_is)
    (case l0 => k_is)
    (case c0 => k_is)
    (case k0 => k_is)
    (case a1 => k_is)
    (case l1 => k_is)
    (case c1 => k_is)
    (case k1 => k_is)
    (case a2 => k_is)
    (case l2 => k_is)
    (case c2 => k_is)
    (case k2 => k_is)
    (case a3 => k_is)
    (case l3 => k_is)
    (case c3 => k_is)
    (case k3 => k_is)
    (case a4 => k_is)
    (case l4 => k_is)
    (case c4 => k_is)
    (case k4 => k_is)
    (case a5 => k_is)
    (case l5 => k_is)
    (case c5 => k_is)
    (case k5 => k_is)
    (case a6 => k_is)
    (case l6 => k_is)
    (case c6 => k_is)
    (case k6 => k_is)
    (case a7 => k_is)
    (case l7 => k_is)
    (case c7 => k_is)
    (case k7 => k_is)
    (case a8 => k_is)
    (case l8 => k_is)
    (case c8 => k_is)
    (case k8 => k_is)
    (case a9 => k_is)
    (case l9 => k_is)
    (case c9 => k_is)
    (case k9 => k_is)
    (case a10 => k_is)
    (case l10 => k_is)
    (case c10 => k_is)
    (case k10 => k_is)
    (case a11 => k_is)
    (case l11 => k_is)
    (case c11 => k_is)
    (case k11 => k_is)
    (case a12 => k_is)
    (case l12 => k_is)
    (case c12 => k_is)
    (case k12 => k_is)
    (case a13 => k_is)
    (case l13 => k_is)
    (case c13 => k_is)
    (case k13 => k_is)
    (case a14 => k_is)
    (case l14 => k_is)
    (case c14 => k_is)
    (case k14 => k_is)
    (case a15 => k_is)
    (case l15 => k_is)
    (case c15 => k_is)
    (case k15 => k_is)
    (case a16 => k_is)
    (case l16 => k_is)
    (case c16 => k_is)
    (case k16 => k_is)
    (case a17 => k_is)
    (case l17 => k_is)
    (case c17 => k_is)
    (case k17 => k_is)
    (case a18 => k_is)
    (case l18 => k_is)
    (case c18 => k_is)
    (case k18 => k_is)
    (case a19 => k_is)
    (case l19 => k_is)
    (case c19 => k_is)
    (case k19 => k_is)
    (case a20 => k_is)
    (case l20 => k_is)
    (case c20 => k_is)
    (case k20 => k_is)
    (case a21 => k_is)
    (case l21 => k_is)
    (case c21 => k_is)
    (case k21 => k_is)
    (case a22 => k_is)
    (case l22 => k_is)
    (case c22 => k_is)
    (case k22 => k_is)
    (case a23 => k_is)
    (case l23 => k_is)
    (case c23 => k_is)
    (case k23 => k_is)
    (case a24 => k_is)
    (case l24 => k_is)
    (case c24 => k_is)
    (case k24 => k_is)
    (case a25 => k_is)
    (case l25 => k_is)
    (case c25 => k_is)
    (case k25 => k_is)
    (case a26 => k_is)
    (case l26 => k_is)
    (case c26 => k_is)
    (case k26 => k_is)
    (case a27 => k_is)
    (case l27 => k_is)
    (case c27 => k_is)
    (case k27 => k_is)
    (case a28 => k_is)
    (case l28 => k_is)
    (case c28 => k_is)
    (case k28 => k_is)
    (case a29 => k_is)
    (case l29 => k_is)
    (case c29 => k_is)
    (case k29 => k_is)
    (case a30 => k_is)
    (case l30 => k_is)
    (case c30 => k_is)
    (case k30 => k_is)
    (case a31 => k_is)
    (case l31 => k_is)
    (case c31 => k_is)
    (case k31 => k_is)
    (case a32 => k_is)
    (case l32 => k_is)
    (case c32 => k_is)
    (case k32 => k_is)
    (case a33 => k_is)
    (case l33 => k_is)
    (case c33 => k_is)
    (case k33 => k_is)
    (case a34 => k_is)
    (case l34 => k_is)
    (case c34 => k_is)
    (case k34 => k_is)
    (case a35 => k_is)
    (case l35 => k_is)
    (case c35 => k_is)
    (case k35 => k_is)
    (case a36 => k_is)
    (case l36 => k_is)
    (case c36 => k_is)
    (case k36 => k_is)
    (case a37 => k_is)
    (case l37 => k_is)
    (case c37 => k_is)
    (case k37 => k_is)
    (case a38 => k_is)
    (case l38 => k_is)
    (case c38 => k_is)
    (case k38 => k_is)
    (case a39 => k_is)
    (case l39 => k_is)
    (case c39 => k_is)
    (case k39 => k_is)
    (case a40 => k_is)
    (case l40 => k_is)
    (case c40 => k_is)
    (case k40 => k_is)
    (case a41 => k_is)
    (case l41 => k_is)
    (case c41 => k_is)
    (case k41 => k_is)
    (case a42 => k_is)
    (case l42 => k_is)
    (case c42 => k_is)
    (case k42 => k_is)
    (case a43 => k_is)
    (case l43 => k_is)
    (case c43 => k_is)
    (case k43 => k_is)
    (case a44 => k_is)
    (case l44 => k_is)
    (case c44 => k_is)
    (case k44 => k_is)
    (case a45 => k_is)
    (case l45 => k_is)
    (case c45 => k_is)
    (case k45 => k_is)
    (case a46 => k_is)
    (case l46 => k_is)
    (case c46 => k_is)
    (case k46 => k_is)
    (case a47 => k_is)
    (case l47 => k_is)
    (case c47 => k_is)
    (case k47 => k_is)
    (case a48 => k_is)
    (case l48 => k_is)
    (case c48 => k_is)
    (case k48 => k_is)
    (case a49 => k_is)
    (case l49 => k_is)
    (case c49 => k_is)
    (case k49 => k_is)
    (case a50 => k_is)
    (case l50 => k_is)
    (case c50 => k_is)
    (case k50 => k_is)
    (case a51 => k_is)
    (case l51 => k_is)
    (case c51 => k_is)
    (case k51 => k_is)
    (case a52 => k_is)
    (case l52 => k_is)
    (case c52 => k_is)
    (case k52 => k_is)
    (case z_abs => k_is)
    (case z_any => k_is)
    (case z_bool => k_is)
    (case z_int => k_is)
    (case z_isinstance => k_is)
    (case z_len => k_is)
    (case z_list => k_is)
    (case z_max => k_is)
    (case z_min => k_is)
    (case z_range => k_is)
    (case z_str => k_is)
    (case z_sum => k_is)
    (case z_tuple => k_is)
    (case m_OtherKinds => first | k_is | k_exc | kit_is)
    (case x_OtherKinds => first | k_is | k_exc | kit_is)
    (case k_OtherKinds => first | k_is | k_exc | kit_is)
    (case b_OtherKinds => first | k_is | k_exc | kit_is)
    (case t_OtherKinds => first | k_is | k_exc | kit_is)
