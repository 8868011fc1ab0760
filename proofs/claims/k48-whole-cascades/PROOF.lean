import PyProof.Rows.All
import Wide.All
import OpenK.AllK
import Wide.FinOn
import HandS.ForMost
import HandS.ForExc
import HandS.Conv
import HandS.DictTup
import HandS.Exc
import HandS.Deep
import HandS.TupAny
import HandS.TupMul
import HandS.SortInts
import KE.DataCmp
import HandS.IsInst
import KE.SortData
import HandS.TupLen
import HandS.More
import KE.GoesMore
import HandS.Zip
import HandS.Star
import HandS.Property
import OpenK.KMeth
import HandS.SetBool
import HandS.SetFor
import HandS.Strs
import HandS.TupSets
import PyProof.Rows.SetFrom
import HandS.DictComp
import KE.KDictKeyed
import HandS.Style
import PySem.Challenge.RW_shapeholes_k48_whole_cascades
set_option Elab.async false
set_option linter.all false
set_option maxRecDepth 100000
set_option maxHeartbeats 4000000
/-! PvA: data D, what an address owns, the frames' assertion Rl. -/
namespace Pv
open PySem PySem.Spec PyProof.Rows L2

inductive D where
  | non | bl (b : Bool) | int (i : Int) | str (x : Str)
  | tup (ds : List D) | lst (ds : List D)
  | dct (t : Bool) (ks vs : List D)
  | obj (c : Nat) (ds : List D)
  /-- the law's script: read, never written -/
  | scr (ns : List Int)
  /-- a dict whose keys are tuples of tuples of ints, all values True -/
  | nst (ks : List (List (List Int)))

/-- the written part and the own classes: address and attribute names by number -/
structure Gt where
  K : PySem.W.Frag
  ca : Nat → Addr
  cn : Nat → List Str

/-! ### heaps -/
def Sub (h h' : Hp) : Prop := ∀ a o, h a = some o → h' a = some o
def Disj (h h' : Hp) : Prop := ∀ a o, h a = some o → h' a = none
def del (h : Hp) (a : Addr) : Hp := fun b => if b = a then none else h b
theorem Sub.refl (h : Hp) : Sub h h := fun _ _ e => e
theorem Sub.trans {h1 h2 h3 : Hp} (a : Sub h1 h2) (b : Sub h2 h3) : Sub h1 h3 := fun x o e => b x o (a x o e)
theorem Disj.symm {h h' : Hp} (d : Disj h h') : Disj h' h := fun a o e => by
  cases q : h a with
  | none => rfl
  | some u => rw [d a u q] at e; cases e
theorem Disj.sub {h h' k k' : Hp} (d : Disj h h') (a : Sub k h) (b : Sub k' h') : Disj k k' := fun x o e => by
  cases q : k' x with
  | none => rfl
  | some u => have := d x o (a x o e); rw [b x u q] at this; cases this
theorem del_sub (h : Hp) (a : Addr) : Sub (del h a) h := fun x o e => by
  unfold del at e
  split at e
  · cases e
  · exact e
theorem del_self (h : Hp) (a : Addr) : del h a a = none := by unfold del; rw [if_pos rfl]
theorem del_ne {h : Hp} {a b : Addr} (e : b ≠ a) : del h a b = h b := by unfold del; rw [if_neg e]
theorem del_mono {h h' : Hp} (s : Sub h h') (a : Addr) : Sub (del h a) (del h' a) := fun x o e => by
  unfold del at e ⊢
  split at e
  · cases e
  · rename_i n
    rw [if_neg n]
    exact s x o e
/-- both -/
def both (h h' : Hp) : Hp := fun a => match h a with | some o => some o | none => h' a
theorem both_l {h h' : Hp} : Sub h (both h h') := fun a o e => by unfold both; rw [e]
theorem both_r {h h' : Hp} (d : Disj h h') : Sub h' (both h h') := fun a o e => by
  have n : h a = none := d.symm a o e
  unfold both
  rw [n]
  exact e
theorem both_or {h h' : Hp} {a : Addr} {o : HO} (e : both h h' a = some o) : h a = some o ∨ h' a = some o := by
  unfold both at e
  cases q : h a with
  | none => rw [q] at e; exact .inr e
  | some u => rw [q] at e; exact .inl e
theorem both_sub {h h' k : Hp} (a : Sub h k) (b : Sub h' k) : Sub (both h h') k := fun x o e => (both_or e).elim (a x o) (b x o)
theorem both_disj {h h' k : Hp} (a : Disj h k) (b : Disj h' k) : Disj (both h h') k := fun x o e => (both_or e).elim (a x o) (b x o)
theorem upd_sub {H : Hp} {p : Addr} {o : HO} (n : H p = none) : Sub H (upd H p o) := fun a u e => by
  rw [upd_ne (fun z => by rw [z, n] at e; cases e)]
  exact e

/-! ### keys -/
def kD : Key → D
  | .inl i => .int i
  | .inr x => .str x
/-- the dict's object from its keys and values -/
def DO (t : Bool) (ks : List D) (vs : List V) (o : HO) : Prop :=
  (t = false ∧ ∃ kvs : List (Key × V), o = .dK kvs ∧ ks = kvs.map (fun p => kD p.1) ∧ vs = kvs.map (·.2)) ∨
  (t = true ∧ ∃ kvs : List (List Key × V), o = .dT kvs ∧ ks = kvs.map (fun p => D.tup (p.1.map kD)) ∧ vs = kvs.map (·.2))

/-! ### keys of tuples of ints -/
def nhash (k : List (List Int)) : Int := reduceHash (Builtin.Tuple.tupleHashOf (k.map fun l => reduceHash (Builtin.Tuple.tupleHashOf (l.map hashInt))))
/-- the dict at a with the keys ks, whose tuples stand at bs -/
def nO (a : Addr) (ks : List (List (List Int))) (bs : List Addr) : HO := .ext fun h => (a == sysModules) = false ∧ ∃ o es ep, h.get? a = some o ∧ o.ExactDict ∧ o.data = .dict es ep ∧ es.toList = (ks.zip bs).map fun p => (⟨nhash p.1, .ref p.2, .bool true⟩ : DictEntry)
def KeyAt (F : Hp) (k : List (List Int)) (b : Addr) : Prop := ∃ qs : List Addr, F b = some (.tup (qs.map V.ref)) ∧ Paired (fun (l : List Int) (q : Addr) => F q = some (.tup (l.map V.int))) k qs
def KeysAt (F : Hp) (ks : List (List (List Int))) (bs : List Addr) : Prop := Paired (KeyAt F) ks bs
theorem KeysAt.mono {F F' : Hp} (s : ∀ a vs, F a = some (.tup vs) → F' a = some (.tup vs)) {ks : List (List (List Int))} {bs : List Addr} (h : KeysAt F ks bs) : KeysAt F' ks bs :=
  Paired.mapP h fun _ _ ⟨qs, e, p⟩ => ⟨qs, s _ _ e, Paired.mapP p fun _ _ q => s _ _ q⟩

/-! ### what stands at a value -/
mutual
/-- d at v: the nodes of the first n levels in h, the others in F -/
def Own (G : Gt) : D → Nat → Hp → Hp → V → Prop
  | .non, _, _, _, v => v = .non
  | .bl b, _, _, _, v => v = .bl b
  | .int i, _, _, _, v => v = .int i
  | .str x, _, _, _, v => v = .str x
  | .tup ds, n, F, h, v => ∃ a vs, v = .ref a ∧ F a = some (.tup vs) ∧ OwnL G ds n F h vs
  | .lst ds, n, F, h, v => ∃ a vs, v = .ref a ∧ match n with
    | 0 => F a = some (.lst vs) ∧ OwnL G ds 0 F h vs
    | m + 1 => h a = some (.lst vs) ∧ OwnL G ds m F (del h a) vs
  | .dct t ks ds, n, F, h, v => ∃ a vs o, v = .ref a ∧ DO t ks vs o ∧ match n with
    | 0 => Rd F a o ∧ OwnL G ds 0 F h vs
    | m + 1 => h a = some o ∧ OwnL G ds m F (del h a) vs
  | .obj c ds, n, F, h, v => ∃ a dx vs, v = .ref a ∧ match n with
    | 0 => F a = some (.ins (G.ca c) dx ((G.cn c).zip vs)) ∧ OwnL G ds 0 F h vs
    | m + 1 => h a = some (.ins (G.ca c) dx ((G.cn c).zip vs)) ∧ OwnL G ds m F (del h a) vs
  | .scr ns, _, F, _, v => ∃ a, v = .ref a ∧ SqL G.K F a (ns.map V.int)
  | .nst ks, n, F, h, v => ∃ a bs, v = .ref a ∧ KeysAt F ks bs ∧ match n with
    | 0 => F a = some (nO a ks bs)
    | _ + 1 => h a = some (nO a ks bs)
def OwnL (G : Gt) : List D → Nat → Hp → Hp → List V → Prop
  | [], _, _, _, vs => vs = []
  | d :: ds, n, F, h, vs => ∃ v r h1 h2, vs = v :: r ∧ Sub h1 h ∧ Sub h2 h ∧ Disj h1 h2 ∧ Own G d n F h1 v ∧ OwnL G ds n F h2 r
end
mutual
/-- d at v, as the heap is now -/
def See (G : Gt) (H : Hp) : D → V → Prop
  | .non, v => v = .non
  | .bl b, v => v = .bl b
  | .int i, v => v = .int i
  | .str x, v => v = .str x
  | .tup ds, v => ∃ a vs, v = .ref a ∧ H a = some (.tup vs) ∧ SeeL G H ds vs
  | .lst ds, v => ∃ a vs, v = .ref a ∧ H a = some (.lst vs) ∧ SeeL G H ds vs
  | .dct t ks ds, v => ∃ a vs o, v = .ref a ∧ DO t ks vs o ∧ Rd H a o ∧ SeeL G H ds vs
  | .obj c ds, v => ∃ a dx vs, v = .ref a ∧ H a = some (.ins (G.ca c) dx ((G.cn c).zip vs)) ∧ SeeL G H ds vs
  | .scr ns, v => ∃ a, v = .ref a ∧ SqL G.K H a (ns.map V.int)
  | .nst ks, v => ∃ a bs, v = .ref a ∧ KeysAt H ks bs ∧ H a = some (nO a ks bs)
def SeeL (G : Gt) (H : Hp) : List D → List V → Prop
  | [], vs => vs = []
  | d :: ds, vs => ∃ v r, vs = v :: r ∧ See G H d v ∧ SeeL G H ds r
end
mutual
def isImm : D → Bool
  | .non => true
  | .bl _ => true
  | .int _ => true
  | .str _ => true
  | .tup ds => isImmL ds
  | .lst _ => false
  | .dct _ _ _ => false
  | .obj _ _ => false
  | .scr _ => false
  | .nst _ => false
def isImmL : List D → Bool
  | [] => true
  | d :: ds => isImm d && isImmL ds
end

/-- F' has what F has, locks aside -/
def nfz : HO → Prop
  | .frz _ _ => False
  | _ => True
def isEx : HO → Prop
  | .lst _ => True
  | .tup _ => True
  | .ins _ _ _ => True
  | .ext _ => True
  | _ => False
structure Fle (F F' : Hp) : Prop where
  rd : ∀ a o, nfz o → Rd F a o → Rd F' a o
  ex : ∀ a o, isEx o → F a = some o → F' a = some o
theorem Fle.ins {F F' : Hp} (s : Fle F F') (a C dx fs) (e : F a = some (.ins C dx fs)) : F' a = some (.ins C dx fs) := s.ex _ _ trivial e
theorem Fle.tup {F F' : Hp} (s : Fle F F') (a vs) (e : F a = some (.tup vs)) : F' a = some (.tup vs) := s.ex _ _ trivial e
theorem Fle.lst {F F' : Hp} (s : Fle F F') (a vs) (e : F a = some (.lst vs)) : F' a = some (.lst vs) := s.ex _ _ trivial e
theorem rd_sub {F F' : Hp} (s : Sub F F') {a : Addr} {o : HO} (r : Rd F a o) : Rd F' a o := by
  rcases r with r | ⟨u, r⟩
  · exact .inl (s _ _ r)
  · exact .inr ⟨u, s _ _ r⟩
theorem Fle.of {F F' : Hp} (s : Sub F F') : Fle F F' := ⟨fun a o _ r => rd_sub s r, fun a o _ e => s _ _ e⟩
theorem Fle.refl (F : Hp) : Fle F F := .of (.refl F)
theorem Fle.nst {F F' : Hp} (s : Fle F F') (a ks bs) (e : F a = some (nO a ks bs)) : F' a = some (nO a ks bs) := s.ex _ _ trivial e
theorem Fle.sqL {F F' : Hp} (s : Fle F F') {K : PySem.W.Frag} {a : Addr} {vs : List V} (h : SqL K F a vs) : SqL K F' a vs := h.imp (s.rd _ _ trivial) id
theorem DO.nfz {t : Bool} {ks : List D} {vs : List V} {o : HO} (h : DO t ks vs o) : nfz o := by
  rcases h with ⟨_, _, e, _⟩ | ⟨_, _, e, _⟩ <;> subst e <;> trivial

section
variable {G : Gt}
mutual
theorem Own.mono {F F' : Hp} (sF : Fle F F') : ∀ (d : D) {n : Nat} {h h' : Hp} {v : V}, Sub h h' → Own G d n F h v → Own G d n F' h' v
  | .non, _, _, _, _, _, q => q
  | .bl _, _, _, _, _, _, q => q
  | .int _, _, _, _, _, _, q => q
  | .str _, _, _, _, _, _, q => q
  | .tup ds, _, _, _, _, s, ⟨a, vs, e, q, r⟩ => ⟨a, vs, e, sF.tup _ _ q, OwnL.mono sF ds s r⟩
  | .lst ds, 0, _, _, _, s, ⟨a, vs, e, q, r⟩ => ⟨a, vs, e, sF.lst _ _ q, OwnL.mono sF ds s r⟩
  | .scr _, _, _, _, _, _, ⟨a, e, q⟩ => ⟨a, e, sF.sqL q⟩
  | .nst _, 0, _, _, _, _, ⟨a, bs, e, k, q⟩ => ⟨a, bs, e, k.mono sF.tup, sF.nst _ _ _ q⟩
  | .nst _, _ + 1, _, _, _, s, ⟨a, bs, e, k, q⟩ => ⟨a, bs, e, k.mono sF.tup, s _ _ q⟩
  | .lst ds, _ + 1, _, _, _, s, ⟨a, vs, e, q, r⟩ => ⟨a, vs, e, s _ _ q, OwnL.mono sF ds (del_mono s a) r⟩
  | .dct _ _ ds, 0, _, _, _, s, ⟨a, vs, o, e, d, q, r⟩ => ⟨a, vs, o, e, d, sF.rd _ _ d.nfz q, OwnL.mono sF ds s r⟩
  | .dct _ _ ds, _ + 1, _, _, _, s, ⟨a, vs, o, e, d, q, r⟩ => ⟨a, vs, o, e, d, s _ _ q, OwnL.mono sF ds (del_mono s a) r⟩
  | .obj _ ds, 0, _, _, _, s, ⟨a, dx, vs, e, q, r⟩ => ⟨a, dx, vs, e, sF.ins _ _ _ _ q, OwnL.mono sF ds s r⟩
  | .obj _ ds, _ + 1, _, _, _, s, ⟨a, dx, vs, e, q, r⟩ => ⟨a, dx, vs, e, s _ _ q, OwnL.mono sF ds (del_mono s a) r⟩
theorem OwnL.mono {F F' : Hp} (sF : Fle F F') : ∀ (ds : List D) {n : Nat} {h h' : Hp} {vs : List V}, Sub h h' → OwnL G ds n F h vs → OwnL G ds n F' h' vs
  | [], _, _, _, _, _, q => q
  | d :: ds, _, _, _, _, s, ⟨v, r, h1, h2, e, s1, s2, dj, q, t⟩ => ⟨v, r, h1, h2, e, s1.trans s, s2.trans s, dj, Own.mono sF d (.refl _) q, OwnL.mono sF ds (.refl _) t⟩
end
mutual
theorem Own.see {F H : Hp} (sF : Fle F H) : ∀ (d : D) {n : Nat} {h : Hp} {v : V}, Sub h H → Own G d n F h v → See G H d v
  | .non, _, _, _, _, q => q
  | .bl _, _, _, _, _, q => q
  | .int _, _, _, _, _, q => q
  | .str _, _, _, _, _, q => q
  | .tup ds, _, _, _, s, ⟨a, vs, e, q, r⟩ => ⟨a, vs, e, sF.tup _ _ q, OwnL.see sF ds s r⟩
  | .lst ds, 0, _, _, s, ⟨a, vs, e, q, r⟩ => ⟨a, vs, e, sF.lst _ _ q, OwnL.see sF ds s r⟩
  | .scr _, _, _, _, _, ⟨a, e, q⟩ => ⟨a, e, sF.sqL q⟩
  | .nst _, 0, _, _, _, ⟨a, bs, e, k, q⟩ => ⟨a, bs, e, k.mono sF.tup, sF.nst _ _ _ q⟩
  | .nst _, _ + 1, _, _, s, ⟨a, bs, e, k, q⟩ => ⟨a, bs, e, k.mono sF.tup, s _ _ q⟩
  | .lst ds, _ + 1, h, _, s, ⟨a, vs, e, q, r⟩ => ⟨a, vs, e, s _ _ q, OwnL.see sF ds ((del_sub h a).trans s) r⟩
  | .dct _ _ ds, 0, _, _, s, ⟨a, vs, o, e, d, q, r⟩ => ⟨a, vs, o, e, d, sF.rd _ _ d.nfz q, OwnL.see sF ds s r⟩
  | .dct _ _ ds, _ + 1, h, _, s, ⟨a, vs, o, e, d, q, r⟩ => ⟨a, vs, o, e, d, .inl (s _ _ q), OwnL.see sF ds ((del_sub h a).trans s) r⟩
  | .obj _ ds, 0, _, _, s, ⟨a, dx, vs, e, q, r⟩ => ⟨a, dx, vs, e, sF.ins _ _ _ _ q, OwnL.see sF ds s r⟩
  | .obj _ ds, _ + 1, h, _, s, ⟨a, dx, vs, e, q, r⟩ => ⟨a, dx, vs, e, s _ _ q, OwnL.see sF ds ((del_sub h a).trans s) r⟩
theorem OwnL.see {F H : Hp} (sF : Fle F H) : ∀ (ds : List D) {n : Nat} {h : Hp} {vs : List V}, Sub h H → OwnL G ds n F h vs → SeeL G H ds vs
  | [], _, _, _, _, q => q
  | d :: ds, _, _, _, s, ⟨v, r, h1, h2, e, s1, s2, dj, q, t⟩ => ⟨v, r, e, Own.see sF d (s1.trans s) q, OwnL.see sF ds (s2.trans s) t⟩
end
mutual
theorem See.mono {H H' : Hp} (s : Sub H H') : ∀ (d : D) {v : V}, See G H d v → See G H' d v
  | .non, _, q => q
  | .bl _, _, q => q
  | .int _, _, q => q
  | .str _, _, q => q
  | .tup ds, _, ⟨a, vs, e, q, r⟩ => ⟨a, vs, e, s _ _ q, SeeL.mono s ds r⟩
  | .lst ds, _, ⟨a, vs, e, q, r⟩ => ⟨a, vs, e, s _ _ q, SeeL.mono s ds r⟩
  | .scr _, _, ⟨a, e, q⟩ => ⟨a, e, (Fle.of s).sqL q⟩
  | .nst _, _, ⟨a, bs, e, k, q⟩ => ⟨a, bs, e, k.mono fun _ _ z => s _ _ z, s _ _ q⟩
  | .dct _ _ ds, _, ⟨a, vs, o, e, d, q, r⟩ => ⟨a, vs, o, e, d, rd_sub s q, SeeL.mono s ds r⟩
  | .obj _ ds, _, ⟨a, dx, vs, e, q, r⟩ => ⟨a, dx, vs, e, s _ _ q, SeeL.mono s ds r⟩
theorem SeeL.mono {H H' : Hp} (s : Sub H H') : ∀ (ds : List D) {vs : List V}, SeeL G H ds vs → SeeL G H' ds vs
  | [], _, q => q
  | d :: ds, _, ⟨v, r, e, q, t⟩ => ⟨v, r, e, See.mono s d q, SeeL.mono s ds t⟩
end
theorem SeeL.length {H : Hp} : ∀ {ds : List D} {vs : List V}, SeeL G H ds vs → vs.length = ds.length
  | [], _, q => by cases q; rfl
  | d :: ds, _, ⟨v, r, e, _, t⟩ => by subst e; rw [List.length_cons, List.length_cons, SeeL.length t]
theorem OwnL.length {F h : Hp} {n : Nat} : ∀ {ds : List D} {vs : List V} {h : Hp}, OwnL G ds n F h vs → vs.length = ds.length
  | [], _, _, q => by cases q; rfl
  | d :: ds, _, _, ⟨v, r, h1, h2, e, _, _, _, _, t⟩ => by subst e; rw [List.length_cons, List.length_cons, OwnL.length (h := h2) t]
theorem SeeL.get {H : Hp} : ∀ {ds : List D} {vs : List V} {i : Nat} {d : D}, SeeL G H ds vs → ds[i]? = some d → ∃ v, vs[i]? = some v ∧ See G H d v
  | [], _, i, d, _, e => by simp at e
  | d :: ds, _, 0, _, ⟨v, r, e, q, _⟩, e' => by
    subst e
    cases e'
    exact ⟨v, rfl, q⟩
  | d :: ds, _, i + 1, d', ⟨v, r, e, _, t⟩, e' => by
    subst e
    obtain ⟨v', h1, h2⟩ := SeeL.get (i := i) t (by simpa using e')
    exact ⟨v', by simpa using h1, h2⟩
mutual
/-- what cannot change may be owned to any depth, where F knows the tuples -/
theorem See.imm {F H : Hp} (hF : ∀ a vs, H a = some (.tup vs) → F a = some (.tup vs)) : ∀ (d : D) {n : Nat} {h : Hp} {v : V}, isImm d = true → See G H d v → Own G d n F h v
  | .non, _, _, _, _, q => q
  | .bl _, _, _, _, _, q => q
  | .int _, _, _, _, _, q => q
  | .str _, _, _, _, _, q => q
  | .tup ds, _, _, _, i, ⟨a, vs, e, q, r⟩ => ⟨a, vs, e, hF _ _ q, SeeL.imm hF ds (by simpa only [isImm] using i) r⟩
  | .lst _, _, _, _, i, _ => by simp [isImm] at i
  | .dct _ _ _, _, _, _, i, _ => by simp [isImm] at i
  | .obj _ _, _, _, _, i, _ => by simp [isImm] at i
  | .scr _, _, _, _, i, _ => by simp [isImm] at i
  | .nst _, _, _, _, i, _ => by simp [isImm] at i
theorem SeeL.imm {F H : Hp} (hF : ∀ a vs, H a = some (.tup vs) → F a = some (.tup vs)) : ∀ (ds : List D) {n : Nat} {h : Hp} {vs : List V}, isImmL ds = true → SeeL G H ds vs → OwnL G ds n F h vs
  | [], _, _, _, _, q => q
  | d :: ds, _, h, _, i, ⟨v, r, e, q, t⟩ => by
    have i' : isImm d = true ∧ isImmL ds = true := by simpa only [isImmL, Bool.and_eq_true] using i
    exact ⟨v, r, fun _ => none, h, e, (fun _ _ z => by cases z), .refl _, (fun _ _ z => by cases z), See.imm hF d i'.1 q, SeeL.imm hF ds i'.2 t⟩
end

/-! ### lowering -/
theorem addNode {F h F' h' : Hp} {a : Addr} {o : HO} (dj : Disj F h) (s1 : Sub F F') (s2 : Sub F' (both F (del h a))) (s3 : Sub h' (del h a)) (dj' : Disj F' h') (q : h a = some o) :
      ∃ F2, Sub F' F2 ∧ Sub F2 (both F h) ∧ Disj F2 h' ∧ F2 a = some o := by
    have na : F' a = none := by
      cases y : F' a with
      | none => rfl
      | some u =>
        rcases both_or (s2 a u y) with w | w
        · have := dj a u w
          rw [q] at this; cases this
        · rw [del_self] at w; cases w
    refine ⟨upd F' a o, upd_sub na, fun x u z => ?_, fun x u z => ?_, upd_same⟩
    · by_cases e : x = a
      · subst e
        rw [upd_same] at z
        cases z
        exact both_r dj x _ q
      · rw [upd_ne e] at z
        rcases both_or (s2 x u z) with w | w
        · exact both_l x u w
        · exact both_r dj x u (del_sub h a x u w)
    · by_cases e : x = a
      · subst e
        cases y : h' x with
        | none => rfl
        | some u' => have := s3 x u' y; rw [del_self] at this; cases this
      · rw [upd_ne e] at z
        exact dj' x u z
theorem keepNode {F h F' h' : Hp} {a : Addr} {o : HO} (dj : Disj F h) (s2 : Sub F' (both F (del h a))) (s3 : Sub h' (del h a)) (dj' : Disj F' h') (q : h a = some o) :
      ∃ h2, Sub h2 h ∧ Disj F' h2 ∧ h2 a = some o ∧ Sub h' (del h2 a) := by
    refine ⟨upd h' a o, fun x u z => ?_, fun x u z => ?_, upd_same, fun x u z => ?_⟩
    · by_cases e : x = a
      · subst e
        rw [upd_same] at z
        cases z
        exact q
      · rw [upd_ne e] at z
        exact del_sub h a x u (s3 x u z)
    · by_cases e : x = a
      · subst e
        rcases both_or (s2 x u z) with w | w
        · have := dj x u w
          rw [q] at this; cases this
        · rw [del_self] at w; cases w
      · rw [upd_ne e]
        exact dj' x u z
    · have e : x ≠ a := fun e => by
        subst e
        have := s3 x u z
        rw [del_self] at this; cases this
      rw [del_ne e, upd_ne e]
      exact z
theorem Disj.none_l {h : Hp} : Disj (fun _ => none) h := fun _ _ z => by cases z
mutual
theorem Own.lower : ∀ (d : D) {n m : Nat} {F h : Hp} {v : V}, m ≤ n → Disj F h → Own G d n F h v →
    ∃ F' h', Sub F F' ∧ Sub F' (both F h) ∧ Sub h' h ∧ Disj F' h' ∧ Own G d m F' h' v
  | .non, _, _, F, h, _, _, dj, q => ⟨F, h, .refl _, both_l, .refl _, dj, q⟩
  | .bl _, _, _, F, h, _, _, dj, q => ⟨F, h, .refl _, both_l, .refl _, dj, q⟩
  | .int _, _, _, F, h, _, _, dj, q => ⟨F, h, .refl _, both_l, .refl _, dj, q⟩
  | .str _, _, _, F, h, _, _, dj, q => ⟨F, h, .refl _, both_l, .refl _, dj, q⟩
  | .scr _, _, _, F, h, _, _, dj, q => ⟨F, h, .refl _, both_l, .refl _, dj, q⟩
  | .nst ks, 0, m, F, h, v, le, dj, ⟨a, bs, e, k, q⟩ => by
    obtain rfl : m = 0 := by omega
    exact ⟨F, h, .refl _, both_l, .refl _, dj, a, bs, e, k, q⟩
  | .nst ks, n + 1, 0, F, h, v, _, dj, ⟨a, bs, e, k, q⟩ => by
    obtain ⟨F2, t1, t2, t3, t4⟩ := addNode (F' := F) (h' := del h a) dj (.refl _) both_l (.refl _) (dj.sub (.refl _) (del_sub h a)) q
    exact ⟨F2, del h a, t1, t2, del_sub h a, t3, a, bs, e, k.mono fun _ _ z => t1 _ _ z, t4⟩
  | .nst ks, n + 1, m + 1, F, h, v, le, dj, ⟨a, bs, e, k, q⟩ => ⟨F, h, .refl _, both_l, .refl _, dj, a, bs, e, k, q⟩
  | .tup ds, _, _, _, _, _, le, dj, ⟨a, vs, e, q, r⟩ => by
    obtain ⟨F', h', s1, s2, s3, dj', r'⟩ := OwnL.lower ds le dj r
    exact ⟨F', h', s1, s2, s3, dj', a, vs, e, s1 _ _ q, r'⟩
  | .lst ds, 0, m, F, h, v, le, dj, ⟨a, vs, e, q, r⟩ => by
    obtain rfl : m = 0 := by omega
    exact ⟨F, h, .refl _, both_l, .refl _, dj, a, vs, e, q, r⟩
  | .lst ds, n + 1, 0, F, h, v, _, dj, ⟨a, vs, e, q, r⟩ => by
    obtain ⟨F', h', s1, s2, s3, dj', r'⟩ := OwnL.lower ds (Nat.zero_le n) (dj.sub (.refl _) (del_sub h a)) r
    obtain ⟨F2, t1, t2, t3, t4⟩ := addNode dj s1 s2 s3 dj' q
    exact ⟨F2, h', s1.trans t1, t2, s3.trans (del_sub h a), t3, a, vs, e, t4, OwnL.mono (.of t1) ds (.refl _) r'⟩
  | .lst ds, n + 1, m + 1, F, h, v, le, dj, ⟨a, vs, e, q, r⟩ => by
    obtain ⟨F', h', s1, s2, s3, dj', r'⟩ := OwnL.lower ds (show m ≤ n by omega) (dj.sub (.refl _) (del_sub h a)) r
    obtain ⟨h2, t1, t2, t3, t4⟩ := keepNode dj s2 s3 dj' q
    exact ⟨F', h2, s1, s2.trans (fun x o z => (both_or z).elim (both_l x o) fun w => both_r dj x o (del_sub h a x o w)), t1, t2, a, vs, e, t3, OwnL.mono (.refl _) ds t4 r'⟩
  | .dct t ks ds, 0, m, F, h, v, le, dj, ⟨a, vs, o, e, d, q, r⟩ => by
    obtain rfl : m = 0 := by omega
    exact ⟨F, h, .refl _, both_l, .refl _, dj, a, vs, o, e, d, q, r⟩
  | .dct t ks ds, n + 1, 0, F, h, v, _, dj, ⟨a, vs, o, e, d, q, r⟩ => by
    obtain ⟨F', h', s1, s2, s3, dj', r'⟩ := OwnL.lower ds (Nat.zero_le n) (dj.sub (.refl _) (del_sub h a)) r
    obtain ⟨F2, t1, t2, t3, t4⟩ := addNode dj s1 s2 s3 dj' q
    exact ⟨F2, h', s1.trans t1, t2, s3.trans (del_sub h a), t3, a, vs, o, e, d, .inl t4, OwnL.mono (.of t1) ds (.refl _) r'⟩
  | .dct t ks ds, n + 1, m + 1, F, h, v, le, dj, ⟨a, vs, o, e, d, q, r⟩ => by
    obtain ⟨F', h', s1, s2, s3, dj', r'⟩ := OwnL.lower ds (show m ≤ n by omega) (dj.sub (.refl _) (del_sub h a)) r
    obtain ⟨h2, t1, t2, t3, t4⟩ := keepNode dj s2 s3 dj' q
    exact ⟨F', h2, s1, s2.trans (fun x o z => (both_or z).elim (both_l x o) fun w => both_r dj x o (del_sub h a x o w)), t1, t2, a, vs, o, e, d, t3, OwnL.mono (.refl _) ds t4 r'⟩
  | .obj c ds, 0, m, F, h, v, le, dj, ⟨a, dx, vs, e, q, r⟩ => by
    obtain rfl : m = 0 := by omega
    exact ⟨F, h, .refl _, both_l, .refl _, dj, a, dx, vs, e, q, r⟩
  | .obj c ds, n + 1, 0, F, h, v, _, dj, ⟨a, dx, vs, e, q, r⟩ => by
    obtain ⟨F', h', s1, s2, s3, dj', r'⟩ := OwnL.lower ds (Nat.zero_le n) (dj.sub (.refl _) (del_sub h a)) r
    obtain ⟨F2, t1, t2, t3, t4⟩ := addNode dj s1 s2 s3 dj' q
    exact ⟨F2, h', s1.trans t1, t2, s3.trans (del_sub h a), t3, a, dx, vs, e, t4, OwnL.mono (.of t1) ds (.refl _) r'⟩
  | .obj c ds, n + 1, m + 1, F, h, v, le, dj, ⟨a, dx, vs, e, q, r⟩ => by
    obtain ⟨F', h', s1, s2, s3, dj', r'⟩ := OwnL.lower ds (show m ≤ n by omega) (dj.sub (.refl _) (del_sub h a)) r
    obtain ⟨h2, t1, t2, t3, t4⟩ := keepNode dj s2 s3 dj' q
    exact ⟨F', h2, s1, s2.trans (fun x o z => (both_or z).elim (both_l x o) fun w => both_r dj x o (del_sub h a x o w)), t1, t2, a, dx, vs, e, t3, OwnL.mono (.refl _) ds t4 r'⟩
theorem OwnL.lower : ∀ (ds : List D) {n m : Nat} {F h : Hp} {vs : List V}, m ≤ n → Disj F h → OwnL G ds n F h vs →
    ∃ F' h', Sub F F' ∧ Sub F' (both F h) ∧ Sub h' h ∧ Disj F' h' ∧ OwnL G ds m F' h' vs
  | [], _, _, F, h, _, _, dj, q => ⟨F, h, .refl _, both_l, .refl _, dj, q⟩
  | d :: ds, _, _, F, h, _, le, dj, ⟨v, r, h1, h2, e, s1, s2, d12, q, t⟩ => by
    obtain ⟨F', h1', a1, a2, a3, a4, q'⟩ := Own.lower d le (dj.sub (.refl _) s1) q
    have dj2 : Disj F' h2 := fun x o z => (both_or (a2 x o z)).elim (fun w => (dj.sub (.refl _) s2) x o w) (fun w => d12 x o w)
    obtain ⟨F2, h2', b1, b2, b3, b4, t'⟩ := OwnL.lower ds le dj2 (OwnL.mono (.of a1) ds (.refl _) t)
    refine ⟨F2, both h1' h2', a1.trans b1, fun x o z => ?_, both_sub (a3.trans s1) (b3.trans s2), ?_, v, r, h1', h2', e, both_l, both_r (d12.sub a3 b3), d12.sub a3 b3, Own.mono (.of b1) d (.refl _) q', t'⟩
    · rcases both_or (b2 x o z) with w | w
      · rcases both_or (a2 x o w) with w | w
        · exact both_l x o w
        · exact both_r dj x o (s1 x o w)
      · exact both_r dj x o (s2 x o w)
    · refine Disj.symm (both_disj (fun x o z => ?_) b4.symm)
      cases y : F2 x with
      | none => rfl
      | some u =>
        rcases both_or (b2 x u y) with w | w
        · have := a4 x u w
          rw [z] at this; cases this
        · have := d12 x o (a3 x o z)
          rw [w] at this; cases this
end
end
end Pv
/-! PvB: frames, the assertion R over slots. -/
namespace Pv
open PySem PySem.Spec PyProof.Rows L2

inductive Fr where
  | it (v : V) (n : Nat) (d : D)
  | lock (a : Addr) (o : Obj) (u : HO)
  /-- a thing of one's own, by what is true of it -/
  | raw (p : Addr) (φ : Heap → Prop)
def Sep (G : Gt) (F : Hp) : Hp → List Fr → Prop
  | _, [] => True
  | h, .it v n d :: r => ∃ h1 h2, Sub h1 h ∧ Sub h2 h ∧ Disj h1 h2 ∧ Own G d n F h1 v ∧ Sep G F h2 r
  | h, .lock a o u :: r => F a = some (.frz o u) ∧ Sep G F h r
  | h, .raw p φ :: r => ∃ h1 h2, Sub h1 h ∧ Sub h2 h ∧ Disj h1 h2 ∧ h1 p = some (.ext φ) ∧ Sep G F h2 r
/-- the frames' items stand in H, apart -/
def Rl (G : Gt) (l : List Fr) (H : Hp) : Prop := ∃ F h, Sub F H ∧ Sub h H ∧ Disj F h ∧ Sep G F h l

def nodeO : HO → Prop
  | .lst _ => True
  | .dK _ => True
  | .dT _ => True
  | .ins _ _ _ => True
  | .ext _ => True
  | _ => False
section
variable {G : Gt}
theorem Sep.mono {F F' : Hp} (s : Fle F F') (hl : ∀ a o u, F a = some (.frz o u) → F' a = some (.frz o u)) : ∀ (l : List Fr) {h h' : Hp}, Sub h h' → Sep G F h l → Sep G F' h' l
  | [], _, _, _, _ => trivial
  | .it v n d :: r, _, _, t, ⟨h1, h2, s1, s2, dj, q, k⟩ => ⟨h1, h2, s1.trans t, s2.trans t, dj, Own.mono s d (.refl _) q, Sep.mono s hl r (.refl _) k⟩
  | .lock a o u :: r, _, _, t, ⟨q, k⟩ => ⟨hl _ _ _ q, Sep.mono s hl r t k⟩
  | .raw p φ :: r, _, _, t, ⟨h1, h2, s1, s2, dj, q, k⟩ => ⟨h1, h2, s1.trans t, s2.trans t, dj, q, Sep.mono s hl r (.refl _) k⟩
theorem Sep.monoS {F F' : Hp} (s : Sub F F') (l : List Fr) {h h' : Hp} (t : Sub h h') (q : Sep G F h l) : Sep G F' h' l := Sep.mono (.of s) (fun _ _ _ e => s _ _ e) l t q
theorem Sep.perm {F : Hp} {l l' : List Fr} (p : l.Perm l') : ∀ {h : Hp}, Sep G F h l → Sep G F h l' := by
  induction p with
  | nil => exact fun q => q
  | cons x _ ih =>
    intro h q
    cases x with
    | it v n d =>
      obtain ⟨h1, h2, s1, s2, dj, q, k⟩ := q
      exact ⟨h1, h2, s1, s2, dj, q, ih k⟩
    | lock a o u => exact ⟨q.1, ih q.2⟩
    | raw p φ =>
      obtain ⟨h1, h2, s1, s2, dj, q, k⟩ := q
      exact ⟨h1, h2, s1, s2, dj, q, ih k⟩
  | swap x y l =>
    intro h q
    cases x with
    | it v n d =>
      cases y with
      | it v' n' d' =>
        obtain ⟨h1, h2, s1, s2, dj, q, h3, h4, s3, s4, dj', q', k⟩ := q
        refine ⟨h3, both h1 h4, s3.trans s2, both_sub s1 (s4.trans s2), Disj.symm (both_disj (dj.sub (.refl _) s3) dj'.symm), q', h1, h4, both_l, both_r (dj.sub (.refl _) s4), dj.sub (.refl _) s4, q, k⟩
      | raw p φ =>
        obtain ⟨h1, h2, s1, s2, dj, q, h3, h4, s3, s4, dj', q', k⟩ := q
        refine ⟨h3, both h1 h4, s3.trans s2, both_sub s1 (s4.trans s2), Disj.symm (both_disj (dj.sub (.refl _) s3) dj'.symm), q', h1, h4, both_l, both_r (dj.sub (.refl _) s4), dj.sub (.refl _) s4, q, k⟩
      | lock a o u =>
        obtain ⟨e, h1, h2, s1, s2, dj, q, k⟩ := q
        exact ⟨h1, h2, s1, s2, dj, q, e, k⟩
    | raw p φ =>
      cases y with
      | it v' n' d' =>
        obtain ⟨h1, h2, s1, s2, dj, q, h3, h4, s3, s4, dj', q', k⟩ := q
        refine ⟨h3, both h1 h4, s3.trans s2, both_sub s1 (s4.trans s2), Disj.symm (both_disj (dj.sub (.refl _) s3) dj'.symm), q', h1, h4, both_l, both_r (dj.sub (.refl _) s4), dj.sub (.refl _) s4, q, k⟩
      | raw p' φ' =>
        obtain ⟨h1, h2, s1, s2, dj, q, h3, h4, s3, s4, dj', q', k⟩ := q
        refine ⟨h3, both h1 h4, s3.trans s2, both_sub s1 (s4.trans s2), Disj.symm (both_disj (dj.sub (.refl _) s3) dj'.symm), q', h1, h4, both_l, both_r (dj.sub (.refl _) s4), dj.sub (.refl _) s4, q, k⟩
      | lock a o u =>
        obtain ⟨e, h1, h2, s1, s2, dj, q, k⟩ := q
        exact ⟨h1, h2, s1, s2, dj, q, e, k⟩
    | lock a o u =>
      cases y with
      | it v n d =>
        obtain ⟨h1, h2, s1, s2, dj, q, e, k⟩ := q
        exact ⟨e, h1, h2, s1, s2, dj, q, k⟩
      | raw p φ =>
        obtain ⟨h1, h2, s1, s2, dj, q, e, k⟩ := q
        exact ⟨e, h1, h2, s1, s2, dj, q, k⟩
      | lock a' o' u' => exact ⟨q.2.1, q.1, q.2.2⟩
  | trans _ _ a b => exact fun q => b (a q)
theorem Sep.sublist {F : Hp} {l l' : List Fr} (p : l'.Sublist l) : ∀ {h : Hp}, Sep G F h l → Sep G F h l' := by
  induction p with
  | slnil => exact fun q => q
  | cons x _ ih =>
    intro h q
    cases x with
    | it v n d =>
      obtain ⟨h1, h2, s1, s2, dj, q, k⟩ := q
      exact Sep.monoS (.refl _) _ s2 (ih k)
    | lock a o u => exact ih q.2
    | raw p φ =>
      obtain ⟨h1, h2, s1, s2, dj, q, k⟩ := q
      exact Sep.monoS (.refl _) _ s2 (ih k)
  | cons_cons x _ ih =>
    intro h q
    cases x with
    | it v n d =>
      obtain ⟨h1, h2, s1, s2, dj, q, k⟩ := q
      exact ⟨h1, h2, s1, s2, dj, q, ih k⟩
    | lock a o u => exact ⟨q.1, ih q.2⟩
    | raw p φ =>
      obtain ⟨h1, h2, s1, s2, dj, q, k⟩ := q
      exact ⟨h1, h2, s1, s2, dj, q, ih k⟩
variable {l l' : List Fr} {H H' : Hp}
theorem Rl.perm (p : l.Perm l') (r : Rl G l H) : Rl G l' H := let ⟨F, h, a, b, c, d⟩ := r; ⟨F, h, a, b, c, d.perm p⟩
theorem Rl.sublist (p : l'.Sublist l) (r : Rl G l H) : Rl G l' H := let ⟨F, h, a, b, c, d⟩ := r; ⟨F, h, a, b, c, d.sublist p⟩
theorem Rl.mono (s : Sub H H') (r : Rl G l H) : Rl G l H' := let ⟨F, h, a, b, c, d⟩ := r; ⟨F, h, a.trans s, b.trans s, c, d⟩
theorem Rl.tail {x : Fr} (r : Rl G (x :: l) H) : Rl G l H := r.sublist (List.sublist_cons_self _ _)
theorem Rl.see {v : V} {n : Nat} {d : D} (r : Rl G (.it v n d :: l) H) : See G H d v := by
  obtain ⟨F, h, a, b, _, h1, h2, s1, _, _, q, _⟩ := r
  exact Own.see (.of a) d (s1.trans b) q
theorem Rl.lockAt {a : Addr} {o : Obj} {u : HO} (r : Rl G (.lock a o u :: l) H) : H a = some (.frz o u) := by
  obtain ⟨F, h, s, _, _, q, _⟩ := r
  exact s _ _ q
/-- to a lesser depth -/
theorem Rl.lower {v : V} {n m : Nat} {d : D} (le : m ≤ n) (r : Rl G (.it v n d :: l) H) : Rl G (.it v m d :: l) H := by
  obtain ⟨F, h, a, b, c, h1, h2, s1, s2, dj, q, k⟩ := r
  obtain ⟨F', h1', t1, t2, t3, t4, q'⟩ := Own.lower d le (c.sub (.refl _) s1) q
  have dF : Disj F' h2 := fun x o z => (both_or (t2 x o z)).elim (fun w => (c.sub (.refl _) s2) x o w) (fun w => dj x o w)
  refine ⟨F', both h1' h2, fun x o z => ?_, both_sub ((t3.trans s1).trans b) (s2.trans b), ?_, h1', h2, both_l, both_r (dj.sub t3 (.refl _)), dj.sub t3 (.refl _), q', Sep.monoS t1 _ (.refl _) k⟩
  · rcases both_or (t2 x o z) with w | w
    · exact a x o w
    · exact b x o (s1 x o w)
  · exact Disj.symm (both_disj t4.symm dF.symm)
theorem none_sub {h : Hp} : Sub (fun _ => none) h := fun _ _ z => by cases z
theorem Rl.dup {v : V} {d : D} (r : Rl G (.it v 0 d :: l) H) : Rl G (.it v 0 d :: .it v 0 d :: l) H := by
  obtain ⟨F, h, a, b, c, h1, h2, s1, s2, dj, q, k⟩ := r
  -- a frozen item asks nothing of its own heap
  have q0 : Own G d 0 F (fun _ => none) v := own0 d q
  exact ⟨F, h, a, b, c, fun _ => none, h, none_sub, .refl _, Disj.none_l, q0, fun _ => none, h2, none_sub, s2, Disj.none_l, q0, k⟩
where
  own0 : ∀ (d : D) {F h : Hp} {v : V}, Own G d 0 F h v → Own G d 0 F (fun _ => none) v
    | .non, _, _, _, q => q
    | .bl _, _, _, _, q => q
    | .int _, _, _, _, q => q
    | .str _, _, _, _, q => q
    | .tup ds, _, _, _, ⟨a, vs, e, q, r⟩ => ⟨a, vs, e, q, own0L ds r⟩
    | .lst ds, _, _, _, ⟨a, vs, e, q, r⟩ => ⟨a, vs, e, q, own0L ds r⟩
    | .scr _, _, _, _, q => q
    | .nst _, _, _, _, q => q
    | .dct _ _ ds, _, _, _, ⟨a, vs, o, e, d, q, r⟩ => ⟨a, vs, o, e, d, q, own0L ds r⟩
    | .obj _ ds, _, _, _, ⟨a, dx, vs, e, q, r⟩ => ⟨a, dx, vs, e, q, own0L ds r⟩
  own0L : ∀ (ds : List D) {F h : Hp} {vs : List V}, OwnL G ds 0 F h vs → OwnL G ds 0 F (fun _ => none) vs
    | [], _, _, _, q => q
    | d :: ds, _, _, _, ⟨v, r, h1, h2, e, s1, s2, dj, q, t⟩ => ⟨v, r, fun _ => none, fun _ => none, e, none_sub, none_sub, Disj.none_l, own0 d q, own0L ds t⟩
/-- the tuples may be known to all -/
theorem Rl.tups (r : Rl G l H) : ∃ F h, Sub F H ∧ Sub h H ∧ Disj F h ∧ Sep G F h l ∧ ∀ a vs, H a = some (.tup vs) → F a = some (.tup vs) := by
  obtain ⟨F, h, a, b, c, k⟩ := r
  -- F with H's tuples (and locked tuples), h without them
  let T : Addr → Bool := fun x => match H x with
    | some (.tup _) => true
    | _ => false
  let F' : Hp := fun x => if T x = true then H x else F x
  let h' : Hp := fun x => if T x = true then none else h x
  have sF : Sub F F' := fun x o z => by
    show (if T x = true then H x else F x) = some o
    split
    · exact a x o z
    · exact z
  have hT : ∀ x o, (H x = some o ∧ nodeO o) → T x = false := fun x o z => by
    show (match H x with | some (.tup _) => true | _ => false) = false
    obtain ⟨z, w⟩ := z
    rw [z]
    cases o <;> first | rfl | exact absurd w (by intro y; exact y)
  have key : ∀ (d : D) {n : Nat} {k : Hp} {v : V}, Sub k H → Own G d n F k v → Own G d n F' (fun x => if T x = true then none else k x) v := fun d _ _ _ sk q => own_rest T hT sF d sk q
  · refine ⟨F', h', fun x o z => ?_, fun x o z => ?_, fun x o z => ?_, sep_rest T hT key sF l b k, fun x vs z => ?_⟩
    · have z' : (if T x = true then H x else F x) = some o := z
      split at z'
      · exact z'
      · exact a x o z'
    · have z' : (if T x = true then none else h x) = some o := z
      split at z'
      · cases z'
      · exact b x o z'
    · show (if T x = true then none else h x) = none
      have z' : (if T x = true then H x else F x) = some o := z
      split at z'
      · rename_i y; rw [if_pos y]
      · rename_i y; rw [if_neg y]; exact c x o z'
    · have t : T x = true := by show (match H x with | some (.tup _) => true | _ => false) = true; rw [z]
      show (if T x = true then H x else F x) = _
      rw [if_pos t]; exact z
where
  own_rest (T : Addr → Bool) {H F F' : Hp} (hT : ∀ x o, (H x = some o ∧ nodeO o) → T x = false) (sF : Sub F F') : ∀ (d : D) {n : Nat} {k : Hp} {v : V}, Sub k H → Own G d n F k v → Own G d n F' (fun x => if T x = true then none else k x) v
    | .non, _, _, _, _, q => q
    | .bl _, _, _, _, _, q => q
    | .int _, _, _, _, _, q => q
    | .str _, _, _, _, _, q => q
    | .tup ds, _, _, _, sk, ⟨a, vs, e, q, r⟩ => ⟨a, vs, e, sF _ _ q, own_restL T hT sF ds sk r⟩
    | .lst ds, 0, _, _, sk, ⟨a, vs, e, q, r⟩ => ⟨a, vs, e, sF _ _ q, own_restL T hT sF ds sk r⟩
    | .scr _, _, _, _, _, ⟨a, e, q⟩ => ⟨a, e, (Fle.of sF).sqL q⟩
    | .nst _, 0, _, _, _, ⟨a, bs, e, k, q⟩ => ⟨a, bs, e, k.mono fun _ _ z => sF _ _ z, sF _ _ q⟩
    | .nst _, _ + 1, k, _, sk, ⟨a, bs, e, kk, q⟩ => by
      have t : T a = false := hT a _ ⟨sk _ _ q, trivial⟩
      exact ⟨a, bs, e, kk.mono fun _ _ z => sF _ _ z, (by show (if T a = true then none else k a) = _; rw [t]; exact q)⟩
    | .lst ds, _ + 1, k, _, sk, ⟨a, vs, e, q, r⟩ => by
      have t : T a = false := hT a _ ⟨sk _ _ q, trivial⟩
      refine ⟨a, vs, e, (by show (if T a = true then none else k a) = _; rw [t]; exact q), OwnL.mono (.refl _) ds ?_ (own_restL T hT sF ds ((del_sub k a).trans sk) r)⟩
      exact comm T k a
    | .dct _ _ ds, 0, _, _, sk, ⟨a, vs, o, e, d, q, r⟩ => ⟨a, vs, o, e, d, rd_sub sF q, own_restL T hT sF ds sk r⟩
    | .dct _ _ ds, _ + 1, k, _, sk, ⟨a, vs, o, e, d, q, r⟩ => by
      have t : T a = false := hT a _ ⟨sk _ _ q, by rcases d with ⟨_, _, z, _⟩ | ⟨_, _, z, _⟩ <;> subst z <;> trivial⟩
      refine ⟨a, vs, o, e, d, (by show (if T a = true then none else k a) = _; rw [t]; exact q), OwnL.mono (.refl _) ds ?_ (own_restL T hT sF ds ((del_sub k a).trans sk) r)⟩
      exact comm T k a
    | .obj _ ds, 0, _, _, sk, ⟨a, dx, vs, e, q, r⟩ => ⟨a, dx, vs, e, sF _ _ q, own_restL T hT sF ds sk r⟩
    | .obj _ ds, _ + 1, k, _, sk, ⟨a, dx, vs, e, q, r⟩ => by
      have t : T a = false := hT a _ ⟨sk _ _ q, trivial⟩
      refine ⟨a, dx, vs, e, (by show (if T a = true then none else k a) = _; rw [t]; exact q), OwnL.mono (.refl _) ds ?_ (own_restL T hT sF ds ((del_sub k a).trans sk) r)⟩
      exact comm T k a
  own_restL (T : Addr → Bool) {H F F' : Hp} (hT : ∀ x o, (H x = some o ∧ nodeO o) → T x = false) (sF : Sub F F') : ∀ (ds : List D) {n : Nat} {k : Hp} {vs : List V}, Sub k H → OwnL G ds n F k vs → OwnL G ds n F' (fun x => if T x = true then none else k x) vs
    | [], _, _, _, _, q => q
    | d :: ds, _, _, _, sk, ⟨v, r, h1, h2, e, s1, s2, dj, q, t⟩ => ⟨v, r, _, _, e, restS T s1, restS T s2, restD T dj, own_rest T hT sF d (s1.trans sk) q, own_restL T hT sF ds (s2.trans sk) t⟩
  restS (T : Addr → Bool) {h h' : Hp} (s : Sub h h') : Sub (fun x => if T x = true then none else h x) (fun x => if T x = true then none else h' x) := fun x o z => by
    show (if T x = true then none else h' x) = some o
    have z' : (if T x = true then none else h x) = some o := z
    split at z'
    · cases z'
    · rename_i y; rw [if_neg y]; exact s x o z'
  restD (T : Addr → Bool) {h h' : Hp} (s : Disj h h') : Disj (fun x => if T x = true then none else h x) (fun x => if T x = true then none else h' x) := fun x o z => by
    show (if T x = true then none else h' x) = none
    have z' : (if T x = true then none else h x) = some o := z
    split at z'
    · cases z'
    · rename_i y; rw [if_neg y]; exact s x o z'
  comm (T : Addr → Bool) (k : Hp) (a : Addr) : Sub (fun x => if T x = true then none else del k a x) (del (fun x => if T x = true then none else k x) a) := fun x o z => by
    have z' : (if T x = true then none else del k a x) = some o := z
    split at z'
    · cases z'
    · rename_i y
      have e : x ≠ a := fun e => by subst e; rw [del_self] at z'; cases z'
      rw [del_ne e] at z' ⊢
      show (if T x = true then none else k x) = some o
      rw [if_neg y]; exact z'
  sep_rest (T : Addr → Bool) {H F F' : Hp} (hT : ∀ x o, (H x = some o ∧ nodeO o) → T x = false) (key : ∀ (d : D) {n : Nat} {k : Hp} {v : V}, Sub k H → Own G d n F k v → Own G d n F' (fun x => if T x = true then none else k x) v) (sF : Sub F F') :
      ∀ (l : List Fr) {k : Hp}, Sub k H → Sep G F k l → Sep G F' (fun x => if T x = true then none else k x) l
    | [], _, _, _ => trivial
    | .it v n d :: r, _, sk, ⟨h1, h2, s1, s2, dj, q, t⟩ => ⟨_, _, restS T s1, restS T s2, restD T dj, key d (s1.trans sk) q, sep_rest T hT key sF r (s2.trans sk) t⟩
    | .lock a o u :: r, _, sk, ⟨q, t⟩ => ⟨sF _ _ q, sep_rest T hT key sF r sk t⟩
    | .raw p φ :: r, _, sk, ⟨h1, h2, s1, s2, dj, q, t⟩ => ⟨_, _, restS T s1, restS T s2, restD T dj, (by show (if T p = true then none else h1 p) = _; rw [hT p _ ⟨sk _ _ (s1 _ _ q), trivial⟩]; exact q), sep_rest T hT key sF r (s2.trans sk) t⟩
/-- what is seen and cannot change -/
theorem Rl.imm {v : V} {n : Nat} {d : D} (i : isImm d = true) (s : See G H d v) (r : Rl G l H) : Rl G (.it v n d :: l) H := by
  obtain ⟨F, h, a, b, c, k, t⟩ := r.tups
  exact ⟨F, h, a, b, c, fun _ => none, h, none_sub, .refl _, Disj.none_l, See.imm t d i s, k⟩
theorem Rl.immL {vs : List V} {n : Nat} {ds : List D} (i : isImmL ds = true) (s : SeeL G H ds vs) (r : Rl G l H) : ∃ F h, Sub F H ∧ Sub h H ∧ Disj F h ∧ OwnL G ds n F (fun _ => none) vs ∧ Sep G F h l := by
  obtain ⟨F, h, a, b, c, k, t⟩ := r.tups
  exact ⟨F, h, a, b, c, SeeL.imm t ds i s, k⟩
/-- items -/
def its (n : Nat) : List V → List D → List Fr
  | v :: vs, d :: ds => .it v n d :: its n vs ds
  | _, _ => []
theorem Sep.join {F : Hp} {n : Nat} : ∀ {vs : List V} {ds : List D} {h : Hp}, vs.length = ds.length → Sep G F h (its n vs ds ++ l) → ∃ h1 h2, Sub h1 h ∧ Sub h2 h ∧ Disj h1 h2 ∧ OwnL G ds n F h1 vs ∧ Sep G F h2 l
  | [], [], h, _, q => ⟨fun _ => none, h, none_sub, .refl _, Disj.none_l, rfl, q⟩
  | v :: vs, d :: ds, h, e, ⟨h1, h2, s1, s2, dj, q, k⟩ => by
    obtain ⟨k1, k2, t1, t2, dj', q', k'⟩ := Sep.join (vs := vs) (ds := ds) (by simpa using e) k
    exact ⟨both h1 k1, k2, both_sub s1 (t1.trans s2), t2.trans s2, both_disj (dj.sub (.refl _) t2) dj', ⟨v, vs, h1, k1, rfl, both_l, both_r (dj.sub (.refl _) t1), dj.sub (.refl _) t1, q, q'⟩, k'⟩
  | [], _ :: _, _, e, _ => by simp at e
  | _ :: _, [], _, e, _ => by simp at e
theorem Sep.split {F : Hp} {n : Nat} : ∀ {ds : List D} {vs : List V} {h1 h2 h : Hp}, Sub h1 h → Sub h2 h → Disj h1 h2 → OwnL G ds n F h1 vs → Sep G F h2 l → Sep G F h (its n vs ds ++ l)
  | [], _, h1, h2, h, s1, s2, dj, q, k => by cases q; exact Sep.monoS (.refl _) _ s2 k
  | d :: ds, _, h1, h2, h, s1, s2, dj, ⟨v, r, k1, k2, e, t1, t2, dj', q, t⟩, k => by
    subst e
    refine ⟨k1, both k2 h2, t1.trans s1, both_sub (t2.trans s1) s2, Disj.symm (both_disj dj'.symm (dj.sub t1 (.refl _)).symm), q, ?_⟩
    exact Sep.split both_l (both_r (dj.sub t2 (.refl _))) (dj.sub t2 (.refl _)) t k
/-- a new tuple of items -/
theorem Rl.newTup {vs : List V} {n : Nat} {ds : List D} {p : Addr} (e : vs.length = ds.length) (r : Rl G (its n vs ds ++ l) H) (hp : H p = none) : Rl G (.it (.ref p) n (.tup ds) :: l) (upd H p (.tup vs)) := by
  obtain ⟨F, h, a, b, c, k⟩ := r
  obtain ⟨h1, h2, s1, s2, dj, q, k⟩ := Sep.join e k
  have nF : F p = none := by
    cases z : F p with
    | none => rfl
    | some u => rw [a p u z] at hp; cases hp
  have nh : h p = none := by
    cases z : h p with
    | none => rfl
    | some u => rw [b p u z] at hp; cases hp
  refine ⟨upd F p (.tup vs), h, fun x o z => ?_, b.trans (upd_sub hp), fun x o z => ?_, h1, h2, s1, s2, dj, ⟨p, vs, rfl, upd_same, OwnL.mono (.of (upd_sub nF)) ds (.refl _) q⟩, Sep.monoS (upd_sub nF) _ (.refl _) k⟩
  · by_cases e : x = p
    · subst e; rw [upd_same] at z ⊢; exact z
    · rw [upd_ne e] at z ⊢; exact a x o z
  · by_cases e : x = p
    · subst e; exact nh
    · rw [upd_ne e] at z; exact c x o z
/-- a new object of items -/
theorem newNode {p : Addr} {o : HO} {F h : Hp} (a : Sub F H) (b : Sub h H) (c : Disj F h) (hp : H p = none) : Sub F (upd H p o) ∧ Sub (upd h p o) (upd H p o) ∧ Disj F (upd h p o) ∧ h p = none := by
  have nF : F p = none := by
    cases z : F p with
    | none => rfl
    | some u => rw [a p u z] at hp; cases hp
  have nh : h p = none := by
    cases z : h p with
    | none => rfl
    | some u => rw [b p u z] at hp; cases hp
  refine ⟨a.trans (upd_sub hp), fun x u z => ?_, fun x u z => ?_, nh⟩
  · by_cases e : x = p
    · subst e; rw [upd_same] at z ⊢; exact z
    · rw [upd_ne e] at z ⊢; exact b x u z
  · by_cases e : x = p
    · subst e; rw [nF] at z; cases z
    · rw [upd_ne e]; exact c x u z
theorem heap_node {p : Addr} {o : HO} {h1 h2 h : Hp} (s1 : Sub h1 h) (s2 : Sub h2 h) (dj : Disj h1 h2) (nh : h p = none) :
    Sub (upd h1 p o) (upd h p o) ∧ Sub h2 (upd h p o) ∧ Disj (upd h1 p o) h2 ∧ Sub h1 (del (upd h1 p o) p) := by
  have n1 : h1 p = none := by
    cases z : h1 p with
    | none => rfl
    | some u => rw [s1 p u z] at nh; cases nh
  have n2 : h2 p = none := by
    cases z : h2 p with
    | none => rfl
    | some u => rw [s2 p u z] at nh; cases nh
  refine ⟨fun x u z => ?_, fun x u z => ?_, fun x u z => ?_, fun x u z => ?_⟩
  · by_cases e : x = p
    · subst e; rw [upd_same] at z ⊢; exact z
    · rw [upd_ne e] at z ⊢; exact s1 x u z
  · have e : x ≠ p := fun e => by subst e; rw [n2] at z; cases z
    rw [upd_ne e]; exact s2 x u z
  · by_cases e : x = p
    · subst e; exact n2
    · rw [upd_ne e] at z; exact dj x u z
  · have e : x ≠ p := fun e => by subst e; rw [n1] at z; cases z
    rw [del_ne e, upd_ne e]; exact z
theorem Rl.newLst {vs : List V} {n : Nat} {ds : List D} {p : Addr} (e : vs.length = ds.length) (r : Rl G (its n vs ds ++ l) H) (hp : H p = none) : Rl G (.it (.ref p) (n + 1) (.lst ds) :: l) (upd H p (.lst vs)) := by
  obtain ⟨F, h, a, b, c, k⟩ := r
  obtain ⟨h1, h2, s1, s2, dj, q, k⟩ := Sep.join e k
  obtain ⟨a1, b1, c1, nh⟩ := newNode (o := .lst vs) a b c hp
  obtain ⟨t1, t2, t3, t4⟩ := heap_node (o := .lst vs) s1 s2 dj nh
  exact ⟨F, _, a1, b1, c1, _, h2, t1, t2, t3, ⟨p, vs, rfl, upd_same, OwnL.mono (.refl _) ds t4 q⟩, k⟩
theorem Rl.newDct {t : Bool} {ks : List D} {vs : List V} {n : Nat} {ds : List D} {p : Addr} {o : HO} (e : vs.length = ds.length) (hd : DO t ks vs o) (r : Rl G (its n vs ds ++ l) H) (hp : H p = none) :
    Rl G (.it (.ref p) (n + 1) (.dct t ks ds) :: l) (upd H p o) := by
  obtain ⟨F, h, a, b, c, k⟩ := r
  obtain ⟨h1, h2, s1, s2, dj, q, k⟩ := Sep.join e k
  obtain ⟨a1, b1, c1, nh⟩ := newNode (o := o) a b c hp
  obtain ⟨t1, t2, t3, t4⟩ := heap_node (o := o) s1 s2 dj nh
  exact ⟨F, _, a1, b1, c1, _, h2, t1, t2, t3, ⟨p, vs, o, rfl, hd, upd_same, OwnL.mono (.refl _) ds t4 q⟩, k⟩
theorem Rl.newObj {c : Nat} {vs : List V} {n : Nat} {ds : List D} {p dx : Addr} (e : vs.length = ds.length) (r : Rl G (its n vs ds ++ l) H) (hp : H p = none) :
    Rl G (.it (.ref p) (n + 1) (.obj c ds) :: l) (upd H p (.ins (G.ca c) dx ((G.cn c).zip vs))) := by
  obtain ⟨F, h, a, b, c', k⟩ := r
  obtain ⟨h1, h2, s1, s2, dj, q, k⟩ := Sep.join e k
  obtain ⟨a1, b1, c1, nh⟩ := newNode (o := .ins (G.ca c) dx ((G.cn c).zip vs)) a b c' hp
  obtain ⟨t1, t2, t3, t4⟩ := heap_node (o := .ins (G.ca c) dx ((G.cn c).zip vs)) s1 s2 dj nh
  exact ⟨F, _, a1, b1, c1, _, h2, t1, t2, t3, ⟨p, dx, vs, rfl, upd_same, OwnL.mono (.refl _) ds t4 q⟩, k⟩
theorem openNode {F h h1 h2 : Hp} {p : Addr} {o : HO} (a : Sub F H) (b : Sub h H) (c : Disj F h) (s1 : Sub h1 h) (s2 : Sub h2 h) (dj : Disj h1 h2) (q : h1 p = some o) :
    Sub F (del H p) ∧ Sub (both (del h1 p) h2) (del H p) ∧ Disj F (both (del h1 p) h2) ∧ Disj (del h1 p) h2 := by
  have nF : F p = none := c.symm p o (s1 p o q)
  have n2 : h2 p = none := dj p o q
  have d1 : Disj (del h1 p) h2 := dj.sub (del_sub h1 p) (.refl _)
  refine ⟨fun x u z => ?_, fun x u z => ?_, Disj.symm (both_disj (c.sub (.refl _) ((del_sub h1 p).trans s1)).symm (c.sub (.refl _) s2).symm), d1⟩
  · have e : x ≠ p := fun e => by subst e; rw [nF] at z; cases z
    rw [del_ne e]; exact a x u z
  · have e : x ≠ p := fun e => by
      subst e
      rcases both_or z with w | w
      · rw [del_self] at w; cases w
      · rw [n2] at w; cases w
    rw [del_ne e]
    exact (both_or z).elim (fun w => b x u (s1 x u (del_sub h1 p x u w))) fun w => b x u (s2 x u w)
theorem upd_del {p : Addr} {o : HO} : upd (del H p) p o = upd H p o := by
  funext x
  by_cases e : x = p
  · subst e; rw [upd_same, upd_same]
  · rw [upd_ne e, upd_ne e, del_ne e]
/-- an owned list opened: its items, in the heap without it -/
theorem Rl.openLst {a : V} {n : Nat} {ds : List D} (r : Rl G (.it a (n + 1) (.lst ds) :: l) H) :
    ∃ p vs, a = .ref p ∧ H p = some (.lst vs) ∧ vs.length = ds.length ∧ Rl G (its n vs ds ++ l) (del H p) := by
  obtain ⟨F, h, a1, b1, c1, h1, h2, s1, s2, dj, ⟨p, vs, e, q, t⟩, k⟩ := r
  obtain ⟨u1, u2, u3, u4⟩ := openNode a1 b1 c1 s1 s2 dj q
  exact ⟨p, vs, e, b1 _ _ (s1 _ _ q), OwnL.length (h := h1) t, F, _, u1, u2, u3, Sep.split both_l (both_r u4) u4 t k⟩
theorem Rl.openDct {a : V} {n : Nat} {t : Bool} {ks ds : List D} (r : Rl G (.it a (n + 1) (.dct t ks ds) :: l) H) :
    ∃ p vs o, a = .ref p ∧ H p = some o ∧ DO t ks vs o ∧ vs.length = ds.length ∧ Rl G (its n vs ds ++ l) (del H p) := by
  obtain ⟨F, h, a1, b1, c1, h1, h2, s1, s2, dj, ⟨p, vs, o, e, d, q, t⟩, k⟩ := r
  obtain ⟨u1, u2, u3, u4⟩ := openNode a1 b1 c1 s1 s2 dj q
  exact ⟨p, vs, o, e, b1 _ _ (s1 _ _ q), d, OwnL.length (h := h1) t, F, _, u1, u2, u3, Sep.split both_l (both_r u4) u4 t k⟩
theorem Rl.openObj {a : V} {n : Nat} {c : Nat} {ds : List D} (r : Rl G (.it a (n + 1) (.obj c ds) :: l) H) :
    ∃ p dx vs, a = .ref p ∧ H p = some (.ins (G.ca c) dx ((G.cn c).zip vs)) ∧ vs.length = ds.length ∧ Rl G (its n vs ds ++ l) (del H p) := by
  obtain ⟨F, h, a1, b1, c1, h1, h2, s1, s2, dj, ⟨p, dx, vs, e, q, t⟩, k⟩ := r
  obtain ⟨u1, u2, u3, u4⟩ := openNode a1 b1 c1 s1 s2 dj q
  exact ⟨p, dx, vs, e, b1 _ _ (s1 _ _ q), OwnL.length (h := h1) t, F, _, u1, u2, u3, Sep.split both_l (both_r u4) u4 t k⟩
/-- the items of a tuple, of a frozen thing -/
theorem Rl.openTup {a : V} {n : Nat} {ds : List D} (r : Rl G (.it a n (.tup ds) :: l) H) : ∃ p vs, a = .ref p ∧ H p = some (.tup vs) ∧ vs.length = ds.length ∧ Rl G (its n vs ds ++ l) H := by
  obtain ⟨F, h, a1, b1, c1, h1, h2, s1, s2, dj, ⟨p, vs, e, q, t⟩, k⟩ := r
  exact ⟨p, vs, e, a1 _ _ q, OwnL.length (h := h1) t, F, h, a1, b1, c1, Sep.split s1 s2 dj t k⟩
theorem Rl.openLst0 {a : V} {ds : List D} (r : Rl G (.it a 0 (.lst ds) :: l) H) : ∃ p vs, a = .ref p ∧ H p = some (.lst vs) ∧ vs.length = ds.length ∧ Rl G (its 0 vs ds ++ l) H := by
  obtain ⟨F, h, a1, b1, c1, h1, h2, s1, s2, dj, ⟨p, vs, e, q, t⟩, k⟩ := r
  exact ⟨p, vs, e, a1 _ _ q, OwnL.length (h := h1) t, F, h, a1, b1, c1, Sep.split s1 s2 dj t k⟩
theorem Rl.openDct0 {a : V} {t : Bool} {ks ds : List D} (r : Rl G (.it a 0 (.dct t ks ds) :: l) H) : ∃ p vs o, a = .ref p ∧ Rd H p o ∧ DO t ks vs o ∧ vs.length = ds.length ∧ Rl G (its 0 vs ds ++ l) H := by
  obtain ⟨F, h, a1, b1, c1, h1, h2, s1, s2, dj, ⟨p, vs, o, e, d, q, t⟩, k⟩ := r
  exact ⟨p, vs, o, e, rd_sub a1 q, d, OwnL.length (h := h1) t, F, h, a1, b1, c1, Sep.split s1 s2 dj t k⟩
theorem Rl.openObj0 {a : V} {c : Nat} {ds : List D} (r : Rl G (.it a 0 (.obj c ds) :: l) H) :
    ∃ p dx vs, a = .ref p ∧ H p = some (.ins (G.ca c) dx ((G.cn c).zip vs)) ∧ vs.length = ds.length ∧ Rl G (its 0 vs ds ++ l) H := by
  obtain ⟨F, h, a1, b1, c1, h1, h2, s1, s2, dj, ⟨p, dx, vs, e, q, t⟩, k⟩ := r
  exact ⟨p, dx, vs, e, a1 _ _ q, OwnL.length (h := h1) t, F, h, a1, b1, c1, Sep.split s1 s2 dj t k⟩
theorem its_length {n : Nat} : ∀ {vs : List V} {ds : List D}, vs.length = ds.length → (its n vs ds).length = ds.length
  | [], [], _ => rfl
  | _ :: vs, _ :: ds, e => by
    show (its n vs ds).length + 1 = _
    rw [its_length (by simpa using e), List.length_cons]
  | [], _ :: _, e => by simp at e
  | _ :: _, [], e => by simp at e
theorem its_app {n : Nat} : ∀ {vs ws : List V} {ds es : List D}, vs.length = ds.length → its n (vs ++ ws) (ds ++ es) = its n vs ds ++ its n ws es
  | [], _, [], _, _ => rfl
  | v :: vs, ws, d :: ds, es, e => by
    show Fr.it v n d :: its n (vs ++ ws) (ds ++ es) = Fr.it v n d :: (its n vs ds ++ its n ws es)
    rw [its_app (by simpa using e)]
  | [], _, _ :: _, _, e => by simp at e
  | _ :: _, _, [], _, e => by simp at e
theorem its_mem {n : Nat} : ∀ {vs : List V} {ds : List D} {i : Nat} {v : V} {d : D}, vs[i]? = some v → ds[i]? = some d → [Fr.it v n d].Sublist (its n vs ds)
  | v :: vs, d :: ds, 0, _, _, e1, e2 => by
    cases e1; cases e2
    exact List.Sublist.cons_cons _ (List.nil_sublist _)
  | v :: vs, d :: ds, i + 1, _, _, e1, e2 => List.Sublist.cons _ (its_mem (i := i) (by simpa using e1) (by simpa using e2))
  | [], _, _, _, _, e1, _ => by simp at e1
  | _ :: _, [], _, _, _, _, e2 => by simp at e2
/-- lowering many -/
theorem Rl.lowers {n m : Nat} (le : m ≤ n) : ∀ {vs : List V} {ds : List D} {l : List Fr}, Rl G (its n vs ds ++ l) H → Rl G (its m vs ds ++ l) H
  | [], [], _, r => r
  | [], _ :: _, _, r => r
  | _ :: _, [], _, r => r
  | v :: vs, d :: ds, l, r => by
    have r1 : Rl G (.it v m d :: (its n vs ds ++ l)) H := Rl.lower le r
    have r2 : Rl G (its n vs ds ++ (.it v m d :: l)) H := r1.perm List.perm_middle.symm
    have r3 := Rl.lowers le (vs := vs) (ds := ds) r2
    exact r3.perm List.perm_middle
/-- a lock laid, a lock taken off -/
theorem Rl.lock {p : Addr} {u : HO} {od : Obj} (hu : nfz u) (hl : H p = some u) (hF : ∃ t ks ds, Fr.it (.ref p) 0 (.dct t ks ds) ∈ l) (r : Rl G l H) : Rl G (.lock p od u :: l) (upd H p (.frz od u)) := by
  obtain ⟨F, h, a, b, c, k⟩ := r
  have rF : F p = some u := by
    obtain ⟨t, ks, ds, m⟩ := hF
    obtain ⟨q, vs, o, e, _, rd, _⟩ : ∃ q vs o, V.ref p = .ref q ∧ DO t ks vs o ∧ Rd F q o ∧ True := by
      have := mem_own (l := l) k m
      obtain ⟨h1, q, vs, o, e, d, rd, _⟩ := this
      exact ⟨q, vs, o, e, d, rd, trivial⟩
    cases e
    rcases rd with rd | ⟨u', rd⟩
    · rw [← hl, a _ _ rd]; exact rd
    · have := a _ _ rd
      rw [hl] at this
      cases this
      exact hu.elim
  have fl : Fle F (upd F p (.frz od u)) := by
    have nt : ¬ isEx u := by
      obtain ⟨t, ks, ds, m⟩ := hF
      obtain ⟨h1, q', vs, o, e, d, rd, _⟩ := mem_own (l := l) k m
      cases e
      rcases rd with rd | ⟨u', rd⟩
      · rw [rF] at rd
        cases rd
        rcases d with ⟨_, _, z, _⟩ | ⟨_, _, z, _⟩ <;> subst z <;> exact fun y => y
      · rw [rF] at rd; cases rd; exact hu.elim
    refine ⟨fun x o n q => ?_, fun x o z q => ?_⟩
    · by_cases e : x = p
      · subst e
        rcases q with q | ⟨u', q⟩
        · rw [rF] at q; cases q; exact .inr ⟨od, upd_same⟩
        · rw [rF] at q; cases q; exact hu.elim
      · rcases q with q | ⟨u', q⟩
        · exact .inl (by rw [upd_ne e]; exact q)
        · exact .inr ⟨u', by rw [upd_ne e]; exact q⟩
    · have e : x ≠ p := fun e => by subst e; rw [rF] at q; cases q; exact nt z
      rw [upd_ne e]; exact q
  have fz : ∀ x o u', F x = some (.frz o u') → upd F p (.frz od u) x = some (.frz o u') := fun x o u' q => by
    have e : x ≠ p := fun e => by subst e; rw [rF] at q; cases q; exact hu.elim
    rw [upd_ne e]; exact q
  have nh : h p = none := c _ _ rF
  refine ⟨upd F p (.frz od u), h, fun x o q => ?_, fun x o q => ?_, fun x o q => ?_, upd_same, Sep.mono fl fz l (.refl _) k⟩
  · by_cases e : x = p
    · subst e; rw [upd_same] at q ⊢; exact q
    · rw [upd_ne e] at q ⊢; exact a x o q
  · have e : x ≠ p := fun e => by subst e; rw [nh] at q; cases q
    rw [upd_ne e]; exact b x o q
  · by_cases e : x = p
    · subst e; exact nh
    · rw [upd_ne e] at q; exact c x o q
where
  mem_own {G : Gt} {F : Hp} {v : V} {n : Nat} {d : D} : ∀ {l : List Fr} {h : Hp}, Sep G F h l → Fr.it v n d ∈ l → ∃ h1, Own G d n F h1 v
    | .it v' n' d' :: r, h, ⟨h1, h2, _, _, _, q, k⟩, m => by
      rcases List.mem_cons.mp m with e | m
      · cases e; exact ⟨h1, q⟩
      · exact mem_own k m
    | .raw p φ :: r, h, ⟨h1, h2, _, _, _, _, k⟩, m => by
      rcases List.mem_cons.mp m with e | m
      · cases e
      · exact mem_own k m
    | .lock a o u :: r, h, ⟨_, k⟩, m => by
      rcases List.mem_cons.mp m with e | m
      · cases e
      · exact mem_own k m
/-- no other lock on p -/
def noLock (p : Addr) (l : List Fr) : Prop := ∀ a o u, Fr.lock a o u ∈ l → a ≠ p
theorem Rl.unlock {p : Addr} {u : HO} {od : Obj} (hu : nfz u) (hu2 : ∀ C dx fs, u ≠ .ins C dx fs) (nl : noLock p l) (r : Rl G (.lock p od u :: l) H) : Rl G l (upd H p u) := by
  obtain ⟨F, h, a, b, c, q, k⟩ := r
  have nh : h p = none := c _ _ q
  have fl : Fle F (upd F p u) := by
    refine ⟨fun x o n z => ?_, fun x o w z => ?_⟩
    · by_cases e : x = p
      · subst e
        rcases z with z | ⟨u', z⟩
        · rw [q] at z; cases z; exact n.elim
        · rw [q] at z; cases z; exact .inl upd_same
      · rcases z with z | ⟨u', z⟩
        · exact .inl (by rw [upd_ne e]; exact z)
        · exact .inr ⟨u', by rw [upd_ne e]; exact z⟩
    · have e : x ≠ p := fun e => by subst e; rw [q] at z; cases z; exact w
      rw [upd_ne e]; exact z
  refine ⟨upd F p u, h, fun x o z => ?_, fun x o z => ?_, fun x o z => ?_, un l nl fl k⟩
  · by_cases e : x = p
    · subst e; rw [upd_same] at z ⊢; exact z
    · rw [upd_ne e] at z ⊢; exact a x o z
  · have e : x ≠ p := fun e => by subst e; rw [nh] at z; cases z
    rw [upd_ne e]; exact b x o z
  · by_cases e : x = p
    · subst e; exact nh
    · rw [upd_ne e] at z; exact c x o z
where
  un {G : Gt} {F : Hp} {p : Addr} {u : HO} : ∀ (l : List Fr) {h : Hp}, noLock p l → Fle F (upd F p u) → Sep G F h l → Sep G (upd F p u) h l
    | [], _, _, _, _ => trivial
    | .it v n d :: r, h, nl, fl, ⟨h1, h2, s1, s2, dj, q, k⟩ => ⟨h1, h2, s1, s2, dj, Own.mono fl d (.refl _) q, un r (fun a o u m => nl a o u (List.mem_cons_of_mem _ m)) fl k⟩
    | .raw p' φ :: r, h, nl, fl, ⟨h1, h2, s1, s2, dj, q, k⟩ => ⟨h1, h2, s1, s2, dj, q, un r (fun a o u m => nl a o u (List.mem_cons_of_mem _ m)) fl k⟩
    | .lock a o u' :: r, h, nl, fl, ⟨q, k⟩ => ⟨by rw [upd_ne (nl a o u' List.mem_cons_self)]; exact q, un r (fun a o u m => nl a o u (List.mem_cons_of_mem _ m)) fl k⟩
/-- where p is not locked no lock of p is held -/
theorem Rl.noLock {p : Addr} {u : HO} (hu : nfz u) (hp : H p = some u) (r : Rl G l H) : noLock p l := fun a o u' m e => by
  subst e
  have key : ∀ (l : List Fr) (F h : Hp), Sep G F h l → Fr.lock a o u' ∈ l → F a = some (.frz o u') := by
    intro l
    induction l with
    | nil => intro _ _ _ m; cases m
    | cons x r ih =>
      intro F h k m
      cases x with
      | it v n d =>
        obtain ⟨h1, h2, _, _, _, _, k⟩ := k
        rcases List.mem_cons.mp m with e | m
        · cases e
        · exact ih F h2 k m
      | raw p2 φ =>
        obtain ⟨h1, h2, _, _, _, _, k⟩ := k
        rcases List.mem_cons.mp m with e | m
        · cases e
        · exact ih F h2 k m
      | lock a2 o2 u2 =>
        rcases List.mem_cons.mp m with e | m
        · cases e; exact k.1
        · exact ih F h k.2 m
  obtain ⟨F, h, s, _, _, k⟩ := r
  have := s _ _ (key l F h k m)
  rw [hp] at this
  cases this
  exact hu
/-! dicts whose keys are tuples of tuples -/
theorem paired_app {α β : Type} {F : α → β → Prop} {a c : List α} {b d : List β} (h : Paired F a b) (g : Paired F c d) : Paired F (a ++ c) (b ++ d) := by
  induction h with
  | nil => exact g
  | cons r _ ih => exact .cons r ih
theorem Rl.newNst {n : Nat} {p : Addr} (r : Rl G l H) (hp : H p = none) : Rl G (.it (.ref p) (n + 1) (.nst []) :: l) (upd H p (nO p [] [])) := by
  obtain ⟨F, h, a, b, c, k⟩ := r
  obtain ⟨a1, b1, c1, nh⟩ := newNode (o := nO p [] []) a b c hp
  refine ⟨F, _, a1, b1, c1, upd (fun _ => none) p (nO p [] []), h, fun x u z => ?_, upd_sub nh, fun x u z => ?_, ⟨p, [], rfl, .nil, upd_same⟩, k⟩
  · by_cases e : x = p
    · subst e; rw [upd_same] at z ⊢; exact z
    · rw [upd_ne e] at z; cases z
  · by_cases e : x = p
    · subst e; exact nh
    · rw [upd_ne e] at z; cases z
theorem Rl.nstAt {v : V} {n : Nat} {ks : List (List (List Int))} (r : Rl G (.it v (n + 1) (.nst ks) :: l) H) : ∃ p bs, v = .ref p ∧ KeysAt H ks bs ∧ H p = some (nO p ks bs) := r.see
theorem Rl.nstPut {p : Addr} {n : Nat} {ks : List (List (List Int))} {bs : List Addr} {k : List (List Int)} {b : Addr} (ha : H p = some (nO p ks bs)) (hks : KeysAt H ks bs) (hk : KeyAt H k b) (r : Rl G (.it (.ref p) (n + 1) (.nst ks) :: l) H) : Rl G (.it (.ref p) (n + 1) (.nst (ks ++ [k])) :: l) (upd H p (nO p (ks ++ [k]) (bs ++ [b]))) := by
  obtain ⟨F, h, a1, b1, c1, ⟨h1, h2, s1, s2, dj, ⟨p', bs', e, hb, q⟩, kk⟩, ht⟩ := r.tups
  cases e
  have q0 : h1 p = some (nO p ks bs') := q
  obtain ⟨u1, u2, u3, u4⟩ := openNode a1 b1 c1 s1 s2 dj q0
  have nF : F p = none := c1.symm p _ (s1 p _ q0)
  have r2 : Sub F (upd H p (nO p (ks ++ [k]) (bs ++ [b]))) := fun x u z => by
    have e : x ≠ p := fun e => by subst e; rw [nF] at z; cases z
    rw [upd_ne e]; exact a1 x u z
  have n2 : h2 p = none := dj p _ q0
  refine ⟨F, upd h2 p (nO p (ks ++ [k]) (bs ++ [b])), r2, fun x u z => ?_, fun x u z => ?_, upd (fun _ => none) p (nO p (ks ++ [k]) (bs ++ [b])), h2, fun x u z => ?_, upd_sub n2, fun x u z => ?_, ⟨p, bs ++ [b], rfl, ?_, upd_same⟩, kk⟩
  · by_cases e : x = p
    · subst e; rw [upd_same] at z ⊢; exact z
    · rw [upd_ne e] at z ⊢; exact b1 x u (s2 x u z)
  · have e : x ≠ p := fun e => by subst e; rw [nF] at z; cases z
    rw [upd_ne e]
    exact c1.sub (.refl _) s2 x u z
  · by_cases e : x = p
    · subst e; rw [upd_same] at z ⊢; exact z
    · rw [upd_ne e] at z; cases z
  · by_cases e : x = p
    · subst e; exact n2
    · rw [upd_ne e] at z; cases z
  · have e1 : KeysAt F ks bs := hks.mono fun _ _ z => ht _ _ z
    have e2 : KeysAt F [k] [b] := KeysAt.mono (F := H) (fun _ _ z => ht _ _ z) (.cons hk .nil)
    exact paired_app e1 e2
/-! things of one's own -/
theorem Rl.newRaw {p : Addr} {φ : Heap → Prop} (r : Rl G l H) (hp : H p = none) : Rl G (.raw p φ :: l) (upd H p (.ext φ)) := by
  obtain ⟨F, h, a, b, c, k⟩ := r
  obtain ⟨a1, b1, c1, nh⟩ := newNode (o := .ext φ) a b c hp
  refine ⟨F, _, a1, b1, c1, upd (fun _ => none) p (.ext φ), h, fun x u z => ?_, upd_sub nh, fun x u z => ?_, upd_same, k⟩
  · by_cases e : x = p
    · subst e; rw [upd_same] at z ⊢; exact z
    · rw [upd_ne e] at z; cases z
  · by_cases e : x = p
    · subst e; exact nh
    · rw [upd_ne e] at z; cases z
theorem Rl.rawAt {p : Addr} {φ : Heap → Prop} (r : Rl G (.raw p φ :: l) H) : H p = some (.ext φ) := by
  obtain ⟨F, h, a, b, _, h1, h2, s1, _, _, q, _⟩ := r
  exact b _ _ (s1 _ _ q)
theorem Rl.rawPut {p : Addr} {φ ψ : Heap → Prop} (r : Rl G (.raw p φ :: l) H) : Rl G (.raw p ψ :: l) (upd H p (.ext ψ)) := by
  obtain ⟨F, h, a1, b1, c1, h1, h2, s1, s2, dj, q, k⟩ := r
  obtain ⟨u1, u2, u3, u4⟩ := openNode a1 b1 c1 s1 s2 dj q
  have r2 : Rl G l (del H p) := ⟨F, _, u1, u2, u3, Sep.monoS (.refl _) l (both_r u4) k⟩
  have r3 := Rl.newRaw (φ := ψ) r2 (del_self H p)
  rwa [upd_del] at r3
end
end Pv
/-! PvC: slots, readings by functions of the slots' data. -/
namespace Pv
open PySem PySem.Spec PyProof.Rows L2

/-- depth and data; the slots -/
abbrev It := Nat × D
abbrev S := List (Option It)
/-- the depth of what is new -/
abbrev B : Nat := 1000


/-- what a def's body is read against: the classes, what an exception is to meet, the slots whose value stays (they are lent) -/
structure Cn extends Gt where
  n : Nat
  W : WX
  L : List Nat
  pv : Nat → V

/-! ### sizes -/
mutual
def szD : D → Prop
  | .non => True
  | .bl _ => True
  | .int _ => True
  | .str _ => True
  | .tup ds => ds.length ≤ sizeLine ∧ szL ds
  | .lst ds => ds.length ≤ sizeLine ∧ szL ds
  | .dct _ ks ds => ds.length ≤ sizeLine ∧ szL ks ∧ szL ds ∧ ks.Nodup
  | .obj _ ds => szL ds
  | .scr _ => True
  | .nst ks => ks.length ≤ sizeLine ∧ ks.Nodup
def szL : List D → Prop
  | [] => True
  | d :: ds => szD d ∧ szL ds
end
theorem szL_mem : ∀ {ds : List D}, szL ds ↔ ∀ d ∈ ds, szD d
  | [] => by simp [szL]
  | d :: ds => by simp only [szL, szL_mem (ds := ds), List.forall_mem_cons]
def szF : Fr → Prop
  | .it _ _ d => szD d
  | .lock _ _ _ => True
  | .raw _ _ => True
def slF : List (Option V) → S → List Fr
  | some v :: σ, some it :: s => .it v it.1 it.2 :: slF σ s
  | _ :: σ, _ :: s => slF σ s
  | _, _ => []
structure SlOk (σ : List (Option V)) (s : S) : Prop where
  len : σ.length = s.length
  ok : ∀ (i : Nat) (x : It), s[i]? = some (some x) → ∃ v, σ[i]? = some (some v)

/-- the slots' data and the frames' stand in H, apart -/
structure R (C : Cn) (σ : List (Option V)) (s : S) (fr : List Fr) (H : Hp) : Prop where
  sl : SlOk σ s
  rl : Rl C.toGt (fr ++ slF σ s) H
  sz : ∀ f ∈ fr ++ slF σ s, szF f
  pn : ∀ i ∈ C.L, σ[i]? = some (some (C.pv i))
  ln : s.length = C.n
theorem slF_take : ∀ {σ : List (Option V)} {s : S} {i : Nat} {v : V} {x : It}, σ[i]? = some (some v) → s[i]? = some (some x) → (slF σ s).Perm (.it v x.1 x.2 :: slF σ (s.set i none))
  | some v :: σ, some y :: s, 0, _, _, e1, e2 => by
    cases e1; cases e2
    exact .refl _
  | o :: σ, p :: s, i + 1, v, x, e1, e2 => by
    have ih := slF_take (σ := σ) (s := s) (i := i) (v := v) (x := x) (by simpa using e1) (by simpa using e2)
    cases o with
    | none => exact ih
    | some w =>
      cases p with
      | none => exact ih
      | some y => exact (ih.cons (Fr.it w y.1 y.2)).trans (.swap _ _ _)
  | [], _, _, _, _, e1, _ => by simp at e1
  | _ :: _, [], _, _, _, _, e2 => by simp at e2
  | none :: _, _, 0, _, _, e1, _ => by simp at e1
  | some _ :: _, none :: _, 0, _, _, _, e2 => by simp at e2
theorem slF_clear : ∀ {σ : List (Option V)} {s : S} (i : Nat), (slF σ (s.set i none)).Sublist (slF σ s)
  | [], s, _ => by cases s <;> exact List.nil_sublist _
  | o :: _, [], _ => by cases o <;> exact List.nil_sublist _
  | o :: σ, p :: s, 0 => by
    cases o with
    | none => exact .refl _
    | some w =>
      cases p with
      | none => exact .refl _
      | some y => exact List.sublist_cons_self _ _
  | o :: σ, p :: s, i + 1 => by
    have ih := slF_clear (σ := σ) (s := s) i
    cases o with
    | none => exact ih
    | some w =>
      cases p with
      | none => exact ih
      | some y => exact ih.cons_cons _
/-- a slot's value does not matter where it has no data -/
theorem slF_free : ∀ {σ : List (Option V)} {s : S} (i : Nat) (o : Option V), s[i]? = some none → slF (σ.set i o) s = slF σ s
  | [], _, _, _, _ => rfl
  | _ :: _, [], _, _, e => by simp at e
  | q :: σ, p :: s, 0, o, e => by
    have : p = none := by simpa using e
    subst this
    cases q <;> cases o <;> rfl
  | q :: σ, p :: s, i + 1, o, e => by
    have ih := slF_free (σ := σ) (s := s) i o (by simpa using e)
    cases q with
    | none => exact ih
    | some w =>
      cases p with
      | none => exact ih
      | some y => exact congrArg (Fr.it w y.1 y.2 :: ·) ih
theorem set_set_none {s : S} {i : Nat} (x : Option It) : (s.set i x).set i none = s.set i none := by rw [List.set_set]


section
variable {C : Cn} {σ : List (Option V)} {s : S} {fr fr' : List Fr} {H H' : Hp} {i : Nat} {x : It} {v : V}
theorem R.mono (h : Sub H H') (r : R C σ s fr H) : R C σ s fr H' := ⟨r.sl, r.rl.mono h, r.sz, r.pn, r.ln⟩
theorem R.perm (p : fr.Perm fr') (r : R C σ s fr H) : R C σ s fr' H := ⟨r.sl, r.rl.perm (p.append_right _), fun f hf => r.sz f ((p.append_right _).mem_iff.mpr hf), r.pn, r.ln⟩
theorem R.drop (p : fr'.Sublist fr) (r : R C σ s fr H) : R C σ s fr' H := ⟨r.sl, r.rl.sublist (p.append_right _), fun f hf => r.sz f ((p.append_right _).subset hf), r.pn, r.ln⟩
theorem R.tail {y : Fr} (r : R C σ s (y :: fr) H) : R C σ s fr H := r.drop (List.sublist_cons_self _ _)
theorem R.see {n : Nat} {d : D} (r : R C σ s (.it v n d :: fr) H) : See C.toGt H d v := Rl.see r.rl
theorem R.szd {n : Nat} {d : D} (r : R C σ s (.it v n d :: fr) H) : szD d := r.sz _ List.mem_cons_self
/-- the frames are changed, the slots are not -/
theorem R.reframe (r : R C σ s fr H) (h : ∀ l, Rl C.toGt (fr ++ l) H → Rl C.toGt (fr' ++ l) H') (z : ∀ f ∈ fr', szF f) : R C σ s fr' H' :=
  ⟨r.sl, h _ r.rl, fun f hf => (List.mem_append.mp hf).elim (z f) fun q => r.sz f (List.mem_append_right _ q), r.pn, r.ln⟩
theorem R.lower {n m : Nat} {d : D} (le : m ≤ n) (r : R C σ s (.it v n d :: fr) H) : R C σ s (.it v m d :: fr) H :=
  ⟨r.sl, Rl.lower le r.rl, fun f hf => (List.mem_cons.mp hf).elim (fun e => e ▸ r.szd) fun q => r.sz f (List.mem_cons_of_mem _ q), r.pn, r.ln⟩
theorem R.dup {d : D} (r : R C σ s (.it v 0 d :: fr) H) : R C σ s (.it v 0 d :: .it v 0 d :: fr) H :=
  ⟨r.sl, Rl.dup r.rl, fun f hf => (List.mem_cons.mp hf).elim (fun e => e ▸ r.szd) fun q => r.sz f q, r.pn, r.ln⟩
theorem R.imm {n : Nat} {d : D} (i : isImm d = true) (k : See C.toGt H d v) (z : szD d) (r : R C σ s fr H) : R C σ s (.it v n d :: fr) H :=
  ⟨r.sl, Rl.imm i k r.rl, fun f hf => (List.mem_cons.mp hf).elim (fun e => e ▸ z) fun q => r.sz f q, r.pn, r.ln⟩
theorem SlOk.clear (h : SlOk σ s) (i : Nat) : SlOk σ (s.set i none) := ⟨by rw [List.length_set]; exact h.len, fun j x e => by
  by_cases c : i = j
  · subst c
    by_cases hl : i < s.length
    · rw [List.getElem?_set_self hl] at e; cases e
    · rw [List.getElem?_eq_none (by rw [List.length_set]; omega)] at e; cases e
  · rw [List.getElem?_set_ne c] at e
    exact h.ok j x e⟩
/-- a slot's item, taken out -/
theorem R.take (r : R C σ s fr H) (e : s[i]? = some (some x)) : ∃ v, σ[i]? = some (some v) ∧ R C σ (s.set i none) (.it v x.1 x.2 :: fr) H := by
  obtain ⟨v, ev⟩ := r.sl.ok i x e
  have p : (fr ++ slF σ s).Perm (Fr.it v x.1 x.2 :: fr ++ slF σ (s.set i none)) := ((slF_take ev e).append_left fr).trans List.perm_middle
  exact ⟨v, ev, r.sl.clear i, r.rl.perm p, fun f hf => r.sz f (p.mem_iff.mpr hf), r.pn, by rw [List.length_set]; exact r.ln⟩
theorem R.clear (r : R C σ s fr H) (i : Nat) : R C σ (s.set i none) fr H :=
  ⟨r.sl.clear i, r.rl.sublist ((List.Sublist.refl _).append (slF_clear i)), fun f hf => r.sz f (((List.Sublist.refl _).append (slF_clear i)).subset hf), r.pn, by rw [List.length_set]; exact r.ln⟩
/-- put into a slot whose value stands -/
theorem R.put (r : R C σ s (.it v x.1 x.2 :: fr) H) (ev : σ[i]? = some (some v)) : R C σ (s.set i (some x)) fr H := by
  have hl : i < s.length := by
    rw [← r.sl.len]
    exact (List.getElem?_eq_some_iff.mp ev).1
  have es : (s.set i (some x))[i]? = some (some x) := List.getElem?_set_self hl
  have p := slF_take ev es
  rw [set_set_none] at p
  have p2 : (Fr.it v x.1 x.2 :: fr ++ slF σ (s.set i none)).Perm (fr ++ slF σ (s.set i (some x))) := (List.perm_middle.symm).trans (p.symm.append_left fr)
  refine ⟨⟨by rw [List.length_set]; exact r.sl.len, fun j y e => ?_⟩, (r.clear i).rl.perm p2, fun f hf => (r.clear i).sz f (p2.mem_iff.mpr hf), r.pn, by rw [List.length_set]; exact r.ln⟩
  by_cases c : i = j
  · subst c; exact ⟨v, ev⟩
  · rw [List.getElem?_set_ne c] at e
    exact r.sl.ok j y e
theorem R.unslot (r : R C σ s fr H) (i : Nat) (o : Option V) (hl : i < s.length) (nl : i ∉ C.L) : R C (σ.set i o) (s.set i none) fr H := by
  have r0 := r.clear i
  have e : (s.set i none)[i]? = some none := List.getElem?_set_self hl
  refine ⟨⟨by rw [List.length_set]; exact r0.sl.len, fun j y ey => ?_⟩, ?_, ?_, fun j hj => ?_, by rw [List.length_set]; exact r.ln⟩
  · have c : i ≠ j := fun c => by subst c; rw [e] at ey; cases ey
    rw [List.getElem?_set_ne c]
    exact r0.sl.ok j y ey
  · rw [slF_free i o e]
    exact r0.rl
  · rw [slF_free i o e]
    exact r0.sz
  · rw [List.getElem?_set_ne (fun c : i = j => nl (by subst c; exact hj))]
    exact r.pn j hj
/-- stored into a slot -/
theorem R.store (r : R C σ s (.it v x.1 x.2 :: fr) H) (hl : i < s.length) (nl : i ∉ C.L) : R C (σ.set i (some v)) (s.set i (some x)) fr H := by
  have := (r.unslot i (some v) hl nl).put (i := i) (x := x) (by rw [List.getElem?_set_self (by rw [r.sl.len]; exact hl)])
  rw [List.set_set] at this
  exact this
end

/-! ### outcomes -/
inductive Res (α : Type) where
  | ok (a : α) (s : S)
  | exc (c : Nat) (fs : List D) (s : S)
  | bad
def Res.bind {α β : Type} (r : Res α) (f : α → S → Res β) : Res β := match r with
  | .ok a s => f a s
  | .exc c fs s => .exc c fs s
  | .bad => .bad
inductive SRes where
  | nx (s : S) | rt (x : It) (s : S) | bk (s : S) | ct (s : S)
  | exc (c : Nat) (fs : List D) (s : S)
  | bad
/-- how an exception of the class c stands: its own dict, where it has fields -/
def ExcAt (G : Gt) (c : Nat) (H : Hp) (d : Option Addr) (fs : List D) : Prop :=
  (fs = [] ∧ d = none) ∨ ∃ dx vs, d = some dx ∧ H dx = some (.xd ((G.cn c).zip vs)) ∧ SeeL G H fs vs
section
variable (C : Cn)
def excP (c : Nat) (fs : List D) (s : S) (fr : List Fr) (σ : L2.St) : Prop := ∀ d H', R C σ s fr H' → ExcAt C.toGt c H' d fs → C.W (.ref (C.ca c)) d σ H'
def postE (σ : L2.St) (fr : List Fr) (r : Res It) (Q : VK) : Prop := match r with
  | .ok x s => ∀ v H', R C σ s (.it v x.1 x.2 :: fr) H' → Q v H'
  | .exc c fs s => excP C c fs s fr σ
  | .bad => False
def tE (f : S → Res It) : TE := fun σ H Q => ∃ s fr, R C σ s fr H ∧ postE C σ fr (f s) Q
def postT (σ : L2.St) (fr : List Fr) (r : Res Bool) (Q : Bool → Hp → Prop) : Prop := match r with
  | .ok b s => ∀ H', R C σ s fr H' → Q b H'
  | .exc c fs s => excP C c fs s fr σ
  | .bad => False
def tT (f : S → Res Bool) : TT := fun σ H Q => ∃ s fr, R C σ s fr H ∧ postT C σ fr (f s) Q
/-- items of values, each to its depth -/
def itsN : List V → List It → List Fr
  | v :: vs, x :: xs => .it v x.1 x.2 :: itsN vs xs
  | _, _ => []
def postA (σ : L2.St) (fr : List Fr) (r : Res (List It)) (Q : List V → Hp → Prop) : Prop := match r with
  | .ok xs s => ∀ vs H', vs.length = xs.length → R C σ s (itsN vs xs ++ fr) H' → Q vs H'
  | .exc c fs s => excP C c fs s fr σ
  | .bad => False
def tA (f : S → Res (List It)) : TA := fun σ H Q => ∃ s fr, R C σ s fr H ∧ postA C σ fr (f s) Q
def postS (D : Ends) (fr : List Fr) (r : SRes) : Prop := match r with
  | .nx s => ∀ σ' H', R C σ' s fr H' → D.nx σ' H'
  | .rt x s => ∀ v σ' H', R C σ' s (.it v x.1 x.2 :: fr) H' → D.rt v H'
  | .bk s => ∀ σ' H', R C σ' s fr H' → D.bk σ' H'
  | .ct s => ∀ σ' H', R C σ' s fr H' → D.ct σ' H'
  | .exc c fs s => ∀ σ', excP C c fs s fr σ'
  | .bad => False
def tS (f : S → SRes) : TS := fun D σ H => ∃ s fr, R C σ s fr H ∧ postS C D fr (f s)
/-- seen: the heap has only grown -/
def tSee (f : S → Option D) : TE := fun σ H Q => ∃ s fr d, R C σ s fr H ∧ f s = some d ∧ ∀ v H', Sub H H' → See C.toGt H' d v → szD d → Q v H'
/-- a new value -/
def tV (f : S → Option D) : TE := fun σ H Q => ∃ s fr d, R C σ s fr H ∧ f s = some d ∧ ∀ v H', Sub H H' → R C σ s (.it v B d :: fr) H' → Q v H'
def tTV (f : S → Option Bool) : TT := fun σ H Q => ∃ s fr b, R C σ s fr H ∧ f s = some b ∧ ∀ H', Sub H H' → Q b H'
end
section
variable {X : Cx} {e : Expr} {t t' : TE}
theorem PE.imp (h : PE X e t) (i : ∀ σ H Q, t' σ H Q → t σ H Q) : PE X e t' := ⟨fun pins s σ H Q I q => h.run pins s σ H Q I (i σ H Q q)⟩
theorem PT.imp {t t' : TT} (h : PT X e t) (i : ∀ σ H Q, t' σ H Q → t σ H Q) : PT X e t' := ⟨fun pins s σ H Q I q => h.run pins s σ H Q I (i σ H Q q)⟩
theorem PA.imp {es : List Expr} {t t' : TA} (h : PA X es t) (i : ∀ σ H Q, t' σ H Q → t σ H Q) : PA X es t' := ⟨fun pos pins s σ H Q I q => h.run pos pins s σ H Q I (i σ H Q q)⟩
theorem PS.imp {st : Stmt} {t t' : TS} (h : PS X st t) (i : ∀ D σ H, t' D σ H → t D σ H) : PS X st t' := ⟨fun pins s σ H D I q => h.run pins s σ H D I (i D σ H q)⟩
theorem PSs.imp {st : List Stmt} {t t' : TS} (h : PSs X st t) (i : ∀ D σ H, t' D σ H → t D σ H) : PSs X st t' := ⟨fun pins s σ H D I q => h.run pins s σ H D I (i D σ H q)⟩
end
end Pv
/-! PvD: new values by data: operations, comparisons, places. -/
namespace Pv
open PySem PySem.Spec PyProof.Rows L2
open PySem.W (alike dataLt)

/-! ### data as PyData -/
mutual
def py : D → PyData
  | .non => .none
  | .bl b => .bool b
  | .int i => .int i
  | .str x => .str x
  | .tup ds => .tuple (pyL ds)
  | .lst ds => .list (pyL ds)
  | .dct _ _ _ => .none
  | .obj _ _ => .none
  | .scr _ => .none
  | .nst _ => .none
def pyL : List D → List PyData
  | [] => []
  | d :: ds => py d :: pyL ds
end
mutual
def plain : D → Bool
  | .non => true
  | .bl _ => true
  | .int _ => true
  | .str _ => true
  | .tup ds => plainL ds
  | .lst ds => plainL ds
  | .dct _ _ _ => false
  | .obj _ _ => false
  | .scr _ => false
  | .nst _ => false
def plainL : List D → Bool
  | [] => true
  | d :: ds => plain d && plainL ds
end
mutual
theorem See.dp {G : Gt} {H : Hp} : ∀ {d : D} {v : V}, plain d = true → See G H d v → Dp G.K H v (py d)
  | .non, _, _, q => by cases q; exact .non
  | .bl b, _, _, q => by cases q; exact .bl b
  | .int i, _, _, q => by cases q; exact .int i
  | .str x, _, _, q => by cases q; exact .str x
  | .tup ds, _, p, ⟨a, vs, e, q, r⟩ => by subst e; exact .tup (SqT.of q) (SeeL.dp (by simpa only [plain] using p) r)
  | .lst ds, _, p, ⟨a, vs, e, q, r⟩ => by subst e; exact .lst (SqL.of q) (SeeL.dp (by simpa only [plain] using p) r)
  | .dct _ _ _, _, p, _ => by simp [plain] at p
  | .obj _ _, _, p, _ => by simp [plain] at p
  | .scr _, _, p, _ => by simp [plain] at p
  | .nst _, _, p, _ => by simp [plain] at p
theorem SeeL.dp {G : Gt} {H : Hp} : ∀ {ds : List D} {vs : List V}, plainL ds = true → SeeL G H ds vs → DpAll G.K H vs (pyL ds)
  | [], _, _, q => by cases q; exact .nil
  | d :: ds, _, p, ⟨v, r, e, q, t⟩ => by
    subst e
    have p' : plain d = true ∧ plainL ds = true := by simpa only [plainL, Bool.and_eq_true] using p
    exact .cons (See.dp p'.1 q) (SeeL.dp p'.2 t)
end
/-- data that == compares -/
def okD (d : D) : Bool := plain d && SeqAt.shaped (py d)
theorem okD_l {d : D} (h : okD d = true) : plain d = true := (Bool.and_eq_true_iff.mp h).1
theorem okD_r {d : D} (h : okD d = true) : SeqAt.shaped (py d) = true := (Bool.and_eq_true_iff.mp h).2
def eqB (x y : D) : Bool := PyData.eqv (py x) (py y)

/-! ### the operations -/
def line (n : Nat) : Bool := decide (n ≤ sizeLine)
def addD : D → D → Option D
  | .int i, .int j => some (.int (i + j))
  | .tup a, .tup b => if isImmL a && isImmL b && line (a.length + b.length) then some (.tup (a ++ b)) else none
  | .lst a, .lst b => if isImmL a && isImmL b && line (a.length + b.length) then some (.lst (a ++ b)) else none
  | .str a, .str b => if line (a.length + b.length) then some (.str (a ++ b)) else none
  | _, _ => none
def subD : D → D → Option D
  | .int i, .int j => some (.int (i - j))
  | _, _ => none
def small (i : Int) : Bool := decide (i.natAbs < 2 ^ 64)
theorem small_of_true {i : Int} (h : small i = true) : -(2 ^ 64) < i ∧ i < 2 ^ 64 := by
  have := of_decide_eq_true h
  omega
def mulD : D → D → Option D
  | .int i, .int j => if small i || small j then some (.int (i * j)) else none
  | .lst a, .int k => if isImmL a && decide (k.natAbs < 2 ^ 63) && line (a.length * k.toNat) then some (.lst (List.replicate k.toNat a).flatten) else none
  | .tup a, .int k => if isImmL a && !a.isEmpty && decide (2 ≤ k ∧ k ≤ 1000) && decide (a.length ≤ 1000) then some (.tup (List.replicate k.toNat a).flatten) else none
  | _, _ => none
def modD : D → D → Option D
  | .int i, .int j => if decide (0 < j) then some (.int (i % j)) else none
  | _, _ => none
def fdivD : D → D → Option D
  | .int i, .int j => if decide (0 < j ∧ j.natAbs < 1073741824) then some (.int (i / j)) else none
  | _, _ => none
def powD : D → D → Option D
  | .int i, .int j => if decide (0 ≤ j ∧ j.natAbs ≤ 1000000 ∧ i.natAbs < 2 ^ 64) then some (.int (i ^ j.toNat)) else none
  | _, _ => none
def negD : D → Option D
  | .int i => some (.int (-i))
  | _ => none
def eqD (x y : D) : Option D := if okD x && okD y then some (.bl (eqB x y)) else none
def neD (x y : D) : Option D := if okD x && okD y then some (.bl (!eqB x y)) else none
def alk (x y : D) : Bool := okD x && okD y && alike (py x) (py y) && (match x with | .non => false | _ => true) && (match y with | .non => false | _ => true)
def ltB (x y : D) : Bool := dataLt (py x) (py y)
def ltD (x y : D) : Option D := if alk x y then some (.bl (ltB x y)) else none
def gtD (x y : D) : Option D := if alk x y then some (.bl (ltB y x)) else none
def leD (x y : D) : Option D := if alk x y then some (.bl (!ltB y x)) else none
def geD (x y : D) : Option D := if alk x y then some (.bl (!ltB x y)) else none

/-! ### as rules by values -/
/-- a two-place operation whose outcome is a new value -/
def rD (G : Gt) (g : D → D → Option D) : R2 := fun x y H Q => ∃ dx dy z, See G H dx x ∧ See G H dy y ∧ szD dx ∧ szD dy ∧ g dx dy = some z ∧
  ∀ v H', Sub H H' → szD z → (∀ l, Rl G l H → Rl G (.it v B z :: l) H') → Q v H'
def rU1 (G : Gt) (g : D → Option D) : V → Hp → VK → Prop := fun x H Q => ∃ dx z, See G H dx x ∧ szD dx ∧ g dx = some z ∧
  ∀ v H', Sub H H' → szD z → (∀ l, Rl G l H → Rl G (.it v B z :: l) H') → Q v H'
section
variable {X : Cx} {G : Gt}
theorem OpR_imp {f : Value → Value → Sem Value} {r r' : R2} (h : OpR X f r) (i : ∀ x y H Q, r' x y H Q → r x y H Q) : OpR X f r' := fun pins s σ H x y v u Q I rx ry q => h pins s σ H x y v u Q I rx ry (i x y H Q q)
theorem OpR_impI {f : Value → Value → Sem Value} {r r' : R2} (i : ∀ (pins : List (Addr × Obj)) (s : Shared) (σ : L2.St) (x y : V) (H : Hp) (Q : VK), Inv X pins σ H s → r' x y H Q → ∃ r, OpR X f r ∧ r x y H Q) : OpR X f r' := fun pins s σ H x y v u Q I rx ry q => by
  obtain ⟨r, h, q⟩ := i pins s σ x y H Q I q
  exact h pins s σ H x y v u Q I rx ry q
/-- a plain value stands anywhere -/
theorem Rl.atom {l : List Fr} {H : Hp} {v : V} {n : Nat} {d : D} (i : isImm d = true) (q : See G H d v) : Rl G l H → Rl G (.it v n d :: l) H := fun r => Rl.imm i q r
theorem bool_and {a b : Bool} (h : (a && b) = true) : a = true ∧ b = true := Bool.and_eq_true_iff.mp h
theorem isImmL_app {a b : List D} (h1 : isImmL a = true) (h2 : isImmL b = true) : isImmL (a ++ b) = true := by
  induction a with
  | nil => exact h2
  | cons d ds ih =>
    have p := bool_and (by simpa only [isImmL] using h1)
    show (isImm d && isImmL (ds ++ b)) = true
    rw [p.1, ih p.2]
    all_goals rfl
theorem SeeL_app {H : Hp} : ∀ {a b : List D} {xs ys : List V}, SeeL G H a xs → SeeL G H b ys → SeeL G H (a ++ b) (xs ++ ys)
  | [], _, _, _, q, p => by cases q; exact p
  | d :: ds, _, _, _, ⟨v, r, e, q, t⟩, p => by subst e; exact ⟨v, _, rfl, q, SeeL_app t p⟩
theorem szL_app {a b : List D} (h1 : szL a) (h2 : szL b) : szL (a ++ b) := szL_mem.mpr fun d hd => (List.mem_append.mp hd).elim (szL_mem.mp h1 d) (szL_mem.mp h2 d)
theorem of_line {n : Nat} (h : line n = true) : n ≤ sizeLine := of_decide_eq_true h
theorem See.not_dK {H : Hp} {a : Addr} {vs ws : List V} (h : H a = some (.tup vs)) (k : H a = some (.tup ws)) : vs = ws := by rw [h] at k; cases k; rfl
/-- a new list, a new tuple of what cannot change -/
theorem Rl.freshLst {l : List Fr} {H : Hp} {vs : List V} {ds : List D} {p : Addr} (i : isImmL ds = true) (q : SeeL G H ds vs) (hp : H p = none) (r : Rl G l H) : Rl G (.it (.ref p) B (.lst ds) :: l) (upd H p (.lst vs)) := by
  obtain ⟨F, h, s1, s2, dj, ow, sp⟩ := Rl.immL (n := 999) i q r
  exact Rl.newLst q.length ⟨F, h, s1, s2, dj, Sep.split none_sub (.refl _) (fun _ _ z => by cases z) ow sp⟩ hp
theorem Rl.freshTup {l : List Fr} {H : Hp} {vs : List V} {ds : List D} {p : Addr} {n : Nat} (i : isImmL ds = true) (q : SeeL G H ds vs) (hp : H p = none) (r : Rl G l H) : Rl G (.it (.ref p) n (.tup ds) :: l) (upd H p (.tup vs)) := by
  refine Rl.imm (by simpa only [isImm] using i) ⟨p, vs, rfl, upd_same, SeeL.mono (upd_sub hp) ds q⟩ (r.mono (upd_sub hp))

theorem o_add (hK : X.K = G.K) : OpR X (binaryOp .Add) (rD G addD) := by
  refine OpR_imp (OpR.or op_add (OpR.or op_catA (OpR.or op_cat op_add_str))) ?_
  rintro x y H Q ⟨dx, dy, z, s1, s2, z1, z2, e, k⟩
  cases dx with
  | int i =>
    cases dy with
    | int j =>
      cases s1; cases s2; cases e
      exact .inl ⟨i, j, rfl, rfl, k _ _ (.refl _) trivial fun l r => Rl.imm rfl rfl r⟩
    | _ => cases e
  | tup a =>
    cases dy with
    | tup b =>
      obtain ⟨p, xs, rfl, hp, sx⟩ := s1
      obtain ⟨q, ys, rfl, hq, sy⟩ := s2
      simp only [addD] at e
      split at e
      · rename_i c
        cases e
        have c1 := bool_and c
        have c2 := bool_and c1.1
        have hl := of_line c1.2
        have si : isImmL (a ++ b) = true := isImmL_app c2.1 c2.2
        have sz : szD (.tup (a ++ b)) := ⟨by rw [List.length_append]; exact hl, szL_app z1.2 z2.2⟩
        have ss := SeeL_app sx sy
        refine .inr (.inl ⟨p, q, xs, ys, rfl, rfl, .of hp, .of hq, by rw [sx.length, sy.length]; exact hl, fun e0 => ?_, fun _ e0 => ?_, fun _ _ t ht => ?_⟩)
        · subst e0
          obtain rfl : a = [] := List.eq_nil_of_length_eq_zero sx.length.symm
          exact k _ _ (.refl _) sz fun l r => Rl.imm (by simpa only [isImm] using si) ⟨q, ys, rfl, hq, sy⟩ r
        · subst e0
          obtain rfl : b = [] := List.eq_nil_of_length_eq_zero sy.length.symm
          exact k _ _ (.refl _) sz fun l r => Rl.imm (by simpa only [isImm] using si) ⟨p, xs, rfl, hp, by rw [List.append_nil]; exact sx⟩ r
        · exact k _ _ (upd_sub ht) sz fun l r => Rl.freshTup si ss ht r
      · cases e
    | _ => cases e
  | lst a =>
    cases dy with
    | lst b =>
      obtain ⟨p, xs, rfl, hp, sx⟩ := s1
      obtain ⟨q, ys, rfl, hq, sy⟩ := s2
      simp only [addD] at e
      split at e
      · rename_i c
        cases e
        have c1 := bool_and c
        have c2 := bool_and c1.1
        have hl := of_line c1.2
        refine .inr (.inr (.inl ⟨p, q, xs, ys, rfl, rfl, hp, hq, by rw [sx.length, sy.length]; exact hl, fun t ht => ?_⟩))
        exact k _ _ (upd_sub ht) ⟨by rw [List.length_append]; exact hl, szL_app z1.2 z2.2⟩ fun l r => Rl.freshLst (isImmL_app c2.1 c2.2) (SeeL_app sx sy) ht r
      · cases e
    | _ => cases e
  | str a =>
    cases dy with
    | str b =>
      cases s1; cases s2
      simp only [addD] at e
      split at e
      · rename_i c
        cases e
        exact .inr (.inr (.inr ⟨a, b, rfl, rfl, of_line c, k _ _ (.refl _) trivial fun l r => Rl.imm rfl rfl r⟩))
      · cases e
    | _ => cases e
  | _ => cases dy <;> cases e
theorem o_sub : OpR X (binaryOp .Sub) (rD G subD) := by
  refine OpR_imp op_sub ?_
  rintro x y H Q ⟨dx, dy, z, s1, s2, z1, z2, e, k⟩
  cases dx with
  | int i =>
    cases dy with
    | int j =>
      cases s1; cases s2; cases e
      exact ⟨i, j, rfl, rfl, k _ _ (.refl _) trivial fun l r => Rl.imm rfl rfl r⟩
    | _ => cases e
  | _ => cases dy <;> cases e
theorem o_mod : OpR X (binaryOp .Mod) (rD G modD) := by
  refine OpR_imp op_mod ?_
  rintro x y H Q ⟨dx, dy, z, s1, s2, z1, z2, e, k⟩
  cases dx with
  | int i =>
    cases dy with
    | int j =>
      cases s1; cases s2
      simp only [modD] at e
      split at e
      · rename_i c
        cases e
        exact ⟨i, j, rfl, rfl, of_decide_eq_true c, k _ _ (.refl _) trivial fun l r => Rl.imm rfl rfl r⟩
      · cases e
    | _ => cases e
  | _ => cases dy <;> cases e
theorem o_fdiv : OpR X (binaryOp .FloorDiv) (rD G fdivD) := by
  refine OpR_imp op_fdiv ?_
  rintro x y H Q ⟨dx, dy, z, s1, s2, z1, z2, e, k⟩
  cases dx with
  | int i =>
    cases dy with
    | int j =>
      cases s1; cases s2
      simp only [fdivD] at e
      split at e
      · rename_i c
        cases e
        have c' : CDiv i j := by
          have := of_decide_eq_true c
          unfold CDiv
          omega
        exact ⟨i, j, rfl, rfl, c', k _ _ (.refl _) trivial fun l r => Rl.imm rfl rfl r⟩
      · cases e
    | _ => cases e
  | _ => cases dy <;> cases e
theorem o_pow : OpR X (binaryOp .Pow) (rD G powD) := by
  refine OpR_imp op_pow ?_
  rintro x y H Q ⟨dx, dy, z, s1, s2, z1, z2, e, k⟩
  cases dx with
  | int i =>
    cases dy with
    | int j =>
      cases s1; cases s2
      simp only [powD] at e
      split at e
      · rename_i c
        cases e
        have c' : CPow i j := by
          have := of_decide_eq_true c
          exact ⟨this.1, by omega, this.2.2⟩
        exact ⟨i, j, rfl, rfl, c', k _ _ (.refl _) trivial fun l r => Rl.imm rfl rfl r⟩
      · cases e
    | _ => cases e
  | _ => cases dy <;> cases e
theorem isImmL_flat {a : List D} (h : isImmL a = true) : ∀ n : Nat, isImmL (List.replicate n a).flatten = true
  | 0 => rfl
  | n + 1 => by rw [List.replicate_succ, List.flatten_cons]; exact isImmL_app h (isImmL_flat h n)
theorem SeeL_flat {H : Hp} {a : List D} {xs : List V} (h : SeeL G H a xs) : ∀ n : Nat, SeeL G H (List.replicate n a).flatten (List.replicate n xs).flatten
  | 0 => rfl
  | n + 1 => by rw [List.replicate_succ, List.flatten_cons, List.replicate_succ, List.flatten_cons]; exact SeeL_app h (SeeL_flat h n)
theorem szL_flat {a : List D} (h : szL a) : ∀ n : Nat, szL (List.replicate n a).flatten
  | 0 => trivial
  | n + 1 => by rw [List.replicate_succ, List.flatten_cons]; exact szL_app h (szL_flat h n)
theorem flat_len {α : Type} (a : List α) : ∀ n : Nat, (List.replicate n a).flatten.length = a.length * n
  | 0 => rfl
  | n + 1 => by rw [List.replicate_succ, List.flatten_cons, List.length_append, flat_len a n, Nat.mul_succ, Nat.add_comm]
theorem o_mul (hK : X.K = G.K) : OpR X (binaryOp .Mult) (rD G mulD) := by
  refine OpR_imp (OpR.or op_mul (OpR.or op_rep op_repT)) ?_
  rintro x y H Q ⟨dx, dy, z, s1, s2, z1, z2, e, k⟩
  cases dx with
  | int i =>
    cases dy with
    | int j =>
      cases s1; cases s2
      simp only [mulD] at e
      split at e
      · rename_i c
        cases e
        refine .inl ⟨i, j, rfl, rfl, ?_, k _ _ (.refl _) trivial fun l r => Rl.imm rfl rfl r⟩
        rcases Bool.or_eq_true_iff.mp c with c | c
        · exact .inl (small_of_true c)
        · exact .inr (small_of_true c)
      · cases e
    | _ => cases e
  | lst a =>
    cases dy with
    | int j =>
      obtain ⟨p, xs, rfl, hp, sx⟩ := s1
      cases s2
      simp only [mulD] at e
      split at e
      · rename_i c
        cases e
        have c1 := bool_and c
        have c2 := bool_and c1.1
        have c3 := of_decide_eq_true c2.2
        refine .inr (.inl ⟨p, j, xs, rfl, rfl, hp, by omega, by omega, by rw [sx.length]; exact of_line c1.2, fun t ht => ?_⟩)
        exact k _ _ (upd_sub ht) ⟨by rw [flat_len]; exact of_line c1.2, szL_flat z1.2 _⟩ fun l r => Rl.freshLst (isImmL_flat c2.1 _) (SeeL_flat sx _) ht r
      · cases e
    | _ => cases e
  | tup a =>
    cases dy with
    | int j =>
      obtain ⟨p, xs, rfl, hp, sx⟩ := s1
      cases s2
      simp only [mulD] at e
      split at e
      · rename_i c
        cases e
        have c1 := bool_and c
        have c2 := bool_and c1.1
        have c3 := bool_and c2.1
        have c4 := of_decide_eq_true c2.2
        have c5 := of_decide_eq_true c1.2
        have lx := sx.length
        have hl : a.length * j.toNat ≤ sizeLine := by
          have h1 : a.length * j.toNat ≤ 1000 * 1000 := Nat.mul_le_mul c5 (by omega)
          have := sizeLine_eq
          omega
        refine .inr (.inr ⟨p, j, xs, rfl, rfl, .of hp, fun e0 => ?_, c4.1, c4.2, by rw [lx]; exact c5, fun t ht => ?_⟩)
        · subst e0
          obtain rfl : a = [] := List.eq_nil_of_length_eq_zero lx.symm
          simp at c3
        · exact k _ _ (upd_sub ht) ⟨by rw [flat_len]; exact hl, szL_flat z1.2 _⟩ fun l r => Rl.freshTup (isImmL_flat c3.1 _) (SeeL_flat sx _) ht r
      · cases e
    | _ => cases e
  | _ => cases dy <;> cases e
theorem o_eq (hK : X.K = G.K) (hu : X.A.units + 64 < cLine) : OpR X (compareOp .Eq) (rD G eqD) := by
  refine OpR_imp (op_eqD hu) ?_
  rintro x y H Q ⟨dx, dy, z, s1, s2, z1, z2, e, k⟩
  simp only [eqD] at e
  split at e
  · rename_i c
    cases e
    have c1 := bool_and c
    refine ⟨py dx, py dy, hK ▸ s1.dp (okD_l c1.1), hK ▸ s2.dp (okD_l c1.2), (okD_r c1.1), (okD_r c1.2), k _ _ (.refl _) trivial fun l r => Rl.imm rfl rfl r⟩
  · cases e
theorem o_ne (hK : X.K = G.K) (hu : X.A.units + 64 < cLine) : OpR X (compareOp .NotEq) (rD G neD) := by
  refine OpR_imp (op_neD hu) ?_
  rintro x y H Q ⟨dx, dy, z, s1, s2, z1, z2, e, k⟩
  simp only [neD] at e
  split at e
  · rename_i c
    cases e
    have c1 := bool_and c
    refine ⟨py dx, py dy, hK ▸ s1.dp (okD_l c1.1), hK ▸ s2.dp (okD_l c1.2), (okD_r c1.1), (okD_r c1.2), k _ _ (.refl _) trivial fun l r => Rl.imm rfl rfl r⟩
  · cases e
theorem alk_ne {x y : D} (h : alk x y = true) : okD x = true ∧ okD y = true ∧ alike (py x) (py y) = true ∧ py x ≠ .none ∧ py y ≠ .none := by
  unfold alk at h
  have h1 := bool_and h
  have h2 := bool_and h1.1
  have h3 := bool_and h2.1
  have h4 := bool_and h3.1
  refine ⟨h4.1, h4.2, h3.2, ?_, ?_⟩
  · have := (okD_l h4.1)
    cases x <;> simp_all [py, plain]
  · have := (okD_l h4.2)
    cases y <;> simp_all [py, plain]
theorem cmp_room {A : Around} {a b : PyData} (hu : A.units + 64 < cLine) (h : SeqAt.shaped a = true) : A.units + min a.depth b.depth < cLine := SeqAt.room_of_shaped h hu
theorem o_lt (hK : X.K = G.K) (hu : X.A.units + 64 < cLine) : OpR X (compareOp .Lt) (rD G ltD) := by
  rintro pins s σ H x y v u Q I rx ry ⟨dx, dy, z, s1, s2, z1, z2, e, k⟩
  simp only [ltD] at e
  split at e
  · rename_i c
    cases e
    obtain ⟨o1, o2, al, n1, n2⟩ := alk_ne c
    obtain ⟨as, r1⟩ := Dp.reads I _ x v (hK ▸ s1.dp (okD_l o1)) rx
    obtain ⟨bs, r2⟩ := Dp.reads I _ y u (hK ▸ s2.dp (okD_l o2)) ry
    exact PySem.W.lt_data r1 r2 al n1 (cmp_room hu (okD_r o1)) ⟨.bl _, H, I, rfl, k _ _ (.refl _) trivial fun l r => Rl.imm rfl rfl r⟩
  · cases e
theorem o_gt (hK : X.K = G.K) (hu : X.A.units + 64 < cLine) : OpR X (compareOp .Gt) (rD G gtD) := by
  rintro pins s σ H x y v u Q I rx ry ⟨dx, dy, z, s1, s2, z1, z2, e, k⟩
  simp only [gtD] at e
  split at e
  · rename_i c
    cases e
    obtain ⟨o1, o2, al, n1, n2⟩ := alk_ne c
    obtain ⟨as, r1⟩ := Dp.reads I _ x v (hK ▸ s1.dp (okD_l o1)) rx
    obtain ⟨bs, r2⟩ := Dp.reads I _ y u (hK ▸ s2.dp (okD_l o2)) ry
    exact PySem.W.gt_data r1 r2 al n1 (cmp_room hu (okD_r o1)) ⟨.bl _, H, I, rfl, k _ _ (.refl _) trivial fun l r => Rl.imm rfl rfl r⟩
  · cases e
theorem o_le (hK : X.K = G.K) (hu : X.A.units + 64 < cLine) : OpR X (compareOp .LtE) (rD G leD) := by
  rintro pins s σ H x y v u Q I rx ry ⟨dx, dy, z, s1, s2, z1, z2, e, k⟩
  simp only [leD] at e
  split at e
  · rename_i c
    cases e
    obtain ⟨o1, o2, al, n1, n2⟩ := alk_ne c
    obtain ⟨as, r1⟩ := Dp.reads I _ x v (hK ▸ s1.dp (okD_l o1)) rx
    obtain ⟨bs, r2⟩ := Dp.reads I _ y u (hK ▸ s2.dp (okD_l o2)) ry
    exact PySem.W.le_data r1 r2 al n1 (cmp_room hu (okD_r o1)) ⟨.bl _, H, I, rfl, k _ _ (.refl _) trivial fun l r => Rl.imm rfl rfl r⟩
  · cases e
theorem o_ge (hK : X.K = G.K) (hu : X.A.units + 64 < cLine) : OpR X (compareOp .GtE) (rD G geD) := by
  rintro pins s σ H x y v u Q I rx ry ⟨dx, dy, z, s1, s2, z1, z2, e, k⟩
  simp only [geD] at e
  split at e
  · rename_i c
    cases e
    obtain ⟨o1, o2, al, n1, n2⟩ := alk_ne c
    obtain ⟨as, r1⟩ := Dp.reads I _ x v (hK ▸ s1.dp (okD_l o1)) rx
    obtain ⟨bs, r2⟩ := Dp.reads I _ y u (hK ▸ s2.dp (okD_l o2)) ry
    exact PySem.W.ge_data r1 r2 al n1 (cmp_room hu (okD_r o1)) ⟨.bl _, H, I, rfl, k _ _ (.refl _) trivial fun l r => Rl.imm rfl rfl r⟩
  · cases e
end
end Pv
/-! PvE: what is read without a change: see, value, place; the expressions' rules on that level. -/
namespace Pv
open PySem PySem.Spec PyProof.Rows L2
open PySem.W (alike dataLt)

section
variable {C : Cn} {X : Cx} {e a b c : Expr} {es : List Expr} {pos : Pos} {f g fa fb fc : S → Option D} {i : Nat}

/-! ### from one reading to the next -/
theorem PE.orE {t u : TE} (h : PE X e t) (k : PE X e u) : PE X e (fun σ H Q => t σ H Q ∨ u σ H Q) := ⟨fun pins s σ H Q I q => q.elim (h.run pins s σ H Q I) (k.run pins s σ H Q I)⟩
theorem pv_see (h : PE X e (tV C f)) : PE X e (tSee C f) := PE.imp h fun σ H Q ⟨s, fr, d, r, e, k⟩ => ⟨s, fr, d, r, e, fun v H' u r' => k v H' u r'.see r'.szd⟩
/-- what cannot change is a value -/
def toV (f : S → Option D) : S → Option D := fun s => match f s with
  | some d => if isImm d then some d else none
  | none => none
theorem toV_of {s : S} {d : D} (h : toV f s = some d) : f s = some d ∧ isImm d = true := by
  unfold toV at h
  cases q : f s with
  | none => rw [q] at h; cases h
  | some d' =>
    rw [q] at h
    dsimp only at h
    split at h
    · rename_i c
      cases h
      exact ⟨rfl, c⟩
    · cases h
theorem ps_V (h : PE X e (tSee C f)) : PE X e (tV C (toV f)) := PE.imp h fun σ H Q ⟨s, fr, d, r, e, k⟩ => ⟨s, fr, d, r, (toV_of e).1, fun v H' u sv z => k v H' u ((r.mono u).imm (toV_of e).2 sv z)⟩
/-- as an outcome -/
def ofV (f : S → Option D) : S → Res It := fun s => match f s with
  | some d => .ok (B, d) s
  | none => .bad
theorem pe_ofV (h : PE X e (tV C f)) : PE X e (tE C (ofV f)) := PE.imp h fun σ H Q ⟨s, fr, r, k⟩ => by
  unfold ofV at k
  cases q : f s with
  | none => rw [q] at k; exact k.elim
  | some d =>
    rw [q] at k
    exact ⟨s, fr, d, r, q, fun v H' u r' => k v H' r'⟩
/-! ### names, constants -/
def atomD : V → Option D
  | .non => some .non
  | .bl b => some (.bl b)
  | .int i => some (.int i)
  | .str x => some (.str x)
  | _ => none
theorem atom_see {v : V} {d : D} {G : Gt} {H : Hp} (h : atomD v = some d) : See G H d v ∧ isImm d = true ∧ szD d := by
  cases v <;> first
    | (cases h; exact ⟨rfl, rfl, trivial⟩)
    | cases h
theorem pv_C {v : V} {d : D} (h : PE X e (tC v)) (k : atomD v = some d) : PE X e (tV C fun _ => some d) := PE.imp h fun σ H Q ⟨s, fr, d', r, e, q⟩ => by
  cases e
  obtain ⟨a1, a2, a3⟩ := atom_see (G := C.toGt) (H := H) k
  exact q v H (.refl _) (r.imm a2 a1 a3)

/-! ### operations on values -/
def opV (g : D → D → Option D) (fa fb : S → Option D) : S → Option D := fun s => match fa s with
  | some x => match fb s with
    | some y => g x y
    | none => none
  | none => none
theorem opV_of {g : D → D → Option D} {s : S} {z : D} (h : opV g fa fb s = some z) : ∃ x y, fa s = some x ∧ fb s = some y ∧ g x y = some z := by
  unfold opV at h
  cases q : fa s with
  | none => rw [q] at h; cases h
  | some x =>
    rw [q] at h
    cases q2 : fb s with
    | none => rw [q2] at h; cases h
    | some y =>
      rw [q2] at h
      exact ⟨x, y, rfl, rfl, h⟩
theorem R.res {σ : List (Option V)} {s : S} {fr : List Fr} {H H' : Hp} {v : V} {z : D} (r : R C σ s fr H) (zz : szD z) (k : ∀ l, Rl C.toGt l H → Rl C.toGt (.it v B z :: l) H') : R C σ s (.it v B z :: fr) H' :=
  r.reframe (fun l q => k _ q) fun f hf => (List.mem_cons.mp hf).elim (fun e => e ▸ zz) fun q => r.sz f (List.mem_append_left _ q)
theorem see2 {g : D → D → Option D} {σ : L2.St} {H : Hp} {Q : VK} (h : tV C (opV g fa fb) σ H Q) : tOp (rD C.toGt g) (tSee C fa) (tSee C fb) σ H Q := by
  obtain ⟨s, fr, z, r, e, k⟩ := h
  obtain ⟨x, y, e1, e2, e3⟩ := opV_of e
  refine ⟨s, fr, x, r, e1, fun v H1 u1 s1 z1 => ⟨s, fr, y, r.mono u1, e2, fun w H2 u2 s2 z2 => ?_⟩⟩
  exact ⟨x, y, z, s1.mono u2, s2, z1, z2, e3, fun t H3 u3 z3 q3 => k t H3 ((u1.trans u2).trans u3) (R.res (r.mono (u1.trans u2)) z3 q3)⟩
theorem pv_op {op : Operator} {g : D → D → Option D} (ho : OpR X (binaryOp op) (rD C.toGt g)) (ha : PE X a (tSee C fa)) (hb : PE X b (tSee C fb)) : PE X (.BinOp a op b pos) (tV C (opV g fa fb)) := PE.imp (pe_op ho ha hb) fun _ _ _ => see2
theorem pv_cmp {op : CmpOp} {g : D → D → Option D} (ho : OpR X (compareOp op) (rD C.toGt g)) (ha : PE X a (tSee C fa)) (hb : PE X b (tSee C fb)) (hm : behindInMarks op b = false) : PE X (.Compare a [op] [b] pos) (tV C (opV g fa fb)) :=
  PE.imp (pe_cmpR ho ha hb hm) fun _ _ _ => see2
def negV (f : S → Option D) : S → Option D := fun s => match f s with
  | some d => negD d
  | none => none
theorem pv_neg (h : PE X a (tSee C f)) : PE X (.UnaryOp .USub a pos) (tV C (negV f)) := PE.imp (pe_un un_neg h) fun σ H Q ⟨s, fr, z, r, e, k⟩ => by
  unfold negV at e
  cases q : f s with
  | none => rw [q] at e; cases e
  | some d =>
    rw [q] at e
    cases d with
    | int i =>
      cases e
      refine ⟨s, fr, _, r, q, fun v H1 u1 s1 z1 => ?_⟩
      cases s1
      exact ⟨i, rfl, k _ _ u1 ((r.mono u1).imm rfl rfl trivial)⟩
    | _ => cases e
/-- a < b < c -/
def chV (g g' : D → D → Option D) (fa fb fc : S → Option D) : S → Option D := fun s => match fa s, fb s with
  | some x, some y => match g x y with
    | some (.bl true) => match fc s with
      | some z => g' y z
      | none => none
    | some (.bl false) => some (.bl false)
    | _ => none
  | _, _ => none
theorem seeCh {g g' : D → D → Option D} {σ : L2.St} {H : Hp} {Q : VK} (h : tV C (chV g g' fa fb fc) σ H Q) : tChain (rD C.toGt g) (rD C.toGt g') (tSee C fa) (tSee C fb) (tSee C fc) σ H Q := by
  obtain ⟨s, fr, z, r, e, k⟩ := h
  unfold chV at e
  cases q1 : fa s with
  | none => rw [q1] at e; cases e
  | some x =>
    cases q2 : fb s with
    | none => rw [q1, q2] at e; cases e
    | some y =>
      rw [q1, q2] at e
      dsimp only at e
      cases q3 : g x y with
      | none => rw [q3] at e; cases e
      | some t =>
        rw [q3] at e
        refine ⟨s, fr, x, r, q1, fun v H1 u1 s1 z1 => ⟨s, fr, y, r.mono u1, q2, fun w H2 u2 s2 z2 => ⟨x, y, t, s1.mono u2, s2, z1, z2, q3, fun p H3 u3 z3 q => ?_⟩⟩⟩
        have r3 := R.res (r.mono (u1.trans u2)) z3 q
        cases t with
        | bl b =>
          obtain rfl : p = V.bl b := r3.see
          cases b with
          | false =>
            cases e
            refine ⟨false, rfl, ?_⟩
            rw [if_neg Bool.false_ne_true]
            exact k _ _ ((u1.trans u2).trans u3) (r3.tail.imm rfl rfl trivial)
          | true =>
            refine ⟨true, rfl, ?_⟩
            rw [if_pos rfl]
            dsimp only at e
            cases q4 : fc s with
            | none => rw [q4] at e; cases e
            | some zc =>
              rw [q4] at e
              refine ⟨s, fr, zc, r3.tail, q4, fun w' H4 u4 s4 z4 => ⟨y, zc, z, s2.mono (u3.trans u4), s4, z2, z4, e, fun p H5 u5 z5 q5 => ?_⟩⟩
              exact k p H5 (((u1.trans u2).trans u3).trans (u4.trans u5)) (R.res (r3.tail.mono u4) z5 q5)
        | _ => cases e

theorem pv_chain {op op' : CmpOp} {g g' : D → D → Option D} (ho : OpR X (compareOp op) (rD C.toGt g)) (ho' : OpR X (compareOp op') (rD C.toGt g')) (ha : PE X a (tSee C fa)) (hb : PE X b (tSee C fb)) (hc : PE X c (tSee C fc))
    (hm : lastMarks [op, op'] [b, c] = false := by with_unfolding_all rfl) : PE X (.Compare a [op, op'] [b, c] pos) (tV C (chV g g' fa fb fc)) := PE.imp (pe_chain ho ho' ha hb hc hm) fun _ _ _ => seeCh

/-! ### argument lists that are only seen -/
def tSA (C : Cn) (f : S → Option (List D)) : TA := fun σ H Q => ∃ s fr ds, R C σ s fr H ∧ f s = some ds ∧ ∀ vs H', Sub H H' → SeeL C.toGt H' ds vs → szL ds → Q vs H'
def nilA : S → Option (List D) := fun _ => some []
def consA (f : S → Option D) (g : S → Option (List D)) : S → Option (List D) := fun s => match f s with
  | some d => match g s with
    | some ds => some (d :: ds)
    | none => none
  | none => none
theorem pa_see0 : PA X [] (tSA C nilA) := PA.imp pa_nil fun σ H Q ⟨s, fr, ds, r, e, k⟩ => by
  cases e
  exact k [] H (.refl _) rfl trivial
theorem consA_of {g : S → Option (List D)} {s : S} {ds : List D} (h : consA f g s = some ds) : ∃ d r, f s = some d ∧ g s = some r ∧ ds = d :: r := by
  unfold consA at h
  cases q : f s with
  | none => rw [q] at h; cases h
  | some d =>
    rw [q] at h
    cases q2 : g s with
    | none => rw [q2] at h; cases h
    | some r =>
      rw [q2] at h
      cases h
      exact ⟨d, r, rfl, rfl, rfl⟩
theorem pa_see {g : S → Option (List D)} (h : PE X e (tSee C f)) (k : PA X es (tSA C g)) (hs : starEach (e :: es) X.env = (false, eval e X.env) :: starEach es X.env := by rfl) : PA X (e :: es) (tSA C (consA f g)) :=
  PA.imp (pa_cons h k hs) fun σ H Q ⟨s, fr, ds, r, e, q⟩ => by
    obtain ⟨d, r', e1, e2, rfl⟩ := consA_of e
    exact ⟨s, fr, d, r, e1, fun v H1 u1 s1 z1 => ⟨s, fr, r', r.mono u1, e2, fun vs H2 u2 s2 z2 => q _ H2 (u1.trans u2) ⟨v, vs, rfl, s1.mono u2, s2⟩ ⟨z1, z2⟩⟩⟩
/-- a built-in's call by data -/
def rCD (G : Gt) (g : List D → Option D) : List V → Hp → VK → Prop := fun xs H Q => ∃ ds z, SeeL G H ds xs ∧ szL ds ∧ g ds = some z ∧
  ∀ v H', Sub H H' → szD z → (∀ l, Rl G l H → Rl G (.it v B z :: l) H') → Q v H'
def callV (g : List D → Option D) (f : S → Option (List D)) : S → Option D := fun s => match f s with
  | some ds => g ds
  | none => none
theorem seeA {g : List D → Option D} {h : S → Option (List D)} {σ : L2.St} {H : Hp} {Q : VK} (q : tV C (callV g h) σ H Q) : tCB (rCD C.toGt g) (tSA C h) σ H Q := by
  obtain ⟨s, fr, z, r, e, k⟩ := q
  unfold callV at e
  cases q : h s with
  | none => rw [q] at e; cases e
  | some ds =>
    rw [q] at e
    exact ⟨s, fr, ds, r, q, fun vs H1 u1 s1 z1 => ⟨ds, z, s1, z1, e, fun v H2 u2 z2 q2 => k v H2 (u1.trans u2) (R.res (r.mono u1) z2 q2)⟩⟩
theorem pv_callB {x : Str} {id : String} {g : List D → Option D} {h : S → Option (List D)} {p : Pos} (hc : CallR X (.builtin id) (rCD C.toGt g)) (hg : Gl X x) (hm : X.mg x = none) (hv : bootBuiltins x = some (.builtin id)) (ha : PA X (e :: es) (tSA C h))
    (hn : x ≠ "__name__" := by decide) (hdb : (x == ("__debug__" : Str)) = false := by decide) (h1 : starEach (e :: es) X.env = (false, eval e X.env) :: starEach es X.env := by rfl) (hp : (backTo pos (starEach es X.env)).any (·.1) = false := by rfl) :
    PE X (.Call (.Name x p) (e :: es) [] pos) (tV C (callV g h)) := PE.imp (pe_callB hc hg hm hv ha hn hdb h1 hp) fun _ _ _ => seeA
theorem pv_callTy {x : Str} {T : String} {g : List D → Option D} {h : S → Option (List D)} {p : Pos} (hc : CallR X (.type T) (rCD C.toGt g)) (hg : Gl X x) (hm : X.mg x = none) (hv : bootBuiltins x = some (.type T)) (ha : PA X (e :: es) (tSA C h))
    (hn : x ≠ "__name__" := by decide) (hdb : (x == ("__debug__" : Str)) = false := by decide) (h1 : starEach (e :: es) X.env = (false, eval e X.env) :: starEach es X.env := by rfl) (hp : (backTo pos (starEach es X.env)).any (·.1) = false := by rfl) :
    PE X (.Call (.Name x p) (e :: es) [] pos) (tV C (callV g h)) := PE.imp (pe_callTy hc hg hm hv ha hn hdb h1 hp) fun _ _ _ => seeA
/-- (a, b, ..) of what cannot change -/
def tupD (ds : List D) : Option D := if isImmL ds && line ds.length then some (.tup ds) else none
theorem pv_tup {k : Nat} {h : S → Option (List D)} (ha : PA X es (tSA C h)) : PE X (.Tuple es k pos) (tV C (callV tupD h)) := PE.imp (pe_tup ha) fun σ H Q ⟨s, fr, z, r, e, q⟩ => by
  unfold callV at e
  cases q1 : h s with
  | none => rw [q1] at e; cases e
  | some ds =>
    rw [q1] at e
    simp only [tupD] at e
    split at e
    · rename_i c
      cases e
      have c' := bool_and c
      refine ⟨s, fr, ds, r, q1, fun vs H1 u1 s1 z1 => ⟨by rw [s1.length]; exact of_line c'.2, fun p hp => ?_⟩⟩
      exact q _ _ (u1.trans (upd_sub hp)) (R.res (r.mono u1) ⟨of_line c'.2, z1⟩ fun l rl => Rl.freshTup c'.1 s1 hp rl)
    · cases e
def lstD (ds : List D) : Option D := if isImmL ds && line ds.length then some (.lst ds) else none
theorem pv_lst {h : S → Option (List D)} (ha : PA X es (tSA C h)) : PE X (.List es pos) (tV C (callV lstD h)) := PE.imp (pe_lst ha) fun σ H Q ⟨s, fr, z, r, e, q⟩ => by
  unfold callV at e
  cases q1 : h s with
  | none => rw [q1] at e; cases e
  | some ds =>
    rw [q1] at e
    simp only [lstD] at e
    split at e
    · rename_i c
      cases e
      have c' := bool_and c
      refine ⟨s, fr, ds, r, q1, fun vs H1 u1 s1 z1 => ⟨by rw [s1.length]; exact of_line c'.2, fun p hp => ?_⟩⟩
      exact q _ _ (u1.trans (upd_sub hp)) (R.res (r.mono u1) ⟨of_line c'.2, z1⟩ fun l rl => Rl.freshLst c'.1 s1 hp rl)
    · cases e
end
end Pv
/-! PvF: places below a name; in; built-ins by data. -/
namespace Pv
open PySem PySem.Spec PyProof.Rows L2
open PySem.W (alike dataLt)

/-! ### keys of a dict -/
def keyO : D → Option Key
  | .int i => some (.inl i)
  | .str x => some (.inr x)
  | _ => none
def keysO : List D → Option (List Key)
  | [] => some []
  | d :: ds => match keyO d, keysO ds with
    | some k, some ks => some (k :: ks)
    | _, _ => none
def keyT : D → Option (List Key)
  | .tup ds => keysO ds
  | _ => none
theorem keyO_of {d : D} {k : Key} (h : keyO d = some k) : d = kD k := by
  cases d <;> first
    | (cases h; rfl)
    | cases h
theorem keysO_of : ∀ {ds : List D} {ks : List Key}, keysO ds = some ks → ds = ks.map kD
  | [], ks, h => by cases h; rfl
  | d :: ds, ks, h => by
    unfold keysO at h
    split at h
    · rename_i k ks' e1 e2
      cases h
      rw [List.map_cons, ← keyO_of e1, ← keysO_of e2]
    · cases h
theorem keyT_of {d : D} {k : List Key} (h : keyT d = some k) : d = .tup (k.map kD) := by
  cases d with
  | tup ds => rw [keysO_of (show keysO ds = some k from h)]
  | _ => cases h
theorem keyO_kD (k : Key) : keyO (kD k) = some k := by cases k <;> rfl
theorem keysO_kD : ∀ ks : List Key, keysO (ks.map kD) = some ks
  | [] => rfl
  | k :: ks => by
    show (match keyO (kD k), keysO (ks.map kD) with
      | some k, some ks => some (k :: ks)
      | _, _ => none) = _
    rw [keyO_kD, keysO_kD ks]
theorem kD_inj {a b : Key} (h : kD a = kD b) : a = b := by
  have := congrArg keyO h
  rw [keyO_kD, keyO_kD] at this
  exact Option.some.inj this
theorem kDs_inj {a b : List Key} (h : a.map kD = b.map kD) : a = b := by
  have := congrArg keysO h
  rw [keysO_kD, keysO_kD] at this
  exact Option.some.inj this
/-- the two keys are one -/
def sameK : D → D → Bool
  | .int i, .int j => i == j
  | .str x, .str y => x == y
  | .tup a, .tup b => match keysO a, keysO b with
    | some k, some l => decide (k = l)
    | _, _ => false
  | _, _ => false
theorem sameK_kD (a b : Key) : sameK (kD a) (kD b) = decide (a = b) := by
  cases a <;> cases b <;> simp [sameK, kD, Bool.beq_eq_decide_eq]
theorem sameK_T (a b : List Key) : sameK (.tup (a.map kD)) (.tup (b.map kD)) = decide (a = b) := by
  show (match keysO (a.map kD), keysO (b.map kD) with
    | some k, some l => decide (k = l)
    | _, _ => false) = _
  rw [keysO_kD, keysO_kD]
/-- is it a key of this kind of dict -/
def okKey (t : Bool) (k : D) : Bool := if t then (keyT k).isSome else (keyO k).isSome
/-- the place of a key -/
def idxK : List D → D → Option Nat
  | [], _ => none
  | k :: ks, x => if sameK k x then some 0 else (idxK ks x).map (· + 1)
def hasK (ks : List D) (x : D) : Bool := ks.any fun k => sameK k x
/-- the keys and the values behind d[x] = y -/
def putKk (ks : List D) (x : D) : List D := match idxK ks x with
  | some _ => ks
  | none => ks ++ [x]
def putKv (ks vs : List D) (x y : D) : List D := match idxK ks x with
  | some j => vs.set j y
  | none => vs ++ [y]

section
variable {G : Gt} {H : Hp}
theorem See.key {k : Key} {v : V} (s : See G H (kD k) v) : v = kV k := by cases k <;> exact s
theorem SeeL.keys : ∀ {ks : List Key} {vs : List V}, SeeL G H (ks.map kD) vs → vs = ks.map kV
  | [], _, q => by cases q; rfl
  | k :: ks, _, ⟨v, r, e, q, t⟩ => by subst e; rw [See.key q, SeeL.keys t]; rfl
theorem valV_dK {kvs : List (Key × V)} {k : Key} : (∀ j, idxK (kvs.map fun p => kD p.1) (kD k) = some j → ∃ v, valV kvs k = some v ∧ (kvs.map (·.2))[j]? = some v) ∧ (valV kvs k).isSome = hasK (kvs.map fun p => kD p.1) (kD k) := by
  induction kvs with
  | nil => exact ⟨(fun j h => by cases h), rfl⟩
  | cons p r ih =>
    obtain ⟨i1, i2⟩ := ih
    by_cases c : p.1 = k
    · refine ⟨fun j h => ?_, ?_⟩
      · have e : 0 = j := by simpa [idxK, sameK_kD, c] using h
        subst e
        exact ⟨p.2, valV_pos c, rfl⟩
      · rw [valV_pos c]
        simp [hasK, sameK_kD, c]
    · refine ⟨fun j h => ?_, ?_⟩
      · rw [valV_neg c]
        obtain ⟨j', e1, e2⟩ : ∃ j', idxK (r.map fun p => kD p.1) (kD k) = some j' ∧ j' + 1 = j := by simpa [idxK, sameK_kD, c] using h
        subst e2
        obtain ⟨v, h1, h2⟩ := i1 j' e1
        exact ⟨v, h1, by simpa using h2⟩
      · rw [valV_neg c, i2]
        simp [hasK, sameK_kD, c]
theorem valV_dT {kvs : List (List Key × V)} {k : List Key} : (∀ j, idxK (kvs.map fun p => D.tup (p.1.map kD)) (D.tup (k.map kD)) = some j → ∃ v, valV kvs k = some v ∧ (kvs.map (·.2))[j]? = some v) ∧ (valV kvs k).isSome = hasK (kvs.map fun p => D.tup (p.1.map kD)) (D.tup (k.map kD)) := by
  induction kvs with
  | nil => exact ⟨(fun j h => by cases h), rfl⟩
  | cons p r ih =>
    obtain ⟨i1, i2⟩ := ih
    by_cases c : p.1 = k
    · refine ⟨fun j h => ?_, ?_⟩
      · have e : 0 = j := by simpa [idxK, sameK_T, c] using h
        subst e
        exact ⟨p.2, valV_pos c, rfl⟩
      · rw [valV_pos c]
        simp [hasK, sameK_T, c]
    · refine ⟨fun j h => ?_, ?_⟩
      · rw [valV_neg c]
        obtain ⟨j', e1, e2⟩ : ∃ j', idxK (r.map fun p => D.tup (p.1.map kD)) (D.tup (k.map kD)) = some j' ∧ j' + 1 = j := by simpa [idxK, sameK_T, c] using h
        subst e2
        obtain ⟨v, h1, h2⟩ := i1 j' e1
        exact ⟨v, h1, by simpa using h2⟩
      · rw [valV_neg c, i2]
        simp [hasK, sameK_T, c]
/-- a dict that is seen is asked for a key that is seen -/
theorem dget_of {t : Bool} {ks ds : List D} {k : D} {x y : V} (s1 : See G H (.dct t ks ds) x) (s2 : See G H k y) (ok : okKey t k = true) :
    ∃ a o vs ob, x = .ref a ∧ DO t ks vs ob ∧ Rd H a ob ∧ DGet H a y o ∧ o.isSome = hasK ks k ∧ ∀ j, idxK ks k = some j → ∃ v, o = some v ∧ vs[j]? = some v := by
  obtain ⟨a, vs, o, rfl, dd, rd, sl⟩ := s1
  rcases dd with ⟨rfl, kvs, rfl, rfl, rfl⟩ | ⟨rfl, kvs, rfl, rfl, rfl⟩
  · have ok' : (keyO k).isSome = true := ok
    obtain ⟨k', e⟩ := Option.isSome_iff_exists.mp ok'
    obtain rfl := keyO_of e
    obtain rfl := See.key s2
    obtain ⟨h1, h2⟩ := valV_dK (kvs := kvs) (k := k')
    exact ⟨a, _, _, _, rfl, .inl ⟨rfl, kvs, rfl, rfl, rfl⟩, rd, .inl ⟨kvs, k', rd, rfl, rfl⟩, h2, h1⟩
  · have ok' : (keyT k).isSome = true := ok
    obtain ⟨k', e⟩ := Option.isSome_iff_exists.mp ok'
    obtain rfl := keyT_of e
    obtain ⟨b, ws, rfl, hb, sw⟩ := s2
    obtain rfl := SeeL.keys sw
    obtain ⟨h1, h2⟩ := valV_dT (kvs := kvs) (k := k')
    exact ⟨a, _, _, _, rfl, .inr ⟨rfl, kvs, rfl, rfl, rfl⟩, rd, .inr ⟨kvs, k', b, rd, rfl, hb, rfl⟩, h2, h1⟩
end

theorem DO.vals {t : Bool} {ks : List D} {vs ws : List V} {o : HO} (a : DO t ks vs o) (b : DO t ks ws o) : vs = ws := by
  rcases a with ⟨rfl, kvs, rfl, _, rfl⟩ | ⟨rfl, kvs, rfl, _, rfl⟩ <;> rcases b with ⟨e, kvs', e', _, rfl⟩ | ⟨e, kvs', e', _, rfl⟩ <;> first
    | (cases e; done)
    | (injection e' with e'; subst e'; rfl)
theorem Rd.uniq {H : Hp} {t : Bool} {ks ks' : List D} {vs vs' : List V} {a : Addr} {o u : HO} (r : Rd H a o) (d : DO t ks vs o) (r' : Rd H a u) (d' : DO t ks' vs' u) : o = u := by
  have n1 := d.nfz
  have n2 := d'.nfz
  rcases r with r | ⟨x, r⟩ <;> rcases r' with q | ⟨y, q⟩ <;> rw [r] at q <;> cases q <;> first
    | rfl
    | exact n1.elim
    | exact n2.elim

/-! ### in -/
def inD : D → D → Option D
  | x, .lst ds => if okD x && okD (.lst ds) then some (.bl (ds.any fun z => eqB z x)) else none
  | x, .tup ds => if okD x && okD (.tup ds) then some (.bl (ds.any fun z => eqB z x)) else none
  | x, .dct t ks _ => if okKey t x then some (.bl (hasK ks x)) else none
  | _, _ => none
def notD (o : Option D) : Option D := match o with
  | some (.bl b) => some (.bl (!b))
  | _ => none
theorem any_py (x : D) : ∀ ds : List D, ((pyL ds).any fun z => PyData.eqv z (py x)) = ds.any fun z => eqB z x
  | [] => rfl
  | d :: ds => by
    show (PyData.eqv (py d) (py x) || (pyL ds).any fun z => PyData.eqv z (py x)) = (eqB d x || ds.any fun z => eqB z x)
    rw [any_py x ds]
    all_goals rfl
section
variable {X : Cx} {G : Gt}
theorem in_room {A : Around} {xs : List PyData} {d : PyData} (hu : A.units + 65 < cLine) (h : SeqAt.shaped d = true) : A.units + 1 + min (PyData.depthAll xs) d.depth < cLine := by
  have h1 := SeqAt.depth_of_shaped h
  have h2 : min (PyData.depthAll xs) d.depth ≤ d.depth := Nat.min_le_right _ _
  omega
theorem o_in (hK : X.K = G.K) (hu : X.A.units + 65 < cLine) : OpR X (compareOp .In) (rD G inD) := by
  rintro pins s σ H x y v u Q I rx ry ⟨dx, dy, z, s1, s2, z1, z2, e, k⟩
  cases dy with
  | lst ds =>
    simp only [inD] at e
    split at e
    · rename_i c
      cases e
      have c' := bool_and c
      obtain ⟨as, r1⟩ := Dp.reads I _ x v (hK ▸ s1.dp (okD_l c'.1)) rx
      obtain ⟨bs, r2⟩ := Dp.reads I _ y u (hK ▸ s2.dp (okD_l c'.2)) ry
      have sy := okD_r c'.2
      exact SeqAt.in_list_reads (xs := pyL ds) r2 r1 (SeqAt.canLay_of_shaped sy) (SeqAt.canLay_of_shaped (okD_r c'.1)) (in_room hu (okD_r c'.1)) ⟨.bl _, H, I, rfl, by rw [any_py]; exact k _ _ (.refl _) trivial fun l r => Rl.imm rfl rfl r⟩
    · cases e
  | tup ds =>
    simp only [inD] at e
    split at e
    · rename_i c
      cases e
      have c' := bool_and c
      obtain ⟨as, r1⟩ := Dp.reads I _ x v (hK ▸ s1.dp (okD_l c'.1)) rx
      obtain ⟨bs, r2⟩ := Dp.reads I _ y u (hK ▸ s2.dp (okD_l c'.2)) ry
      have sy := okD_r c'.2
      exact SeqAt.in_tuple_reads (xs := pyL ds) r2 r1 (SeqAt.canLay_of_shaped sy) (SeqAt.canLay_of_shaped (okD_r c'.1)) (in_room hu (okD_r c'.1)) ⟨.bl _, H, I, rfl, by rw [any_py]; exact k _ _ (.refl _) trivial fun l r => Rl.imm rfl rfl r⟩
    · cases e
  | dct t ks ds =>
    simp only [inD] at e
    split at e
    · rename_i c
      cases e
      obtain ⟨a, o, _, _, rfl, _, _, g, g1, _⟩ := dget_of s2 s1 c
      cases ry
      refine d_in (by omega) I g rx fun s' I' => ⟨.bl _, H, I', rfl, ?_⟩
      rw [g1]
      exact k _ _ (.refl _) trivial fun l r => Rl.imm rfl rfl r
    · cases e
  | _ => cases dx <;> cases e
theorem o_notin (hK : X.K = G.K) (hu : X.A.units + 65 < cLine) : OpR X (compareOp .NotIn) (rD G fun x y => notD (inD x y)) := by
  rintro pins s σ H x y v u Q I rx ry ⟨dx, dy, z, s1, s2, z1, z2, e, k⟩
  cases dy with
  | lst ds =>
    simp only [inD] at e
    split at e
    · rename_i c
      cases e
      have c' := bool_and c
      obtain ⟨as, r1⟩ := Dp.reads I _ x v (hK ▸ s1.dp (okD_l c'.1)) rx
      obtain ⟨bs, r2⟩ := Dp.reads I _ y u (hK ▸ s2.dp (okD_l c'.2)) ry
      have sy := okD_r c'.2
      exact SeqAt.notIn_list_reads (xs := pyL ds) r2 r1 (SeqAt.canLay_of_shaped sy) (SeqAt.canLay_of_shaped (okD_r c'.1)) (in_room hu (okD_r c'.1)) ⟨.bl _, H, I, rfl, by rw [any_py]; exact k _ _ (.refl _) trivial fun l r => Rl.imm rfl rfl r⟩
    · cases e
  | tup ds =>
    simp only [inD] at e
    split at e
    · rename_i c
      cases e
      have c' := bool_and c
      obtain ⟨as, r1⟩ := Dp.reads I _ x v (hK ▸ s1.dp (okD_l c'.1)) rx
      obtain ⟨bs, r2⟩ := Dp.reads I _ y u (hK ▸ s2.dp (okD_l c'.2)) ry
      have sy := okD_r c'.2
      exact SeqAt.notIn_tuple_reads (xs := pyL ds) r2 r1 (SeqAt.canLay_of_shaped sy) (SeqAt.canLay_of_shaped (okD_r c'.1)) (in_room hu (okD_r c'.1)) ⟨.bl _, H, I, rfl, by rw [any_py]; exact k _ _ (.refl _) trivial fun l r => Rl.imm rfl rfl r⟩
    · cases e
  | dct t ks ds =>
    simp only [inD] at e
    split at e
    · rename_i c
      cases e
      obtain ⟨a, o, _, _, rfl, _, _, g, g1, _⟩ := dget_of s2 s1 c
      cases ry
      refine d_notIn (by omega) I g rx fun s' I' => ⟨.bl _, H, I', rfl, ?_⟩
      rw [g1]
      exact k _ _ (.refl _) trivial fun l r => Rl.imm rfl rfl r
    · cases e
  | _ => cases dx <;> cases e
end

/-! ### places -/
def ixD : D → D → Option D
  | .lst ds, .int i => atI ds i
  | .tup ds, .int i => atI ds i
  | .scr ns, .int i => (atI ns i).map D.int
  | _, _ => none
theorem atI_at {α : Type} {xs : List α} {i : Int} {x : α} (h : atI xs i = some x) : ∃ j, ixN xs.length i = some j ∧ xs[j]? = some x := by
  unfold atI at h
  cases q : ixN xs.length i with
  | none => rw [q] at h; cases h
  | some j =>
    rw [q] at h
    exact ⟨j, rfl, h⟩
theorem atI_mk {α : Type} {xs : List α} {i : Int} {j : Nat} {x : α} (h : ixN xs.length i = some j) (k : xs[j]? = some x) : atI xs i = some x := by
  unfold atI
  rw [h]
  exact k
section
variable {C : Cn} {X : Cx} {e a b c : Expr} {es : List Expr} {pos : Pos} {f g fa fb fc : S → Option D} {r : Nat}
theorem its_get {n : Nat} {vs : List V} {ds : List D} {j : Nat} {d : D} (hl : vs.length = ds.length) (e : ds[j]? = some d) : ∃ v, vs[j]? = some v ∧ [Fr.it v n d].Sublist (its n vs ds) := by
  obtain ⟨h1, _⟩ := List.getElem?_eq_some_iff.mp e
  have h2 : vs[j]? = some (vs[j]'(by omega)) := List.getElem?_eq_getElem (by omega)
  exact ⟨_, h2, its_mem h2 e⟩
theorem szL_get {ds : List D} {j : Nat} {d : D} (h : szL ds) (e : ds[j]? = some d) : szD d := szL_mem.mp h d (List.mem_of_getElem? e)
end
end Pv
/-! PvG: built-ins by data; slices; attributes; ranges. -/
namespace Pv
open PySem PySem.Spec PyProof.Rows L2
open PySem.W (alike dataLt AllAlike Sortable EachIs dataLe)

def lenD : List D → Option D
  | [.lst ds] => some (.int ds.length)
  | [.tup ds] => some (.int ds.length)
  | [.scr ns] => some (.int ns.length)
  | [.dct _ ks _] => some (.int ks.length)
  | [.str x] => if line x.length then some (.int x.length) else none
  | _ => none
def absD : List D → Option D
  | [.int i] => some (.int (if i < 0 then -i else i))
  | _ => none
def max2D : List D → Option D
  | [.int i, .int j] => some (.int (if j > i then j else i))
  | _ => none
def min2D : List D → Option D
  | [.int i, .int j] => some (.int (if j < i then j else i))
  | _ => none
def intD : List D → Option D
  | [.int i] => some (.int i)
  | [.bl b] => some (.int (if b then 1 else 0))
  | _ => none
def intO : D → Option Int
  | .int i => some i
  | _ => none
def blO : D → Option Bool
  | .bl b => some b
  | _ => none
def allO {α : Type} (f : D → Option α) : List D → Option (List α)
  | [] => some []
  | d :: ds => match f d, allO f ds with
    | some a, some l => some (a :: l)
    | _, _ => none
theorem allO_ints {ds : List D} : ∀ {ns : List Int}, allO intO ds = some ns → ds = ns.map D.int := by
  induction ds with
  | nil => intro ns h; cases h; rfl
  | cons d ds ih =>
    intro ns h
    unfold allO at h
    split at h
    · rename_i a l e1 e2
      cases h
      cases d <;> cases e1
      rw [List.map_cons, ih e2]
    · cases h
theorem allO_bls {ds : List D} : ∀ {ns : List Bool}, allO blO ds = some ns → ds = ns.map D.bl := by
  induction ds with
  | nil => intro ns h; cases h; rfl
  | cons d ds ih =>
    intro ns h
    unfold allO at h
    split at h
    · rename_i a l e1 e2
      cases h
      cases d <;> cases e1
      rw [List.map_cons, ih e2]
    · cases h
theorem allO_mk {α : Type} {f : D → Option α} {g : α → D} (h : ∀ a, f (g a) = some a) : ∀ l : List α, allO f (l.map g) = some l
  | [] => rfl
  | a :: l => by
    show (match f (g a), allO f (l.map g) with
      | some a, some l => some (a :: l)
      | _, _ => none) = _
    rw [h, allO_mk h l]
def sumD : List D → Option D
  | [.lst ds] => match allO intO ds with
    | some ns => some (.int ns.sum)
    | none => none
  | _ => none
def anyD : List D → Option D
  | [.lst ds] => match allO blO ds with
    | some bs => some (.bl (bs.any id))
    | none => none
  | _ => none
def allD : List D → Option D
  | [.lst ds] => match allO blO ds with
    | some bs => some (.bl (bs.all id))
    | none => none
  | _ => none
def maxI : List Int → Int
  | [] => 0
  | a :: l => l.foldl max a
def minI : List Int → Int
  | [] => 0
  | a :: l => l.foldl min a
def maxD : List D → Option D
  | [.lst ds] => match allO intO ds with
    | some (a :: l) => some (.int (maxI (a :: l)))
    | _ => none
  | _ => none
def minD : List D → Option D
  | [.lst ds] => match allO intO ds with
    | some (a :: l) => some (.int (minI (a :: l)))
    | _ => none
  | _ => none
def listD : List D → Option D
  | [.lst ds] => if isImmL ds then some (.lst ds) else none
  | [.tup ds] => if isImmL ds then some (.lst ds) else none
  | [.dct _ ks _] => some (.lst ks)
  | _ => none
def tupleD : List D → Option D
  | [.lst ds] => if isImmL ds then some (.tup ds) else none
  | [.tup ds] => if isImmL ds then some (.tup ds) else none
  | _ => none
/-! ### sorted -/
def leB (x y : D) : Bool := !ltB y x
def tupNe : D → Bool
  | .tup (_ :: _) => true
  | _ => false
def noTup : D → Bool
  | .non => false
  | .tup _ => false
  | _ => true
def isTup : D → Bool
  | .tup _ => true
  | _ => false
def nilTup : D → Bool
  | .tup [] => true
  | _ => false
/-- tuples, the empty one among them -/
def mixTup (ds : List D) : Bool := ds.all isTup && ds.any nilTup
theorem mixTup_py {ds : List D} (h : mixTup ds = true) : (∀ d ∈ ds.map py, ∃ xs, d = PyData.tuple xs) ∧ PyData.tuple [] ∈ ds.map py := by
  unfold mixTup at h
  rw [Bool.and_eq_true, List.all_eq_true, List.any_eq_true] at h
  refine ⟨fun d hd => ?_, ?_⟩
  · obtain ⟨x, hx, rfl⟩ := List.mem_map.mp hd
    have := h.1 x hx
    cases x with
    | tup l => exact ⟨pyL l, rfl⟩
    | _ => cases this
  · obtain ⟨x, hx, hn⟩ := h.2
    refine List.mem_map.mpr ⟨x, hx, ?_⟩
    match x, hn with
    | .tup [], _ => rfl
def sortOk (ds : List D) : Bool := isImmL ds && ds.all okD && (ds.all fun a => ds.all fun b => alike (py a) (py b)) && (ds.all tupNe || ds.all noTup || mixTup ds)
def sortedD : List D → Option D
  | [.lst ds] => if sortOk ds then some (.lst (ds.mergeSort leB)) else none
  | [.tup ds] => if sortOk ds then some (.lst (ds.mergeSort leB)) else none
  | _ => none

theorem maxI_le {a b : Int} : ∀ l : List Int, a ≤ b → a ≤ l.foldl max b
  | [], h => h
  | c :: l, h => maxI_le l (Int.le_trans h (Int.le_max_left _ _))
theorem maxI_up : ∀ (l : List Int) (a y : Int), (y = a ∨ y ∈ l) → y ≤ l.foldl max a
  | [], a, y, h => by
    rcases h with h | h
    · subst h; exact Int.le_refl _
    · cases h
  | c :: l, a, y, h => by
    rcases h with h | h
    · subst h; exact maxI_le l (Int.le_max_left _ _)
    · rcases List.mem_cons.mp h with h | h
      · subst h; exact maxI_le l (Int.le_max_right _ _)
      · exact maxI_up l _ y (.inr h)
theorem maxI_in : ∀ (l : List Int) (a : Int), l.foldl max a = a ∨ l.foldl max a ∈ l
  | [], a => .inl rfl
  | c :: l, a => by
    show l.foldl max (max a c) = a ∨ l.foldl max (max a c) ∈ c :: l
    rcases maxI_in l (max a c) with h | h
    · rw [h]
      rcases Int.le_total a c with q | q
      · rw [Int.max_eq_right q]; exact .inr List.mem_cons_self
      · rw [Int.max_eq_left q]; exact .inl rfl
    · exact .inr (List.mem_cons_of_mem _ h)
theorem minI_le {a b : Int} : ∀ l : List Int, b ≤ a → l.foldl min b ≤ a
  | [], h => h
  | c :: l, h => minI_le l (Int.le_trans (Int.min_le_left _ _) h)
theorem minI_up : ∀ (l : List Int) (a y : Int), (y = a ∨ y ∈ l) → l.foldl min a ≤ y
  | [], a, y, h => by
    rcases h with h | h
    · subst h; exact Int.le_refl _
    · cases h
  | c :: l, a, y, h => by
    rcases h with h | h
    · subst h; exact minI_le l (Int.min_le_left _ _)
    · rcases List.mem_cons.mp h with h | h
      · subst h; exact minI_le l (Int.min_le_right _ _)
      · exact minI_up l _ y (.inr h)
theorem minI_in : ∀ (l : List Int) (a : Int), l.foldl min a = a ∨ l.foldl min a ∈ l
  | [], a => .inl rfl
  | c :: l, a => by
    show l.foldl min (min a c) = a ∨ l.foldl min (min a c) ∈ c :: l
    rcases minI_in l (min a c) with h | h
    · rw [h]
      rcases Int.le_total a c with q | q
      · rw [Int.min_eq_left q]; exact .inl rfl
      · rw [Int.min_eq_right q]; exact .inr List.mem_cons_self
    · exact .inr (List.mem_cons_of_mem _ h)

section
variable {X : Cx} {G : Gt}
theorem SeeL.ints {H : Hp} : ∀ {ns : List Int} {vs : List V}, SeeL G H (ns.map D.int) vs → vs = ns.map V.int
  | [], _, q => by cases q; rfl
  | n :: ns, _, ⟨v, r, e, q, t⟩ => by subst e; cases q; rw [SeeL.ints t]; rfl
theorem SeeL.bls {H : Hp} : ∀ {ns : List Bool} {vs : List V}, SeeL G H (ns.map D.bl) vs → vs = ns.map V.bl
  | [], _, q => by cases q; rfl
  | n :: ns, _, ⟨v, r, e, q, t⟩ => by subst e; cases q; rw [SeeL.bls t]; rfl
theorem CallR_imp {f : Value} {r r' : List V → Hp → VK → Prop} (h : CallR X f r) (i : ∀ xs H Q, r' xs H Q → r xs H Q) : CallR X f r' := fun pins s σ H xs us Q I rs q => h pins s σ H xs us Q I rs (i xs H Q q)
theorem SeeL.one {H : Hp} {d : D} {xs : List V} (h : SeeL G H [d] xs) : ∃ v, xs = [v] ∧ See G H d v := by
  obtain ⟨v, r, e, q, t⟩ := h
  cases t
  exact ⟨v, e, q⟩
theorem SeeL.two {H : Hp} {d e : D} {xs : List V} (h : SeeL G H [d, e] xs) : ∃ v w, xs = [v, w] ∧ See G H d v ∧ See G H e w := by
  obtain ⟨v, r, e, q, t⟩ := h
  obtain ⟨w, rfl, q'⟩ := SeeL.one t
  exact ⟨v, w, e, q, q'⟩
theorem c_len (hK : X.K = G.K) : CallR X (.builtin "len") (rCD G lenD) := by
  rintro pins s σ H xs us Q I r ⟨ds, z, s1, z1, e, k⟩
  match ds, e with
  | [.lst ds], e =>
    cases e
    obtain ⟨v, rfl, a, vs, rfl, ha, sl⟩ := SeeL.one s1
    exact call_len_seq pins s σ H _ us Q I r ⟨a, vs, rfl, .inl (.of ha), by rw [sl.length]; exact k _ _ (.refl _) trivial fun l r => Rl.imm rfl rfl r⟩
  | [.tup ds], e =>
    cases e
    obtain ⟨v, rfl, a, vs, rfl, ha, sl⟩ := SeeL.one s1
    exact call_len_seq pins s σ H _ us Q I r ⟨a, vs, rfl, .inr (.of ha), by rw [sl.length]; exact k _ _ (.refl _) trivial fun l r => Rl.imm rfl rfl r⟩
  | [.scr ns], e =>
    cases e
    obtain ⟨v, rfl, a, rfl, ha⟩ := SeeL.one s1
    exact call_len_seq pins s σ H _ us Q I r ⟨a, _, rfl, .inl (hK ▸ ha), by rw [List.length_map]; exact k _ _ (.refl _) trivial fun l r => Rl.imm rfl rfl r⟩
  | [.dct t ks ds], e =>
    cases e
    obtain ⟨v, rfl, a, vs, o, rfl, dO, rd, sl⟩ := SeeL.one s1
    obtain ⟨u, rfl, rx⟩ := vals1 r
    obtain rfl : u = .ref a := rx
    have fin : Q (.int (ks.length : Nat)) H := k _ _ (.refl _) trivial fun l r => Rl.imm rfl rfl r
    rcases dO with ⟨rfl, kvs, rfl, rfl, rfl⟩ | ⟨rfl, kvs, rfl, rfl, rfl⟩
    · refine d_len I rd fun t s' I' => ⟨.int (kvs.length : Nat), H, I', ⟨_, rfl⟩, ?_⟩
      rw [List.length_map] at fin
      exact fin
    · obtain ⟨z, hd, ys, rel, dd⟩ := dt_rd I.hok rd
      have hl : kvs.length = ys.length := Paired.length rel
      refine call_len_dictH hd dd (by rw [← hl]; rw [sizeLine_eq] at z; omega) ?_
      rw [← hl]
      refine ⟨.int ((kvs.length : Nat) : Int), H, I.tok _, ⟨_, rfl⟩, ?_⟩
      rw [List.length_map] at fin
      exact fin
  | [.str x], e =>
    simp only [lenD] at e
    split at e
    · rename_i c
      cases e
      obtain ⟨v, rfl, q⟩ := SeeL.one s1
      cases q
      exact call_len_str pins s σ H _ us Q I r ⟨x, rfl, of_line c, k _ _ (.refl _) trivial fun l r => Rl.imm rfl rfl r⟩
    · cases e
theorem c_abs : CallR X (.builtin "abs") (rCD G absD) := by
  refine CallR_imp call_abs ?_
  rintro xs H Q ⟨ds, z, s1, z1, e, k⟩
  match ds, e with
  | [.int i], e =>
    cases e
    obtain ⟨v, rfl, q⟩ := SeeL.one s1
    cases q
    exact ⟨i, rfl, k _ _ (.refl _) trivial fun l r => Rl.imm rfl rfl r⟩
theorem c_max2 (hc : X.calm = true) : CallR X (.builtin "max") (rCD G max2D) := by
  refine CallR_imp (call_max2 hc) ?_
  rintro xs H Q ⟨ds, z, s1, z1, e, k⟩
  match ds, e with
  | [.int i, .int j], e =>
    cases e
    obtain ⟨v, w, rfl, q, q'⟩ := SeeL.two s1
    cases q; cases q'
    exact ⟨i, j, rfl, k _ _ (.refl _) trivial fun l r => Rl.imm rfl rfl r⟩
theorem c_min2 (hc : X.calm = true) : CallR X (.builtin "min") (rCD G min2D) := by
  refine CallR_imp (call_min2 hc) ?_
  rintro xs H Q ⟨ds, z, s1, z1, e, k⟩
  match ds, e with
  | [.int i, .int j], e =>
    cases e
    obtain ⟨v, w, rfl, q, q'⟩ := SeeL.two s1
    cases q; cases q'
    exact ⟨i, j, rfl, k _ _ (.refl _) trivial fun l r => Rl.imm rfl rfl r⟩
theorem c_int : CallR X (.type "int") (rCD G intD) := by
  refine CallR_imp call_int1 ?_
  rintro xs H Q ⟨ds, z, s1, z1, e, k⟩
  match ds, e with
  | [.int i], e =>
    cases e
    obtain ⟨v, rfl, q⟩ := SeeL.one s1
    cases q
    exact .inl ⟨i, rfl, k _ _ (.refl _) trivial fun l r => Rl.imm rfl rfl r⟩
  | [.bl i], e =>
    cases e
    obtain ⟨v, rfl, q⟩ := SeeL.one s1
    cases q
    exact .inr ⟨i, rfl, k _ _ (.refl _) trivial fun l r => Rl.imm rfl rfl r⟩
theorem c_sum (hc : X.calm = true) : CallR X (.builtin "sum") (rCD G sumD) := by
  refine CallR_imp (cr_sum hc) ?_
  rintro xs H Q ⟨ds, z, s1, z1, e, k⟩
  match ds, e with
  | [.lst ds], e =>
    simp only [sumD] at e
    cases q : allO intO ds with
    | none => rw [q] at e; cases e
    | some ns =>
      rw [q] at e
      cases e
      obtain rfl := allO_ints q
      obtain ⟨v, rfl, a, vs, rfl, ha, sl⟩ := SeeL.one s1
      obtain rfl := SeeL.ints sl
      exact ⟨a, ns, rfl, .of ha, k _ _ (.refl _) trivial fun l r => Rl.imm rfl rfl r⟩
theorem c_any (hc : X.calm = true) : CallR X (.builtin "any") (rCD G anyD) := by
  refine CallR_imp (cr_any hc) ?_
  rintro xs H Q ⟨ds, z, s1, z1, e, k⟩
  match ds, e with
  | [.lst ds], e =>
    simp only [anyD] at e
    cases q : allO blO ds with
    | none => rw [q] at e; cases e
    | some ns =>
      rw [q] at e
      cases e
      obtain rfl := allO_bls q
      obtain ⟨v, rfl, a, vs, rfl, ha, sl⟩ := SeeL.one s1
      obtain rfl := SeeL.bls sl
      exact ⟨a, ns, rfl, .of ha, k _ _ (.refl _) trivial fun l r => Rl.imm rfl rfl r⟩
theorem c_all (hc : X.calm = true) : CallR X (.builtin "all") (rCD G allD) := by
  refine CallR_imp (cr_all hc) ?_
  rintro xs H Q ⟨ds, z, s1, z1, e, k⟩
  match ds, e with
  | [.lst ds], e =>
    simp only [allD] at e
    cases q : allO blO ds with
    | none => rw [q] at e; cases e
    | some ns =>
      rw [q] at e
      cases e
      obtain rfl := allO_bls q
      obtain ⟨v, rfl, a, vs, rfl, ha, sl⟩ := SeeL.one s1
      obtain rfl := SeeL.bls sl
      exact ⟨a, ns, rfl, .of ha, k _ _ (.refl _) trivial fun l r => Rl.imm rfl rfl r⟩
theorem c_max (hc : X.calm = true) : CallR X (.builtin "max") (rCD G maxD) := by
  refine CallR_imp (cr_max hc) ?_
  rintro xs H Q ⟨ds, z, s1, z1, e, k⟩
  match ds, e with
  | [.lst ds], e =>
    simp only [maxD] at e
    cases q : allO intO ds with
    | none => rw [q] at e; cases e
    | some ns =>
      rw [q] at e
      cases ns with
      | nil => cases e
      | cons n ns =>
        cases e
        obtain rfl := allO_ints q
        obtain ⟨v, rfl, a, vs, rfl, ha, sl⟩ := SeeL.one s1
        obtain rfl := SeeL.ints sl
        refine ⟨a, n :: ns, rfl, .of ha, Nat.zero_lt_succ _, fun m hm hx => ?_⟩
        have e1 : m = maxI (n :: ns) := Int.le_antisymm (maxI_up ns n m (List.mem_cons.mp hm)) (hx _ (List.mem_cons.mpr (maxI_in ns n)))
        rw [e1]
        exact k _ _ (.refl _) trivial fun l r => Rl.imm rfl rfl r
theorem c_min (hc : X.calm = true) : CallR X (.builtin "min") (rCD G minD) := by
  refine CallR_imp (cr_min hc) ?_
  rintro xs H Q ⟨ds, z, s1, z1, e, k⟩
  match ds, e with
  | [.lst ds], e =>
    simp only [minD] at e
    cases q : allO intO ds with
    | none => rw [q] at e; cases e
    | some ns =>
      rw [q] at e
      cases ns with
      | nil => cases e
      | cons n ns =>
        cases e
        obtain rfl := allO_ints q
        obtain ⟨v, rfl, a, vs, rfl, ha, sl⟩ := SeeL.one s1
        obtain rfl := SeeL.ints sl
        refine ⟨a, n :: ns, rfl, .of ha, Nat.zero_lt_succ _, fun m hm hx => ?_⟩
        have e1 : m = minI (n :: ns) := Int.le_antisymm (hx _ (List.mem_cons.mpr (minI_in ns n))) (minI_up ns n m (List.mem_cons.mp hm))
        rw [e1]
        exact k _ _ (.refl _) trivial fun l r => Rl.imm rfl rfl r
theorem isKeys_see {H : Hp} : ∀ {kvs : List (List Key × V)} {bs : List Addr}, IsKeys H kvs bs → SeeL G H (kvs.map fun p => D.tup (p.1.map kD)) (bs.map V.ref)
  | [], _, .nil => rfl
  | p :: kvs, _, .cons h t => ⟨_, _, rfl, ⟨_, _, rfl, h, keysSee p.1⟩, isKeys_see t⟩
where
  keysSee {H : Hp} : ∀ ks : List Key, SeeL G H (ks.map kD) (ks.map kV)
    | [] => rfl
    | k :: ks => ⟨_, _, rfl, by cases k <;> rfl, keysSee ks⟩
theorem isImmL_keys : ∀ ks : List Key, isImmL (ks.map kD) = true
  | [] => rfl
  | k :: ks => by
    show (isImm (kD k) && isImmL (ks.map kD)) = true
    rw [isImmL_keys ks, Bool.and_true]
    cases k <;> rfl
theorem DO.immK {t : Bool} {ks : List D} {vs : List V} {o : HO} (h : DO t ks vs o) : isImmL ks = true ∧ ks.length = vs.length := by
  rcases h with ⟨rfl, kvs, rfl, rfl, rfl⟩ | ⟨rfl, kvs, rfl, rfl, rfl⟩
  · refine ⟨?_, by simp⟩
    have e : (kvs.map fun p => kD p.1) = (kvs.map (·.1)).map kD := by rw [List.map_map]; rfl
    rw [e]
    exact isImmL_keys _
  · refine ⟨?_, by simp⟩
    induction kvs with
    | nil => rfl
    | cons p r ih =>
      show (isImmL (p.1.map kD) && isImmL (r.map fun p => D.tup (p.1.map kD))) = true
      rw [ih, isImmL_keys]
      all_goals rfl
theorem c_list (hK : X.K = G.K) (hc : X.calm = true) : CallR X (.type "list") (rCD G listD) := by
  refine CallR_imp (CallR.or call_list_of (CallR.or (call_list_dT hc) (call_listD hc))) ?_
  rintro xs H Q ⟨ds, z, s1, z1, e, k⟩
  match ds, e with
  | [.lst ds], e =>
    simp only [listD] at e
    split at e
    · rename_i c
      cases e
      obtain ⟨v, rfl, a, vs, rfl, ha, sl⟩ := SeeL.one s1
      exact .inl ⟨a, vs, rfl, .inl (.of ha), fun p hp => k _ _ (upd_sub hp) z1.1 fun l r => Rl.freshLst c sl hp r⟩
    · cases e
  | [.tup ds], e =>
    simp only [listD] at e
    split at e
    · rename_i c
      cases e
      obtain ⟨v, rfl, a, vs, rfl, ha, sl⟩ := SeeL.one s1
      exact .inl ⟨a, vs, rfl, .inr (.of ha), fun p hp => k _ _ (upd_sub hp) z1.1 fun l r => Rl.freshLst c sl hp r⟩
    · cases e
  | [.dct t ks ds], e =>
    cases e
    obtain ⟨v, rfl, a, vs, o, rfl, dO, rd, sl⟩ := SeeL.one s1
    have zz : szD (.lst ks) := ⟨by rw [dO.immK.2, sl.length]; exact z1.1.1, z1.1.2.1⟩
    have im := dO.immK.1
    rcases dO with ⟨rfl, kvs, rfl, rfl, rfl⟩ | ⟨rfl, kvs, rfl, rfl, rfl⟩
    · refine .inr (.inr ⟨a, kvs, rfl, rd, fun p hp => k _ _ (upd_sub hp) zz fun l r => Rl.freshLst im ?_ hp r⟩)
      have e1 : (kvs.map fun p => kD p.1) = (kvs.map (·.1)).map kD := by rw [List.map_map]; rfl
      have e2 : (kvs.map fun p => kV p.1) = (kvs.map (·.1)).map kV := by rw [List.map_map]; rfl
      rw [e1, e2]
      exact isKeys_see.keysSee _
    · exact .inr (.inl ⟨a, kvs, rfl, rd, fun p bs hp ib => k _ _ (upd_sub hp) zz fun l r => Rl.freshLst im (isKeys_see ib) hp r⟩)
theorem c_tuple : CallR X (.type "tuple") (rCD G tupleD) := by
  refine CallR_imp call_tuple_of ?_
  rintro xs H Q ⟨ds, z, s1, z1, e, k⟩
  match ds, e with
  | [.lst ds], e =>
    simp only [tupleD] at e
    split at e
    · rename_i c
      cases e
      obtain ⟨v, rfl, a, vs, rfl, ha, sl⟩ := SeeL.one s1
      exact ⟨a, vs, rfl, .inl ⟨.of ha, fun p hp => k _ _ (upd_sub hp) z1.1 fun l r => Rl.freshTup c sl hp r⟩⟩
    · cases e
  | [.tup ds], e =>
    simp only [tupleD] at e
    split at e
    · rename_i c
      cases e
      obtain ⟨v, rfl, a, vs, rfl, ha, sl⟩ := SeeL.one s1
      exact ⟨a, vs, rfl, .inr ⟨.of ha, k _ _ (.refl _) z1.1 fun l r => Rl.imm (by simpa only [isImm] using c) ⟨a, vs, rfl, ha, sl⟩ r⟩⟩
    · cases e

/-! sorted -/
theorem each_of {H : Hp} : ∀ {ds : List D} {vs : List V} {us : List Value}, SeeL G H ds vs → Vals vs us → EachIs (fun u d => ∃ x, RelV x u ∧ See G H d x) us ds
  | [], _, _, q, r => by cases q; cases r; exact .nil
  | d :: ds, _, _, ⟨v, w, e, q, t⟩, r => by
    subst e
    cases r with
    | cons r1 r2 => exact .cons ⟨v, r1, q⟩ (each_of t r2)
theorem each_back {H : Hp} : ∀ {ds : List D} {us : List Value}, EachIs (fun u d => ∃ x, RelV x u ∧ See G H d x) us ds → ∃ vs, Vals vs us ∧ SeeL G H ds vs
  | _, _, .nil => ⟨[], .nil, rfl⟩
  | _, _, .cons ⟨x, r, q⟩ t => by
    obtain ⟨vs, r', q'⟩ := each_back t
    exact ⟨x :: vs, .cons r r', x, vs, rfl, q, q'⟩
theorem each_reads {pins : List (Addr × Obj)} {σ : L2.St} {H : Hp} {s : Shared} (hK : X.K = G.K) (I : Inv X pins σ H s) : ∀ {ds : List D} {us : List Value}, (∀ d ∈ ds, okD d = true) → EachIs (fun u d => ∃ x, RelV x u ∧ See G H d x) us ds → EachIs (fun v d => ∃ as, Reads s.heap v (py d) as) us ds
  | _, _, _, .nil => .nil
  | _, _, ok, .cons ⟨x, r, q⟩ t => .cons (Dp.reads I _ x _ (hK ▸ q.dp (okD_l (ok _ List.mem_cons_self))) r) (each_reads hK I (fun d hd => ok d (List.mem_cons_of_mem _ hd)) t)
theorem pyL_map : ∀ ds : List D, pyL ds = ds.map py
  | [] => rfl
  | d :: ds => by show py d :: pyL ds = _; rw [pyL_map ds]; rfl
theorem isImmL_mem : ∀ {ds : List D}, isImmL ds = true ↔ ∀ d ∈ ds, isImm d = true
  | [] => by simp [isImmL]
  | d :: ds => by simp only [isImmL, Bool.and_eq_true, isImmL_mem (ds := ds), List.forall_mem_cons]
theorem leB_dataLe : dataLe false py = leB := by
  rw [PySem.W.dataLe_eq]
  rfl
section
open PySem.W PySem.Calls
variable {prog : Program} {w : World} {A : Around} {s : Shared}
theorem call_tuple_lt {E : Value → Shared → Prop} {Q : Value → Shared → Prop} {l b : Addr} {items items2 : Array Value} {e r : Nat → Bool} (hl : s.heap.IsTuple l items) (hb : s.heap.IsTuple b items2)
    (he : ∀ j (h1 : j < items.size) (h2 : j < items2.size), SeqAt.EqAt A.in1 s items[j] items2[j] (e j)) (hr : ∀ j (h1 : j < items.size) (h2 : j < items2.size), e j = false → SeqAt.RcLt A.in1 s items[j] items2[j] (r j))
    (h : Q (.bool (SeqAt.firstLt e r (decide (items.size < items2.size)) (List.range (min items.size items2.size)))) s) : wpAny (model prog w) A (call (.builtin "tuple.__lt__") [.ref l, .ref b]) Q E s := by
  obtain ⟨⟨cls, dd, data, sl⟩, ho, hc, n, hd⟩ := id hl
  obtain ⟨⟨cls2, dd2, data2, sl2⟩, ho2, hc2, n2, hd2⟩ := id hb
  simp only at hc hd hc2 hd2
  subst hc hd hc2 hd2
  exact call_meets PySem.F.slot_tuple_lt ⟨_, ho, rfl⟩ PySem.F.entry_tuple_lt (PySem.F.args_tuple_lt_2 _ _) (SeqAt.tuple_ltAt l b items items2 n n2 dd dd2 sl sl2 e r) ⟨ho, ho2, he, hr, h⟩
theorem oneLt_tup {E : Value → Shared → Prop} {xs ys : List PyData} {a b : Value} {as bs : List Addr} {Q : Bool → Shared → Prop} (ra : Reads s.heap a (.tuple xs) as) (rb : Reads s.heap b (.tuple ys) bs) (h : alike (.tuple xs) (.tuple ys) = true)
    (hu : A.units + min (PyData.tuple xs).depth (PyData.tuple ys).depth < cLine) (hq : Q (dataLt (.tuple xs) (.tuple ys)) s) : wpAny (model prog w) A (oneLt' true a b) Q E s := by
  have hal : alikeAll xs ys = true := by simpa [alike] using h
  cases ra with
  | @tuple l o vs n _ as₁ h1 h2 h3 h4 =>
    cases rb with
    | @tuple l' o' vs' n' _ bs₁ k1 k2 k3 k4 =>
      have n1 : vs.size = xs.length := by simpa using SeqAt.ReadsAll.length _ _ _ h4
      have n2 : vs'.size = ys.length := by simpa using SeqAt.ReadsAll.length _ _ _ k4
      rw [dataLt_tuple, ← firstLt_toks xs ys hal, ← n1, ← n2] at hq
      rw [oneLt'_eq]
      simp only [if_true]
      refine wpAny_bind (wpAny_cRoomFor (SeqAt.room_here hu) ?_)
      refine wpAny_bind (wpAny_callSpecialIfBound?_slot (T := "tuple") ⟨_, h1, h2⟩ PySem.F.slot_tuple_lt (call_tuple_lt (e := SeqAt.pairEq xs ys) (r := fun j => dataLt (xs.getD j .none) (ys.getD j .none)) ⟨_, h1, h2, _, h3⟩ ⟨_, k1, k2, _, k3⟩ (fun j j1 j2 => ?_) (fun j j1 j2 hj => ?_) ?_))
      · have := eqAt_alikeAll xs ys A.in1 s vs.toList vs'.toList _ _ h4 k4 hal (SeqAt.room_in hu) j (by simpa using j1) (by simpa using j2)
        simpa using this
      · have := rcLt_alikeAll xs ys A.in1 s vs.toList vs'.toList _ _ h4 k4 hal (SeqAt.room_in hu) j (by simpa using j1) (by simpa using j2) hj
        simpa using this
      · exact wpAny_truthy_bool hq
def ne0 : PyData → Bool
  | .tuple (_ :: _) => true
  | _ => false
theorem firsts_any {E : Value → Shared → Prop} : ∀ {vs : List Value} {ds : List PyData} {Q : List (Option Value) → Shared → Prop}, EachIs (fun v d => ∃ as, Reads s.heap v d as) vs ds → (∀ d ∈ ds, ∃ xs, d = PyData.tuple xs) → (∀ fs : List (Option Value), fs.map (·.isSome) = ds.map ne0 → Q fs s) → wpAny (model prog w) A (vs.mapM firstOfTuple') Q E s
  | _, _, _, .nil, _, h => by rw [List.mapM_nil]; exact wpAny_pure (h [] rfl)
  | v :: vs, d :: ds, Q, .cons ⟨as, r⟩ t, ht, h => by
    obtain ⟨xs, rfl⟩ := ht d List.mem_cons_self
    rw [List.mapM_cons]
    refine wpAny_bind ?_
    rw [kas_first_eq]
    refine wpAny_bind ((looks_reads r).here ?_)
    have hT : ¬ ((dataType (.tuple xs) != Value.type "tuple") = true) := by simp [dataType]
    rw [if_neg hT]
    cases r with
    | @tuple l o us n _ as₁ h1 h2 h3 h4 =>
      refine wpAny_bind (listItems_at h1 h3 (wpAny_pure ?_))
      refine wpAny_bind (firsts_any (Q := fun bs s' => wpAny (model prog w) A (pure (us[0]? :: bs)) Q E s') t (fun d hd => ht d (List.mem_cons_of_mem _ hd)) fun fs hfs => wpAny_pure (h _ ?_))
      rw [List.map_cons, List.map_cons, hfs]
      congr 1
      have n1 : us.size = xs.length := by simpa using SeqAt.ReadsAll.length _ _ _ h4
      cases xs with
      | nil =>
        have : us.size = 0 := by simpa using n1
        have e : us[0]? = none := by rw [Array.getElem?_eq_none]; omega
        rw [e]
        rfl
      | cons x xs =>
        have h0 : 0 < us.size := by rw [n1]; simp
        rw [Array.getElem?_eq_getElem h0]
        rfl
theorem sortsAt_mix {vs : List Value} {ds : List PyData} (e : EachIs (fun v d => ∃ as, Reads s.heap v d as) vs ds) (hal : AllAlike ds) (ht : ∀ d ∈ ds, ∃ xs, d = PyData.tuple xs) (hn : PyData.tuple [] ∈ ds) (hu : ∀ d ∈ ds, A.units + d.depth < cLine) : SortsAt prog w A s (dataKind s.heap ds) vs := by
  have room : ∀ {d d' : PyData}, d ∈ ds → A.units + min d.depth d'.depth < cLine := fun {d d'} hd => Nat.lt_of_le_of_lt (Nat.add_le_add_left (Nat.min_le_left _ _) _) (hu d hd)
  refine ⟨fun v hv => ?_, ?_⟩
  · obtain ⟨d, hd, as, r⟩ := e.left v hv
    exact ⟨_, dataKind_some hal hd r⟩
  · have kind : ∀ kd, (2 ≤ vs.length → (if ne0 (ds.headD .none) = true then kd = general' else kd = oneType')) → 2 ≤ vs.length → ∀ (E : Value → Shared → Prop) {Q : SortKind → Shared → Prop}, Q kd s → wpAny (model prog w) A (keyKind' vs.toArray) Q E s := fun kd hk h2 E Q hq => by
      have hk := hk h2
      rw [keyKind'_eq, List.mapM_toArray, map_eq_pure_bind]
      refine wpAny_bind (wpAny_bind (firsts_any e ht fun fs hfs => wpAny_pure ?_))
      have hall : (fs.toArray.all fun x => x.isSome) = false := by
        rw [Bool.eq_false_iff]
        intro q
        have q2 : (fs.map (·.isSome)).all id = true := by simpa using q
        rw [hfs, List.all_map, List.all_eq_true] at q2
        have := q2 _ hn
        cases this
      have h0 : ((fs.toArray[0]?).bind id).isSome = ne0 (ds.headD .none) := by
        cases ds with
        | nil => cases hn
        | cons d ds =>
          cases fs with
          | nil => cases hfs
          | cons f fs =>
            have h1 : f.isSome = ne0 d := (List.cons.inj hfs).1
            simpa using h1
      rw [if_neg (by rw [hall]; exact Bool.false_ne_true), h0]
      cases hc : ne0 (ds.headD .none) with
      | true =>
        rw [if_pos rfl]
        rw [hc, if_pos rfl] at hk
        subst hk
        exact wpAny_pure hq
      | false =>
        rw [if_neg Bool.false_ne_true]
        rw [hc, if_neg Bool.false_ne_true] at hk
        subst hk
        have hT : ∀ v ∈ vs, Looks (model prog w) s.heap (typeOf v) (Value.type "tuple") := fun v hv => by
          obtain ⟨d, hd, as, r⟩ := e.left v hv
          obtain ⟨xs, rfl⟩ := ht d hd
          exact looks_reads r
        have hT2 : (Value.type "tuple" == Value.type "tuple") = true := beq_self_eq_true _
        obtain ⟨v₁, v₂, rest, rfl⟩ : ∃ v₁ v₂ rest, vs = v₁ :: v₂ :: rest := by
          match vs, h2 with
          | [], h2 => simp at h2
          | [_], h2 => simp at h2
          | v₁ :: v₂ :: rest, _ => exact ⟨v₁, v₂, rest, rfl⟩
        rw [oneTypeOnly'_eq, List.mapM_toArray, map_eq_pure_bind]
        refine wpAny_bind (wpAny_bind (wpAny_bind (kas_mapM (r := Value.type "tuple") _ (fun v hv Q' hq => (hT v hv).here hq) (wpAny_pure ?_))))
        have hall2 : ((List.map (fun _ => Value.type "tuple") (v₁ :: v₂ :: rest)).toArray.all fun x => x == Value.type "tuple") = true := by
          simp only [List.all_toArray, List.all_map, List.all_eq_true]
          intro _ _
          exact hT2
        have h02 : (List.map (fun _ => Value.type "tuple") (v₁ :: v₂ :: rest)).toArray[0]? = some (Value.type "tuple") := by simp
        rw [h02]
        simp only [hall2, if_true]
        exact wpAny_pure (wpAny_pure hq)
    by_cases hc : ne0 (ds.headD .none) = true
    · refine ⟨general', ?_, kind general' fun _ => by rw [if_pos hc]⟩
      intro E x y a b Q ha hb hq
      obtain ⟨d, as, hd, ra, rfl⟩ := dataKind_inv ha
      obtain ⟨d', as', hd', rb, rfl⟩ := dataKind_inv hb
      obtain ⟨xs, rfl⟩ := ht d hd
      show wpAny (model prog w) A (oneLt' false _ _) _ _ _
      exact oneLt_alike (fun h => nomatch h) ra rb (hal _ hd _ hd') (fun h => nomatch h) (room hd) hq
    · refine ⟨oneType', ?_, kind oneType' fun _ => by rw [if_neg hc]⟩
      intro E x y a b Q ha hb hq
      obtain ⟨d, as, hd, ra, rfl⟩ := dataKind_inv ha
      obtain ⟨d', as', hd', rb, rfl⟩ := dataKind_inv hb
      obtain ⟨xs, rfl⟩ := ht d hd
      obtain ⟨ys, rfl⟩ := ht d' hd'
      rw [keyLt'_oneType]
      exact oneLt_tup ra rb (hal _ hd _ hd') (room hd) hq
end
/-- a value's items, as collect takes them -/
def Src (prog : Program) (w : World) (s : Shared) (l : Addr) (vs : List Value) : Prop := ∀ (A : Around) (E : Value → Shared → Prop) (Q : List Value → Shared → Prop), Q vs { s with heap := (s.heap.push (seqObj "list" #[] 0)).update s.heap.objs.size (Obj.mapSeq (· ++ vs.toArray)) } → vs.length ≤ sizeLine → wpAny (model prog w) A (collect (.ref l)) Q E s
theorem src_list {prog : Program} {w : World} {s : Shared} {l : Addr} {vs : List Value} (hl : s.heap.IsList l vs.toArray) : Src prog w s l vs := fun A E Q h hsz => PyProof.Rows.collect_list hl h hsz
theorem src_tup {prog : Program} {w : World} {s : Shared} {l : Addr} {vs : List Value} {o : Obj} {n : Nat} (ho : s.heap.get? l = some o) (hc : o.cls = .type "tuple") (hd : o.data = .seq vs.toArray n) : Src prog w s l vs := fun A E Q h hsz => by
  unfold collect
  refine wpAny_bind (wpAny_runValue (codeAny_builtin entry_proto_collect' ?_))
  show wpAny _ _ (do again (.builtin "list.__iadd__" ⟨[← newList [], .ref l], []⟩)) _ _ s
  refine wpAny_bind (wpAny_newList (wpAny_pure ⟨Code.quiet_builtin _ (by decide +kernel), codeAny_builtin entry_list_iadd' ?_⟩))
  show wpAny _ _ (Builtin.List.listExtendWith (.ref s.heap.objs.size) (.ref l) (.ref s.heap.objs.size)) _ _ { s with heap := s.heap.push (seqObj "list" #[] 0) }
  unfold Builtin.List.listExtendWith
  have ho' : (s.heap.push (seqObj "list" #[] 0)).get? l = some o := Heap.get?_push_of_some _ ho
  refine wpAny_bind (wpAny_typeOf (T := "tuple") ⟨o, ho', hc⟩ ?_)
  have ht : (Value.type "tuple" == Value.type "tuple") = true := by rfl
  rw [if_pos (by rw [ht]; simp)]
  refine wpAny_bind (listItems_at ho' hd ?_)
  refine wpAny_bind (listItems_at (xs := #[]) (n := 0) (Heap.get?_push_size _ rfl) rfl ?_)
  rw [if_neg (by simp)]
  refine wpAny_bind (listUpdate_at (xs := #[]) (n := 0) (Heap.get?_push_size _ rfl) rfl ?_ (Nat.zero_le _) (by show (#[] ++ vs.toArray).size ≤ sizeLine + 1; simp only [Array.size_append, List.size_toArray, List.length_nil]; omega))
  refine wpAny_pure ?_
  show wpAny (model prog w) A (do
      let o ← load s.heap.objs.size
      match o.data with
      | .seq xs _ => pure xs.toList
      | _ => unsupported "internal:collect") Q E { s with heap := (s.heap.push (seqObj "list" #[] 0)).update s.heap.objs.size (Obj.mapSeq (· ++ vs.toArray)) }
  refine wpAny_bind (wpAny_load (get?_update_seq (Heap.get?_push_size _ rfl) _) ?_)
  show wpAny _ _ (pure ((#[] : Array Value) ++ vs.toArray).toList) Q E _
  rw [show ((#[] : Array Value) ++ vs.toArray).toList = vs by simp]
  exact wpAny_pure h
section
open PySem.W PySem.Calls
theorem src_sort {prog : Program} {w : World} {A : Around} {E : Value → Shared → Prop} {s : Shared} {l : Addr} {vs : List Value} {Q : Value → Shared → Prop} (hl : Src prog w s l vs) (hL : vs.length ≤ sizeLine)
    (body : ∀ E' : Value → Shared → Prop, wpAny (model prog w) A.in1.in1 (Builtin.«list.sort» ⟨[.ref (s.heap.objs.size + 1)], []⟩) (fun f s' => f = .done (.ret .none) ∧ Q (.ref (s.heap.objs.size + 1)) s') E' { s with heap := copyHeap s.heap vs }) :
    wpAny (model prog w) A (call (.builtin "sorted") [.ref l]) Q E s := by
  refine call_function_entry_kw kind_sorted plain_sorted entry_sorted (args_sorted1 _) ?_
  unfold Builtin.«sorted»
  refine wpAny_bind (m := checkCount "sorted" 1 1 _) (wpAny_pure ?_)
  refine wpAny_bind (hl _ _ _ ?_ hL)
  refine wpAny_bind (wpAny_newList ?_ hL)
  have hsz : ((s.heap.push (seqObj "list" #[] 0)).update s.heap.objs.size (Obj.mapSeq (· ++ vs.toArray))).objs.size = s.heap.objs.size + 1 := by
    rw [Heap.size_update, size_push']
  show wpAny _ _ _ _ _ { s with heap := copyHeap s.heap vs }
  rw [hsz]
  refine wpAny_bind (wpAny_holding (wpAny_call_entry_kw slot_list_sort ⟨_, copyHeap_at s.heap vs, rfl⟩ entry_list_sort ?body (args_list_sort _)))
  case body =>
    show wpAny (model prog w) A.in1.in1 (Builtin.«list.sort» ⟨[.ref (s.heap.objs.size + 1)], []⟩) _ _ _
    refine wpAny_mono (body _) (fun f s' hf => ?_) fun _ _ e => e
    obtain ⟨rfl, hq⟩ := hf
    exact ⟨_, rfl, wpAny_pure ⟨_, rfl, hq⟩⟩
theorem src_vals {prog : Program} {w : World} {A : Around} {E : Value → Shared → Prop} {s : Shared} {κ : PyProof.Rows.KeyKind} {l : Addr} {vs : List Value} {Q : Value → Shared → Prop} (hl : Src prog w s l vs) (S : SortsAt prog w A.in1.in1 { s with heap := sortingHeap (copyHeap s.heap vs) (s.heap.objs.size + 1) vs } κ vs) (hL : vs.length ≤ sizeLine)
    (h : Q (.ref (s.heap.objs.size + 1)) { s with heap := sortedAll s.heap vs (sortVals κ false vs vs).toArray }) : wpAny (model prog w) A (call (.builtin "sorted") [.ref l]) Q E s :=
  src_sort hl hL fun _ => list_sort_vals (s := { s with heap := copyHeap s.heap vs }) (copyHeap_at s.heap vs) S hL ⟨rfl, h⟩
theorem src_data {prog : Program} {w : World} {A : Around} {E : Value → Shared → Prop} {s : Shared} {β : Type} {R : Value → β → Prop} {vs : List Value} {bs : List β} {enc : β → PyData} {l : Addr} {Q : Value → Shared → Prop} (hl : Src prog w s l vs) (e : EachIs R vs bs) (er : EachIs (fun v b => ∃ as, Reads s.heap v (enc b) as) vs bs) (hal : AllAlike (bs.map enc)) (hk : Sortable (bs.map enc)) (hL : bs.length ≤ sizeLine)
    (hu : ∀ b, b ∈ bs → A.units + 2 + (enc b).depth < cLine) (h : ∀ out, out.length = bs.length → EachIs R out (bs.mergeSort (dataLe false enc)) → Q (.ref (s.heap.objs.size + 1)) { s with heap := sortedAll s.heap vs (List.toArray out) }) :
    wpAny (model prog w) A (call (.builtin "sorted") [.ref l]) Q E s := by
  have er' : EachIs (fun v b => ∃ as, Reads (sortingHeap (copyHeap s.heap vs) (s.heap.objs.size + 1) vs) v (enc b) as) vs bs := er.mono fun _ _ ⟨as, r⟩ => ⟨as, PyProof.Rows.Reads.keeps (fun _ _ => sorting_copy_old) r⟩
  exact src_vals hl (SortsAt.data (s := { s with heap := sortingHeap (copyHeap s.heap vs) (s.heap.objs.size + 1) vs }) (each_map (R := fun v d => ∃ as, Reads (sortingHeap (copyHeap s.heap vs) (s.heap.objs.size + 1) vs) v d as) enc er') hal hk (bound_map hu)) (by rw [e.length]; exact hL)
    (h _ (by rw [sortVals_length false rfl]; exact e.length) (sortVals_data false e er' hal))
end
theorem sorted_data' {prog : Program} {w : World} {A : Around} {E : Value → Shared → Prop} {s : Shared} {vs : List Value} {ds : List D} {R : Value → D → Prop} {l : Addr} {Q : Value → Shared → Prop} (hl : Src prog w s l vs) (e : EachIs R vs ds) (er : EachIs (fun v d => ∃ as, Reads s.heap v (py d) as) vs ds) (hal : AllAlike (ds.map py)) (hk : Sortable (ds.map py) ∨ mixTup ds = true) (hL : ds.length ≤ sizeLine)
    (hu : ∀ d, d ∈ ds → A.units + 2 + (py d).depth < cLine) (h : ∀ out, out.length = ds.length → EachIs R out (ds.mergeSort (PySem.W.dataLe false py)) → Q (.ref (s.heap.objs.size + 1)) { s with heap := PyProof.Rows.sortedAll s.heap vs (List.toArray out) }) :
    wpAny (model prog w) A (call (.builtin "sorted") [.ref l]) Q E s := by
  rcases hk with hk | hk
  · exact src_data (enc := py) hl e er hal hk hL hu h
  · obtain ⟨h1, h2⟩ := mixTup_py hk
    have er' : EachIs (fun v b => ∃ as, Reads (PySem.W.sortingHeap (PySem.W.copyHeap s.heap vs) (s.heap.objs.size + 1) vs) v (py b) as) vs ds := er.mono fun _ _ ⟨as, r⟩ => ⟨as, PyProof.Rows.Reads.keeps (fun _ _ => PySem.W.sorting_copy_old) r⟩
    exact src_vals hl (sortsAt_mix (s := { s with heap := PySem.W.sortingHeap (PySem.W.copyHeap s.heap vs) (s.heap.objs.size + 1) vs }) (PySem.W.each_map (R := fun v d => ∃ as, Reads (PySem.W.sortingHeap (PySem.W.copyHeap s.heap vs) (s.heap.objs.size + 1) vs) v d as) py er') hal h1 h2 (PySem.W.bound_map hu)) (by rw [e.length]; exact hL)
      (h _ (by rw [PySem.W.sortVals_length false rfl]; exact e.length) (PySem.W.sortVals_data false e er' hal))
theorem sorted_fin (hK : X.K = G.K) (hu : X.A.units + 100 < cLine) {pins : List (Addr × Obj)} {s : Shared} {σ : L2.St} {H : Hp} {a : Addr} {ds : List D} {vs : List V} {its : List Value} {Q : VK} (I : Inv X pins σ H s) (sl : SeeL G H ds vs) (rv : Vals vs its) (hz : vs.length ≤ sizeLine) (src : Src X.prog X.w s a its) (c : sortOk ds = true) (z1 : (ds.length ≤ sizeLine ∧ szL ds) ∧ True)
    (k : ∀ v H', Sub H H' → szD (.lst (ds.mergeSort leB)) → (∀ l, Rl G l H → Rl G (.it v B (.lst (ds.mergeSort leB)) :: l) H') → Q v H') : wpAny (model X.prog X.w) X.A (call (.builtin "sorted") [.ref a]) (EP X pins σ Q) X.xe s := by
  have c1 := bool_and c
  have c2 := bool_and c1.1
  have c3 := bool_and c2.1
  have ok : ∀ d ∈ ds, okD d = true := fun d hd => List.all_eq_true.mp c3.2 d hd
  have E := each_of sl rv
  have Er : EachIs (fun v d => ∃ as, Reads s.heap v (py d) as) its ds := each_reads hK I ok E
  have al : AllAlike (ds.map py) := fun d hd d' hd' => by
    obtain ⟨x, hx, rfl⟩ := List.mem_map.mp hd
    obtain ⟨y, hy, rfl⟩ := List.mem_map.mp hd'
    exact List.all_eq_true.mp (List.all_eq_true.mp c2.2 x hx) y hy
  have so : Sortable (ds.map py) ∨ mixTup ds = true := by
    rcases Bool.or_eq_true_iff.mp c1.2 with q | q
    rotate_left
    · exact .inr q
    left
    rcases Bool.or_eq_true_iff.mp q with q | q
    · refine .inl fun d hd => ?_
      obtain ⟨x, hx, rfl⟩ := List.mem_map.mp hd
      have := List.all_eq_true.mp q x hx
      match x, this with
      | .tup (y :: l), _ => exact ⟨py y, pyL l, rfl⟩
    · refine .inr fun d hd => ?_
      obtain ⟨x, hx, rfl⟩ := List.mem_map.mp hd
      have := List.all_eq_true.mp q x hx
      have pl := okD_l (ok x hx)
      cases x with
      | non => cases this
      | tup l => cases this
      | dct _ _ _ => cases pl
      | obj _ _ => cases pl
      | scr _ => cases pl
      | nst _ => cases pl
      | _ => exact ⟨(fun e => nomatch e), (fun l e => nomatch e)⟩
  have dep : ∀ d, d ∈ ds → X.A.units + 2 + (py d).depth < cLine := fun d hd => by
    have := SeqAt.depth_of_shaped (okD_r (ok d hd))
    omega
  refine sorted_data' src E Er al so (by rw [← sl.length]; exact hz) dep fun out h1 h2 => ?_
  rw [leB_dataLe] at h2
  obtain ⟨ws, r1, r2⟩ := each_back h2
  obtain ⟨ep, he'⟩ := PyProof.Rows.sortedAll_at s.heap its out.toArray
  have lw : ws.length ≤ sizeLine := by rw [r2.length, List.length_mergeSort, ← sl.length]; exact hz
  have im : isImmL (ds.mergeSort leB) = true := isImmL_mem.mpr fun d hd => isImmL_mem.mp c3.1 d (List.mem_mergeSort.mp hd)
  have hp : H (s.heap.objs.size + 1) = none := I.hok.fresh (Nat.le_succ _)
  refine ⟨.ref (s.heap.objs.size + 1), upd H (s.heap.objs.size + 1) (.lst ws), I.laid (t' := s.toks) (fun _ _ => PyProof.Rows.sortedAll_old) (Nat.le_succ _) ⟨lw, out, ep, r1, he'⟩, rfl, ?_⟩
  refine k _ _ (upd_sub hp) ⟨by rw [List.length_mergeSort]; exact z1.1.1, szL_mem.mpr fun d hd => szL_mem.mp z1.1.2 d (List.mem_mergeSort.mp hd)⟩ fun l r => Rl.freshLst im r2 hp r
theorem c_sorted (hK : X.K = G.K) (hu : X.A.units + 100 < cLine) : CallR X (.builtin "sorted") (rCD G sortedD) := by
  rintro pins s σ H xs us Q I r ⟨ds, z, s1, z1, e, k⟩
  match ds, e with
  | [.lst ds], e =>
    simp only [sortedD] at e
    split at e
    · rename_i c
      cases e
      obtain ⟨v, rfl, a, vs, rfl, ha, sl⟩ := SeeL.one s1
      obtain ⟨its, rv, hl, hz⟩ := I.list (SqL.of ha)
      obtain ⟨u, rfl, rx⟩ := vals1 r
      obtain rfl : u = .ref a := rx
      exact sorted_fin hK hu I sl rv hz (src_list hl.isList) c z1 k
    · cases e
  | [.tup ds], e =>
    simp only [sortedD] at e
    split at e
    · rename_i c
      cases e
      obtain ⟨v, rfl, a, vs, rfl, ha, sl⟩ := SeeL.one s1
      obtain ⟨its, rv, ⟨o, h1, h2, n, h3⟩, hz⟩ := I.tuple (SqT.of ha)
      obtain ⟨u, rfl, rx⟩ := vals1 r
      obtain rfl : u = .ref a := rx
      exact sorted_fin hK hu I sl rv hz (src_tup h1 h2 h3) c z1 k
    · cases e
end
end Pv
/-! PvP: places: a slot and a way down from it. -/
namespace Pv
open PySem PySem.Spec PyProof.Rows L2
open PySem.W (alike dataLt)

def kids : D → List D
  | .tup ds => ds
  | .lst ds => ds
  | .dct _ _ ds => ds
  | .obj _ ds => ds
  | .scr ns => ns.map .int
  | _ => []
def mutD : D → Bool
  | .lst _ => true
  | .dct _ _ _ => true
  | .obj _ _ => true
  | _ => false
def pathGet : D → List Nat → Option D
  | d, [] => some d
  | d, j :: p => match (kids d)[j]? with
    | some k => pathGet k p
    | none => none
def lev : D → List Nat → Nat
  | _, [] => 0
  | d, j :: p => match (kids d)[j]? with
    | some k => if mutD d then lev k p + 1 else lev k p
    | none => 0
/-- the j-th below v, where d stands -/
def Kid (G : Gt) (H : Hp) : D → V → Nat → V → Prop
  | .tup _, v, j, u => ∃ a vs, v = .ref a ∧ H a = some (.tup vs) ∧ vs[j]? = some u
  | .lst _, v, j, u => ∃ a vs, v = .ref a ∧ H a = some (.lst vs) ∧ vs[j]? = some u
  | .dct t ks _, v, j, u => ∃ a vs o, v = .ref a ∧ DO t ks vs o ∧ Rd H a o ∧ vs[j]? = some u
  | .obj c _, v, j, u => ∃ a dx fs nm, v = .ref a ∧ H a = some (.ins (G.ca c) dx fs) ∧ fs[j]? = some (nm, u)
  | .scr ns, v, j, u => ∃ a n, v = .ref a ∧ SqL G.K H a (ns.map V.int) ∧ ns[j]? = some n ∧ u = .int n
  | _, _, _, _ => False
def Fol (G : Gt) (H : Hp) : D → V → List Nat → V → Prop
  | _, v, [], w => v = w
  | d, v, j :: p, w => ∃ u k, Kid G H d v j u ∧ (kids d)[j]? = some k ∧ Fol G H k u p w
section
variable {G : Gt} {H H' : Hp}
theorem Kid.mono (s : Sub H H') {d : D} {v u : V} {j : Nat} (h : Kid G H d v j u) : Kid G H' d v j u := by
  cases d with
  | tup ds => obtain ⟨a, vs, e, q, r⟩ := h; exact ⟨a, vs, e, s _ _ q, r⟩
  | lst ds => obtain ⟨a, vs, e, q, r⟩ := h; exact ⟨a, vs, e, s _ _ q, r⟩
  | dct t ks ds => obtain ⟨a, vs, o, e, d, q, r⟩ := h; exact ⟨a, vs, o, e, d, rd_sub s q, r⟩
  | obj c ds => obtain ⟨a, dx, fs, nm, e, q, r⟩ := h; exact ⟨a, dx, fs, nm, e, s _ _ q, r⟩
  | scr ns => obtain ⟨a, n, e, q, r⟩ := h; exact ⟨a, n, e, (Fle.of s).sqL q, r⟩
  | _ => exact h
theorem Fol.mono (s : Sub H H') : ∀ {p : List Nat} {d : D} {v w : V}, Fol G H d v p w → Fol G H' d v p w
  | [], _, _, _, h => h
  | j :: p, _, _, _, ⟨u, k, a, b, c⟩ => ⟨u, k, a.mono s, b, Fol.mono s c⟩
theorem zip_get {α β : Type} : ∀ {xs : List α} {ys : List β} {j : Nat} {a : α} {b : β}, (xs.zip ys)[j]? = some (a, b) → xs[j]? = some a ∧ ys[j]? = some b
  | [], ys, j, _, _, h => by cases ys <;> cases j <;> cases h
  | x :: xs, [], j, _, _, h => by cases j <;> cases h
  | x :: xs, y :: ys, 0, _, _, h => by cases h; exact ⟨rfl, rfl⟩
  | x :: xs, y :: ys, j + 1, _, _, h => zip_get (xs := xs) (ys := ys) (j := j) h
theorem zip_mk {α β : Type} : ∀ {xs : List α} {ys : List β} {j : Nat} {a : α} {b : β}, xs[j]? = some a → ys[j]? = some b → (xs.zip ys)[j]? = some (a, b)
  | [], _, _, _, _, h, _ => by cases h
  | _ :: _, [], _, _, _, _, h => by cases h
  | x :: xs, y :: ys, 0, _, _, h, k => by cases h; cases k; rfl
  | x :: xs, y :: ys, j + 1, _, _, h, k => zip_mk (xs := xs) (ys := ys) (j := j) h k
theorem SqL.uniq {K : PySem.W.Frag} {a : Addr} {xs ys : List V} (h : Rd H a (.lst xs)) (k : Rd H a (.lst ys)) : xs = ys := by
  rcases h with h | ⟨o, h⟩ <;> rcases k with k | ⟨o', k⟩ <;> rw [h] at k <;> cases k <;> rfl
theorem Kid.det {d : D} {v u u' : V} {j : Nat} (h : Kid G H d v j u) (k : Kid G H d v j u') : u = u' := by
  cases d with
  | tup ds =>
    obtain ⟨a, vs, rfl, q, r⟩ := h
    obtain ⟨a', vs', e, q', r'⟩ := k
    cases e; rw [q] at q'; cases q'; rw [r] at r'; exact Option.some.inj r'
  | lst ds =>
    obtain ⟨a, vs, rfl, q, r⟩ := h
    obtain ⟨a', vs', e, q', r'⟩ := k
    cases e; rw [q] at q'; cases q'; rw [r] at r'; exact Option.some.inj r'
  | dct t ks ds =>
    obtain ⟨a, vs, o, rfl, d, q, r⟩ := h
    obtain ⟨a', vs', o', e, d', q', r'⟩ := k
    cases e
    obtain rfl := Rd.uniq q d q' d'
    obtain rfl := d.vals d'
    rw [r] at r'; exact Option.some.inj r'
  | obj c ds =>
    obtain ⟨a, dx, fs, nm, rfl, q, r⟩ := h
    obtain ⟨a', dx', fs', nm', e, q', r'⟩ := k
    cases e; rw [q] at q'; cases q'; rw [r] at r'; exact (Prod.mk.inj (Option.some.inj r')).2
  | scr ns =>
    obtain ⟨a, n, rfl, q, r, rfl⟩ := h
    obtain ⟨a', n', e, q', r', rfl⟩ := k
    rw [r] at r'; cases r'; rfl
  | _ => exact h.elim
theorem Fol.det : ∀ {p : List Nat} {d : D} {v w w' : V}, Fol G H d v p w → Fol G H d v p w' → w = w'
  | [], _, _, _, _, h, k => h.symm.trans k
  | j :: p, _, _, _, _, ⟨u, k, a, b, c⟩, ⟨u', k', a', b', c'⟩ => by
    obtain rfl := a.det a'
    rw [b] at b'; cases b'
    exact Fol.det c c'
theorem Kid.see {d k : D} {v u : V} {j : Nat} (s : See G H d v) (e : (kids d)[j]? = some k) (h : Kid G H d v j u) : See G H k u := by
  cases d with
  | tup ds =>
    obtain ⟨a, vs, rfl, q, r⟩ := h
    obtain ⟨a', vs', e', q', r'⟩ := s
    cases e'; rw [q] at q'; cases q'
    obtain ⟨w, h1, h2⟩ := SeeL.get r' e
    rw [r] at h1; cases h1; exact h2
  | lst ds =>
    obtain ⟨a, vs, rfl, q, r⟩ := h
    obtain ⟨a', vs', e', q', r'⟩ := s
    cases e'; rw [q] at q'; cases q'
    obtain ⟨w, h1, h2⟩ := SeeL.get r' e
    rw [r] at h1; cases h1; exact h2
  | dct t ks ds =>
    obtain ⟨a, vs, o, rfl, d, q, r⟩ := h
    obtain ⟨a', vs', o', e', d', q', r'⟩ := s
    cases e'
    obtain rfl := Rd.uniq q d q' d'
    obtain rfl := d.vals d'
    obtain ⟨w, h1, h2⟩ := SeeL.get r' e
    rw [r] at h1; cases h1; exact h2
  | obj c ds =>
    obtain ⟨a, dx, fs, nm, rfl, q, r⟩ := h
    obtain ⟨a', dx', vs', e', q', r'⟩ := s
    cases e'; rw [q] at q'; cases q'
    obtain ⟨w, h1, h2⟩ := SeeL.get r' e
    have := (zip_get r).2
    rw [this] at h1; cases h1; exact h2
  | scr ns =>
    obtain ⟨a, n, rfl, q, r, rfl⟩ := h
    have : (ns.map D.int)[j]? = some k := e
    rw [List.getElem?_map, r] at this
    cases this
    rfl
  | _ => exact h.elim
theorem Fol.see : ∀ {p : List Nat} {d e : D} {v w : V}, See G H d v → pathGet d p = some e → Fol G H d v p w → See G H e w
  | [], _, _, _, _, s, e, h => by cases e; cases h; exact s
  | j :: p, _, _, _, _, s, e, ⟨u, k, a, b, c⟩ => by
    unfold pathGet at e
    rw [b] at e
    exact Fol.see (a.see s b) e c
theorem Fol.snoc : ∀ {p : List Nat} {d e k : D} {v w u : V} {j : Nat}, pathGet d p = some e → Fol G H d v p w → Kid G H e w j u → (kids e)[j]? = some k → Fol G H d v (p ++ [j]) u
  | [], _, _, _, _, _, _, _, e, h, kd, q => by cases e; cases h; exact ⟨_, _, kd, q, rfl⟩
  | i :: p, _, _, _, _, _, _, _, e, ⟨u, k, a, b, c⟩, kd, q => by
    unfold pathGet at e
    rw [b] at e
    exact ⟨u, k, a, b, Fol.snoc e c kd q⟩
theorem pathGet_snoc : ∀ {p : List Nat} {d e k : D} {j : Nat}, pathGet d p = some e → (kids e)[j]? = some k → pathGet d (p ++ [j]) = some k
  | [], _, _, _, _, e, q => by
    cases e
    show (match (kids _)[_]? with
      | some k => pathGet k []
      | none => none) = _
    rw [q]
    rfl
  | i :: p, d, _, _, _, e, q => by
    unfold pathGet at e
    show (match (kids d)[i]? with
      | some k => pathGet k (p ++ [_])
      | none => none) = _
    cases h : (kids d)[i]? with
    | none => rw [h] at e; cases e
    | some k' =>
      rw [h] at e
      exact pathGet_snoc e q
theorem sz_kid {d k : D} {j : Nat} (z : szD d) (e : (kids d)[j]? = some k) : szD k := by
  have m := List.mem_of_getElem? e
  cases d with
  | tup ds => exact szL_mem.mp z.2 k m
  | lst ds => exact szL_mem.mp z.2 k m
  | dct t ks ds => exact szL_mem.mp z.2.2.1 k m
  | obj c ds => exact szL_mem.mp (show szL ds from z) k m
  | scr ns =>
    obtain ⟨n, _, rfl⟩ := List.mem_map.mp (show k ∈ ns.map D.int from m)
    trivial
  | _ => cases m
theorem sz_path : ∀ {p : List Nat} {d e : D}, szD d → pathGet d p = some e → szD e
  | [], _, _, z, h => by cases h; exact z
  | j :: p, d, e, z, h => by
    unfold pathGet at h
    cases q : (kids d)[j]? with
    | none => rw [q] at h; cases h
    | some k =>
      rw [q] at h
      exact sz_path (sz_kid z q) h
/-! ### freezing below a slot -/
variable {l : List Fr}
theorem Rl.closeTup {a : Addr} {vs : List V} {ds : List D} {n : Nat} (hp : H a = some (.tup vs)) (e : vs.length = ds.length) (r : Rl G (its n vs ds ++ l) H) : Rl G (.it (.ref a) n (.tup ds) :: l) H := by
  obtain ⟨F, h, s1, s2, dj, sp, ht⟩ := Rl.tups r
  obtain ⟨h1, h2, t1, t2, t3, ow, sp2⟩ := Sep.join e sp
  exact ⟨F, h, s1, s2, dj, h1, h2, t1, t2, t3, ⟨a, vs, rfl, ht _ _ hp, ow⟩, sp2⟩
theorem its_split {n : Nat} : ∀ {vs : List V} {ds : List D} {j : Nat} {v : V} {d : D}, vs[j]? = some v → ds[j]? = some d →
    ∃ vs1 vs2 ds1 ds2, vs = vs1 ++ v :: vs2 ∧ ds = ds1 ++ d :: ds2 ∧ vs1.length = j ∧ ds1.length = j
  | v :: vs, d :: ds, 0, _, _, h, k => by cases h; cases k; exact ⟨[], vs, [], ds, rfl, rfl, rfl, rfl⟩
  | v :: vs, d :: ds, j + 1, _, _, h, k => by
    obtain ⟨a, b, c, e, rfl, rfl, h1, h2⟩ := its_split (n := n) (vs := vs) (ds := ds) (j := j) h k
    exact ⟨v :: a, b, d :: c, e, rfl, rfl, congrArg (· + 1) h1, congrArg (· + 1) h2⟩
  | [], _, _, _, _, h, _ => by cases h
  | _ :: _, [], _, _, _, _, h => by cases h
/-- the j-th of the items, ahead -/
theorem its_front {n : Nat} {vs1 vs2 : List V} {ds1 ds2 : List D} {v : V} {d : D} (e : vs1.length = ds1.length) : (its n (vs1 ++ v :: vs2) (ds1 ++ d :: ds2) ++ l).Perm (.it v n d :: (its n vs1 ds1 ++ its n vs2 ds2 ++ l)) := by
  rw [its_app e]
  show (its n vs1 ds1 ++ (Fr.it v n d :: its n vs2 ds2) ++ l).Perm _
  rw [List.append_assoc, List.append_assoc]
  exact List.perm_middle
/-- below what is frozen -/
theorem Rl.kid0 {d k : D} {v u : V} {j : Nat} (e : (kids d)[j]? = some k) (h : Kid G H d v j u) (r : Rl G (.it v 0 d :: l) H) : Rl G (.it u 0 k :: l) H := by
  have go : ∀ {vs : List V} {ds : List D}, vs[j]? = some u → ds[j]? = some k → Rl G (its 0 vs ds ++ l) H → Rl G (.it u 0 k :: l) H := fun a b q => Rl.sublist ((its_mem a b).append (List.Sublist.refl _)) q
  cases d with
  | tup ds =>
    obtain ⟨a, vs, rfl, q, s⟩ := h
    obtain ⟨p, vs', e', q', _, r'⟩ := Rl.openTup r
    cases e'; rw [q] at q'; cases q'
    exact go s e r'
  | lst ds =>
    obtain ⟨a, vs, rfl, q, s⟩ := h
    obtain ⟨p, vs', e', q', _, r'⟩ := Rl.openLst0 r
    cases e'; rw [q] at q'; cases q'
    exact go s e r'
  | dct t ks ds =>
    obtain ⟨a, vs, o, rfl, d, q, s⟩ := h
    obtain ⟨p, vs', o', e', q', d', _, r'⟩ := Rl.openDct0 r
    cases e'
    obtain rfl := Rd.uniq q d q' d'
    obtain rfl := d.vals d'
    exact go s e r'
  | obj c ds =>
    obtain ⟨a, dx, fs, nm, rfl, q, s⟩ := h
    obtain ⟨p, dx', vs', e', q', _, r'⟩ := Rl.openObj0 r
    cases e'; rw [q] at q'; cases q'
    exact go (zip_get s).2 e r'
  | scr ns =>
    obtain ⟨a, n, rfl, q, s, rfl⟩ := h
    have : (ns.map D.int)[j]? = some k := e
    rw [List.getElem?_map, s] at this
    cases this
    exact Rl.imm rfl rfl r.tail
  | _ => exact h.elim
theorem Rl.sub0 : ∀ {p : List Nat} {d e : D} {v w : V}, pathGet d p = some e → Fol G H d v p w → Rl G (.it v 0 d :: l) H → Rl G (.it w 0 e :: l) H
  | [], _, _, _, _, e, h, r => by cases e; cases h; exact r
  | j :: p, _, _, _, _, e, ⟨u, k, a, b, c⟩, r => by
    unfold pathGet at e
    rw [b] at e
    exact Rl.sub0 e c (Rl.kid0 b a r)

theorem upd_id {p : Addr} {o : HO} (h : H p = some o) : upd H p o = H := by
  funext x
  by_cases e : x = p
  · subst e; rw [upd_same, h]
  · rw [upd_ne e]
theorem Kid.down {H0 : Hp} (s : Sub H0 H) {d : D} {v u : V} {j : Nat} (y : See G H0 d v) (h : Kid G H d v j u) : Kid G H0 d v j u := by
  cases d with
  | tup ds =>
    obtain ⟨a, vs, rfl, q, r⟩ := h
    obtain ⟨a', vs', e, q', _⟩ := y
    cases e
    rw [s _ _ q'] at q; cases q
    exact ⟨a, vs, rfl, q', r⟩
  | lst ds =>
    obtain ⟨a, vs, rfl, q, r⟩ := h
    obtain ⟨a', vs', e, q', _⟩ := y
    cases e
    rw [s _ _ q'] at q; cases q
    exact ⟨a, vs, rfl, q', r⟩
  | dct t ks ds =>
    obtain ⟨a, vs, o, rfl, d, q, r⟩ := h
    obtain ⟨a', vs', o', e, d', q', _⟩ := y
    cases e
    obtain rfl := Rd.uniq q d (rd_sub s q') d'
    exact ⟨a, vs, o, rfl, d, q', r⟩
  | obj c ds =>
    obtain ⟨a, dx, fs, nm, rfl, q, r⟩ := h
    obtain ⟨a', dx', vs', e, q', _⟩ := y
    cases e
    rw [s _ _ q'] at q; cases q
    exact ⟨a, _, _, nm, rfl, q', r⟩
  | scr ns =>
    obtain ⟨a, n, rfl, q, r, rfl⟩ := h
    obtain ⟨a', e, q'⟩ := y
    cases e
    exact ⟨a, n, rfl, q', r, rfl⟩
  | _ => exact h.elim
theorem Fol.down {H0 : Hp} (s : Sub H0 H) : ∀ {p : List Nat} {d e : D} {v w : V}, See G H0 d v → pathGet d p = some e → Fol G H d v p w → Fol G H0 d v p w
  | [], _, _, _, _, _, _, h => h
  | j :: p, _, _, _, _, y, e, ⟨u, k, a, b, c⟩ => by
    unfold pathGet at e
    rw [b] at e
    have a' := a.down s y
    exact ⟨u, k, a', b, Fol.down s (a'.see y b) e c⟩
theorem nokid {e : D} {i : Int} : ∀ {p : List Nat}, pathGet (.int i) p = some e → isImm e = true
  | [], h => by cases h; rfl
  | j :: p, h => by cases j <;> cases h
/-- what is at the end of a way below a slot, frozen; above it the slot is as it was -/
theorem Rl.path : ∀ {p : List Nat} {d e : D} {v w : V} {n : Nat} {l : List Fr} {H : Hp}, pathGet d p = some e → isImm e = false → Fol G H d v p w → Rl G (.it v n d :: l) H → Rl G (.it v (min n (lev d p)) d :: .it w 0 e :: l) H
  | [], d, e, v, w, n, l, H, g, _, f, r => by
    cases g; cases f
    show Rl G (.it v (min n 0) d :: .it v 0 d :: l) H
    rw [Nat.min_zero]
    exact Rl.dup (Rl.lower (Nat.zero_le _) r)
  | j :: p, d, e, v, w, 0, l, H, g, i, f, r => by
    rw [Nat.zero_min]
    exact Rl.perm (.swap _ _ _) (Rl.sub0 g f (Rl.dup r))
  | j :: p, d, e, v, w, n + 1, l, H, g, i, ⟨u, k, a, b, c⟩, r => by
    unfold pathGet at g
    rw [b] at g
    have el : lev d (j :: p) = if mutD d then lev k p + 1 else lev k p := by
      show (match (kids d)[j]? with
        | some k => if mutD d then lev k p + 1 else lev k p
        | none => 0) = _
      rw [b]
    rw [el]
    have mid : ∀ {vs : List V} {ds : List D} {m : Nat} {H0 : Hp}, Sub H0 H → vs.length = ds.length → vs[j]? = some u → ds[j]? = some k → Rl G (its m vs ds ++ l) H0 → Rl G (its (min m (lev k p)) vs ds ++ (.it w 0 e :: l)) H0 := by
      intro vs ds m H0 s hl e1 e2 q
      have q1 := Rl.lowers (Nat.min_le_left m (lev k p)) q
      obtain ⟨v1, v2, d1, d2, rfl, rfl, l1, l2⟩ := its_split (n := min m (lev k p)) e1 e2
      have lv : v1.length = d1.length := l1.trans l2.symm
      have q2 := Rl.perm (its_front lv) q1
      have f' := Fol.down s (Rl.see q2) g c
      have q3 := Rl.path g i f' q2
      have em : min (min m (lev k p)) (lev k p) = min m (lev k p) := by omega
      rw [em] at q3
      refine Rl.perm ?_ q3
      refine List.Perm.trans ?_ (its_front lv).symm
      refine List.Perm.cons _ ?_
      exact List.perm_middle.symm
    cases d with
    | tup ds =>
      obtain ⟨x, vs, rfl, q, s⟩ := a
      obtain ⟨x', vs', e', q', hl, r'⟩ := Rl.openTup r
      cases e'; rw [q] at q'; cases q'
      exact Rl.closeTup q hl (mid (.refl _) hl s b r')
    | lst ds =>
      obtain ⟨x, vs, rfl, q, s⟩ := a
      obtain ⟨x', vs', e', q', hl, r'⟩ := Rl.openLst r
      cases e'; rw [q] at q'; cases q'
      have r2 := Rl.newLst hl (mid (del_sub _ _) hl s b r') (del_self H x)
      rw [upd_del, upd_id q] at r2
      have em : min (n + 1) (lev k p + 1) = min n (lev k p) + 1 := by omega
      show Rl G (.it _ (min (n + 1) (lev k p + 1)) _ :: _) H
      rw [em]
      exact r2
    | dct t ks ds =>
      obtain ⟨x, vs, o, rfl, dO, q, s⟩ := a
      obtain ⟨x', vs', o', e', q', dO', hl, r'⟩ := Rl.openDct r
      cases e'
      obtain rfl := Rd.uniq q dO (.inl q') dO'
      obtain rfl := dO.vals dO'
      have r2 := Rl.newDct hl dO (mid (del_sub _ _) hl s b r') (del_self H x)
      rw [upd_del, upd_id q'] at r2
      have em : min (n + 1) (lev k p + 1) = min n (lev k p) + 1 := by omega
      show Rl G (.it _ (min (n + 1) (lev k p + 1)) _ :: _) H
      rw [em]
      exact r2
    | obj cc ds =>
      obtain ⟨x, dx, fs, nm, rfl, q, s⟩ := a
      obtain ⟨x', dx', vs', e', q', hl, r'⟩ := Rl.openObj r
      cases e'; rw [q] at q'; cases q'
      have r2 := Rl.newObj (c := cc) (dx := dx) hl (mid (del_sub _ _) hl (zip_get s).2 b r') (del_self H x)
      rw [upd_del, upd_id q] at r2
      have em : min (n + 1) (lev k p + 1) = min n (lev k p) + 1 := by omega
      show Rl G (.it _ (min (n + 1) (lev k p + 1)) _ :: _) H
      rw [em]
      exact r2
    | scr ns =>
      exfalso
      obtain ⟨x, m, rfl, q, s, rfl⟩ := a
      have : (ns.map D.int)[j]? = some k := b
      rw [List.getElem?_map, s] at this
      cases this
      rw [nokid g] at i
      cases i
    | _ => exact a.elim
end

/-! ### the readings of places -/
abbrev Pl := S → Option (List Nat × D)
def PlOk (r : Nat) (f : Pl) : Prop := ∀ s p d, f s = some (p, d) → ∃ x, s[r]? = some (some x) ∧ pathGet x.2 p = some d
/-- the slot r, lowered to n levels -/
def low (r n : Nat) (s : S) : S := match s[r]? with
  | some (some x) => s.set r (some (min x.1 n, x.2))
  | _ => s
section
variable (C : Cn)
def tPl (r : Nat) (f : Pl) : TE := fun σ H Q => ∃ s fr p d, R C σ s fr H ∧ f s = some (p, d) ∧ ∀ v H', Sub H H' → See C.toGt H' d v → szD d → (∀ x rv, s[r]? = some (some x) → σ[r]? = some (some rv) → Fol C.toGt H' x.2 rv p v) → Q v H'
structure PP (X : Cx) (e : Expr) (r : Nat) (f : Pl) : Prop where
  pe : PE X e (tPl C r f)
  ok : PlOk r f
end
def seeP (f : Pl) : S → Option D := fun s => (f s).map (·.2)
theorem seeP_of {f : Pl} {s : S} {d : D} (h : seeP f s = some d) : ∃ p, f s = some (p, d) := by
  unfold seeP at h
  cases q : f s with
  | none => rw [q] at h; cases h
  | some x =>
    rw [q] at h
    cases h
    exact ⟨x.1, rfl⟩
/-- as an outcome: what can change is frozen from there on down -/
def ofP (r : Nat) (f : Pl) : S → Res It := fun s => match f s with
  | some (p, d) => if isImm d then .ok (B, d) s else match s[r]? with
    | some (some x) => .ok (0, d) (low r (lev x.2 p) s)
    | _ => .bad
  | none => .bad
section
variable {C : Cn} {X : Cx} {e a b : Expr} {pos : Pos} {r : Nat} {f : Pl} {fb : S → Option D}
theorem pp_see (h : PP C X e r f) : PE X e (tSee C (seeP f)) := PE.imp h.pe fun σ H Q ⟨s, fr, d, rr, e, k⟩ => by
  obtain ⟨p, e⟩ := seeP_of e
  exact ⟨s, fr, p, d, rr, e, fun v H' u sv z _ => k v H' u sv z⟩
theorem R.low {σ : List (Option V)} {s : S} {fr : List Fr} {H : Hp} {x : It} {p : List Nat} {d : D} {v : V} (rr : R C σ s fr H) (e : s[r]? = some (some x)) (g : pathGet x.2 p = some d) (i : isImm d = false) (z : szD d)
    (h : ∀ rv, σ[r]? = some (some rv) → Fol C.toGt H x.2 rv p v) : R C σ (low r (lev x.2 p) s) (.it v 0 d :: fr) H := by
  obtain ⟨rv, ev, r1⟩ := rr.take e
  have r2 := Rl.path g i (h rv ev) r1.rl
  have r3 : R C σ (s.set r none) (.it rv (min x.1 (lev x.2 p)) x.2 :: .it v 0 d :: fr) H := ⟨r1.sl, r2, fun f hf => by
    rcases List.mem_cons.mp hf with h | hf
    · subst h; exact r1.szd
    · rcases List.mem_cons.mp hf with h | hf
      · subst h; exact z
      · exact r1.sz f (List.mem_cons_of_mem _ hf), r1.pn, r1.ln⟩
  have r4 := r3.put (x := (min x.1 (lev x.2 p), x.2)) ev
  rw [List.set_set] at r4
  unfold Pv.low
  rw [e]
  exact r4
theorem pe_ofP (h : PP C X e r f) : PE X e (tE C (ofP r f)) := PE.imp h.pe fun σ H Q ⟨s, fr, rr, k⟩ => by
  unfold ofP at k
  cases q : f s with
  | none => rw [q] at k; exact k.elim
  | some y =>
    obtain ⟨p, d⟩ := y
    rw [q] at k
    obtain ⟨x, ex, gx⟩ := h.ok s p d q
    refine ⟨s, fr, p, d, rr, q, fun v H' u sv z fol => ?_⟩
    dsimp only at k
    split at k
    · rename_i c
      exact k v H' ((rr.mono u).imm c sv z)
    · rename_i c
      rw [ex] at k
      exact k v H' (R.low (rr.mono u) ex gx (by simpa using c) z fun rv ev => fol x rv ex ev)
/-! names -/
def pName (i : Nat) : Pl := fun s => match s[i]? with
  | some (some x) => some ([], x.2)
  | _ => none
theorem pName_ok (i : Nat) : PlOk i (pName i) := fun s p d h => by
  unfold pName at h
  split at h
  · rename_i x e
    cases h
    exact ⟨x, e, rfl⟩
  · cases h
theorem pp_name {i : Nat} (h : PE X e (tVar i)) : PP C X e i (pName i) := ⟨PE.imp h fun σ H Q ⟨s, fr, p, d, rr, e, k⟩ => by
  obtain ⟨x, ex, gx⟩ := pName_ok i s p d e
  unfold pName at e
  rw [ex] at e
  cases e
  obtain ⟨v, ev, r1⟩ := rr.take ex
  refine ⟨v, ev, k v H (.refl _) r1.see r1.szd fun x' rv e1 e2 => ?_⟩
  rw [ev] at e2
  cases e2
  exact rfl, pName_ok i⟩
/-! items -/
def kidIx : D → D → Option Nat
  | .lst ds, .int i => ixN ds.length i
  | .tup ds, .int i => ixN ds.length i
  | .scr ns, .int i => ixN ns.length i
  | .dct t ks _, k => if okKey t k then idxK ks k else none
  | _, _ => none
def pIx (f : Pl) (g : S → Option D) : Pl := fun s => match f s, g s with
  | some (p, d), some i => match kidIx d i with
    | some j => match (kids d)[j]? with
      | some k => some (p ++ [j], k)
      | none => none
    | none => none
  | _, _ => none
theorem pIx_of {g : S → Option D} {s : S} {p : List Nat} {k : D} (h : pIx f g s = some (p, k)) : ∃ p0 d i j, f s = some (p0, d) ∧ g s = some i ∧ kidIx d i = some j ∧ (kids d)[j]? = some k ∧ p = p0 ++ [j] := by
  unfold pIx at h
  split at h
  · rename_i p0 d i e1 e2
    split at h
    · rename_i j e3
      split at h
      · rename_i k' e4
        cases h
        exact ⟨p0, d, i, j, e1, e2, e3, e4, rfl⟩
      · cases h
    · cases h
  · cases h
theorem pIx_ok {g : S → Option D} (h : PlOk r f) : PlOk r (pIx f g) := fun s p k e => by
  obtain ⟨p0, d, i, j, e1, e2, e3, e4, rfl⟩ := pIx_of e
  obtain ⟨x, ex, gx⟩ := h s p0 d e1
  exact ⟨x, ex, pathGet_snoc gx e4⟩
theorem pp_ix (hK : X.K = C.K) (hu : X.A.units + 64 < cLine) {g : S → Option D} (ha : PP C X a r f) (hb : PE X b (tSee C g)) (hs : PlainIx b) : PP C X (.Subscript a b pos) r (pIx f g) := by
  refine ⟨PE.imp (PE.orE (pe_ix ix_seq ha.pe hb hs) (pe_dget (by omega) ha.pe hb hs)) fun σ H Q ⟨s, fr, p, z, rr, e, k⟩ => ?_, pIx_ok ha.ok⟩
  obtain ⟨p0, d, i, j, e1, e2, e3, e4, rfl⟩ := pIx_of e
  obtain ⟨x, ex, gx⟩ := ha.ok s p0 d e1
  have fin : ∀ {v w : V} {H2 : Hp}, Sub H H2 → See C.toGt H2 d v → szD d → (∀ x rv, s[r]? = some (some x) → σ[r]? = some (some rv) → Fol C.toGt H2 x.2 rv p0 v) → Kid C.toGt H2 d v j w → Q w H2 := fun u sv zd fol kd =>
    k _ _ u (kd.see sv e4) (sz_kid zd e4) fun x' rv q1 q2 => by
      rw [ex] at q1
      cases q1
      exact Fol.snoc gx (fol x rv ex q2) kd e4
  cases d with
  | lst ds =>
    cases i with
    | int i =>
      refine .inl ⟨s, fr, p0, _, rr, e1, fun v H1 u1 s1 z1 fol => ⟨s, fr, _, rr.mono u1, e2, fun w H2 u2 s2 z2 => .inl ?_⟩⟩
      cases s2
      obtain ⟨q, vs, rfl, hp, sl⟩ := s1.mono u2
      have hj : ixN ds.length i = some j := e3
      obtain ⟨w, hw, sw⟩ := SeeL.get sl e4
      exact ⟨q, vs, i, w, rfl, rfl, .of hp, atI_mk (by rw [sl.length]; exact hj) hw, fin (u1.trans u2) (s1.mono u2) z1 (fun x rv q1 q2 => (fol x rv q1 q2).mono u2) ⟨q, vs, rfl, hp, hw⟩⟩
    | _ => cases e3
  | tup ds =>
    cases i with
    | int i =>
      refine .inl ⟨s, fr, p0, _, rr, e1, fun v H1 u1 s1 z1 fol => ⟨s, fr, _, rr.mono u1, e2, fun w H2 u2 s2 z2 => .inr (.inl ?_)⟩⟩
      cases s2
      obtain ⟨q, vs, rfl, hp, sl⟩ := s1.mono u2
      have hj : ixN ds.length i = some j := e3
      obtain ⟨w, hw, sw⟩ := SeeL.get sl e4
      exact ⟨q, vs, i, w, rfl, rfl, .of hp, atI_mk (by rw [sl.length]; exact hj) hw, fin (u1.trans u2) (s1.mono u2) z1 (fun x rv q1 q2 => (fol x rv q1 q2).mono u2) ⟨q, vs, rfl, hp, hw⟩⟩
    | _ => cases e3
  | scr ns =>
    cases i with
    | int i =>
      refine .inl ⟨s, fr, p0, _, rr, e1, fun v H1 u1 s1 z1 fol => ⟨s, fr, _, rr.mono u1, e2, fun w H2 u2 s2 z2 => .inl ?_⟩⟩
      cases s2
      obtain ⟨q, rfl, hp⟩ := s1.mono u2
      have hj : ixN ns.length i = some j := e3
      have e4' : (ns.map D.int)[j]? = some z := e4
      rw [List.getElem?_map] at e4'
      cases q4 : ns[j]? with
      | none => rw [q4] at e4'; cases e4'
      | some n =>
        exact ⟨q, _, i, .int n, rfl, rfl, hK ▸ hp, atI_mk (by rw [List.length_map]; exact hj) (by rw [List.getElem?_map, q4]; rfl), fin (u1.trans u2) (s1.mono u2) z1 (fun x rv q1 q2 => (fol x rv q1 q2).mono u2) ⟨q, n, rfl, hp, q4, rfl⟩⟩
    | _ => cases e3
  | dct t ks ds =>
    have e3' : (if okKey t i then idxK ks i else none) = some j := e3
    split at e3'
    · rename_i c
      refine .inr ⟨s, fr, p0, _, rr, e1, fun v H1 u1 s1 z1 fol => ⟨s, fr, _, rr.mono u1, e2, fun w H2 u2 s2 z2 => ?_⟩⟩
      obtain ⟨q, o, vs, ob, rfl, dO, rd, g, g1, g2⟩ := dget_of (s1.mono u2) s2 c
      obtain ⟨w', rfl, hw'⟩ := g2 _ e3'
      exact ⟨q, w', rfl, g, fin (u1.trans u2) (s1.mono u2) z1 (fun x rv q1 q2 => (fol x rv q1 q2).mono u2) ⟨q, vs, ob, rfl, dO, rd, hw'⟩⟩
    · cases e3'
  | _ => cases e3
/-! attributes -/
def pFld (c j : Nat) (f : Pl) : Pl := fun s => match f s with
  | some (p, .obj c' ds) => if c' = c then match ds[j]? with
      | some k => some (p ++ [j], k)
      | none => none
    else none
  | _ => none
theorem pFld_of {c j : Nat} {s : S} {p : List Nat} {k : D} (h : pFld c j f s = some (p, k)) : ∃ p0 ds, f s = some (p0, .obj c ds) ∧ ds[j]? = some k ∧ p = p0 ++ [j] := by
  unfold pFld at h
  split at h
  · rename_i p0 c' ds e1
    split at h
    · rename_i ec
      subst ec
      split at h
      · rename_i k' e4
        cases h
        exact ⟨p0, ds, e1, e4, rfl⟩
      · cases h
    · cases h
  · cases h
theorem pFld_ok {c j : Nat} (h : PlOk r f) : PlOk r (pFld c j f) := fun s p k e => by
  obtain ⟨p0, ds, e1, e4, rfl⟩ := pFld_of e
  obtain ⟨x, ex, gx⟩ := h s p0 _ e1
  exact ⟨x, ex, pathGet_snoc gx e4⟩
theorem lookup_at {nm : Str} : ∀ {ns : List Str} {vs : List V} {j : Nat} {v : V}, ns.Nodup → ns[j]? = some nm → vs[j]? = some v → (ns.zip vs).lookup nm = some v
  | n :: ns, w :: vs, 0, v, _, h, k => by
    cases h; cases k
    show (match nm == nm with
      | true => some w
      | false => (ns.zip vs).lookup nm) = _
    rw [beq_self_eq_true]
  | n :: ns, w :: vs, j + 1, v, nd, h, k => by
    have ne : (nm == n) = false := by
      have := List.nodup_cons.mp nd
      refine beq_eq_false_iff_ne.mpr fun q => this.1 ?_
      subst q
      exact List.mem_of_getElem? (i := j) h
    show (match nm == n with
      | true => some w
      | false => (ns.zip vs).lookup nm) = _
    rw [ne]
    exact lookup_at (List.nodup_cons.mp nd).2 h k
  | [], _, _, _, _, h, _ => by cases h
  | _ :: _, [], _, _, _, _, h => by cases h
/-- the class c of the program: its names, what is known of it -/
structure ClsG (K : PySem.W.Frag) (G : Gt) (c : Nat) : Prop where
  cl : Cls K (G.ca c)
  nd : (G.cn c).Nodup
  no : ∀ f ∈ G.cn c, NoAttr K (G.ca c) f
theorem pp_fld {c j : Nat} {nm : Str} (ha : PP C X a r f) (hc : ClsG X.K C.toGt c) (hn : (C.cn c)[j]? = some nm) (hb : attributeBase a nm X.env (eval a X.env) = eval a X.env) : PP C X (.Attribute a nm pos) r (pFld c j f) := by
  refine ⟨PE.imp (pe_fld ha.pe hb) fun σ H Q ⟨s, fr, p, z, rr, e, k⟩ => ?_, pFld_ok ha.ok⟩
  obtain ⟨p0, ds, e1, e4, rfl⟩ := pFld_of e
  obtain ⟨x, ex, gx⟩ := ha.ok s p0 _ e1
  refine ⟨s, fr, p0, _, rr, e1, fun v H1 u1 s1 z1 fol => ?_⟩
  obtain ⟨q, dx, vs, rfl, hp, sl⟩ := id s1
  obtain ⟨w, hw, sw⟩ := SeeL.get sl e4
  have kd : Kid C.toGt H1 (.obj c ds) (.ref q) j w := ⟨q, dx, _, nm, rfl, hp, zip_mk hn hw⟩
  refine ⟨q, _, dx, _, w, rfl, hp, hc.cl, hc.no _ (List.mem_of_getElem? hn), lookup_at hc.nd hn hw, k w H1 u1 sw (sz_kid z1 (show (kids (.obj c ds))[j]? = some z from e4)) fun x' rv q1 q2 => ?_⟩
  rw [ex] at q1
  cases q1
  exact Fol.snoc gx (fol x rv ex q2) kd e4
end
end Pv
/-! PvQ: isinstance, slices, ranges as lists. -/
namespace Pv
open PySem PySem.Spec PyProof.Rows L2
open PySem.W (alike dataLt)

/-! ### isinstance -/
def tyN : D → String
  | .non => "NoneType"
  | .bl _ => "bool"
  | .int _ => "int"
  | .str _ => "str"
  | .tup _ => "tuple"
  | .lst _ => "list"
  | .dct _ _ _ => "dict"
  | .obj _ _ => ""
  | .scr _ => "list"
  | .nst _ => "dict"
def isaS (a b : String) : Bool := a == b || (a == "bool" && b == "int")
def tyAs : List String := ["NoneType", "bool", "int", "str", "tuple", "list", "dict"]
def tyBs : List String := ["bool", "int", "str", "tuple", "list", "dict"]
theorem isaS_ok : ∀ a ∈ tyAs, ∀ b ∈ tyBs, kitB a b = some (isaS a b) := by decide +kernel
/-- an own class: what isinstance asks of it -/
structure ClsI (K : PySem.W.Frag) (C : Addr) : Prop where
  cl : Cls K C
  ha : PySem.W.findIn K (.ref C) "__class__" = some (some (.builtin "object.__class__"))
  hn : PySem.W.specialIn K (.builtin "object.__class__") "__get__" = some (some (.builtin "getset_descriptor.__get__"))
  htk : PySem.W.takesIn K (.builtin "object.__class__") = some true
  hm : PySem.W.mroIn K C (.type "object") = some true
/-- the own classes among cs: what is known of them and the built-in types -/
structure IsaG (K : PySem.W.Frag) (G : Gt) (cs : List Nat) : Prop where
  cl : ∀ c ∈ cs, ClsI K (G.ca c)
  no : ∀ c ∈ cs, ∀ b ∈ tyBs, PySem.W.kitOne K (.ref (G.ca c)) (.type b) = some false
  on : ∀ c ∈ cs, ∀ a ∈ tyAs, PySem.W.kitOne K (.type a) (.ref (G.ca c)) = some false
  oo : ∀ c ∈ cs, ∀ d ∈ cs, PySem.W.kitOne K (.ref (G.ca c)) (.ref (G.ca d)) = some (c == d)
def isaTy (cs : List Nat) (bs : List String) : D → Option Bool
  | .obj c _ => if c ∈ cs then some false else none
  | .dct _ _ _ => none
  | .nst _ => none
  | d => some (bs.any fun b => isaS (tyN d) b)
def isaOwn (cs : List Nat) (c0 : Nat) : D → Option Bool
  | .obj c _ => if c ∈ cs then some (c == c0) else none
  | .dct _ _ _ => none
  | .nst _ => none
  | _ => some false
section
variable {K : PySem.W.Frag} {G : Gt} {H : Hp} {cs : List Nat}
theorem tyN_as : ∀ d : D, (∀ c ds, d ≠ .obj c ds) → tyN d ∈ tyAs := fun d h => by
  cases d <;> first
    | exact absurd rfl (h _ _)
    | (show _ ∈ tyAs; simp [tyN, tyAs])
theorem see_ty (hK : G.K = K) : ∀ {d : D} {x : V}, (∀ c ds, d ≠ .obj c ds) → (∀ t ks ds, d ≠ .dct t ks ds) → (∀ ks, d ≠ .nst ks) → See G H d x → TyX K H x (.type (tyN d)) := by
  intro d x h h' h'' s
  cases d with
  | non => cases s; exact .base .non
  | bl b => cases s; exact .base (.bl b)
  | int i => cases s; exact .base (.int i)
  | str y => cases s; exact .base (.str y)
  | tup ds => obtain ⟨a, vs, rfl, q, _⟩ := s; exact .base (.tup q)
  | lst ds => obtain ⟨a, vs, rfl, q, _⟩ := s; exact .base (.lst q)
  | dct t ks ds => exact absurd rfl (h' _ _ _)
  | obj c ds => exact absurd rfl (h _ _)
  | nst ks => exact absurd rfl (h'' _)
  | scr ns =>
    obtain ⟨a, rfl, q⟩ := s
    subst hK
    rcases q with (q | ⟨o, q⟩) | ⟨o, its, n, q, hc, _⟩
    · exact .base (.lst q)
    · exact .base (.frz q)
    · exact .kList q hc
theorem kitAny_ty {a : String} (ha : a ∈ tyAs) : ∀ {bs : List String}, (∀ b ∈ bs, b ∈ tyBs) → PySem.W.kitAny K (.type a) (bs.map Value.type) = some (bs.any fun b => isaS a b)
  | [], _ => rfl
  | b :: bs, h => by
    have e := kit_ty (K := K) (isaS_ok a ha b (h b List.mem_cons_self))
    have ih := kitAny_ty ha (bs := bs) fun c hc => h c (List.mem_cons_of_mem _ hc)
    show PySem.W.kitAny K (.type a) (Value.type b :: bs.map Value.type) = some (isaS a b || bs.any fun b => isaS a b)
    refine kitAny_cons e (fun q => ?_) fun q => ?_
    · rw [q, Bool.false_or]; exact ih
    · rw [q]; rfl
theorem kitAny_no {c : Nat} {hc : c ∈ cs} (g : IsaG K G cs) : ∀ {bs : List String}, (∀ b ∈ bs, b ∈ tyBs) → PySem.W.kitAny K (.ref (G.ca c)) (bs.map Value.type) = some false
  | [], _ => rfl
  | b :: bs, h => kitAny_cons (g.no c hc b (h b List.mem_cons_self)) (fun _ => kitAny_no (hc := hc) g fun c hc => h c (List.mem_cons_of_mem _ hc)) fun q => by cases q
theorem see_obj (g : IsaG K G cs) {c : Nat} (hc : c ∈ cs) {ds : List D} {x : V} (s : See G H (.obj c ds) x) : TyX K H x (.ref (G.ca c)) := by
  obtain ⟨a, dx, vs, rfl, q, _⟩ := s
  have i := g.cl c hc
  exact .base (.ins q i.cl i.ha i.hn i.htk i.hm)
end

/-- isinstance(x, T), isinstance(x, (T, U)): the class's name (names), built-in or own -/
def isiD (g : D → Option Bool) (f : S → Option D) : S → Option D := fun s => match f s with
  | some d => (g d).map D.bl
  | none => none
theorem isiD_of {g : D → Option Bool} {f : S → Option D} {s : S} {z : D} (h : isiD g f s = some z) : ∃ d b, f s = some d ∧ g d = some b ∧ z = .bl b := by
  unfold isiD at h
  cases q : f s with
  | none => rw [q] at h; cases h
  | some d =>
    rw [q] at h
    cases q2 : g d with
    | none =>
      have h' : (g d).map D.bl = some z := h
      rw [q2] at h'
      cases h'
    | some b =>
      have h' : (g d).map D.bl = some z := h
      rw [q2] at h'
      cases h'
      exact ⟨d, b, rfl, q2, rfl⟩
def IsOk (K : PySem.W.Frag) (G : Gt) (us : List Value) (g : D → Option Bool) : Prop := ∀ H d x b, See G H d x → g d = some b → ∃ t, TyX K H x t ∧ PySem.W.kitAny K t us = some b
theorem kitAny_one {K : PySem.W.Frag} {t u : Value} {b : Bool} (h : PySem.W.kitAny K t [u] = some b) : PySem.W.kitOne K t u = some b := by
  unfold PySem.W.kitAny at h
  cases q : PySem.W.kitOne K t u with
  | none => rw [q] at h; cases h
  | some b' =>
    rw [q] at h
    cases b' with
    | true => exact h
    | false => exact h
theorem isOk_ty {K : PySem.W.Frag} {G : Gt} {cs : List Nat} {bs : List String} (hK : G.K = K) (g : IsaG K G cs) (hb : ∀ b ∈ bs, b ∈ tyBs) : IsOk K G (bs.map Value.type) (isaTy cs bs) := by
  intro H d x b s e
  by_cases h1 : ∃ c ds, d = .obj c ds
  · obtain ⟨c, ds, rfl⟩ := h1
    have e' : (if c ∈ cs then some false else none) = some b := e
    split at e'
    · rename_i hc
      cases e'
      exact ⟨_, see_obj g hc s, kitAny_no (hc := hc) g hb⟩
    · cases e'
  · by_cases h2 : ∃ t ks ds, d = .dct t ks ds
    · obtain ⟨t, ks, ds, rfl⟩ := h2
      cases e
    · have n1 : ∀ c ds, d ≠ .obj c ds := fun c ds q => h1 ⟨c, ds, q⟩
      have n2 : ∀ t ks ds, d ≠ .dct t ks ds := fun t ks ds q => h2 ⟨t, ks, ds, q⟩
      have n3 : ∀ ks, d ≠ .nst ks := fun ks q => by subst q; cases e
      refine ⟨_, see_ty hK n1 n2 n3 s, (kitAny_ty (tyN_as d n1) hb).trans ?_⟩
      cases d <;> first
        | exact e
        | exact absurd rfl (n1 _ _)
        | exact absurd rfl (n2 _ _ _)
        | exact absurd rfl (n3 _)
theorem isOk_own {K : PySem.W.Frag} {G : Gt} {cs : List Nat} {c0 : Nat} (hK : G.K = K) (g : IsaG K G cs) (h0 : c0 ∈ cs) : IsOk K G [.ref (G.ca c0)] (isaOwn cs c0) := by
  intro H d x b s e
  have one : ∀ {t : Value} {b : Bool}, PySem.W.kitOne K t (.ref (G.ca c0)) = some b → PySem.W.kitAny K t [.ref (G.ca c0)] = some b := fun {t b} q => kitAny_cons q (fun z => by rw [z]; rfl) fun z => z
  by_cases h1 : ∃ c ds, d = .obj c ds
  · obtain ⟨c, ds, rfl⟩ := h1
    have e' : (if c ∈ cs then some (c == c0) else none) = some b := e
    split at e'
    · rename_i hc
      cases e'
      exact ⟨_, see_obj g hc s, one (g.oo c hc c0 h0)⟩
    · cases e'
  · by_cases h2 : ∃ t ks ds, d = .dct t ks ds
    · obtain ⟨t, ks, ds, rfl⟩ := h2
      cases e
    · have n1 : ∀ c ds, d ≠ .obj c ds := fun c ds q => h1 ⟨c, ds, q⟩
      have n2 : ∀ t ks ds, d ≠ .dct t ks ds := fun t ks ds q => h2 ⟨t, ks, ds, q⟩
      have n3 : ∀ ks, d ≠ .nst ks := fun ks q => by subst q; cases e
      have eb : b = false := by
        cases d <;> first
          | (cases e; rfl)
          | exact absurd rfl (n1 _ _)
          | exact absurd rfl (n2 _ _ _)
          | exact absurd rfl (n3 _)
      subst eb
      exact ⟨_, see_ty hK n1 n2 n3 s, one (g.on c0 h0 _ (tyN_as d n1))⟩
section
variable {C : Cn} {X : Cx} {e a b : Expr} {es : List Expr} {pos p px : Pos} {f : S → Option D}
theorem pe_tyN {x : Str} {T : String} (hg : Gl X x) (hm : X.mg x = none) (hv : bootBuiltins x = some (.type T)) (hn : x ≠ "__name__" := by decide) (hd : (x == ("__debug__" : Str)) = false := by decide) : PE X (.Name x pos) (tC (.ty T)) :=
  ⟨fun pins s σ H Q I h => ld_blt I hg hm hv ⟨.ty T, H, I, rfl, h⟩ hn hd⟩
/-- one class -/
theorem pv_isi {g : D → Option Bool} {c : V} {u : Value} (hg : Gl X "isinstance") (hm : X.mg "isinstance" = none) (ha : PE X a (tSee C f)) (hb : PE X b (tC c)) (hc : ClsV c u) (ok : IsOk X.K C.toGt [u] g)
    (h1 : starEach [a, b] X.env = (false, eval a X.env) :: starEach [b] X.env := by rfl) (h2 : starEach [b] X.env = (false, eval b X.env) :: starEach [] X.env := by rfl) (hp : (backTo pos (starEach [b] X.env)).any (·.1) = false := by rfl) :
    PE X (.Call (.Name "isinstance" p) [a, b] [] pos) (tV C (isiD g f)) := PE.imp (pe_callB call_isi hg hm boot_isinstance (pa_cons ha (pa_cons hb pa_nil h2) h1) (by decide) (by decide) h1 hp) fun σ H Q ⟨s, fr, z, r, e, k⟩ => by
  obtain ⟨d, q, e1, e2, rfl⟩ := isiD_of e
  refine ⟨s, fr, d, r, e1, fun v H1 u1 s1 z1 => ?_⟩
  obtain ⟨t, t1, t2⟩ := ok H1 d v q s1 e2
  exact ⟨v, c, t, u, q, rfl, hc, t1, kitAny_one t2, k _ _ u1 ((r.mono u1).imm rfl rfl trivial)⟩
/-- a tuple of classes -/
def tCs : List V → TA
  | [] => tNil
  | c :: cs => tCons (tC c) (tCs cs)
theorem pv_isiT {g : D → Option Bool} {cs : List V} {us : List Value} {k : Nat} {tp : Pos} (hg : Gl X "isinstance") (hm : X.mg "isinstance" = none) (ha : PE X a (tSee C f)) (hb : PA X es (tCs cs)) (hc : Paired ClsV cs us) (ok : IsOk X.K C.toGt us g) (hz : cs.length ≤ 10)
    (h1 : starEach [a, .Tuple es k tp] X.env = (false, eval a X.env) :: starEach [.Tuple es k tp] X.env := by rfl) (h2 : starEach [.Tuple es k tp] X.env = (false, eval (.Tuple es k tp) X.env) :: starEach [] X.env := by rfl) (hp : (backTo pos (starEach [.Tuple es k tp] X.env)).any (·.1) = false := by rfl) :
    PE X (.Call (.Name "isinstance" p) [a, .Tuple es k tp] [] pos) (tV C (isiD g f)) := PE.imp (pe_callB call_isiT hg hm boot_isinstance (pa_cons ha (pa_cons (pe_tup hb) pa_nil h2) h1) (by decide) (by decide) h1 hp) fun σ H Q ⟨s, fr, z, r, e, kk⟩ => by
  obtain ⟨d, q, e1, e2, rfl⟩ := isiD_of e
  refine ⟨s, fr, d, r, e1, fun v H1 u1 s1 z1 => ?_⟩
  have go : ∀ (l : List V) (R : List V → Hp → Prop), R l H1 → tCs l σ H1 R := by
    intro l
    induction l with
    | nil => exact fun R q => q
    | cons c l ih => exact fun R q => ih _ q
  refine go cs _ ⟨by rw [sizeLine_eq]; omega, fun tp hp => ?_⟩
  obtain ⟨t, t1, t2⟩ := ok _ d v q (s1.mono (upd_sub hp)) e2
  exact ⟨v, tp, cs, t, us, q, rfl, upd_same, hc, t1, t2, kk _ _ (u1.trans (upd_sub hp)) ((r.mono (u1.trans (upd_sub hp))).imm rfl rfl trivial)⟩

/-! ### slices -/
def cutL {α : Type} (xs : List α) (lo hi : Option Int) : List α := (xs.drop (HT.sIx xs.length 0 lo)).take (HT.sIx xs.length xs.length hi - HT.sIx xs.length 0 lo)
def cutD (d : D) (lo hi : Option Int) : Option D := match d with
  | .lst ds => if isImmL ds then some (.lst (cutL ds lo hi)) else none
  | .tup ds => if isImmL ds then some (.tup (cutL ds lo hi)) else none
  | _ => none
def tO (C : Cn) (f : S → Option (Option Int)) : TO := fun σ H Q => ∃ s fr o, R C σ s fr H ∧ f s = some o ∧ ∀ H', Sub H H' → Q o H'
def noO : S → Option (Option Int) := fun _ => some none
def partO (f : S → Option D) : S → Option (Option Int) := fun s => match f s with
  | some (.int i) => some (some i)
  | _ => none
theorem po_no : PO X none (tO C noO) := ⟨fun pins s σ H Q I ⟨_, _, o, _, e, k⟩ => by cases e; exact po_none.run pins s σ H Q I (k H (.refl _))⟩
theorem po_see (h : PE X e (tSee C f)) : PO X (some e) (tO C (partO f)) := ⟨fun pins s σ H Q I ⟨s0, fr, o, r, e, k⟩ => (po_some h).run pins s σ H Q I (by
  unfold partO at e
  cases q : f s0 with
  | none => rw [q] at e; cases e
  | some d =>
    rw [q] at e
    cases d with
    | int i =>
      cases e
      refine ⟨s0, fr, _, r, q, fun v H1 u1 s1 z1 => ?_⟩
      cases s1
      exact ⟨i, rfl, k H1 u1⟩
    | _ => cases e)⟩
def slV (f : S → Option D) (lo hi : S → Option (Option Int)) : S → Option D := fun s => match f s, lo s, hi s with
  | some d, some l, some h => cutD d l h
  | _, _, _ => none
theorem SeeL_drop {G : Gt} {H : Hp} : ∀ (n : Nat) {ds : List D} {vs : List V}, SeeL G H ds vs → SeeL G H (ds.drop n) (vs.drop n)
  | 0, _, _, q => q
  | n + 1, [], _, q => by cases q; exact rfl
  | n + 1, d :: ds, _, ⟨v, r, e, q, t⟩ => by subst e; exact SeeL_drop n t
theorem SeeL_take {G : Gt} {H : Hp} : ∀ (n : Nat) {ds : List D} {vs : List V}, SeeL G H ds vs → SeeL G H (ds.take n) (vs.take n)
  | 0, _, _, _ => rfl
  | n + 1, [], _, q => by cases q; exact rfl
  | n + 1, d :: ds, _, ⟨v, r, e, q, t⟩ => by subst e; exact ⟨v, _, rfl, q, SeeL_take n t⟩
theorem SeeL_cut {G : Gt} {H : Hp} {ds : List D} {vs : List V} (lo hi : Option Int) (s : SeeL G H ds vs) : SeeL G H (cutL ds lo hi) (cutL vs lo hi) := by
  unfold cutL
  rw [s.length]
  exact SeeL_take _ (SeeL_drop _ s)
theorem cutL_sub {α : Type} (xs : List α) (lo hi : Option Int) : ∀ x ∈ cutL xs lo hi, x ∈ xs := fun x h => List.mem_of_mem_drop (List.mem_of_mem_take h)
theorem cutL_len {α : Type} (xs : List α) (lo hi : Option Int) : (cutL xs lo hi).length ≤ xs.length := by
  unfold cutL
  rw [List.length_take, List.length_drop]
  omega
theorem pv_slice {lo hi : Option Expr} {fl fh : S → Option (Option Int)} {p2 : Pos} (ha : PE X a (tSee C f)) (hl : PO X lo (tO C fl)) (hh : PO X hi (tO C fh)) : PE X (.Subscript a (.Slice lo hi none p2) pos) (tV C (slV f fl fh)) :=
  PE.imp (pe_slice (SlR.or sl_list sl_tupA) ha hl hh) fun σ H Q ⟨s, fr, z, r, e, k⟩ => by
    unfold slV at e
    split at e
    · rename_i d l h e1 e2 e3
      refine ⟨s, fr, d, r, e1, fun v H1 u1 s1 z1 => ⟨s, fr, l, r.mono u1, e2, fun H2 u2 => ⟨s, fr, h, (r.mono u1).mono u2, e3, fun H3 u3 => ?_⟩⟩⟩
      have rr := ((r.mono u1).mono u2).mono u3
      have ss := (s1.mono u2).mono u3
      have uu := (u1.trans u2).trans u3
      cases d with
      | lst ds =>
        have e' : (if isImmL ds then some (D.lst (cutL ds l h)) else none) = some z := e
        split at e'
        · rename_i c
          cases e'
          obtain ⟨q, vs, rfl, hp, sl⟩ := ss
          have im : isImmL (cutL ds l h) = true := isImmL_mem.mpr fun x hx => isImmL_mem.mp c x (cutL_sub ds l h x hx)
          have zz : szD (.lst (cutL ds l h)) := ⟨Nat.le_trans (cutL_len _ _ _) z1.1, szL_mem.mpr fun x hx => szL_mem.mp z1.2 x (cutL_sub ds l h x hx)⟩
          exact .inl ⟨q, vs, rfl, .of hp, fun t ht => k _ _ (uu.trans (upd_sub ht)) (R.res rr zz fun l' rl => Rl.freshLst im (SeeL_cut l h sl) ht rl)⟩
        · cases e'
      | tup ds =>
        have e' : (if isImmL ds then some (D.tup (cutL ds l h)) else none) = some z := e
        split at e'
        · rename_i c
          cases e'
          obtain ⟨q, vs, rfl, hp, sl⟩ := ss
          have im : isImmL (cutL ds l h) = true := isImmL_mem.mpr fun x hx => isImmL_mem.mp c x (cutL_sub ds l h x hx)
          have zz : szD (.tup (cutL ds l h)) := ⟨Nat.le_trans (cutL_len _ _ _) z1.1, szL_mem.mpr fun x hx => szL_mem.mp z1.2 x (cutL_sub ds l h x hx)⟩
          refine .inr ⟨q, vs, rfl, .of hp, fun w => ?_, fun _ t ht => k _ _ (uu.trans (upd_sub ht)) (R.res rr zz fun l' rl => Rl.freshTup im (SeeL_cut l h sl) ht rl)⟩
          have ew : cutL vs l h = vs := by
            unfold cutL
            rw [w.1, w.2]
            simp
          have ed : cutL ds l h = ds := by
            have lz := sl.length
            unfold cutL
            rw [← lz, w.1, w.2, lz]
            simp
          refine k _ _ uu (R.res rr zz fun l' rl => ?_)
          rw [ed]
          exact Rl.imm (by simpa only [isImm] using c) ⟨q, vs, rfl, hp, sl⟩ rl
        · cases e'
      | _ => cases e
    · cases e

/-! ### list(range(..)), tuple(range(..)) -/
def rgD (a b : Int) : List D := (List.range (b - a).toNat).map fun i => .int (a + (i : Nat))
def rgOk (a b : Int) : Bool := decide (a.natAbs < 2 ^ 62 ∧ b.natAbs < 2 ^ 62 ∧ (b - a).toNat ≤ 2 ^ 24)
theorem rgD_see {G : Gt} {H : Hp} (a b : Int) : SeeL G H (rgD a b) (rgV a b) := by
  unfold rgD rgV
  generalize List.range (b - a).toNat = l
  induction l with
  | nil => exact rfl
  | cons x l ih => exact ⟨_, _, rfl, rfl, ih⟩
theorem rgD_imm (a b : Int) : isImmL (rgD a b) = true := isImmL_mem.mpr fun d hd => by
  obtain ⟨i, _, rfl⟩ := List.mem_map.mp hd
  rfl
theorem rgD_sz {a b : Int} (h : rgOk a b = true) : (rgD a b).length ≤ sizeLine ∧ szL (rgD a b) := by
  refine ⟨?_, szL_mem.mpr fun d hd => ?_⟩
  · have := (of_decide_eq_true h).2.2
    unfold rgD
    rw [List.length_map, List.length_range, sizeLine_eq]
    omega
  · obtain ⟨i, _, rfl⟩ := List.mem_map.mp hd
    trivial
def lrg1 (f : S → Option D) : S → Option D := fun s => match f s with
  | some (.int n) => if rgOk 0 n then some (.lst (rgD 0 n)) else none
  | _ => none
theorem pv_lrg1 {pr : Pos} (hc : X.calm = true) (hg : Gl X "list") (hm : X.mg "list" = none) (hg2 : Gl X "range") (hm2 : X.mg "range" = none) (ha : PE X a (tSee C f)) (na : starEach [a] X.env = (false, eval a X.env) :: starEach [] X.env := by rfl)
    (nb : starEach [Expr.Call (.Name "range" pr) [a] [] px] X.env = (false, eval (Expr.Call (.Name "range" pr) [a] [] px) X.env) :: starEach [] X.env := by rfl) : PE X (.Call (.Name "list" p) [Expr.Call (.Name "range" pr) [a] [] px] [] pos) (tV C (lrg1 f)) :=
  PE.imp (pe_listRg hc hg hm (prg_1 hg2 hm2 ha na) nb) fun σ H Q ⟨s, fr, z, r, e, k⟩ => by
    unfold lrg1 at e
    split at e
    · rename_i n e1
      split at e
      · rename_i c
        cases e
        refine ⟨s, fr, _, r, e1, fun v H1 u1 s1 z1 => ?_⟩
        cases s1
        have c' : RgOk 0 n := by
          have := of_decide_eq_true c
          exact ⟨by omega, by omega, by omega, by omega, this.2.2⟩
        exact ⟨n, rfl, c', fun q hq => k _ _ (u1.trans (upd_sub hq)) (R.res (r.mono u1) (rgD_sz c) fun l rl => Rl.freshLst (rgD_imm 0 n) (rgD_see 0 n) hq rl)⟩
      · cases e
    · cases e
end
end Pv
/-! PvM: expressions with an outcome. -/
namespace Pv
open PySem PySem.Spec PyProof.Rows L2
open PySem.W (alike dataLt)

theorem post_bind {C : Cn} {σ : L2.St} {fr : List Fr} {α : Type} {r : Res α} {f : α → S → Res It} {Q : VK} (h : postE C σ fr (r.bind f) Q) : (∃ a s, r = .ok a s ∧ postE C σ fr (f a s) Q) ∨ ∃ c fs s, r = .exc c fs s ∧ excP C c fs s fr σ := by
  cases r with
  | ok a s => exact .inl ⟨a, s, rfl, h⟩
  | exc c fs s => exact .inr ⟨c, fs, s, rfl, h⟩
  | bad => exact h.elim
section
variable {C : Cn} {X : Cx} {e a b c : Expr} {es : List Expr} {pos : Pos} {σ : L2.St} {s : S} {fr fr' : List Fr} {H : Hp}
theorem excP.more {c : Nat} {fs : List D} (p : fr.Sublist fr') (h : excP C c fs s fr σ) : excP C c fs s fr' σ := fun d H' r x => h d H' (r.drop p) x

/-! ### one outcome after another: post is what is left to show of the whole -/
structure Post (C : Cn) (σ : L2.St) (fr : List Fr) {γ : Type} (ex : Nat → List D → S → γ) (bad : γ) (post : γ → Prop) : Prop where
  ex : ∀ c fs s, post (ex c fs s) → excP C c fs s fr σ
  bad : ¬ post bad
def bindK {α γ : Type} (ex : Nat → List D → S → γ) (bad : γ) (r : Res α) (f : α → S → γ) : γ := match r with
  | .ok a s => f a s
  | .exc c fs s => ex c fs s
  | .bad => bad
abbrev Res.sbind {α : Type} (r : Res α) (f : α → S → SRes) : SRes := bindK SRes.exc SRes.bad r f
theorem bind_K {α β : Type} (r : Res α) (f : α → S → Res β) : r.bind f = bindK Res.exc Res.bad r f := by cases r <;> rfl
theorem Post.more {γ : Type} {ex : Nat → List D → S → γ} {bad : γ} {post : γ → Prop} (p : fr.Sublist fr') (h : Post C σ fr ex bad post) : Post C σ fr' ex bad post := ⟨fun c fs s q => (h.ex c fs s q).more p, h.bad⟩
theorem tE_K {γ : Type} {ex : Nat → List D → S → γ} {bad : γ} {post : γ → Prop} {f : S → Res It} {g : It → S → γ} {Q : VK} (P : Post C σ fr ex bad post) (r : R C σ s fr H) (h : post (bindK ex bad (f s) g))
    (k : ∀ x s1 v H1, R C σ s1 (.it v x.1 x.2 :: fr) H1 → post (g x s1) → Q v H1) : tE C f σ H Q := by
  refine ⟨s, fr, r, ?_⟩
  cases q : f s with
  | ok x s1 =>
    rw [q] at h
    exact fun v H1 r1 => k x s1 v H1 r1 h
  | exc c fs s1 =>
    rw [q] at h
    exact P.ex c fs s1 h
  | bad =>
    rw [q] at h
    exact P.bad h
theorem tT_K {γ : Type} {ex : Nat → List D → S → γ} {bad : γ} {post : γ → Prop} {f : S → Res Bool} {g : Bool → S → γ} {Q : Bool → Hp → Prop} (P : Post C σ fr ex bad post) (r : R C σ s fr H) (h : post (bindK ex bad (f s) g))
    (k : ∀ x s1 H1, R C σ s1 fr H1 → post (g x s1) → Q x H1) : tT C f σ H Q := by
  refine ⟨s, fr, r, ?_⟩
  cases q : f s with
  | ok x s1 =>
    rw [q] at h
    exact fun H1 r1 => k x s1 H1 r1 h
  | exc c fs s1 =>
    rw [q] at h
    exact P.ex c fs s1 h
  | bad =>
    rw [q] at h
    exact P.bad h
theorem tA_K {γ : Type} {ex : Nat → List D → S → γ} {bad : γ} {post : γ → Prop} {f : S → Res (List It)} {g : List It → S → γ} {Q : List V → Hp → Prop} (P : Post C σ fr ex bad post) (r : R C σ s fr H) (h : post (bindK ex bad (f s) g))
    (k : ∀ xs s1 vs H1, vs.length = xs.length → R C σ s1 (itsN vs xs ++ fr) H1 → post (g xs s1) → Q vs H1) : tA C f σ H Q := by
  refine ⟨s, fr, r, ?_⟩
  cases q : f s with
  | ok x s1 =>
    rw [q] at h
    exact fun v H1 e r1 => k x s1 v H1 e r1 h
  | exc c fs s1 =>
    rw [q] at h
    exact P.ex c fs s1 h
  | bad =>
    rw [q] at h
    exact P.bad h
theorem P_E {Q : VK} : Post C σ fr Res.exc Res.bad fun r => postE C σ fr r Q := ⟨fun _ _ _ h => h, fun h => h⟩
theorem P_T {Q : Bool → Hp → Prop} : Post C σ fr Res.exc Res.bad fun r => postT C σ fr r Q := ⟨fun _ _ _ h => h, fun h => h⟩
theorem P_A {Q : List V → Hp → Prop} : Post C σ fr Res.exc Res.bad fun r => postA C σ fr r Q := ⟨fun _ _ _ h => h, fun h => h⟩
theorem P_S {D : Ends} : Post C σ fr SRes.exc SRes.bad fun r => postS C D fr r := ⟨fun _ _ _ h => h σ, fun h => h⟩

/-! ### operations -/
abbrev okV (o : Option D) (s : S) : Res It := match o with
  | some z => .ok (B, z) s
  | none => .bad
def mOp (g : D → D → Option D) (fa fb : S → Res It) : S → Res It := fun s => bindK .exc .bad (fa s) fun x s1 => bindK .exc .bad (fb s1) fun y s2 => okV (g x.2 y.2) s2
theorem okV_E {o : Option D} {Q : VK} (h : postE C σ fr (okV o s) Q) : ∃ z, o = some z ∧ ∀ v H', R C σ s (.it v B z :: fr) H' → Q v H' := by
  cases o with
  | none => exact h.elim
  | some z => exact ⟨z, rfl, h⟩
theorem sub1 {x y : Fr} : [x].Sublist [x, y] := (List.nil_sublist _).cons_cons _
theorem m2 {g : D → D → Option D} {fa fb : S → Res It} {Q : VK} (h : tE C (mOp g fa fb) σ H Q) : tOp (rD C.toGt g) (tE C fa) (tE C fb) σ H Q := by
  obtain ⟨s, fr, r, h⟩ := h
  refine tE_K P_E r h fun x s1 v H1 r1 h1 => ?_
  refine tE_K (P_E.more (List.sublist_cons_self _ _)) r1 h1 fun y s2 w H2 r2 h2 => ?_
  obtain ⟨z, e, k⟩ := okV_E h2
  have rx := r2.tail
  exact ⟨x.2, y.2, z, rx.see, r2.see, rx.szd, r2.szd, e, fun t H3 u3 z3 q3 => k t H3 (R.res rx.tail z3 q3)⟩
theorem pm_op {op : Operator} {g : D → D → Option D} {fa fb : S → Res It} (ho : OpR X (binaryOp op) (rD C.toGt g)) (ha : PE X a (tE C fa)) (hb : PE X b (tE C fb)) : PE X (.BinOp a op b pos) (tE C (mOp g fa fb)) := PE.imp (pe_op ho ha hb) fun _ _ _ => m2
theorem pm_cmp {op : CmpOp} {g : D → D → Option D} {fa fb : S → Res It} (ho : OpR X (compareOp op) (rD C.toGt g)) (ha : PE X a (tE C fa)) (hb : PE X b (tE C fb)) (hm : behindInMarks op b = false) : PE X (.Compare a [op] [b] pos) (tE C (mOp g fa fb)) := PE.imp (pe_cmpR ho ha hb hm) fun _ _ _ => m2
/-! ### arguments -/
def nilM : S → Res (List It) := fun s => .ok [] s
def consM (f : S → Res It) (g : S → Res (List It)) : S → Res (List It) := fun s => bindK .exc .bad (f s) fun x s1 => bindK .exc .bad (g s1) fun xs s2 => .ok (x :: xs) s2
theorem pa_m0 : PA X [] (tA C nilM) := PA.imp pa_nil fun σ H Q ⟨s, fr, r, k⟩ => k [] H rfl r
theorem pa_m {f : S → Res It} {g : S → Res (List It)} (h : PE X e (tE C f)) (k : PA X es (tA C g)) (hs : starEach (e :: es) X.env = (false, eval e X.env) :: starEach es X.env := by rfl) : PA X (e :: es) (tA C (consM f g)) := PA.imp (pa_cons h k hs) fun σ H Q ⟨s, fr, r, h⟩ => by
  refine tE_K P_A r h fun x s1 v H1 r1 h1 => ?_
  refine tA_K (P_A.more (List.sublist_cons_self _ _)) r1 h1 fun xs s2 vs H2 e2 r2 h2 => ?_
  exact h2 (v :: vs) H2 (by rw [List.length_cons, List.length_cons, e2]) (r2.perm (show (itsN vs xs ++ (Fr.it v x.1 x.2 :: fr)).Perm (Fr.it v x.1 x.2 :: (itsN vs xs ++ fr)) from List.perm_middle))
theorem its_see : ∀ {xs : List It} {vs : List V} {l : List Fr}, vs.length = xs.length → Rl C.toGt (itsN vs xs ++ l) H → SeeL C.toGt H (xs.map (·.2)) vs
  | [], [], _, _, _ => rfl
  | x :: xs, v :: vs, l, e, r => ⟨v, vs, rfl, Rl.see r, its_see (by simpa using e) (Rl.tail r)⟩
  | [], _ :: _, _, e, _ => by simp at e
  | _ :: _, [], _, e, _ => by simp at e
theorem itsN_szs : ∀ {xs : List It} {vs : List V}, vs.length = xs.length → (∀ f ∈ itsN vs xs, szF f) → szL (xs.map (·.2))
  | [], [], _, _ => trivial
  | x :: xs, v :: vs, e, h => ⟨h _ List.mem_cons_self, itsN_szs (by simpa using e) fun f hf => h f (List.mem_cons_of_mem _ hf)⟩
  | [], _ :: _, e, _ => by simp at e
  | _ :: _, [], e, _ => by simp at e
theorem R.sees {xs : List It} {vs : List V} (e : vs.length = xs.length) (r : R C σ s (itsN vs xs ++ fr) H) : SeeL C.toGt H (xs.map (·.2)) vs ∧ szL (xs.map (·.2)) :=
  ⟨its_see e (List.append_assoc _ _ _ ▸ r.rl), itsN_szs e fun f hf => r.sz f (List.mem_append_left _ (List.mem_append_left _ hf))⟩
def callM (g : List D → Option D) (f : S → Res (List It)) : S → Res It := fun s => bindK .exc .bad (f s) fun xs s1 => okV (g (xs.map (·.2))) s1
theorem mA {g : List D → Option D} {f : S → Res (List It)} {Q : VK} (h : tE C (callM g f) σ H Q) : tCB (rCD C.toGt g) (tA C f) σ H Q := by
  obtain ⟨s, fr, r, h⟩ := h
  refine tA_K P_E r h fun xs s1 vs H1 e r1 h1 => ?_
  obtain ⟨z, ez, k⟩ := okV_E h1
  obtain ⟨se, sz⟩ := r1.sees e
  exact ⟨xs.map (·.2), z, se, sz, ez, fun t H3 u3 z3 q3 => k t H3 (R.res (r1.drop (List.sublist_append_right _ _) ) z3 (fun l q => q3 _ q))⟩
theorem pm_callB {x : Str} {id : String} {g : List D → Option D} {h : S → Res (List It)} {p : Pos} (hc : CallR X (.builtin id) (rCD C.toGt g)) (hg : Gl X x) (hm : X.mg x = none) (hv : bootBuiltins x = some (.builtin id)) (ha : PA X (e :: es) (tA C h))
    (hn : x ≠ "__name__" := by decide) (hdb : (x == ("__debug__" : Str)) = false := by decide) (h1 : starEach (e :: es) X.env = (false, eval e X.env) :: starEach es X.env := by rfl) (hp : (backTo pos (starEach es X.env)).any (·.1) = false := by rfl) :
    PE X (.Call (.Name x p) (e :: es) [] pos) (tE C (callM g h)) := PE.imp (pe_callB hc hg hm hv ha hn hdb h1 hp) fun _ _ _ => mA
theorem pm_callTy {x : Str} {T : String} {g : List D → Option D} {h : S → Res (List It)} {p : Pos} (hc : CallR X (.type T) (rCD C.toGt g)) (hg : Gl X x) (hm : X.mg x = none) (hv : bootBuiltins x = some (.type T)) (ha : PA X (e :: es) (tA C h))
    (hn : x ≠ "__name__" := by decide) (hdb : (x == ("__debug__" : Str)) = false := by decide) (h1 : starEach (e :: es) X.env = (false, eval e X.env) :: starEach es X.env := by rfl) (hp : (backTo pos (starEach es X.env)).any (·.1) = false := by rfl) :
    PE X (.Call (.Name x p) (e :: es) [] pos) (tE C (callM g h)) := PE.imp (pe_callTy hc hg hm hv ha hn hdb h1 hp) fun _ _ _ => mA
/-! ### displays -/
def minDep (xs : List It) : Nat := xs.foldr (fun x n => min x.1 n) B
theorem itsN_low {G : Gt} : ∀ {xs : List It} {vs : List V} {n : Nat} {l : List Fr}, vs.length = xs.length → (∀ x ∈ xs, n ≤ x.1) → Rl G (itsN vs xs ++ l) H → Rl G (its n vs (xs.map (·.2)) ++ l) H
  | [], [], _, _, _, _, r => r
  | x :: xs, v :: vs, n, l, e, h, r => by
    have r1 := Rl.lower (h x List.mem_cons_self) r
    have r2 : Rl G (itsN vs xs ++ (.it v n x.2 :: l)) H := Rl.perm List.perm_middle.symm r1
    have r3 := itsN_low (xs := xs) (vs := vs) (n := n) (by simpa using e) (fun y hy => h y (List.mem_cons_of_mem _ hy)) r2
    exact Rl.perm List.perm_middle r3
  | [], _ :: _, _, _, e, _, _ => by simp at e
  | _ :: _, [], _, _, e, _, _ => by simp at e
theorem minDep_le : ∀ {xs : List It}, ∀ x ∈ xs, minDep xs ≤ x.1
  | y :: ys, x, h => by
    show min y.1 (minDep ys) ≤ x.1
    rcases List.mem_cons.mp h with e | h
    · subst e; omega
    · have := minDep_le x h; omega
def tupM (f : S → Res (List It)) : S → Res It := fun s => bindK .exc .bad (f s) fun xs s1 => if line xs.length then .ok (minDep xs, .tup (xs.map (·.2))) s1 else .bad
def lstM (f : S → Res (List It)) : S → Res It := fun s => bindK .exc .bad (f s) fun xs s1 => if line xs.length then .ok (min B (minDep xs + 1), .lst (xs.map (·.2))) s1 else .bad
theorem R.swapOut {fr1 : List Fr} {H' : Hp} {v : V} {n : Nat} {z : D} (r : R C σ s (fr1 ++ fr) H) (zz : szD z) (k : ∀ l, Rl C.toGt (fr1 ++ l) H → Rl C.toGt (.it v n z :: l) H') : R C σ s (.it v n z :: fr) H' :=
  r.reframe (fun l q => by
    have := k (fr ++ l) (List.append_assoc _ _ _ ▸ q)
    exact this) fun f hf => (List.mem_cons.mp hf).elim (fun e => e ▸ zz) fun q => r.sz f (List.mem_append_left _ (List.mem_append_right _ q))
theorem pm_tup {k : Nat} {f : S → Res (List It)} (ha : PA X es (tA C f)) : PE X (.Tuple es k pos) (tE C (tupM f)) := PE.imp (pe_tup ha) fun σ H Q ⟨s, fr, r, h⟩ => by
  refine tA_K P_E r h fun xs s1 vs H1 e r1 h1 => ?_
  split at h1
  · rename_i c
    refine ⟨by rw [e]; exact of_line c, fun p hp => h1 _ _ ?_⟩
    obtain ⟨se, sz⟩ := r1.sees e
    exact r1.swapOut ⟨by rw [List.length_map]; exact of_line c, sz⟩ fun l q => Rl.newTup (by rw [List.length_map, e]) (itsN_low e minDep_le q) hp
  · exact h1.elim
theorem pm_lst {f : S → Res (List It)} (ha : PA X es (tA C f)) : PE X (.List es pos) (tE C (lstM f)) := PE.imp (pe_lst ha) fun σ H Q ⟨s, fr, r, h⟩ => by
  refine tA_K P_E r h fun xs s1 vs H1 e r1 h1 => ?_
  split at h1
  · rename_i c
    refine ⟨by rw [e]; exact of_line c, fun p hp => h1 _ _ ?_⟩
    obtain ⟨se, sz⟩ := r1.sees e
    exact R.lower (Nat.min_le_right B (minDep xs + 1)) (r1.swapOut (n := minDep xs + 1) ⟨by rw [List.length_map]; exact of_line c, sz⟩ fun l q => Rl.newLst (by rw [List.length_map, e]) (itsN_low e minDep_le q) hp)
  · exact h1.elim
/-! ### tests -/
def truD : D → Option Bool
  | .non => some false
  | .bl b => some b
  | .int i => some (i != 0)
  | .tup ds => some (!ds.isEmpty)
  | .lst ds => some (!ds.isEmpty)
  | _ => none
abbrev okT (o : Option Bool) (s : S) : Res Bool := match o with
  | some b => .ok b s
  | none => .bad
/-- a value's truth -/
def truV (f : S → Option D) : S → Res Bool := fun s => okT ((f s).bind truD) s
def truM (f : S → Res It) : S → Res Bool := fun s => bindK .exc .bad (f s) fun x s1 => okT (truD x.2) s1
theorem okT_T {o : Option Bool} {Q : Bool → Hp → Prop} (h : postT C σ fr (okT o s) Q) : ∃ z, o = some z ∧ ∀ H', R C σ s fr H' → Q z H' := by
  cases o with
  | none => exact h.elim
  | some z => exact ⟨z, rfl, h⟩
theorem bl_see {G : Gt} {d : D} {v : V} {b : Bool} (s : See G H d v) (e : d = .bl b) : v = .bl b := by subst e; exact s
/-- of a test whose value is a bool -/
def isB : D → Option Bool
  | .bl b => some b
  | _ => none
theorem isB_of {d : D} {b : Bool} (h : isB d = some b) : d = .bl b := by
  cases d <;> cases h
  rfl
def tstV (f : S → Option D) : S → Res Bool := fun s => okT ((f s).bind isB) s
def tstM (f : S → Res It) : S → Res Bool := fun s => bindK .exc .bad (f s) fun x s1 => okT (isB x.2) s1
theorem t_of_V {f : S → Option D} {Q : Bool → Hp → Prop} (h : tT C (tstV f) σ H Q) : tTest (tV C f) σ H Q := by
  obtain ⟨s, fr, r, h⟩ := h
  obtain ⟨b, e, k⟩ := okT_T h
  cases q : f s with
  | none => rw [q] at e; cases e
  | some d =>
    rw [q] at e
    obtain rfl := isB_of e
    exact ⟨s, fr, _, r, q, fun v H' u r' => ⟨b, r'.see, k H' r'.tail⟩⟩
theorem t_of_M {f : S → Res It} {Q : Bool → Hp → Prop} (h : tT C (tstM f) σ H Q) : tTest (tE C f) σ H Q := by
  obtain ⟨s, fr, r, h⟩ := h
  refine tE_K P_T r h fun x s1 v H1 r1 h1 => ?_
  obtain ⟨b, e, k⟩ := okT_T h1
  exact ⟨b, bl_see r1.see (isB_of e), k H1 r1.tail⟩
theorem tt_op {g : D → D → Option D} {fa fb : S → Option D} {Q : Bool → Hp → Prop} (h : tTest (tV C (opV g fa fb)) σ H Q) : tTest (tOp (rD C.toGt g) (tSee C fa) (tSee C fb)) σ H Q := see2 h
theorem tt_opM {g : D → D → Option D} {fa fb : S → Res It} {Q : Bool → Hp → Prop} (h : tTest (tE C (mOp g fa fb)) σ H Q) : tTest (tOp (rD C.toGt g) (tE C fa) (tE C fb)) σ H Q := m2 h
theorem pt_cmpV {op : CmpOp} {g : D → D → Option D} {fa fb : S → Option D} (ho : OpR X (compareOp op) (rD C.toGt g)) (ha : PE X a (tSee C fa)) (hb : PE X b (tSee C fb)) (hm : behindInMarks op b = false) : PT X (.Compare a [op] [b] pos) (tT C (tstV (opV g fa fb))) :=
  PT.imp (pt_cmpR ho ha hb hm) fun _ _ _ h => tt_op (t_of_V h)
theorem pt_cmpM {op : CmpOp} {g : D → D → Option D} {fa fb : S → Res It} (ho : OpR X (compareOp op) (rD C.toGt g)) (ha : PE X a (tE C fa)) (hb : PE X b (tE C fb)) (hm : behindInMarks op b = false) : PT X (.Compare a [op] [b] pos) (tT C (tstM (mOp g fa fb))) :=
  PT.imp (pt_cmpR ho ha hb hm) fun _ _ _ h => tt_opM (t_of_M h)
theorem emp_len {α β : Type} {xs : List α} {ys : List β} (h : xs.length = ys.length) : (!xs.isEmpty) = !ys.isEmpty := by cases xs <;> cases ys <;> simp at h ⊢
theorem tru_ofD {G : Gt} {K : PySem.W.Frag} {d : D} {v : V} {b : Bool} (s : See G H d v) (e : truD d = some b) : TruV K v H b := by
  cases d with
  | non => cases s; cases e; exact rfl
  | bl x => cases s; cases e; exact rfl
  | int i => cases s; cases e; exact rfl
  | tup ds =>
    obtain ⟨a, vs, rfl, q, sl⟩ := s
    cases e
    exact .inr (.inl ⟨vs, .of q, emp_len sl.length.symm⟩)
  | lst ds =>
    obtain ⟨a, vs, rfl, q, sl⟩ := s
    cases e
    exact .inl ⟨vs, .of q, emp_len sl.length.symm⟩
  | _ => cases e
theorem pt_truV {f : S → Option D} (ha : PE X a (tSee C f)) (he : ∀ whole, isTrue a X.env whole = (do let v ← whole; standAt a.pos; holding [v] (truthy v)) := by intro _; rfl) : PT X a (tT C (truV f)) := PT.imp (pt_truth ha he) fun σ H Q ⟨s, fr, r, h⟩ => by
  obtain ⟨b, e, k⟩ := okT_T h
  cases q : f s with
  | none => rw [q] at e; cases e
  | some d =>
    rw [q] at e
    exact ⟨s, fr, d, r, q, fun v H' u sv z => ⟨b, tru_ofD sv e, k H' (r.mono u)⟩⟩
theorem pt_truM {f : S → Res It} (ha : PE X a (tE C f)) (he : ∀ whole, isTrue a X.env whole = (do let v ← whole; standAt a.pos; holding [v] (truthy v)) := by intro _; rfl) : PT X a (tT C (truM f)) := PT.imp (pt_truth ha he) fun σ H Q ⟨s, fr, r, h⟩ => by
  refine tE_K P_T r h fun x s1 v H1 r1 h1 => ?_
  obtain ⟨b, e, k⟩ := okT_T h1
  exact ⟨b, tru_ofD r1.see e, k H1 r1.tail⟩
theorem pt_chainV {op op' : CmpOp} {g g' : D → D → Option D} {fa fb fc : S → Option D} (ho : OpR X (compareOp op) (rD C.toGt g)) (ho' : OpR X (compareOp op') (rD C.toGt g')) (ha : PE X a (tSee C fa)) (hb : PE X b (tSee C fb)) (hc : PE X c (tSee C fc))
    (hm : lastMarks [op, op'] [b, c] = false := by with_unfolding_all rfl) : PT X (.Compare a [op, op'] [b, c] pos) (tT C (tstV (chV g g' fa fb fc))) := PT.imp (pt_chain ho ho' ha hb hc hm) fun _ _ _ h => seeCh (t_of_V h)
/-! and, or, not; a if t else b -/
def mAndT (f g : S → Res Bool) : S → Res Bool := fun s => bindK .exc .bad (f s) fun b s1 => if b then g s1 else .ok false s1
def mOrT (f g : S → Res Bool) : S → Res Bool := fun s => bindK .exc .bad (f s) fun b s1 => if b then .ok true s1 else g s1
def mNotT (f : S → Res Bool) : S → Res Bool := fun s => bindK .exc .bad (f s) fun b s1 => .ok (!b) s1
variable {rest : List Expr}
theorem pw_and1M {f : S → Res Bool} (ha : PT X a (tT C f)) : PW X (.BoolOp .And [a] pos) (tT C f) := pw_and1 ha
theorem pw_or1M {f : S → Res Bool} (ha : PT X a (tT C f)) : PW X (.BoolOp .Or [a] pos) (tT C f) := pw_or1 ha
theorem PW.impW {t t' : TT} (h : PW X e t) (i : ∀ σ H Q, t' σ H Q → t σ H Q) : PW X e t' := ⟨fun wh pins s σ H Q I q => h.run wh pins s σ H Q I (i σ H Q q)⟩
theorem pw_andM {f g : S → Res Bool} (ha : PT X a (tT C f)) (hb : PW X (.BoolOp .And (b :: rest) pos) (tT C g)) : PW X (.BoolOp .And (a :: b :: rest) pos) (tT C (mAndT f g)) := PW.impW (pw_and ha hb) fun σ H Q ⟨s, fr, r, h⟩ => by
  refine tT_K P_T r h fun x s1 H1 r1 h1 => ?_
  cases x with
  | true => rw [if_pos rfl]; exact ⟨s1, fr, r1, h1⟩
  | false => rw [if_neg Bool.false_ne_true]; exact h1 H1 r1
theorem pw_orM {f g : S → Res Bool} (ha : PT X a (tT C f)) (hb : PW X (.BoolOp .Or (b :: rest) pos) (tT C g)) : PW X (.BoolOp .Or (a :: b :: rest) pos) (tT C (mOrT f g)) := PW.impW (pw_or ha hb) fun σ H Q ⟨s, fr, r, h⟩ => by
  refine tT_K P_T r h fun x s1 H1 r1 h1 => ?_
  cases x with
  | false => rw [if_neg Bool.false_ne_true]; exact ⟨s1, fr, r1, h1⟩
  | true => rw [if_pos rfl]; exact h1 H1 r1
theorem pt_notM {f : S → Res Bool} (ha : PT X a (tT C f)) : PT X (.UnaryOp .Not a pos) (tT C (mNotT f)) := PT.imp (pt_not ha) fun σ H Q ⟨s, fr, r, h⟩ => by
  refine tT_K P_T r h fun x s1 H1 r1 h1 => ?_
  exact h1 H1 r1
def mAndV (f g : S → Res It) : S → Res It := fun s => bindK .exc .bad (f s) fun x s1 => match isB x.2 with
  | some true => g s1
  | some false => .ok (B, .bl false) s1
  | none => .bad
def mOrV (f g : S → Res It) : S → Res It := fun s => bindK .exc .bad (f s) fun x s1 => match isB x.2 with
  | some false => g s1
  | some true => .ok (B, .bl true) s1
  | none => .bad
def mNotV (f : S → Res It) : S → Res It := fun s => bindK .exc .bad (f s) fun x s1 => match isB x.2 with
  | some b => .ok (B, .bl (!b)) s1
  | none => .bad
theorem pm_and {f g : S → Res It} (ha : PE X a (tE C f)) (hb : PE X (.BoolOp .And (b :: rest) pos) (tE C g)) : PE X (.BoolOp .And (a :: b :: rest) pos) (tE C (mAndV f g)) := PE.imp (pe_and ha hb) fun σ H Q ⟨s, fr, r, h⟩ => by
  refine tE_K P_E r h fun x s1 v H1 r1 h1 => ?_
  cases q : isB x.2 with
  | none => rw [q] at h1; exact h1.elim
  | some t =>
    rw [q] at h1
    refine ⟨t, bl_see r1.see (isB_of q), ?_⟩
    cases t with
    | true => rw [if_pos rfl]; exact ⟨s1, fr, r1.tail, h1⟩
    | false => rw [if_neg Bool.false_ne_true]; exact h1 _ _ (r1.tail.imm rfl rfl trivial)
theorem pm_or {f g : S → Res It} (ha : PE X a (tE C f)) (hb : PE X (.BoolOp .Or (b :: rest) pos) (tE C g)) : PE X (.BoolOp .Or (a :: b :: rest) pos) (tE C (mOrV f g)) := PE.imp (pe_or ha hb) fun σ H Q ⟨s, fr, r, h⟩ => by
  refine tE_K P_E r h fun x s1 v H1 r1 h1 => ?_
  cases q : isB x.2 with
  | none => rw [q] at h1; exact h1.elim
  | some t =>
    rw [q] at h1
    refine ⟨t, bl_see r1.see (isB_of q), ?_⟩
    cases t with
    | false => rw [if_neg Bool.false_ne_true]; exact ⟨s1, fr, r1.tail, h1⟩
    | true => rw [if_pos rfl]; exact h1 _ _ (r1.tail.imm rfl rfl trivial)
theorem pm_one {op} {f : S → Res It} (ha : PE X a (tE C f)) : PE X (.BoolOp op [a] pos) (tE C f) := pe_one ha
theorem pm_not {f : S → Res It} (ha : PE X a (tE C f)) : PE X (.UnaryOp .Not a pos) (tE C (mNotV f)) := PE.imp (pe_not ha) fun σ H Q ⟨s, fr, r, h⟩ => by
  refine tE_K P_E r h fun x s1 v H1 r1 h1 => ?_
  cases q : isB x.2 with
  | none => rw [q] at h1; exact h1.elim
  | some t =>
    rw [q] at h1
    exact ⟨t, bl_see r1.see (isB_of q), h1 _ _ (r1.tail.imm rfl rfl trivial)⟩
def mIf (c : S → Res Bool) (f g : S → Res It) : S → Res It := fun s => bindK .exc .bad (c s) fun t s1 => if t then f s1 else g s1
theorem pm_if {t : S → Res Bool} {f g : S → Res It} (hc : PT X c (tT C t)) (ha : PE X a (tE C f)) (hb : PE X b (tE C g)) : PE X (.IfExp c a b pos) (tE C (mIf t f g)) := PE.imp (pe_ifExp hc ha hb) fun σ H Q ⟨s, fr, r, h⟩ => by
  refine tT_K P_E r h fun x s1 H1 r1 h1 => ?_
  cases x with
  | true => rw [if_pos rfl]; exact ⟨s1, fr, r1, h1⟩
  | false => rw [if_neg Bool.false_ne_true]; exact ⟨s1, fr, r1, h1⟩
/-! an item, a part of what has come out -/
theorem R.kid {v u : V} {n : Nat} {d k : D} {j : Nat} (r : R C σ s (.it v n d :: fr) H) (e : (kids d)[j]? = some k) (h : Kid C.toGt H d v j u) : R C σ s (.it u (if isImm k then B else 0) k :: fr) H := by
  by_cases c : isImm k = true
  · rw [if_pos c]
    exact r.tail.imm c (h.see r.see e) (sz_kid r.szd e)
  · rw [if_neg c]
    have r0 := r.lower (Nat.zero_le n)
    exact ⟨r0.sl, Rl.kid0 e h r0.rl, fun f hf => (List.mem_cons.mp hf).elim (fun q => q ▸ sz_kid r.szd e) fun q => r.sz f (List.mem_cons_of_mem _ q), r.pn, r.ln⟩
def seqIx : D → D → Option Nat
  | .lst ds, .int i => ixN ds.length i
  | .tup ds, .int i => ixN ds.length i
  | .scr ns, .int i => ixN ns.length i
  | _, _ => none
def mIx (f : S → Res It) (g : S → Option D) : S → Res It := fun s => bindK .exc .bad (f s) fun x s1 => match g s1 with
  | some i => match seqIx x.2 i with
    | some j => match (kids x.2)[j]? with
      | some k => .ok (if isImm k then B else 0, k) s1
      | none => .bad
    | none => .bad
  | none => .bad
/-- f(x)[i], of a list, a tuple -/
theorem pm_ix (hK : X.K = C.K) {f : S → Res It} {g : S → Option D} (ha : PE X a (tE C f)) (hb : PE X b (tSee C g)) (hs : PlainIx b) : PE X (.Subscript a b pos) (tE C (mIx f g)) := PE.imp (pe_ix ix_seq ha hb hs) fun σ H Q ⟨s, fr, r, h⟩ => by
  refine tE_K P_E r h fun x s1 v H1 r1 h1 => ?_
  obtain ⟨n, d⟩ := x
  dsimp only at h1 r1
  cases q1 : g s1 with
  | none => rw [q1] at h1; exact h1.elim
  | some i =>
    rw [q1] at h1
    dsimp only at h1
    cases q2 : seqIx d i with
    | none => rw [q2] at h1; exact h1.elim
    | some j =>
      rw [q2] at h1
      dsimp only at h1
      cases q3 : (kids d)[j]? with
      | none => rw [q3] at h1; exact h1.elim
      | some k =>
        rw [q3] at h1
        refine ⟨s1, _, i, r1, q1, fun w H2 u2 s2 z2 => ?_⟩
        have r2 := r1.mono u2
        cases d with
        | lst ds =>
          cases i with
          | int i =>
            cases s2
            obtain ⟨q, vs, rfl, hp, sl⟩ := r2.see
            obtain ⟨w, hw, sw⟩ := SeeL.get sl q3
            exact .inl ⟨q, vs, i, w, rfl, rfl, .of hp, atI_mk (by rw [sl.length]; exact q2) hw, h1 w H2 (r2.kid q3 ⟨q, vs, rfl, hp, hw⟩)⟩
          | _ => cases q2
        | tup ds =>
          cases i with
          | int i =>
            cases s2
            obtain ⟨q, vs, rfl, hp, sl⟩ := r2.see
            obtain ⟨w, hw, sw⟩ := SeeL.get sl q3
            exact .inr (.inl ⟨q, vs, i, w, rfl, rfl, .of hp, atI_mk (by rw [sl.length]; exact q2) hw, h1 w H2 (r2.kid q3 ⟨q, vs, rfl, hp, hw⟩)⟩)
          | _ => cases q2
        | scr ns =>
          cases i with
          | int i =>
            cases s2
            obtain ⟨q, rfl, hp⟩ := r2.see
            have e4' : (ns.map D.int)[j]? = some k := q3
            rw [List.getElem?_map] at e4'
            cases q4 : ns[j]? with
            | none => rw [q4] at e4'; cases e4'
            | some m =>
              exact .inl ⟨q, _, i, .int m, rfl, rfl, hK ▸ hp, atI_mk (by rw [List.length_map]; exact q2) (by rw [List.getElem?_map, q4]; rfl), h1 _ H2 (r2.kid q3 ⟨q, m, rfl, hp, q4, rfl⟩)⟩
          | _ => cases q2
        | _ => cases q2
end
end Pv
/-! PvEn: enumerate(tuple). -/
namespace PySem
open Sem (wp)
open AutoSeq1 (wpAny_loadPart')
theorem meets_enumerate_newTup (l : Addr) (items : Array Value) (n : Nat) (dct : Option Addr) (sl : Array (Option Value)) :
    Meets (Builtin.«enumerate.__new__» ⟨[.type "enumerate", .ref l], []⟩) (fun _ R s => s.heap.get? l = some { cls := .type "tuple", dict := dct, data := .seq items n, slots := sl } ∧
      R (.ok (.ret (.ref (s.heap.push { cls := .type "tuple_iterator", data := .fields #[.ref l, .int 0 0] }).objs.size)))
        { s with heap := (s.heap.push { cls := .type "tuple_iterator", data := .fields #[.ref l, .int 0 0] }).push { cls := .type "enumerate", data := .fields #[.none, .bool false, .ref s.heap.objs.size, rawInt 0, .none, .none] } }) :=
  .of_wp fun prog w A R s h => by
    obtain ⟨hp, g, d, tk, os⟩ := s; obtain ⟨hl, h⟩ := h
    have hsub := sub_enumerate
    have hL : Heap.IsTuple (Shared.heap ⟨hp, g, d, tk, os⟩) l items := ⟨_, hl, rfl, n, rfl⟩
    wp_walk using wpAny_loadPart' hl
    refine wpAny_stack_any fun st => wpAny_pure ?_
    split
    · rename_i c _ _ _ _ _
      cases (c == Value.type "enumerate")
      · wp_walk using wpAny_loadPart' hl, wpAny_pyIter_tuple hL
        exact ⟨_, rfl, h⟩
      · wp_walk using wpAny_loadPart' hl, wpAny_pyIter_tuple hL
        exact ⟨_, rfl, h⟩
    · wp_walk using wpAny_loadPart' hl, wpAny_pyIter_tuple hL
      exact ⟨_, rfl, h⟩
section
variable {prog : Program} {w : World} {A : Around} {E : Value → Shared → Prop} {s : Shared}
theorem call_enumerate_tuple {l : Addr} {items : Array Value} {Q : Value → Shared → Prop} (hL : s.heap.IsTuple l items)
    (h : ∀ h', IsEnum h' (s.heap.objs.size + 1) s.heap.objs.size 0 .none → h'.IsTupleIter s.heap.objs.size l 0 → h'.objs.size = s.heap.objs.size + 2 →
      (∀ b o, s.heap.get? b = some o → h'.get? b = some o) → Q (.ref (s.heap.objs.size + 1)) { s with heap := h' }) :
    wpAny (model prog w) A (call (.type "enumerate") [.ref l]) Q E s := by
  obtain ⟨⟨c, dct, dt, sl⟩, hl, hc, n, hd⟩ := hL
  replace hc : c = .type "tuple" := hc
  replace hd : dt = .seq items n := hd
  subst hc hd
  refine callType_new F.called_enumerate (by decide) (F.typeCall_enumerate_1 _) (F.newCall_enumerate_1 _) (fun obj => F.args_object_init_2 obj _) F.entry_enumerate_new
    (meets_enumerate_newTup l items n dct sl) ⟨hl, ?_⟩
  have hz : (s.heap.push { cls := .type "tuple_iterator", data := .fields #[.ref l, .int 0 0] }).objs.size = s.heap.objs.size + 1 := Heap.size_push ..
  show _ ∧ _
  rw [hz]
  have he : IsEnum ((s.heap.push { cls := .type "tuple_iterator", data := .fields #[.ref l, .int 0 0] }).push
      { cls := .type "enumerate", data := .fields #[.none, .bool false, .ref s.heap.objs.size, rawInt 0, .none, .none] }) (s.heap.objs.size + 1) s.heap.objs.size 0 .none := by
    have := Heap.get?_push_size (s.heap.push { cls := .type "tuple_iterator", data := .fields #[.ref l, .int 0 0] })
      (o := { cls := .type "enumerate", data := .fields #[.none, .bool false, .ref s.heap.objs.size, rawInt 0, .none, .none] }) rfl
    rw [hz] at this; exact this
  refine ⟨⟨_, he, rfl⟩, h _ he ⟨_, Heap.get?_push_of_some _ (Heap.get?_push_size _ rfl), rfl, rfl⟩ (by rw [Heap.size_push, hz]) fun b o x => Heap.get?_push_of_some _ (Heap.get?_push_of_some _ x)⟩
end
section
variable {prog : Program} {w : World} {A : Around} {E : Value → Shared → Prop} {s : Shared}
theorem pyNext_enumT_end {e it l : Addr} {i : Nat} {items : Array Value} {old : Value} {Q : Option Value → Shared → Prop} (hh : A.handled = none)
    (he : IsEnum s.heap e it i old) (hit : s.heap.IsTupleIter it l i) (hl : s.heap.IsTuple l items) (hx : items[i]? = none)
    (hQ : ∀ h', Heap.ExtBut it s.heap h' → Q none { s with heap := h' }) : wpAny (model prog w) A (pyNext (.ref e)) Q E s := by
  have hT : s.TypeIs (.ref e) "enumerate" := ⟨_, he, rfl⟩
  unfold pyNext
  refine wpAny_bind (wpAny_attempt (wpAny_callSpecial?_slot (name := Str.ofString "__next__") hT F.slot_enumerate_next
    (wpAny_call_entry F.slot_enumerate_next hT F.entry_enumerate_next ?_ (F.args_enumerate_next_1 _))))
  show wpAny _ _ (field (.ref e) 2 >>= _) _ _ _
  refine wpAny_bind (wpAny_field he rfl (x := .ref it) rfl ?_)
  refine wpAny_bind (wpAny_nextOf_tuple_end hh hit hl hx fun h' x he' hx' => ?_)
  obtain ⟨o, ho, hc⟩ := hx'
  refine wpAny_bind (wpAny_isInstance (T := "StopIteration") (b := true) ⟨o, ho, hc⟩ isSubtype_stop ?_)
  exact wpAny_pure (hQ _ he')
end
end PySem
namespace Pv
open PySem PySem.Spec PyProof.Rows L2
/-- the tuple at a as it stands at each turn, each item in a new pair -/
def IteT (K : PySem.W.Frag) (a : Addr) : L2.It :=
  ⟨fun i H => ∃ (xs : List V) (x : V), SqT K H a xs ∧ xs[i]? = some x, fun i H v H' => ∃ T x, v = .ref T ∧ H T = none ∧ H' = upd H T (.tup [.int (i : Nat), x]) ∧ ∀ xs, SqT K H a xs → xs[i]? = some x, fun i H => ∃ xs : List V, SqT K H a xs ∧ xs.length ≤ i⟩
theorem isTuple_of {h : Heap} {a : Addr} {its : Array Value} (p : IsTup h a its) : h.IsTuple a its := by
  obtain ⟨o, ho, hc, n, hd⟩ := p
  exact ⟨o, ho, hc, n, hd⟩
theorem turn_enumT {P : Program} {w : World} {K : PySem.W.Frag} {elts : List Expr} {kk : Nat} {tpos : Pos} (a e it : Addr) (hea : e ≠ a) (hia : a ≠ it) :
    Turn P w K (.Tuple elts kk tpos) (IteT K a) [e, it] e (fun i h => (∃ old, IsEnum h e it ((i : Nat) : Int) old) ∧ h.IsTupleIter it a i ∧ e ≠ it) where
  mem := by simp
  obj := fun i h st b hb => by
    obtain ⟨⟨old, he⟩, ⟨o, ho, hc, hd⟩, _⟩ := st
    have e' : b = e ∨ b = it := by simpa using hb
    rcases e' with z | z
    · rw [z]; exact ⟨_, he, fun v q => nomatch q⟩
    · rw [z]; exact ⟨o, ho, fun v q => by rw [hd] at q; cases q⟩
  keep := fun i h h' st k => let ⟨⟨old, he⟩, hi, hne⟩ := st; ⟨⟨old, k e (by simp) _ he⟩, hi.at fun o q => k it (by simp) o q, hne⟩
  item := by
    intro X hP hw hK hc i pins s σ H E I hf st hg
    subst hP hw hK
    obtain ⟨⟨old, he⟩, hit, hne⟩ := st
    obtain ⟨xs, x, hq, hx⟩ := hg
    obtain ⟨its, rv, p, hz⟩ := I.tuple hq
    obtain ⟨u, hu, ru⟩ := rv.get hx
    have hel : e < s.heap.objs.size := Heap.lt_size he
    have hil : it < s.heap.objs.size := by obtain ⟨_, q, _⟩ := hit; exact Heap.lt_size q
    have hlt : i < its.toArray.size := by
      rw [List.size_toArray]
      exact (List.getElem?_eq_some_iff.mp hu).1
    have D := Draws.tuple (prog := X.prog) (w := X.w) (A := X.A.in1) (I.ok.hd hc) it a hia its.toArray
    refine PySem.wpAny_pyNext_enum_itemD D he ⟨hit, isTuple_of p⟩ hlt hne (by simp [hne, hea]) fun x' h' tk hx' ho st' hT hsz hk => ?_
    have ex : x' = u := by
      have : its.toArray[i]? = some x' := hx'
      rw [List.getElem?_toArray, hu] at this
      exact (Option.some.inj this).symm
    subst ex
    obtain ⟨hit', _⟩ := st'
    refine ⟨_, rfl, wpAny_letOwnedTupleGo_enum (s := { s with heap := h', toks := tk + 1 }) ho fun h'' he' sb => ?_⟩
    have hT2 : h''.get? s.heap.objs.size = some { cls := .type "tuple", data := .seq #[.int i tk, x'] } := (sb.2 _ (Nat.ne_of_gt hel)).trans hT
    have new : ObjOk X.prog X.w (upd H s.heap.objs.size (.tup [.int (i : Nat), x])) h'' s.heap.objs.size (.tup [.int (i : Nat), x]) :=
      ⟨by show 2 ≤ sizeLine; decide, [.int i tk, x'], .cons ⟨_, rfl⟩ (.cons ru .nil), ⟨_, hT2, rfl, _, rfl⟩⟩
    have I1 : Inv X pins σ (upd H s.heap.objs.size (.tup [.int (i : Nat), x])) { s with heap := h'', toks := tk + 1 } :=
      I.turnedNew (ch := [e, it]) (fun b ob hb q => (sb.2 b (fun z => hb (by simp [z]))).trans (hk b ob (fun z => hb (by simp [z])) (fun z => hb (by simp [z])) q)) hf (Nat.le_refl _) new
    refine ⟨.ref s.heap.objs.size, _, I1, rfl, ⟨_, x, rfl, I.hok.fresh (Nat.le_refl _), rfl, fun ys hy => by rw [I.tuple_inj hy hq]; exact hx⟩, ⟨⟨x', ?_⟩, hit'.at fun o q => (sb.2 it (Ne.symm hne)).trans q, hne⟩, fun b hb => ?_⟩
    · have e1 : ((i + 1 : Nat) : Int) = (i : Int) + 1 := by omega
      rw [e1]; exact he'
    · have hb' : b < s.heap.objs.size := by
        have e' : b = e ∨ b = it := by simpa using hb
        rcases e' with z | z
        · rw [z]; exact hel
        · rw [z]; exact hil
      rw [upd_ne (Nat.ne_of_lt hb')]
      exact (hf b hb).1
  done := by
    intro X hP hw hK hc i pins s σ H E I hf st hg
    subst hP hw hK
    obtain ⟨⟨old, he⟩, hit, hne⟩ := st
    obtain ⟨xs, hq, hx⟩ := hg
    obtain ⟨its, rv, p, hz⟩ := I.tuple hq
    obtain ⟨f0, f1, f2, f3, f4, f5⟩ := hf it (by simp)
    have hl := rv.length
    refine PySem.pyNext_enumT_end (I.ok.hd hc) he hit (isTuple_of p) (by rw [List.getElem?_toArray]; exact List.getElem?_eq_none (by omega)) fun h' eb => ⟨rfl, I.turned (t' := s.toks) (fun b o hb q => eb b o hb q) f0 f1 f3 f4 f5⟩
  self := fun A i s Q E st h => let ⟨⟨_, he⟩, _⟩ := st; wpAny_pyIter_enum he h
def iEnumT (K : PySem.W.Frag) (ta : TA) : TI := fun σ H R => ta σ H fun vs H1 => ∃ a xs, vs = [.ref a] ∧ SqT K H1 a xs ∧ R (IteT K a) H1
theorem pi_enumT {X : Cx} {e : Expr} {ta : TA} {p pos tpos : Pos} {elts : List Expr} {kk : Nat} (hg : Gl X "enumerate") (hm : X.mg "enumerate" = none) (ha : PA X [e] ta) (hs : starEach [e] X.env = [(false, eval e X.env)] := by rfl) :
    PI X (.Tuple elts kk tpos) (.Call (.Name "enumerate" p) [e] [] pos) (iEnumT X.K ta) := by
  refine ⟨fun pins s σ H R I h => ?_⟩
  refine Call_ (ld_blt I hg hm boot_enumerate (PyProof.Rows.callWith_type1 (thn (ha.run pos pins s σ H _ I h) fun us s1 ⟨vs, H1, I1, r1, q1⟩ => ?_) hs rfl))
  obtain ⟨a, xs, ex, hq, q⟩ := q1
  subst ex
  cases r1 with
  | cons r rr =>
    cases rr
    cases r
    obtain ⟨its, rv, p', hz⟩ := I1.tuple hq
    have hal : a < s1.heap.objs.size := p'.lt
    refine PySem.call_enumerate_tuple (isTuple_of p') fun h' he hit hsz hk => wpAny_pyIter_enum he ?_
    have I2 : Inv X pins σ H1 { s1 with heap := h' } := I1.kept (t' := s1.toks) hk
    refine ⟨s1.heap.objs.size + 1, [s1.heap.objs.size + 1, s1.heap.objs.size], _, _, H1, rfl, I2, turn_enumT a (s1.heap.objs.size + 1) s1.heap.objs.size (Nat.ne_of_gt (Nat.lt_succ_of_lt hal)) (Nat.ne_of_lt hal), ⟨⟨.none, he⟩, hit, Nat.succ_ne_self _⟩, fun b hb => ?_, q⟩
    have e' : b = s1.heap.objs.size + 1 ∨ b = s1.heap.objs.size := by simpa using hb
    have hle : s1.heap.objs.size ≤ b := by
      rcases e' with z | z
      · rw [z]; exact Nat.le_add_right _ _
      · rw [z]; exact Nat.le_refl _
    exact I1.fpOk hle (I1.hok.fresh hle)
end Pv
/-! PvI: what is walked, targets, comprehensions. -/
namespace Pv
open PySem PySem.Spec PyProof.Rows L2
open PySem.W (alike dataLt)

/-! ### what is walked -/
structure ItOk (G : Gt) (J : L2.It) (xs : List It) (kp : List Fr) : Prop where
  go : ∀ l H i x, Rl G (kp ++ l) H → xs[i]? = some x → J.go i H ∧ ∀ v H', J.yld i H v H' → Rl G (.it v x.1 x.2 :: (kp ++ l)) H'
  stop : ∀ l H, Rl G (kp ++ l) H → J.stop xs.length H
  sz : ∀ x ∈ xs, szD x.2
  len : xs.length ≤ sizeLine
def postI (C : Cn) (σ : L2.St) (fr : List Fr) (r : Res (List It)) (Q : L2.It → Hp → Prop) : Prop := match r with
  | .ok xs s => ∀ J kp H', ItOk C.toGt J xs kp → R C σ s (kp ++ fr) H' → Q J H'
  | .exc c fs s => excP C c fs s fr σ
  | .bad => False
def tI (C : Cn) (f : S → Res (List It)) : TI := fun σ H Q => ∃ s fr, R C σ s fr H ∧ postI C σ fr (f s) Q
theorem P_I {C : Cn} {σ : L2.St} {fr : List Fr} {Q : L2.It → Hp → Prop} : Post C σ fr Res.exc Res.bad fun r => postI C σ fr r Q := ⟨fun _ _ _ h => h, fun h => h⟩
/-- what is given out of a frozen thing -/
def fz (d : D) : It := (if isImm d then B else 0, d)
def rgI (lo : Int) (n : Nat) : List It := (List.range n).map fun i => (B, .int (lo + (i : Nat)))
section
variable {C : Cn} {X : Cx} {tg e a b c : Expr} {es : List Expr} {pos p tpos : Pos} {G : Gt} {l : List Fr} {H : Hp} {σ : L2.St} {s : S} {fr : List Fr}
theorem PI.imp {t t' : TI} (h : PI X tg e t) (i : ∀ σ H Q, t' σ H Q → t σ H Q) : PI X tg e t' := ⟨fun pins s σ H Q I q => h.run pins s σ H Q I (i σ H Q q)⟩
theorem PI.or {t u : TI} (h : PI X tg e t) (k : PI X tg e u) : PI X tg e (fun σ H Q => t σ H Q ∨ u σ H Q) := ⟨fun pins s σ H Q I q => q.elim (h.run pins s σ H Q I) (k.run pins s σ H Q I)⟩
/-- an item of what is frozen, beside it -/
theorem Rl.fzKid {d k : D} {v u : V} {j : Nat} (e : (kids d)[j]? = some k) (h : Kid G H d v j u) (r : Rl G (.it v 0 d :: l) H) : Rl G (.it u (if isImm k then B else 0) k :: .it v 0 d :: l) H := by
  by_cases c : isImm k = true
  · rw [if_pos c]
    exact Rl.imm c (h.see (Rl.see r) e) r
  · rw [if_neg c]
    exact Rl.kid0 e h (Rl.dup r)
theorem itOk_lst {K : PySem.W.Frag} {ds : List D} {q : Addr} (z : szL ds) (zl : ds.length ≤ sizeLine) : ItOk G (Itl K q) (ds.map fz) [.it (.ref q) 0 (.lst ds)] where
  go := fun l H i x r e => by
    rw [List.getElem?_map] at e
    cases hd : ds[i]? with
    | none => rw [hd] at e; cases e
    | some d =>
      rw [hd] at e
      cases e
      obtain ⟨q', vs, e', hp, sl⟩ := Rl.see r
      cases e'
      obtain ⟨w, hw, sw⟩ := SeeL.get sl hd
      refine ⟨⟨vs, w, .of hp, hw⟩, fun v H' y => ?_⟩
      obtain ⟨rfl, y2⟩ := y
      have ev : v = w := Option.some.inj ((y2 vs (.of hp)).symm.trans hw)
      subst ev
      exact Rl.fzKid (show (kids (.lst ds))[i]? = some d from hd) ⟨q, vs, rfl, hp, hw⟩ r
  stop := fun l H r => by
    obtain ⟨q', vs, e', hp, sl⟩ := Rl.see r
    cases e'
    exact ⟨vs, .of hp, by rw [List.length_map, sl.length]; exact Nat.le_refl _⟩
  sz := fun x hx => by
    obtain ⟨d, hd, rfl⟩ := List.mem_map.mp hx
    exact szL_mem.mp z d hd
  len := by rw [List.length_map]; exact zl
theorem itOk_tup {K : PySem.W.Frag} {ds : List D} {q : Addr} (z : szL ds) (zl : ds.length ≤ sizeLine) : ItOk G (Itt K q) (ds.map fz) [.it (.ref q) 0 (.tup ds)] where
  go := fun l H i x r e => by
    rw [List.getElem?_map] at e
    cases hd : ds[i]? with
    | none => rw [hd] at e; cases e
    | some d =>
      rw [hd] at e
      cases e
      obtain ⟨q', vs, e', hp, sl⟩ := Rl.see r
      cases e'
      obtain ⟨w, hw, sw⟩ := SeeL.get sl hd
      refine ⟨⟨vs, w, .of hp, hw⟩, fun v H' y => ?_⟩
      obtain ⟨rfl, y2⟩ := y
      have ev : v = w := Option.some.inj ((y2 vs (.of hp)).symm.trans hw)
      subst ev
      exact Rl.fzKid (show (kids (.tup ds))[i]? = some d from hd) ⟨q, vs, rfl, hp, hw⟩ r
  stop := fun l H r => by
    obtain ⟨q', vs, e', hp, sl⟩ := Rl.see r
    cases e'
    exact ⟨vs, .of hp, by rw [List.length_map, sl.length]; exact Nat.le_refl _⟩
  sz := fun x hx => by
    obtain ⟨d, hd, rfl⟩ := List.mem_map.mp hx
    exact szL_mem.mp z d hd
  len := by rw [List.length_map]; exact zl
theorem itOk_rng {lo : Int} {n : Nat} (zl : n ≤ sizeLine) : ItOk G (Itr lo n) (rgI lo n) [] where
  go := fun l H i x r e => by
    unfold rgI at e
    rw [List.getElem?_map] at e
    cases hd : (List.range n)[i]? with
    | none => rw [hd] at e; cases e
    | some d =>
      rw [hd] at e
      cases e
      have hi : i < n := by
        have := (List.getElem?_eq_some_iff.mp hd).1
        rwa [List.length_range] at this
      have hd' : i = d := by
        rw [List.getElem?_range hi] at hd
        exact Option.some.inj hd
      subst hd'
      refine ⟨hi, fun v H' y => ?_⟩
      obtain ⟨rfl, rfl⟩ := y
      exact Rl.imm rfl rfl r
  stop := fun l H r => by
    show n ≤ (rgI lo n).length
    unfold rgI
    rw [List.length_map, List.length_range]
    exact Nat.le_refl _
  sz := fun x hx => by
    obtain ⟨i, _, rfl⟩ := List.mem_map.mp hx
    trivial
  len := by
    unfold rgI
    rw [List.length_map, List.length_range]
    exact zl
theorem itOk_dK {kvs : List (Key × V)} {q : Addr} {o : Obj} (zl : kvs.length ≤ sizeLine) : ItOk G (Itk q o kvs) ((kvs.map fun p => kD p.1).map fun d => (B, d)) [.lock q o (.dK kvs)] where
  go := fun l H i x r e => by
    rw [List.getElem?_map, List.getElem?_map] at e
    cases hd : kvs[i]? with
    | none => rw [hd] at e; cases e
    | some d =>
      rw [hd] at e
      cases e
      have hl := Rl.lockAt r
      refine ⟨⟨hl, (List.getElem?_eq_some_iff.mp hd).1⟩, fun v H' y => ?_⟩
      obtain ⟨rfl, k, w, h1, rfl⟩ := y
      rw [hd] at h1
      cases h1
      exact Rl.imm (by cases k <;> rfl) (by cases k <;> rfl) r
  stop := fun l H r => ⟨Rl.lockAt r, by rw [List.length_map, List.length_map]; exact Nat.le_refl _⟩
  sz := fun x hx => by
    obtain ⟨d, hd, rfl⟩ := List.mem_map.mp hx
    obtain ⟨k, _, rfl⟩ := List.mem_map.mp hd
    show szD (kD k.1)
    cases k.1 <;> trivial
  len := by rw [List.length_map, List.length_map]; exact zl
theorem itOk_dT {kvs : List (List Key × V)} {q : Addr} {o : Obj} (z : szL (kvs.map fun p => D.tup (p.1.map kD))) (zl : kvs.length ≤ sizeLine) : ItOk G (Itkt q o kvs) ((kvs.map fun p => D.tup (p.1.map kD)).map fun d => (B, d)) [.lock q o (.dT kvs)] where
  go := fun l H i x r e => by
    rw [List.getElem?_map, List.getElem?_map] at e
    cases hd : kvs[i]? with
    | none => rw [hd] at e; cases e
    | some d =>
      rw [hd] at e
      cases e
      have hl := Rl.lockAt r
      refine ⟨⟨hl, (List.getElem?_eq_some_iff.mp hd).1⟩, fun v H' y => ?_⟩
      obtain ⟨rfl, k, w, t, h1, rfl, ht⟩ := y
      rw [hd] at h1
      cases h1
      exact Rl.imm (show isImmL (k.map kD) = true from isImmL_keys k) ⟨t, _, rfl, ht, isKeys_see.keysSee k⟩ r
  stop := fun l H r => ⟨Rl.lockAt r, by rw [List.length_map, List.length_map]; exact Nat.le_refl _⟩
  sz := fun x hx => by
    obtain ⟨d, hd, rfl⟩ := List.mem_map.mp hx
    exact szL_mem.mp z d hd
  len := by rw [List.length_map, List.length_map]; exact zl
/-! dict: locked where it is walked (it is frozen, so it may stay so) -/
def LockTo (H1 : Hp) (d : Addr) (o : Obj) (u : HO) (H2 : Hp) : Prop := (H1 d = some (.frz o u) ∧ H2 = H1) ∨ (H1 d = some u ∧ H2 = upd H1 d (.frz o u))
def iKeysL (td : TE) : TI := fun σ H R => td σ H fun x H1 => ∃ d, x = .ref d ∧ ((∃ kvs, Rd H1 d (.dK kvs) ∧ ∀ o H2, LockTo H1 d o (.dK kvs) H2 → R (Itk d o kvs) H2) ∨ ∃ kvs, Rd H1 d (.dT kvs) ∧ ∀ o H2, LockTo H1 d o (.dT kvs) H2 → R (Itkt d o kvs) H2)
theorem pi_keysL {td : TE} (he : PE X e td) : PI X tg e (iKeysL td) := by
  refine ⟨fun pins s σ H R I h => ?_⟩
  refine thn (he.run pins s σ H _ I h) fun u s1 ⟨x, H1, I1, rx, d, ex, q⟩ => ?_
  subst ex
  obtain rfl : u = Value.ref d := rx
  have lk : ∀ {u : HO}, Mut (some u) → Rd H1 d u → ∃ o H2, Inv X pins σ H2 s1 ∧ H2 d = some (.frz o u) ∧ LockTo H1 d o u H2 := fun {u} mu r => by
    rcases r with r | ⟨o, r⟩
    · obtain ⟨o, I2⟩ := I1.lock r mu
      exact ⟨o, _, I2, upd_same, .inr ⟨r, rfl⟩⟩
    · exact ⟨o, H1, I1, r, .inl ⟨r, rfl⟩⟩
  rcases q with ⟨kvs, rd, q⟩ | ⟨kvs, rd, q⟩
  · obtain ⟨o, H2, I2, hd, lt⟩ := lk (u := .dK kvs) trivial rd
    obtain ⟨hs, hgd, hx, es, ep, vs, hdt, hsz, kv, hm⟩ := I2.frzK hd
    refine iter_keys hs hgd hx hdt (pi_one (tk := s1.toks) I2 _ (turn_keys _ hdt) ⟨_, Heap.get?_push_size _ rfl, rfl, ?_⟩ (q o H2 lt))
    rw [hsz] <;> rfl
  · obtain ⟨o, H2, I2, hd, lt⟩ := lk (u := .dT kvs) trivial rd
    obtain ⟨hs, hgd, hx, es, ep, hdt, hsz, ent⟩ := I2.frzT hd
    refine iter_keys hs hgd hx hdt (pi_one (tk := s1.toks) I2 _ (turn_keysT _ hdt) ⟨_, Heap.get?_push_size _ rfl, rfl, ?_⟩ (q o H2 lt))
    rw [hsz] <;> rfl
theorem Rl.lockTo {d : Addr} {o : Obj} {u : HO} {H2 : Hp} {t : Bool} {ks ds : List D} {vs : List V} (dO : DO t ks vs u) (lt : LockTo H d o u H2) (r : Rl G (.it (.ref d) 0 (.dct t ks ds) :: l) H) : Rl G (.lock d o u :: .it (.ref d) 0 (.dct t ks ds) :: l) H2 := by
  rcases lt with ⟨h, rfl⟩ | ⟨h, rfl⟩
  · obtain ⟨F, hh, a1, b1, c1, h1, h2, s1, s2, dj, ⟨p, ws, o', e, dO', q, t'⟩, k⟩ := id r
    cases e
    have hF : F d = some (.frz o u) := by
      rcases q with q | ⟨o2, q⟩
      · have := a1 _ _ q
        rw [h] at this
        have n1 := dO'.nfz
        cases this
        exact n1.elim
      · have := a1 _ _ q
        rw [h] at this
        cases this
        exact q
    exact ⟨F, hh, a1, b1, c1, hF, h1, h2, s1, s2, dj, ⟨d, ws, o', rfl, dO', q, t'⟩, k⟩
  · exact Rl.lock dO.nfz h ⟨t, ks, ds, List.mem_cons_self⟩ r
/-- an outcome, walked: a list, a tuple, a dict's keys -/
def itM (f : S → Res It) : S → Res (List It) := fun s => bindK .exc .bad (f s) fun x s1 => match x.2 with
  | .lst ds => .ok (ds.map fz) s1
  | .tup ds => .ok (ds.map fz) s1
  | .dct _ ks _ => .ok (ks.map fun d => (B, d)) s1
  | _ => .bad
theorem pi_m (hK : X.K = C.K) {f : S → Res It} (h : PE X e (tE C f)) : PI X tg e (tI C (itM f)) := PI.imp (PI.or (pi_list h) (PI.or (pi_tup h) (pi_keysL h))) fun σ H Q ⟨s, fr, r, q⟩ => by
  cases ef : f s with
  | bad =>
    have q' : postI C σ fr (bindK .exc .bad (f s) _) Q := q
    rw [ef] at q'
    exact q'.elim
  | exc c fs s1 =>
    have q' : postI C σ fr (bindK .exc .bad (f s) _) Q := q
    rw [ef] at q'
    refine .inl ⟨s, fr, r, ?_⟩
    rw [ef]
    exact q'
  | ok x s1 =>
    have q' : postI C σ fr (bindK .exc .bad (f s) _) Q := q
    rw [ef] at q'
    obtain ⟨n, d⟩ := x
    cases d with
    | lst ds =>
      refine .inl ⟨s, fr, r, ?_⟩
      rw [ef]
      intro v H1 r1
      have r0 := r1.lower (Nat.zero_le _)
      obtain ⟨p, vs, rfl, hp, sl⟩ := r0.see
      exact ⟨p, rfl, ⟨vs, .of hp⟩, q' _ [_] H1 (itOk_lst r0.szd.2 r0.szd.1) r0⟩
    | tup ds =>
      refine .inr (.inl ⟨s, fr, r, ?_⟩)
      rw [ef]
      intro v H1 r1
      have r0 := r1.lower (Nat.zero_le _)
      obtain ⟨p, vs, rfl, hp, sl⟩ := r0.see
      exact ⟨p, rfl, ⟨vs, .of hp⟩, q' _ [_] H1 (itOk_tup r0.szd.2 r0.szd.1) r0⟩
    | dct t ks ds =>
      refine .inr (.inr ⟨s, fr, r, ?_⟩)
      rw [ef]
      intro v H1 r1
      have r0 := r1.lower (Nat.zero_le _)
      obtain ⟨p, vs, o, rfl, dO, rd, sl⟩ := r0.see
      have fin : ∀ {J : L2.It} {od : Obj} {u : HO} {H2 : Hp} {ks' : List D} {vs' : List V}, DO t ks' vs' u → LockTo H1 p od u H2 → ItOk C.toGt J (ks.map fun d => (B, d)) [.lock p od u] → Q J H2 := fun {J od u H2 ks' vs'} dO' lt ok => by
        refine q' J [.lock p od u] H2 ok ?_
        refine ⟨r0.sl, ?_, fun f hf => ?_, r0.pn, r0.ln⟩
        · have := Rl.lockTo (t := t) (ks := ks) (ds := ds) (vs := vs) (o := od) (u := u) (H2 := H2) (by
            have hu : o = u := by
              have n1 := dO.nfz
              have n2 := dO'.nfz
              rcases lt with ⟨h, _⟩ | ⟨h, _⟩ <;> rcases rd with rd | ⟨_, rd⟩ <;> rw [h] at rd <;> cases rd <;> first
                | rfl
                | exact n1.elim
                | exact n2.elim
            exact hu ▸ dO) lt r0.rl
          exact Rl.sublist ((List.sublist_cons_self _ _).cons_cons _) this
        · rcases List.mem_cons.mp hf with e | hf
          · subst e; trivial
          · exact r0.sz f (List.mem_cons_of_mem _ hf)
      rcases dO with ⟨et, kvs, eo, ek, ev⟩ | ⟨et, kvs, eo, ek, ev⟩
      · subst et; subst eo; subst ek; subst ev
        exact ⟨p, rfl, .inl ⟨kvs, rd, fun od H2 lt => fin (.inl ⟨rfl, kvs, rfl, rfl, rfl⟩) lt (itOk_dK (by have h1 := r0.szd.1; rw [← sl.length, List.length_map] at h1; exact h1))⟩⟩
      · subst et; subst eo; subst ek; subst ev
        exact ⟨p, rfl, .inr ⟨kvs, rd, fun od H2 lt => fin (.inr ⟨rfl, kvs, rfl, rfl, rfl⟩) lt (itOk_dT r0.szd.2.1 (by have h1 := r0.szd.1; rw [← sl.length, List.length_map] at h1; exact h1))⟩⟩
    | _ => exact q'.elim
end
end Pv
/-! PvJ: range, enumerate, zip; targets; comprehensions. -/
namespace Pv
open PySem PySem.Spec PyProof.Rows L2

section
variable {C : Cn} {X : Cx} {tg e e2 a b c : Expr} {es : List Expr} {pos p tpos : Pos} {G : Gt} {l : List Fr} {H : Hp} {σ : L2.St} {s : S} {fr : List Fr}
theorem Rl.pair {v w : V} {d d' : D} {T : Addr} (r : Rl G (.it v (fz d).1 d :: .it w (fz d').1 d' :: l) H) (hT : H T = none) : Rl G (.it (.ref T) (fz (.tup [d, d'])).1 (.tup [d, d']) :: l) (upd H T (.tup [v, w])) := by
  by_cases c : isImm (.tup [d, d']) = true
  · have c' : isImm d = true ∧ isImm d' = true := by simpa [isImm, isImmL] using c
    have e1 : (fz d).1 = B := by unfold fz; rw [if_pos c'.1]
    have e2 : (fz d').1 = B := by unfold fz; rw [if_pos c'.2]
    have e3 : (fz (.tup [d, d'])).1 = B := by unfold fz; rw [if_pos c]
    rw [e1, e2] at r
    rw [e3]
    exact Rl.newTup (n := B) (vs := [v, w]) (ds := [d, d']) rfl r hT
  · have e3 : (fz (.tup [d, d'])).1 = 0 := by unfold fz; rw [if_neg c]
    rw [e3]
    have r1 := Rl.lower (Nat.zero_le _) r
    have r2 := Rl.perm (.swap _ _ _) (Rl.lower (Nat.zero_le _) (Rl.perm (.swap _ _ _) r1))
    exact Rl.newTup (n := 0) (vs := [v, w]) (ds := [d, d']) rfl r2 hT
/-! range -/
def smI (i : Int) : Bool := decide (i.natAbs < 2 ^ 62)
theorem smI_tr {i : Int} (h : smI i = true) : -(2 ^ 62) ≤ i ∧ i < 2 ^ 62 := by
  have := of_decide_eq_true h
  omega
def itR1 (f : S → Option D) : S → Res (List It) := fun s => match f s with
  | some (.int n) => if smI n && line n.toNat then .ok (rgI 0 n.toNat) s else .bad
  | _ => .bad
def itR2 (f g : S → Option D) : S → Res (List It) := fun s => match f s, g s with
  | some (.int m), some (.int n) => if smI m && smI n && line (n - m).toNat then .ok (rgI m (n - m).toNat) s else .bad
  | _, _ => .bad
theorem pi_r1 {f : S → Option D} (hg : Gl X "range") (hm : X.mg "range" = none) (ha : PE X a (tSee C f)) (hs1 : starEach [a] X.env = (false, eval a X.env) :: starEach [] X.env := by rfl) (hs : starEach [a] X.env = [(false, eval a X.env)] := by rfl) : PI X tg (.Call (.Name "range" p) [a] [] pos) (tI C (itR1 f)) :=
  PI.imp (pi_range1 hg hm (pa_see ha pa_see0 hs1) hs) fun σ H Q ⟨s, fr, r, q⟩ => by
    unfold itR1 at q
    cases e : f s with
    | none => rw [e] at q; exact q.elim
    | some d =>
      rw [e] at q
      cases d with
      | int n =>
        dsimp only at q
        split at q
        · rename_i c
          have c0 := bool_and c
          have c' := smI_tr c0.1
          refine ⟨s, fr, [.int n], r, by simp only [consA, nilA, e], fun vs H1 u1 s1 z1 => ?_⟩
          obtain ⟨v, rfl, q1⟩ := SeeL.one s1
          cases q1
          exact ⟨n, rfl, c'.1, c'.2, q _ [] H1 (itOk_rng (of_line c0.2)) (r.mono u1)⟩
        · exact q.elim
      | _ => exact q.elim
theorem pi_r2 {f g : S → Option D} (hg : Gl X "range") (hm : X.mg "range" = none) (ha : PE X a (tSee C f)) (hb : PE X b (tSee C g)) (hs1 : starEach [a, b] X.env = (false, eval a X.env) :: starEach [b] X.env := by rfl) (hs2 : starEach [b] X.env = (false, eval b X.env) :: starEach [] X.env := by rfl)
    (hs : starEach [a, b] X.env = [(false, eval a X.env), (false, eval b X.env)] := by rfl) (hs3 : starEach [b] X.env = [(false, eval b X.env)] := by rfl) : PI X tg (.Call (.Name "range" p) [a, b] [] pos) (tI C (itR2 f g)) :=
  PI.imp (pi_range2 hg hm (pa_see ha (pa_see hb pa_see0 hs2) hs1) hs hs3) fun σ H Q ⟨s, fr, r, q⟩ => by
    unfold itR2 at q
    split at q
    · rename_i m n e1 e2
      split at q
      · rename_i c
        have c0 := bool_and c
        have c1 := bool_and c0.1
        have c2 := smI_tr c1.1
        have c3 := smI_tr c1.2
        refine ⟨s, fr, [.int m, .int n], r, by simp only [consA, nilA, e1, e2], fun vs H1 u1 s1 z1 => ?_⟩
        obtain ⟨v, w, rfl, q1, q2⟩ := SeeL.two s1
        cases q1; cases q2
        exact ⟨m, n, rfl, ⟨c2.1, c2.2, c3.1, c3.2⟩, q _ [] H1 (itOk_rng (of_line c0.2)) (r.mono u1)⟩
      · exact q.elim
    · exact q.elim
/-! enumerate -/
def enI : Nat → List D → List It
  | _, [] => []
  | i, d :: ds => fz (.tup [.int (i : Nat), d]) :: enI (i + 1) ds
theorem enI_get : ∀ {ds : List D} {k i : Nat} {x : It}, (enI k ds)[i]? = some x → ∃ d, ds[i]? = some d ∧ x = fz (.tup [.int ((k + i : Nat) : Int), d])
  | d :: ds, k, 0, x, h => by cases h; exact ⟨d, rfl, rfl⟩
  | d :: ds, k, i + 1, x, h => by
    obtain ⟨d', h1, h2⟩ := enI_get (ds := ds) (k := k + 1) (i := i) h
    exact ⟨d', h1, by rw [h2]; congr 4; omega⟩
  | [], _, i, x, h => by cases i <;> cases h
theorem enI_len : ∀ (ds : List D) (k : Nat), (enI k ds).length = ds.length
  | [], _ => rfl
  | d :: ds, k => by show (enI (k + 1) ds).length + 1 = _; rw [enI_len ds (k + 1)]; rfl
theorem enI_sz {ds : List D} (z : szL ds) : ∀ k, ∀ x ∈ enI k ds, szD x.2 := by
  induction ds with
  | nil => intro k x h; cases h
  | cons d ds ih =>
    intro k x h
    rcases List.mem_cons.mp h with e | h
    · subst e
      exact ⟨by show 2 ≤ sizeLine; rw [sizeLine_eq]; omega, trivial, z.1, trivial⟩
    · exact ih z.2 (k + 1) x h
theorem itOk_enL {K : PySem.W.Frag} {ds : List D} {q : Addr} (z : szL ds) (zl : ds.length ≤ sizeLine) : ItOk G (Ite K q) (enI 0 ds) [.it (.ref q) 0 (.lst ds)] where
  go := fun l H i x r e => by
    obtain ⟨d, hd, rfl⟩ := enI_get e
    obtain ⟨q', vs, e', hp, sl⟩ := Rl.see r
    cases e'
    obtain ⟨w, hw, sw⟩ := SeeL.get sl hd
    refine ⟨⟨vs, w, .of hp, hw⟩, fun v H' y => ?_⟩
    obtain ⟨T, x, rfl, hT, rfl, hx⟩ := y
    obtain rfl : x = w := Option.some.inj ((hx vs (.of hp)).symm.trans hw)
    have r1 := Rl.fzKid (show (kids (.lst ds))[i]? = some d from hd) ⟨q, vs, rfl, hp, hw⟩ r
    have e0 : ((0 + i : Nat) : Int) = (i : Nat) := by rw [Nat.zero_add]
    rw [e0]
    exact Rl.pair (d := .int (i : Nat)) (d' := d) (Rl.imm rfl rfl r1) hT
  stop := fun l H r => by
    obtain ⟨q', vs, e', hp, sl⟩ := Rl.see r
    cases e'
    exact ⟨vs, .of hp, by rw [enI_len, sl.length]; exact Nat.le_refl _⟩
  sz := enI_sz z 0
  len := by rw [enI_len]; exact zl
theorem itOk_enT {K : PySem.W.Frag} {ds : List D} {q : Addr} (z : szL ds) (zl : ds.length ≤ sizeLine) : ItOk G (IteT K q) (enI 0 ds) [.it (.ref q) 0 (.tup ds)] where
  go := fun l H i x r e => by
    obtain ⟨d, hd, rfl⟩ := enI_get e
    obtain ⟨q', vs, e', hp, sl⟩ := Rl.see r
    cases e'
    obtain ⟨w, hw, sw⟩ := SeeL.get sl hd
    refine ⟨⟨vs, w, .of hp, hw⟩, fun v H' y => ?_⟩
    obtain ⟨T, x, rfl, hT, rfl, hx⟩ := y
    obtain rfl : x = w := Option.some.inj ((hx vs (.of hp)).symm.trans hw)
    have r1 := Rl.fzKid (show (kids (.tup ds))[i]? = some d from hd) ⟨q, vs, rfl, hp, hw⟩ r
    have e0 : ((0 + i : Nat) : Int) = (i : Nat) := by rw [Nat.zero_add]
    rw [e0]
    exact Rl.pair (d := .int (i : Nat)) (d' := d) (Rl.imm rfl rfl r1) hT
  stop := fun l H r => by
    obtain ⟨q', vs, e', hp, sl⟩ := Rl.see r
    cases e'
    exact ⟨vs, .of hp, by rw [enI_len, sl.length]; exact Nat.le_refl _⟩
  sz := enI_sz z 0
  len := by rw [enI_len]; exact zl
def itEn (f : S → Res It) : S → Res (List It) := fun s => bindK .exc .bad (f s) fun x s1 => match x.2 with
  | .lst ds => .ok (enI 0 ds) s1
  | .tup ds => .ok (enI 0 ds) s1
  | _ => .bad
theorem pi_en {elts : List Expr} {kk : Nat} {f : S → Res It} (hg : Gl X "enumerate") (hm : X.mg "enumerate" = none) (ha : PE X e (tE C f)) (hs1 : starEach [e] X.env = (false, eval e X.env) :: starEach [] X.env := by rfl) (hs : starEach [e] X.env = [(false, eval e X.env)] := by rfl) :
    PI X (.Tuple elts kk tpos) (.Call (.Name "enumerate" p) [e] [] pos) (tI C (itEn f)) := PI.imp (PI.or (pi_enum hg hm (pa_m ha pa_m0 hs1) hs) (pi_enumT hg hm (pa_m ha pa_m0 hs1) hs)) fun σ H Q ⟨s, fr, r, q⟩ => by
  have q' : postI C σ fr (bindK .exc .bad (f s) _) Q := q
  cases ef : f s with
  | bad => rw [ef] at q'; exact q'.elim
  | exc c fs s1 =>
    rw [ef] at q'
    refine .inl ⟨s, fr, r, ?_⟩
    unfold consM
    rw [ef]
    exact q'
  | ok x s1 =>
    rw [ef] at q'
    obtain ⟨n, d⟩ := x
    have go : ∀ {T : List V → Hp → Prop}, (∀ v H1, R C σ s1 (.it v 0 d :: fr) H1 → T [v] H1) → tA C (consM f nilM) σ H T := fun {T} k => by
      refine ⟨s, fr, r, ?_⟩
      show postA C σ fr (bindK .exc .bad (f s) _) T
      rw [ef]
      intro vs H1 e1 r1
      match vs, e1 with
      | [v], _ => exact k v H1 (R.lower (Nat.zero_le _) r1)
    cases d with
    | lst ds =>
      refine .inl (go fun v H1 r0 => ?_)
      obtain ⟨p, vs, rfl, hp, sl⟩ := r0.see
      exact ⟨p, vs, rfl, .of hp, q' _ [_] H1 (itOk_enL r0.szd.2 r0.szd.1) r0⟩
    | tup ds =>
      refine .inr (go fun v H1 r0 => ?_)
      obtain ⟨p, vs, rfl, hp, sl⟩ := r0.see
      exact ⟨p, vs, rfl, .of hp, q' _ [_] H1 (itOk_enT r0.szd.2 r0.szd.1) r0⟩
    | _ => exact q'.elim
/-! zip -/
def zpI : List D → List D → List It
  | d :: ds, e :: es => fz (.tup [d, e]) :: zpI ds es
  | _, _ => []
theorem zpI_get : ∀ {ds es : List D} {i : Nat} {x : It}, (zpI ds es)[i]? = some x → ∃ d e, ds[i]? = some d ∧ es[i]? = some e ∧ x = fz (.tup [d, e])
  | d :: ds, e :: es, 0, x, h => by cases h; exact ⟨d, e, rfl, rfl, rfl⟩
  | d :: ds, e :: es, i + 1, x, h => zpI_get (ds := ds) (es := es) (i := i) h
  | [], _, i, x, h => by cases i <;> cases h
  | _ :: _, [], i, x, h => by cases i <;> cases h
theorem zpI_len : ∀ (ds es : List D), ds.length ≤ (zpI ds es).length ∨ es.length ≤ (zpI ds es).length
  | [], _ => .inl (Nat.zero_le _)
  | _ :: _, [] => .inr (Nat.zero_le _)
  | d :: ds, e :: es => by
    rcases zpI_len ds es with h | h
    · exact .inl (Nat.succ_le_succ h)
    · exact .inr (Nat.succ_le_succ h)
theorem zpI_le : ∀ (ds es : List D), (zpI ds es).length ≤ ds.length
  | [], _ => Nat.zero_le _
  | _ :: _, [] => Nat.zero_le _
  | d :: ds, e :: es => Nat.succ_le_succ (zpI_le ds es)
theorem zpI_sz : ∀ {ds es : List D}, szL ds → szL es → ∀ x ∈ zpI ds es, szD x.2
  | [], _, _, _, x, h => by cases h
  | _ :: _, [], _, _, x, h => by cases h
  | d :: ds, e :: es, z1, z2, x, h => by
    rcases List.mem_cons.mp h with q | h
    · subst q
      exact ⟨by show 2 ≤ sizeLine; rw [sizeLine_eq]; omega, z1.1, z2.1, trivial⟩
    · exact zpI_sz z1.2 z2.2 x h
theorem itOk_zpL {K : PySem.W.Frag} {ds es : List D} {q q2 : Addr} (z : szL ds) (z2 : szL es) (zl : ds.length ≤ sizeLine) : ItOk G (Itz K q q2) (zpI ds es) [.it (.ref q) 0 (.lst ds), .it (.ref q2) 0 (.lst es)] where
  go := fun l H i x r e => by
    obtain ⟨d, d', hd, hd', rfl⟩ := zpI_get e
    obtain ⟨q', vs, e', hp, sl⟩ := Rl.see r
    cases e'
    obtain ⟨q3, ws, e', hp2, sl2⟩ := Rl.see r.tail
    cases e'
    obtain ⟨w, hw, sw⟩ := SeeL.get sl hd
    obtain ⟨w2, hw2, sw2⟩ := SeeL.get sl2 hd'
    refine ⟨⟨vs, ws, w, w2, .of hp, .of hp2, hw, hw2⟩, fun v H' y => ?_⟩
    obtain ⟨T, x, y, rfl, hT, rfl, hx, hy⟩ := y
    obtain rfl : x = w := Option.some.inj ((hx vs (.of hp)).symm.trans hw)
    obtain rfl : y = w2 := Option.some.inj ((hy ws (.of hp2)).symm.trans hw2)
    have r1 := Rl.fzKid (show (kids (.lst ds))[i]? = some d from hd) ⟨q, vs, rfl, hp, hw⟩ r
    have r2 : Rl G (.it (.ref q2) 0 (.lst es) :: .it x (fz d).1 d :: .it (.ref q) 0 (.lst ds) :: l) H := Rl.perm (((List.Perm.swap _ _ _).cons _).trans (.swap _ _ _)) r1
    have r3 := Rl.fzKid (show (kids (.lst es))[i]? = some d' from hd') ⟨q2, ws, rfl, hp2, hw2⟩ r2
    have r4 : Rl G (.it x (fz d).1 d :: .it y (fz d').1 d' :: .it (.ref q) 0 (.lst ds) :: .it (.ref q2) 0 (.lst es) :: l) H := Rl.perm ((((List.Perm.swap _ _ _).cons _).trans (.swap _ _ _)).trans (((List.Perm.swap _ _ _).cons _).cons _)) r3
    exact Rl.pair r4 hT
  stop := fun l H r => by
    obtain ⟨q', vs, e', hp, sl⟩ := Rl.see r
    cases e'
    obtain ⟨q3, ws, e', hp2, sl2⟩ := Rl.see r.tail
    cases e'
    exact ⟨vs, ws, .of hp, .of hp2, by rw [sl.length, sl2.length]; exact zpI_len ds es⟩
  sz := zpI_sz z z2
  len := Nat.le_trans (zpI_le ds es) zl
theorem itOk_zpT {K : PySem.W.Frag} {ds es : List D} {q q2 : Addr} (z : szL ds) (z2 : szL es) (zl : ds.length ≤ sizeLine) : ItOk G (RZ.ItzT K q q2) (zpI ds es) [.it (.ref q) 0 (.tup ds), .it (.ref q2) 0 (.tup es)] where
  go := fun l H i x r e => by
    obtain ⟨d, d', hd, hd', rfl⟩ := zpI_get e
    obtain ⟨q', vs, e', hp, sl⟩ := Rl.see r
    cases e'
    obtain ⟨q3, ws, e', hp2, sl2⟩ := Rl.see r.tail
    cases e'
    obtain ⟨w, hw, sw⟩ := SeeL.get sl hd
    obtain ⟨w2, hw2, sw2⟩ := SeeL.get sl2 hd'
    refine ⟨⟨vs, ws, w, w2, .of hp, .of hp2, hw, hw2⟩, fun v H' y => ?_⟩
    obtain ⟨T, x, y, rfl, hT, rfl, hx, hy⟩ := y
    obtain rfl : x = w := Option.some.inj ((hx vs (.of hp)).symm.trans hw)
    obtain rfl : y = w2 := Option.some.inj ((hy ws (.of hp2)).symm.trans hw2)
    have r1 := Rl.fzKid (show (kids (.tup ds))[i]? = some d from hd) ⟨q, vs, rfl, hp, hw⟩ r
    have r2 : Rl G (.it (.ref q2) 0 (.tup es) :: .it x (fz d).1 d :: .it (.ref q) 0 (.tup ds) :: l) H := Rl.perm (((List.Perm.swap _ _ _).cons _).trans (.swap _ _ _)) r1
    have r3 := Rl.fzKid (show (kids (.tup es))[i]? = some d' from hd') ⟨q2, ws, rfl, hp2, hw2⟩ r2
    have r4 : Rl G (.it x (fz d).1 d :: .it y (fz d').1 d' :: .it (.ref q) 0 (.tup ds) :: .it (.ref q2) 0 (.tup es) :: l) H := Rl.perm ((((List.Perm.swap _ _ _).cons _).trans (.swap _ _ _)).trans (((List.Perm.swap _ _ _).cons _).cons _)) r3
    exact Rl.pair r4 hT
  stop := fun l H r => by
    obtain ⟨q', vs, e', hp, sl⟩ := Rl.see r
    cases e'
    obtain ⟨q3, ws, e', hp2, sl2⟩ := Rl.see r.tail
    cases e'
    exact ⟨vs, ws, .of hp, .of hp2, by rw [sl.length, sl2.length]; exact zpI_len ds es⟩
  sz := zpI_sz z z2
  len := Nat.le_trans (zpI_le ds es) zl
def itZp (f g : S → Res It) : S → Res (List It) := fun s => bindK .exc .bad (f s) fun x s1 => bindK .exc .bad (g s1) fun y s2 => match x.2, y.2 with
  | .lst ds, .lst es => .ok (zpI ds es) s2
  | .tup ds, .tup es => .ok (zpI ds es) s2
  | _, _ => .bad
theorem pi_zp {elts : List Expr} {kk : Nat} {f g : S → Res It} (hg : Gl X "zip") (hm : X.mg "zip" = none) (ha : PE X e (tE C f)) (hb : PE X e2 (tE C g)) (hs1 : starEach [e, e2] X.env = (false, eval e X.env) :: starEach [e2] X.env := by rfl) (hs2 : starEach [e2] X.env = (false, eval e2 X.env) :: starEach [] X.env := by rfl)
    (hpl : (backTo pos (starEach [e2] X.env)).any (·.1) = false := by rfl) : PI X (.Tuple elts kk tpos) (.Call (.Name "zip" p) [e, e2] [] pos) (tI C (itZp f g)) := PI.imp (RZ.pi_zipA hg hm (pa_cons ha (pa_cons hb pa_nil hs2) hs1) hs1 hpl) fun σ H Q ⟨s, fr, r, q⟩ => by
  refine tE_K P_I r q fun x s1 v H1 r1 q1 => ?_
  refine tE_K (P_I.more (List.sublist_cons_self _ _)) r1 q1 fun y s2 w H2 r2 q2 => ?_
  obtain ⟨n, d⟩ := x
  obtain ⟨m, d'⟩ := y
  have r3 : R C σ s2 (.it v 0 d :: .it w 0 d' :: fr) H2 := R.lower (Nat.zero_le _) ((R.lower (Nat.zero_le _) r2).perm (.swap _ _ _))
  cases d with
  | lst ds =>
    cases d' with
    | lst es =>
      obtain ⟨p, vs, rfl, hp, sl⟩ := r3.see
      obtain ⟨p', vs', rfl, hp', sl'⟩ := r3.tail.see
      exact ⟨p, p', vs, vs', rfl, .inl ⟨.of hp, .of hp', q2 _ [_, _] H2 (itOk_zpL r3.szd.2 r3.tail.szd.2 r3.szd.1) r3⟩⟩
    | _ => exact q2.elim
  | tup ds =>
    cases d' with
    | tup es =>
      obtain ⟨p, vs, rfl, hp, sl⟩ := r3.see
      obtain ⟨p', vs', rfl, hp', sl'⟩ := r3.tail.see
      exact ⟨p, p', vs, vs', rfl, .inr ⟨.of hp, .of hp', q2 _ [_, _] H2 (itOk_zpT r3.szd.2 r3.tail.szd.2 r3.szd.1) r3⟩⟩
    | _ => exact q2.elim
  | _ => cases d' <;> exact q2.elim
end
end Pv
/-! PvK: targets, list comprehensions. -/
namespace Pv
open PySem PySem.Spec PyProof.Rows L2

/-! ### targets -/
def tG (C : Cn) (tg : List Nat) (g : It → S → Option S) : TG := fun v σ H Q => ∃ s fr x s', R C σ s (.it v x.1 x.2 :: fr) H ∧ g x s = some s' ∧
  ∀ σ', (∀ vs : List Nat, (∀ i ∈ tg, i ∈ vs) → wipe σ' vs = wipe σ vs) → R C σ' s' fr H → Q σ' H
def gNm (i : Nat) : It → S → Option S := fun x s => some (s.set i (some x))
def stL : List Nat → Nat → List D → S → Option S
  | [], _, [], s => some s
  | i :: is, n, d :: ds, s => stL is n ds (s.set i (some (n, d)))
  | _, _, _, _ => none
def gTp (is : List Nat) : It → S → Option S := fun x s => match x.2 with
  | .tup ds => stL is x.1 ds s
  | _ => none
def nin (i : Nat) (l : List Nat) : Bool := !l.contains i
theorem of_nin {i : Nat} {l : List Nat} (h : nin i l = true) : i ∉ l := by
  unfold nin at h
  simpa using h
theorem wipe_set_out {σ : L2.St} {i : Nat} {o : Option V} : ∀ {vs : List Nat}, i ∈ vs → wipe (σ.set i o) vs = wipe σ vs
  | v :: vs, h => by
    show (wipe (σ.set i o) vs).set v none = (wipe σ vs).set v none
    by_cases c : i ∈ vs
    · rw [wipe_set_out c]
    · have e : v = i := by
        rcases List.mem_cons.mp h with h | h
        · exact h.symm
        · exact absurd h c
      subst e
      have : ∀ (l : List Nat), v ∉ l → wipe (σ.set v o) l = (wipe σ l).set v o := by
        intro l
        induction l with
        | nil => intro _; rfl
        | cons a l ih =>
          intro hn
          have h1 : a ≠ v := fun q => hn (by rw [q]; exact List.mem_cons_self)
          have h2 : v ∉ l := fun q => hn (List.mem_cons_of_mem _ q)
          show (wipe (σ.set v o) l).set a none = ((wipe σ l).set a none).set v o
          rw [ih h2, List.set_comm _ _ h1]
      rw [this vs c, List.set_set]
section
variable {C : Cn} {X : Cx} {tg e a b c : Expr} {es : List Expr} {pos p tpos : Pos} {l : List Fr} {H : Hp} {σ : L2.St} {s : S} {fr : List Fr}
theorem PG.imp {t t' : TG} (h : PG X tg t) (i : ∀ v σ H Q, t' v σ H Q → t v σ H Q) : PG X tg t' := ⟨fun pins s σ H v u Q I r q => h.run pins s σ H v u Q I r (i v σ H Q q)⟩
theorem pg_nm {i : Nat} (h : PG X tg (gName i)) (hi : decide (i < C.n) = true) (nl : nin i C.L = true) : PG X tg (tG C [i] (gNm i)) := PG.imp h fun v σ H Q ⟨s, fr, x, s', r, e, k⟩ => by
  cases e
  refine k _ (fun vs hv => wipe_set_out (hv i List.mem_cons_self)) (r.store ?_ (of_nin nl))
  rw [r.ln]
  exact of_decide_eq_true hi
/-- the names of a tuple target -/
def gNs : List Nat → TGs
  | [] => gNil
  | i :: is => gCons (gName i) (gNs is)
theorem gNs_run : ∀ {is : List Nat} {vs : List V} {ds : List D} {n : Nat} {s s' : S} {σ : L2.St} {fr : List Fr} {Q : L2.St → Hp → Prop}, (is.all fun i => decide (i < C.n) && nin i C.L) = true → vs.length = ds.length → R C σ s (its n vs ds ++ fr) H → stL is n ds s = some s' →
    (∀ σ', (∀ ws : List Nat, (∀ i ∈ is, i ∈ ws) → wipe σ' ws = wipe σ ws) → R C σ' s' fr H → Q σ' H) → gNs is vs σ H Q
  | [], [], [], n, s, s', σ, fr, Q, _, _, r, e, k => by
    cases e
    exact ⟨rfl, k σ (fun _ _ => rfl) r⟩
  | i :: is, v :: vs, d :: ds, n, s, s', σ, fr, Q, hh, el, r, e, k => by
    have h1 := bool_and (by simpa only [List.all_cons] using hh)
    have h2 := bool_and h1.1
    have r1 : R C (σ.set i (some v)) (s.set i (some (n, d))) (its n vs ds ++ fr) H := R.store (x := (n, d)) r (by rw [r.ln]; exact of_decide_eq_true h2.1) (of_nin h2.2)
    exact ⟨v, vs, rfl, gNs_run h1.2 (by simpa using el) r1 e fun σ' w r' => k σ' (fun ws hw => (w ws fun j hj => hw j (List.mem_cons_of_mem _ hj)).trans (wipe_set_out (hw i List.mem_cons_self))) r'⟩
  | [], _ :: _, [], _, _, _, _, _, _, _, el, _, _, _ => by simp at el
  | [], _, _ :: _, _, _, _, _, _, _, _, _, _, e, _ => by cases e
  | _ :: _, [], _ :: _, _, _, _, _, _, _, _, el, _, _, _ => by simp at el
  | _ :: _, _, [], _, _, _, _, _, _, _, _, _, e, _ => by cases e
theorem stL_len : ∀ {is : List Nat} {n : Nat} {ds : List D} {s s' : S}, stL is n ds s = some s' → ds.length = is.length
  | [], _, [], _, _, _ => rfl
  | i :: is, n, d :: ds, s, s', e => congrArg (· + 1) (stL_len (is := is) e)
  | [], _, _ :: _, _, _, e => by cases e
  | _ :: _, _, [], _, _, e => by cases e
theorem pg_tp {is : List Nat} (h : PG X tg (gTup X.K is.length (gNs is))) (hh : (is.all fun i => decide (i < C.n) && nin i C.L) = true) : PG X tg (tG C is (gTp is)) := PG.imp h fun v σ H Q ⟨s, fr, x, s', r, e, k⟩ => by
  obtain ⟨n, d⟩ := x
  unfold gTp at e
  cases d with
  | tup ds =>
    obtain ⟨q, vs, rfl, hp, hl, r'⟩ := Rl.openTup r.rl
    have r1 : R C σ s (its n vs ds ++ fr) H := r.reframe (fr := [.it (.ref q) n (.tup ds)] ++ fr) (fun l rl => by
      obtain ⟨q', vs', e', hp', hl', r2⟩ := Rl.openTup rl
      cases e'; rw [hp] at hp'; cases hp'
      rw [List.append_assoc]
      exact r2) fun f hf => by
        rcases List.mem_append.mp hf with hf | hf
        · have : ∀ {vs : List V} {ds : List D}, szL ds → ∀ f ∈ its n vs ds, szF f := by
            intro vs
            induction vs with
            | nil => intro ds _ f hf; cases ds <;> cases hf
            | cons v vs ih =>
              intro ds z f hf
              cases ds with
              | nil => cases hf
              | cons d ds =>
                rcases List.mem_cons.mp hf with q | hf
                · subst q; exact z.1
                · exact ih z.2 f hf
          exact this r.szd.2 f hf
        · exact r.sz f (List.mem_cons_of_mem _ (List.mem_append_left _ hf))
    exact ⟨q, vs, rfl, .of hp, by rw [hl]; exact stL_len e, gNs_run hh hl r1 e k⟩
  | _ => cases e
end

/-! ### the slots of a block -/
def wipeS (s : S) : List Nat → S
  | [] => s
  | v :: vs => (wipeS s vs).set v none
def restore (s2 s : S) : List Nat → S
  | [] => s2
  | v :: vs => (restore s2 s vs).set v (s[v]?.join)
abbrev Cn.nox (C : Cn) : Cn := { C with W := fun _ _ _ _ => False }
section
variable {C : Cn} {σ : L2.St} {s s2 : S} {fr : List Fr} {H : Hp}
theorem R.nox (r : R C σ s fr H) : R C.nox σ s fr H := ⟨r.sl, r.rl, r.sz, r.pn, r.ln⟩
theorem R.yox (r : R C.nox σ s fr H) : R C σ s fr H := ⟨r.sl, r.rl, r.sz, r.pn, r.ln⟩
/-- a slot that has no data may hold any value -/
theorem R.reval {v : Nat} (hv : v < C.n) (r : R C (σ.set v none) s fr H) : R C σ s fr H := by
  have hl : v < σ.length := by
    have := r.sl.len
    rw [List.length_set, r.ln] at this
    omega
  have hs : s[v]? = some none := by
    have h1 : v < s.length := by rw [r.ln]; exact hv
    rw [List.getElem?_eq_getElem h1]
    cases q : s[v] with
    | none => rfl
    | some x =>
      obtain ⟨w, hw⟩ := r.sl.ok v x (by rw [List.getElem?_eq_getElem h1, q])
      rw [List.getElem?_set_self hl] at hw
      cases hw
  refine ⟨⟨by rw [← r.sl.len, List.length_set], fun j x e => ?_⟩, ?_, ?_, fun j hj => ?_, r.ln⟩
  · obtain ⟨w, hw⟩ := r.sl.ok j x e
    by_cases c : v = j
    · subst c; rw [hs] at e; cases e
    · rw [List.getElem?_set_ne c] at hw
      exact ⟨w, hw⟩
  · have := r.rl
    rwa [slF_free v none hs] at this
  · have := r.sz
    rwa [slF_free v none hs] at this
  · have := r.pn j hj
    by_cases c : v = j
    · subst c; rw [List.getElem?_set_self hl] at this; cases this
    · rwa [List.getElem?_set_ne c] at this
theorem wipeS_out {v : Nat} : ∀ {vs : List Nat}, v ∉ vs → (wipeS s vs)[v]? = s[v]?
  | [], _ => rfl
  | a :: vs, h => by
    have h1 : a ≠ v := fun q => h (by rw [q]; exact List.mem_cons_self)
    show ((wipeS s vs).set a none)[v]? = _
    rw [List.getElem?_set_ne h1]
    exact wipeS_out fun q => h (List.mem_cons_of_mem _ q)
theorem restore_out {v : Nat} {o : Option It} : ∀ {vs : List Nat}, v ∉ vs → restore (s2.set v o) s vs = (restore s2 s vs).set v o
  | [], _ => rfl
  | a :: vs, h => by
    have h1 : a ≠ v := fun q => h (by rw [q]; exact List.mem_cons_self)
    show (restore (s2.set v o) s vs).set a _ = ((restore s2 s vs).set a _).set v o
    rw [restore_out fun q => h (List.mem_cons_of_mem _ q), List.set_comm _ _ h1]
/-- own slots of a block -/
def okOwn (n : Nat) (L : List Nat) : List Nat → Bool
  | [] => true
  | v :: vs => decide (v < n) && nin v L && nin v vs && okOwn n L vs
/-- into a block: the outer items of its own names are kept aside in the frames st; .. and back -/
theorem R.block : ∀ {vs : List Nat} {fr : List Fr}, okOwn C.n C.L vs = true → R C σ s fr H →
    ∃ st, R C (wipe σ vs) (wipeS s vs) (st ++ fr) H ∧ ∀ {s2 : S} {fr' : List Fr} {H' : Hp}, R C (wipe σ vs) s2 (st ++ fr') H' → R C σ (restore s2 s vs) fr' H'
  | [], fr, _, r => ⟨[], r, fun r' => r'⟩
  | v :: vs, fr, hh, r => by
    have h1 := bool_and (show (decide (v < C.n) && nin v C.L && nin v vs && okOwn C.n C.L vs) = true from hh)
    have h2 := bool_and h1.1
    have h3 := bool_and h2.1
    have hv : v < C.n := of_decide_eq_true h3.1
    have nv : v ∉ vs := of_nin h2.2
    obtain ⟨st, r1, back⟩ := R.block h1.2 r
    have ew := wipeS_out (s := s) nv
    cases hs : (wipeS s vs)[v]? with
    | none =>
      have := List.getElem?_eq_none_iff.mp hs
      rw [r1.ln] at this
      omega
    | some o =>
      rw [hs] at ew
      have ej : s[v]?.join = o := by rw [← ew]; rfl
      cases o with
      | none =>
        refine ⟨st, r1.unslot v none (by rw [r1.ln]; exact hv) (of_nin h3.2), fun {s2 fr' H'} r2 => ?_⟩
        show R C σ ((restore s2 s vs).set v (s[v]?.join)) fr' H'
        rw [ej]
        exact (back (r2.reval hv)).clear v
      | some x =>
        obtain ⟨w, ev, r2⟩ := r1.take hs
        have r3 := r2.unslot v none (by rw [r2.ln]; exact hv) (of_nin h3.2)
        rw [List.set_set] at r3
        refine ⟨.it w x.1 x.2 :: st, r3, fun {s2 fr' H'} r4 => ?_⟩
        show R C σ ((restore s2 s vs).set v (s[v]?.join)) fr' H'
        rw [ej, ← restore_out nv]
        exact back (R.put (R.reval hv r4) ev)
end

/-! ### list comprehensions -/
def lcGo (vs : List Nat) (g : It → S → Option S) (ft : S → Res Bool) (fe : S → Res It) : List It → S → Res (List It)
  | [], s => .ok [] s
  | x :: xs, s => match g x s with
    | none => .bad
    | some s1 => match ft s1 with
      | .ok true s2 => match fe s2 with
        | .ok y s3 => match lcGo vs g ft fe xs (wipeS s3 vs) with
          | .ok ys s4 => .ok (y :: ys) s4
          | _ => .bad
        | _ => .bad
      | .ok false s2 => lcGo vs g ft fe xs (wipeS s2 vs)
      | _ => .bad
def lcM (vs : List Nat) (fi : S → Res (List It)) (g : It → S → Option S) (ft : S → Res Bool) (fe : S → Res It) : S → Res It := fun s => bindK .exc .bad (fi s) fun xs s1 => match lcGo vs g ft fe xs (wipeS s1 vs) with
  | .ok ys s2 => .ok (min B (minDep ys + 1), .lst (ys.map (·.2))) (restore s2 s1 vs)
  | _ => .bad
theorem minDep_app : ∀ (xs : List It) (y : It), minDep (xs ++ [y]) = min (minDep xs) (min y.1 B)
  | [], y => by
    show min y.1 B = min B (min y.1 B)
    omega
  | x :: xs, y => by
    show min x.1 (minDep (xs ++ [y])) = min (min x.1 (minDep xs)) (min y.1 B)
    rw [minDep_app xs y]
    omega
section
variable {C : Cn} {X : Cx} {tg e a b c : Expr} {es : List Expr} {pos p tpos : Pos} {l : List Fr} {H : Hp} {σ : L2.St} {s s' : S} {fr : List Fr} {G : Gt}
theorem tYes_T : PTs X [] tYes → PTs X [] (tT C fun s => .ok true s) := fun h => ⟨fun pins s σ H Q I ⟨s', fr, r, q⟩ => h.run pins s σ H Q I (q H r)⟩
/-- an item appended to a list that is owned -/
theorem Rl.app {D0 : Addr} {n m : Nat} {ds : List D} {y : V} {d : D} {l : List Fr} (r : Rl G (.it y m d :: .it (.ref D0) (n + 1) (.lst ds) :: l) H) : ∃ vs, H D0 = some (.lst vs) ∧ vs.length = ds.length ∧ Rl G (.it (.ref D0) (min n m + 1) (.lst (ds ++ [d])) :: l) (upd H D0 (.lst (vs ++ [y]))) := by
  obtain ⟨p, vs, e, hp, hl, r1⟩ := Rl.openLst (Rl.perm (.swap _ _ _) r)
  cases e
  refine ⟨vs, hp, hl, ?_⟩
  have r2 := Rl.lowers (Nat.min_le_left n m) r1
  have r3 : Rl G (.it y m d :: (its (min n m) vs ds ++ l)) (del H D0) := Rl.perm List.perm_middle r2
  have r4 := Rl.lower (Nat.min_le_right n m) r3
  have r5 : Rl G (its (min n m) (vs ++ [y]) (ds ++ [d]) ++ l) (del H D0) := by
    rw [its_app hl, List.append_assoc]
    exact Rl.perm List.perm_middle.symm r4
  have r6 := Rl.newLst (by rw [List.length_append, List.length_append, hl]; rfl) r5 (del_self H D0)
  rw [upd_del] at r6
  exact r6
theorem wipe_wipe : ∀ vs : List Nat, okOwn C.n C.L vs = true → R C (wipe σ vs) s fr H → R C (wipe σ vs) s fr H := fun _ _ r => r
/-- behind a turn: the block's own slots forgotten -/
theorem R.wiped {σ2 : L2.St} : ∀ {vs : List Nat}, okOwn C.n C.L vs = true → R C σ2 s fr H → R C (wipe σ2 vs) (wipeS s vs) fr H
  | [], _, r => r
  | v :: vs, hh, r => by
    have h1 := bool_and (show (decide (v < C.n) && nin v C.L && nin v vs && okOwn C.n C.L vs) = true from hh)
    have h2 := bool_and h1.1
    have h3 := bool_and h2.1
    have r1 := R.wiped (vs := vs) h1.2 r
    exact r1.unslot v none (by rw [r1.ln]; exact of_decide_eq_true h3.1) (of_nin h3.2)
theorem lc_run {vs tgs : List Nat} {g : It → S → Option S} {ft : S → Res Bool} {fe : S → Res It} {J : L2.It} {xs YS : List It} {kp : List Fr} {s1 S2 : S} {H1 : Hp} {Q : VK} (hw : okOwn C.n C.L vs = true) (htg : tgs.all (fun i => vs.contains i) = true)
    (ok1 : ItOk C.toGt J xs kp) (r1 : R C σ s1 (kp ++ fr) H1) (et : lcGo vs g ft fe xs (wipeS s1 vs) = .ok YS S2)
    (q1 : ∀ v H', R C σ (restore S2 s1 vs) (.it v (min B (minDep YS + 1)) (.lst (YS.map (·.2))) :: (kp ++ fr)) H' → Q v H') : ∀ D, H1 D = none → ∃ W : Nat → Nat → Hp → Prop, (∃ m, W 0 m (upd H1 D (.lst []))) ∧ ∀ i m H, W i m H →
    (J.stop i H ∧ Q (.ref D) H) ∨ (J.go i H ∧ ∃ Nx : Hp → Prop, (∀ H', Nx H' → ∃ m', m' < m ∧ W (i + 1) m' H') ∧ ∀ x H', J.yld i H x H' → tG C.nox tgs g x (wipe σ vs) H' fun σ2 H2 => wipe σ2 vs = wipe σ vs ∧ tT C.nox ft σ2 H2 fun b H3 =>
      if b = true then tE C.nox fe σ2 H3 fun y H4 => ∃ acc, H4 D = some (.lst acc) ∧ acc.length < sizeLine ∧ Nx (upd H4 D (.lst (acc ++ [y]))) else Nx H3) := by
  intro D0 hD
  obtain ⟨st, rb, back⟩ := R.block hw r1
  -- the invariant
  let Pv : Nat → Hp → Prop := fun i H => ∃ acc ys si, acc ++ ys = YS ∧ acc.length ≤ i ∧ lcGo vs g ft fe (xs.drop i) si = .ok ys S2 ∧ R C (wipe σ vs) si (.it (.ref D0) (minDep acc + 1) (.lst (acc.map (·.2))) :: (st ++ (kp ++ fr))) H
  have P0 : Pv 0 (upd H1 D0 (.lst [])) := by
    refine ⟨[], YS, wipeS s1 vs, rfl, Nat.le_refl _, et, ?_⟩
    exact rb.reframe (fr' := .it (.ref D0) (B + 1) (.lst []) :: (st ++ (kp ++ fr))) (fun l rl => Rl.newLst (n := B) (vs := []) (ds := []) rfl rl hD) fun f hf => by
      rcases List.mem_cons.mp hf with e | hf
      · subst e; exact ⟨Nat.zero_le _, trivial⟩
      · exact rb.sz f (List.mem_append_left _ hf)
  have kfront : ∀ {n : Nat} {ds : List D}, (Fr.it (.ref D0) n (.lst ds) :: (st ++ (kp ++ fr))).Perm (kp ++ (Fr.it (.ref D0) n (.lst ds) :: (st ++ fr))) := fun {n ds} =>
    ((List.perm_append_comm_assoc st kp fr).cons _).trans List.perm_middle.symm
  refine ⟨fun i m H => m = xs.length - i ∧ i ≤ xs.length ∧ Pv i H, ⟨_, rfl, Nat.zero_le _, P0⟩, ?_⟩
  rintro i m H ⟨rfl, hle, acc, ys, si, eacc, elen, ego, ri⟩
  have rk := ri.perm kfront
  have rkl : Rl C.toGt (kp ++ ((Fr.it (.ref D0) (minDep acc + 1) (.lst (acc.map (·.2))) :: (st ++ fr)) ++ slF (wipe σ vs) si)) H := by
    rw [← List.append_assoc]
    exact rk.rl
  by_cases hlt : i < xs.length
  · have hx : xs[i]? = some xs[i] := List.getElem?_eq_getElem hlt
    obtain ⟨go, yl⟩ := ok1.go _ H i _ rkl hx
    refine .inr ⟨go, Pv (i + 1), fun H' p' => ⟨_, by omega, rfl, hlt, p'⟩, fun v H' y => ?_⟩
    have ry : R C (wipe σ vs) si (.it v (xs[i]).1 (xs[i]).2 :: (.it (.ref D0) (minDep acc + 1) (.lst (acc.map (·.2))) :: (st ++ (kp ++ fr)))) H' := by
      refine ⟨rk.sl, ?_, fun f hf => ?_, rk.pn, rk.ln⟩
      · have := yl v H' y
        refine Rl.perm ?_ this
        refine List.Perm.cons _ ?_
        rw [← List.append_assoc]
        exact kfront.symm.append_right _
      · rcases List.mem_cons.mp hf with e | hf
        · subst e; exact ok1.sz _ (List.getElem_mem hlt)
        · exact ri.sz f hf
    rw [List.drop_eq_getElem_cons hlt] at ego
    unfold lcGo at ego
    split at ego
    · cases ego
    · rename_i s2 eg
      refine ⟨si, _, xs[i], s2, ry.nox, eg, fun σ2 hw2 r2 => ?_⟩
      have wv : wipe σ2 vs = wipe (wipe σ vs) vs := hw2 vs fun j hj => by
        have := List.all_eq_true.mp htg j hj
        simpa using this
      have ww : ∀ l : List Nat, (∀ v ∈ l, v ∈ vs) → wipe (wipe σ vs) l = wipe σ vs := by
        intro l
        induction l with
        | nil => intro _; rfl
        | cons a l ih =>
          intro h
          show (wipe (wipe σ vs) l).set a none = _
          rw [ih fun v hv => h v (List.mem_cons_of_mem _ hv)]
          have : (wipe σ vs)[a]? = some none ∨ (wipe σ vs)[a]? = none := by
            cases q : (wipe σ vs)[a]? with
            | none => exact .inr rfl
            | some o =>
              cases o with
              | none => exact .inl rfl
              | some w => exact absurd (h a List.mem_cons_self) (wipe_some q).2
          rcases this with h | h
          · apply List.ext_getElem?
            intro j
            by_cases c : a = j
            · subst c
              rw [List.getElem?_set_self (List.getElem?_eq_some_iff.mp h).1, h]
            · rw [List.getElem?_set_ne c]
          · exact List.set_eq_of_length_le (List.getElem?_eq_none_iff.mp h)
      have wv' : wipe σ2 vs = wipe σ vs := wv.trans (ww vs fun _ h => h)
      refine ⟨wv', s2, _, r2, ?_⟩
      cases eft : ft s2 with
      | bad => rw [eft] at ego; cases ego
      | exc c fs s1 => rw [eft] at ego; cases ego
      | ok bt s3 =>
        rw [eft] at ego
        cases bt with
        | false =>
          intro H2 r3
          rw [if_neg Bool.false_ne_true]
          have r4 := R.wiped hw r3.yox
          rw [wv'] at r4
          exact ⟨acc, ys, _, eacc, by omega, ego, r4⟩
        | true =>
          intro H2 r3
          rw [if_pos rfl]
          refine ⟨s3, _, r3, ?_⟩
          dsimp only at ego
          cases efe : fe s3 with
          | bad => rw [efe] at ego; cases ego
          | exc c fs s1 => rw [efe] at ego; cases ego
          | ok y s4 =>
            rw [efe] at ego
            dsimp only at ego
            intro w H3 r4
            cases erest : lcGo vs g ft fe (xs.drop (i + 1)) (wipeS s4 vs) with
            | bad => rw [erest] at ego; cases ego
            | exc c fs s1 => rw [erest] at ego; cases ego
            | ok zs s5 =>
              rw [erest] at ego
              cases ego
              have r5 := R.wiped hw r4.yox
              rw [wv'] at r5
              obtain ⟨vs', hD', hl', _⟩ := Rl.app r5.rl
              have lacc : (acc.map (·.2)).length = acc.length := List.length_map _
              have z1 : acc.length < sizeLine := by
                have := ok1.len
                omega
              refine ⟨vs', hD', by rw [hl', lacc]; exact z1, acc ++ [y], zs, _, by rw [← eacc, List.append_assoc]; rfl, by rw [List.length_append]; exact Nat.succ_le_succ elen, erest, ?_⟩
              have r6 : R C (wipe σ vs) (wipeS s4 vs) (.it (.ref D0) (min (minDep acc) y.1 + 1) (.lst (acc.map (·.2) ++ [y.2])) :: (st ++ (kp ++ fr))) (upd H3 D0 (.lst (vs' ++ [w]))) := by
                refine R.reframe (fr := .it w y.1 y.2 :: .it (.ref D0) (minDep acc + 1) (.lst (acc.map (·.2))) :: (st ++ (kp ++ fr))) r5 (fun l rl => ?_) fun f hf => ?_
                · obtain ⟨vs'', hD'', hl'', rl'⟩ := Rl.app rl
                  rw [hD'] at hD''
                  cases hD''
                  exact rl'
                · rcases List.mem_cons.mp hf with e | hf
                  · subst e
                    have zl := (R.tail r5).szd
                    refine ⟨?_, szL_app zl.2 ⟨r5.szd, trivial⟩⟩
                    rw [List.length_append, lacc]
                    exact z1
                  · exact r5.sz f (List.mem_append_left _ (List.mem_cons_of_mem _ (List.mem_cons_of_mem _ hf)))
              rw [List.map_append]
              refine R.lower ?_ r6
              rw [minDep_app]
              omega
  · have e : i = xs.length := by omega
    subst e
    refine .inl ⟨ok1.stop _ H rkl, ?_⟩
    rw [List.drop_length] at ego
    unfold lcGo at ego
    cases ego
    rw [List.append_nil] at eacc
    subst eacc
    have r3 : R C (wipe σ vs) S2 (st ++ (.it (.ref D0) (minDep acc + 1) (.lst (acc.map (·.2))) :: (kp ++ fr))) H := ri.perm List.perm_middle.symm
    exact q1 _ H (R.lower (Nat.min_le_right _ _) (back r3))
theorem lcM_imp {vs tgs : List Nat} {fi : S → Res (List It)} {g : It → S → Option S} {ft : S → Res Bool} {fe : S → Res It} {Q : VK} (hw : okOwn C.n C.L vs = true) (htg : tgs.all (fun i => vs.contains i) = true) (q : tE C (lcM vs fi g ft fe) σ H Q) :
    tLc (tI C fi) (tG C.nox tgs g) (tT C.nox ft) (tE C.nox fe) vs σ H Q := by
  obtain ⟨s, fr, r, q⟩ := q
  have q0 : postE C σ fr (bindK .exc .bad (fi s) _) Q := q
  refine ⟨s, fr, r, ?_⟩
  cases ef : fi s with
  | bad => rw [ef] at q0; exact q0.elim
  | exc c fs s1 => rw [ef] at q0; exact q0
  | ok xs s1 =>
    rw [ef] at q0
    have q1 : postE C σ fr (match lcGo vs g ft fe xs (wipeS s1 vs) with
      | .ok ys s2 => .ok (min B (minDep ys + 1), .lst (ys.map (·.2))) (restore s2 s1 vs)
      | _ => .bad) Q := q0
    cases et : lcGo vs g ft fe xs (wipeS s1 vs) with
    | bad => rw [et] at q1; exact q1.elim
    | exc c fs s1 => rw [et] at q1; exact q1.elim
    | ok YS S2 =>
      rw [et] at q1
      exact fun J kp H1 ok1 r1 => lc_run hw htg ok1 r1 et fun v H' r2 => q1 v H' (r2.drop ((List.sublist_append_right _ _).cons_cons _))
theorem pm_lc {elt iter : Expr} {ifs : List Expr} {scope : Scope} {own : List (Str × Nat)} {tgs : List Nat} {fi : S → Res (List It)} {g : It → S → Option S} {ft : S → Res Bool} {fe : S → Res It} (hc : X.calm = true) (hN : X.N.Nodup) (hi : PI X tg iter (tI C fi)) (ok : BlkOk X.N X.env.scope scope own)
    (hg : ∀ (s : Shared) (H : Hp) (D : Addr) (cl : List (Str × Addr)) (fp : List Addr), PG (X.blk s H scope (compEnvC scope cl D X.env) fp) tg (tG C.nox tgs g)) (ht : ∀ (s : Shared) (H : Hp) (D : Addr) (cl : List (Str × Addr)) (fp : List Addr), PTs (X.blk s H scope (compEnvC scope cl D X.env) fp) ifs (tT C.nox ft))
    (he : ∀ (s : Shared) (H : Hp) (D : Addr) (cl : List (Str × Addr)) (fp : List Addr), PE (X.blk s H scope (compEnvC scope cl D X.env) fp) elt (tE C.nox fe)) (hw : okOwn C.n C.L (own.map (·.2)) = true) (htg : tgs.all (fun i => (own.map (·.2)).contains i) = true) (hs : ∀ x, foldedSetIterable iter X.env x = pure x := by intro _; rfl) :
    PE X (.ListComp elt [⟨tg, iter, ifs, 0⟩] scope pos) (tE C (lcM (own.map (·.2)) fi g ft fe)) := PE.imp (pe_lc hc hN hi ok hg ht he hs) fun _ _ _ => lcM_imp hw htg
/-! over a name whose list stays its own: kept aside while the block runs -/
theorem itOk_lstI {K : PySem.W.Frag} {ds : List D} {q : Addr} {n : Nat} (z : szL ds) (zl : ds.length ≤ sizeLine) (im : isImmL ds = true) : ItOk G (Itl K q) (ds.map fun d => (B, d)) [.it (.ref q) n (.lst ds)] where
  go := fun l H i x r e => by
    rw [List.getElem?_map] at e
    cases hd : ds[i]? with
    | none => rw [hd] at e; cases e
    | some d =>
      rw [hd] at e
      cases e
      obtain ⟨q', vs, e', hp, sl⟩ := Rl.see r
      cases e'
      obtain ⟨w, hw, sw⟩ := SeeL.get sl hd
      refine ⟨⟨vs, w, .of hp, hw⟩, fun v H' y => ?_⟩
      obtain ⟨rfl, y2⟩ := y
      have ev : v = w := Option.some.inj ((y2 vs (.of hp)).symm.trans hw)
      subst ev
      exact Rl.imm (isImmL_mem.mp im d (List.mem_of_getElem? hd)) sw r
  stop := fun l H r => by
    obtain ⟨q', vs, e', hp, sl⟩ := Rl.see r
    cases e'
    exact ⟨vs, .of hp, by rw [List.length_map, sl.length]; exact Nat.le_refl _⟩
  sz := fun x hx => by
    obtain ⟨d, hd, rfl⟩ := List.mem_map.mp hx
    exact szL_mem.mp z d hd
  len := by rw [List.length_map]; exact zl
def lcH (i : Nat) (vs : List Nat) (g : It → S → Option S) (ft : S → Res Bool) (fe : S → Res It) : S → Res It := fun s => match s[i]? with
  | some (some (n, .lst ds)) => if isImmL ds then match lcGo vs g ft fe (ds.map fun d => (B, d)) (wipeS (s.set i none) vs) with
      | .ok ys s2 => .ok (min B (minDep ys + 1), .lst (ys.map (·.2))) ((restore s2 (s.set i none) vs).set i (some (n, .lst ds)))
      | _ => .bad
    else .bad
  | _ => .bad
theorem lcH_imp {K : PySem.W.Frag} {i : Nat} {vs tgs : List Nat} {g : It → S → Option S} {ft : S → Res Bool} {fe : S → Res It} {Q : VK} (hw : okOwn C.n C.L vs = true) (htg : tgs.all (fun i => vs.contains i) = true) (q : tE C (lcH i vs g ft fe) σ H Q) :
    tLc (iList K (tVar i)) (tG C.nox tgs g) (tT C.nox ft) (tE C.nox fe) vs σ H Q := by
  obtain ⟨s, fr, r, q⟩ := q
  unfold lcH at q
  split at q
  · rename_i n ds es
    split at q
    · rename_i im
      cases et : lcGo vs g ft fe (ds.map fun d => (B, d)) (wipeS (s.set i none) vs) with
      | bad => rw [et] at q; exact q.elim
      | exc c fs s1 => rw [et] at q; exact q.elim
      | ok YS S2 =>
        rw [et] at q
        obtain ⟨v, ev, r1⟩ := r.take es
        obtain ⟨p, ws, rfl, hp, sl⟩ := r1.see
        refine ⟨.ref p, ev, p, rfl, ⟨ws, .of hp⟩, ?_⟩
        have z := r1.szd
        exact lc_run (kp := [.it (.ref p) n (.lst ds)]) hw htg (itOk_lstI z.2 z.1 im) r1 et fun v H' r2 => q v H' ((r2.perm (.swap _ _ _)).put (x := (n, .lst ds)) ev)
    · exact q.elim
  · exact q.elim
theorem pm_lcH {elt iter : Expr} {ifs : List Expr} {scope : Scope} {own : List (Str × Nat)} {tgs : List Nat} {i : Nat} {g : It → S → Option S} {ft : S → Res Bool} {fe : S → Res It} (hc : X.calm = true) (hN : X.N.Nodup) (hi : PE X iter (tVar i)) (ok : BlkOk X.N X.env.scope scope own)
    (hg : ∀ (s : Shared) (H : Hp) (D : Addr) (cl : List (Str × Addr)) (fp : List Addr), PG (X.blk s H scope (compEnvC scope cl D X.env) fp) tg (tG C.nox tgs g)) (ht : ∀ (s : Shared) (H : Hp) (D : Addr) (cl : List (Str × Addr)) (fp : List Addr), PTs (X.blk s H scope (compEnvC scope cl D X.env) fp) ifs (tT C.nox ft))
    (he : ∀ (s : Shared) (H : Hp) (D : Addr) (cl : List (Str × Addr)) (fp : List Addr), PE (X.blk s H scope (compEnvC scope cl D X.env) fp) elt (tE C.nox fe)) (hw : okOwn C.n C.L (own.map (·.2)) = true) (htg : tgs.all (fun i => (own.map (·.2)).contains i) = true) (hs : ∀ x, foldedSetIterable iter X.env x = pure x := by intro _; rfl) :
    PE X (.ListComp elt [⟨tg, iter, ifs, 0⟩] scope pos) (tE C (lcH i (own.map (·.2)) g ft fe)) := PE.imp (pe_lc hc hN (pi_list hi) ok hg ht he hs) fun _ _ _ => lcH_imp hw htg
end
end Pv
/-! PvS: statements. -/
namespace Pv
open PySem PySem.Spec PyProof.Rows L2

section
variable {C : Cn} {X : Cx} {st : Stmt} {rest body : List Stmt} {tg e e2 a b c : Expr} {pos p tpos : Pos} {l : List Fr} {H : Hp} {σ : L2.St} {s : S} {fr fr' : List Fr} {D : Ends}
theorem postS.more {r : SRes} (p : fr.Sublist fr') (h : postS C D fr r) : postS C D fr' r := by
  cases r with
  | nx s => exact fun σ H r => h σ H (r.drop p)
  | rt x s => exact fun v σ H r => h v σ H (r.drop (p.cons_cons _))
  | bk s => exact fun σ H r => h σ H (r.drop p)
  | ct s => exact fun σ H r => h σ H (r.drop p)
  | exc c fs s => exact fun σ => (h σ).more p
  | bad => exact h
theorem PS.or {t u : TS} (h : PS X st t) (k : PS X st u) : PS X st (fun D σ H => t D σ H ∨ u D σ H) := ⟨fun pins s σ H D I q => q.elim (h.run pins s σ H D I) (k.run pins s σ H D I)⟩
def nilS : S → SRes := fun s => .nx s
def seqS (f g : S → SRes) : S → SRes := fun s => match f s with
  | .nx s1 => g s1
  | r => r
theorem pss0 : PSs X [] (tS C nilS) := PSs.imp pss_nil fun D σ H ⟨s, fr, r, h⟩ => h σ H r
theorem pss {f g : S → SRes} (h : PS X st (tS C f)) (k : PSs X rest (tS C g)) : PSs X (st :: rest) (tS C (seqS f g)) := PSs.imp (pss_cons h k) fun D σ H ⟨s, fr, r, q⟩ => by
  refine ⟨s, fr, r, ?_⟩
  unfold seqS at q
  cases e : f s with
  | nx s1 =>
    rw [e] at q
    exact fun σ' H' r' => ⟨s1, fr, r', q⟩
  | rt x s1 => rw [e] at q; exact q
  | bk s1 => rw [e] at q; exact q
  | ct s1 => rw [e] at q; exact q
  | exc c fs s1 => rw [e] at q; exact q
  | bad => rw [e] at q; exact q
theorem pss1 {f : S → SRes} (h : PS X st (tS C f)) : PSs X [st] (tS C f) := pss_one h
def badS : S → SRes := fun _ => .bad
theorem ps_bad : PS X st (tS C badS) := PS.imp ps_never fun D σ H ⟨s, fr, r, h⟩ => h.elim
theorem ps_pass : PS X (.Pass pos) (tS C nilS) := PS.imp L2.ps_pass fun D σ H ⟨s, fr, r, h⟩ => h σ H r
theorem ps_brk : PS X (.Break pos) (tS C fun s => .bk s) := PS.imp ps_break fun D σ H ⟨s, fr, r, h⟩ => h σ H r
theorem ps_cnt : PS X (.Continue pos) (tS C fun s => .ct s) := PS.imp ps_continue fun D σ H ⟨s, fr, r, h⟩ => h σ H r
/-- an expression as a statement -/
def exS (f : S → Res It) : S → SRes := fun s => (f s).sbind fun _ s1 => .nx s1
theorem ps_ex {f : S → Res It} (h : PE X e (tE C f)) (hs : swapsWith e none pos.line X.env = pure false := by rfl) : PS X (.Expr e pos) (tS C (exS f)) := PS.imp (ps_expr h hs) fun D σ H ⟨s, fr, r, q⟩ => by
  refine tE_K P_S r q fun x s1 v H1 r1 q1 => ?_
  exact q1 σ H1 r1.tail
def rtS (f : S → Res It) : S → SRes := fun s => (f s).sbind fun x s1 => .rt x s1
theorem ps_rt {f : S → Res It} (h : PE X e (tE C f)) : PS X (.Return (some e) pos) (tS C (rtS f)) := PS.imp (ps_ret h) fun D σ H ⟨s, fr, r, q⟩ => by
  refine tE_K P_S r q fun x s1 v H1 r1 q1 => ?_
  exact q1 v σ H1 r1
def rtN : S → SRes := fun s => .rt (B, .non) s
theorem ps_rtN : PS X (.Return none pos) (tS C rtN) := PS.imp ps_retN fun D σ H ⟨s, fr, r, q⟩ => q .non σ H (r.imm rfl rfl trivial)
def ifS (c : S → Res Bool) (f g : S → SRes) : S → SRes := fun s => (c s).sbind fun b s1 => if b then f s1 else g s1
theorem ps_ifS {t : S → Res Bool} {f g : S → SRes} {u v : List Stmt} (hc : PT X c (tT C t)) (ha : PSs X u (tS C f)) (hb : PSs X v (tS C g)) : PS X (.If c u v pos) (tS C (ifS t f g)) := PS.imp (ps_if hc ha hb) fun D σ H ⟨s, fr, r, q⟩ => by
  refine tT_K P_S r q fun x s1 H1 r1 q1 => ?_
  cases x with
  | true => rw [if_pos rfl]; exact ⟨s1, fr, r1, q1⟩
  | false => rw [if_neg Bool.false_ne_true]; exact ⟨s1, fr, r1, q1⟩
/-! name = value; target = value -/
def asS (f : S → Res It) (g : It → S → Option S) : S → SRes := fun s => (f s).sbind fun x s1 => match g x s1 with
  | some s2 => .nx s2
  | none => .bad
theorem asS_imp {f : S → Res It} {g : It → S → Option S} {tgs : List Nat} {te : TE} {tgt : TG} (hi : ∀ σ H Q, tE C f σ H Q → te σ H Q) (hg : ∀ v σ H Q, tG C tgs g v σ H Q → tgt v σ H Q) (q : tS C (asS f g) D σ H) : tAsg te tgt D σ H := by
  obtain ⟨s, fr, r, q⟩ := q
  refine hi σ H _ (tE_K P_S r q fun x s1 v H1 r1 q1 => ?_)
  cases e : g x s1 with
  | none => rw [e] at q1; exact q1.elim
  | some s2 =>
    rw [e] at q1
    exact hg v σ H1 _ ⟨s1, fr, x, s2, r1, e, fun σ' _ r' => q1 σ' H1 r'⟩
theorem gName_of {i : Nat} (hi : decide (i < C.n) = true) (nl : nin i C.L = true) : ∀ v σ H Q, tG C [i] (gNm i) v σ H Q → gName i v σ H Q := fun v σ H Q ⟨s, fr, x, s', r, e, k⟩ => by
  cases e
  refine k _ (fun vs hv => wipe_set_out (hv i List.mem_cons_self)) (r.store ?_ (of_nin nl))
  rw [r.ln]
  exact of_decide_eq_true hi
theorem ps_nm {i : Nat} {x : Str} {f : S → Res It} {pos' : Pos} (hN : X.N.Nodup) (hi : X.N[i]? = some x) (hx : Loc X.env.scope x) (he : PE X e (tE C f)) (hn : decide (i < C.n) = true) (nl : nin i C.L = true) (hs : swapsWith e (some (.Name x pos')) pos.line X.env = pure false := by rfl)
    (hf : X.fn x = true ∨ X.env.scope.names.lookup x = some .local := by first | exact .inl rfl | exact .inr rfl | assumption) : PS X (.Assign [.Name x pos'] e pos) (tS C (asS f (gNm i))) :=
  PS.imp (ps_set hN hi hx he hs hf) fun D σ H q => asS_imp (tgs := [i]) (fun _ _ _ h => h) (gName_of hn nl) q
theorem ps_as {f : S → Res It} {g : It → S → Option S} {tgs : List Nat} (he : PE X e (tE C f)) (hg : PG X tg (tG C tgs g)) (hs : swapsWithSole [tg] e pos.line X.env = pure false := by rfl) (hw : swappedStores [tg] e X.env = pure none := by rfl) (h1 : (assignEach [tg] X.env).map (·.2) = [assign tg X.env] := by rfl) : PS X (.Assign [tg] e pos) (tS C (asS f g)) :=
  PS.imp (ps_asg he hg hs hw h1) fun D σ H q => asS_imp (fun _ _ _ h => h) (fun _ _ _ _ h => h) q
/-- name = [ .. ] on one line -/
theorem ps_nmLc {i : Nat} {y : Str} {py : Pos} {elt iter : Expr} {ifs : List Expr} {scope : Scope} {own : List (Str × Nat)} {spos : Pos} {tgs : List Nat} {fi : S → Res (List It)} {g : It → S → Option S} {ft : S → Res Bool} {fe : S → Res It} (hc : X.calm = true) (hN : X.N.Nodup) (hy : X.N[i]? = some y) (hyl : X.env.scope.names.lookup y = some .local)
    (hsw : swapsWith (.ListComp elt [⟨tg, iter, ifs, 0⟩] scope pos) (some (.Name y py)) spos.line X.env = pure true) (hi : PI X tg iter (tI C fi)) (ok : BlkOk X.N X.env.scope scope own)
    (hg : ∀ (s : Shared) (H : Hp) (D : Addr) (cl : List (Str × Addr)) (fp : List Addr), PG (X.blk s H scope (compEnvC scope cl D X.env) fp) tg (tG C.nox tgs g)) (ht : ∀ (s : Shared) (H : Hp) (D : Addr) (cl : List (Str × Addr)) (fp : List Addr), PTs (X.blk s H scope (compEnvC scope cl D X.env) fp) ifs (tT C.nox ft))
    (he : ∀ (s : Shared) (H : Hp) (D : Addr) (cl : List (Str × Addr)) (fp : List Addr), PE (X.blk s H scope (compEnvC scope cl D X.env) fp) elt (tE C.nox fe)) (hw : okOwn C.n C.L (own.map (·.2)) = true) (htg : tgs.all (fun i => (own.map (·.2)).contains i) = true)
    (hn : decide (i < C.n) = true) (nl : nin i C.L = true) (hs : ∀ x, foldedSetIterable iter X.env x = pure x := by intro _; rfl) :
    PS X (.Assign [.Name y py] (.ListComp elt [⟨tg, iter, ifs, 0⟩] scope pos) spos) (tS C (asS (lcM (own.map (·.2)) fi g ft fe) (gNm i))) :=
  PS.imp (ps_setLc hc hN hy hyl hsw hi ok hg ht he hs) fun D σ H q => asS_imp (tgs := [i]) (fun _ _ _ h => lcM_imp hw htg h) (gName_of hn nl) q
/-- a, b = x, y -/
def parS (i j : Nat) (f : S → Res (List It)) : S → SRes := fun s => (f s).sbind fun xs s1 => match xs with
  | [x, y] => .nx ((s1.set i (some x)).set j (some y))
  | _ => .bad
theorem ps_parS {i j : Nat} {x y : Str} {f : S → Res (List It)} {px py pt : Pos} {kt k2 pt2} (hc : X.calm = true) (hN : X.N.Nodup) (hi : X.N[i]? = some x) (hj : X.N[j]? = some y) (hij : i ≠ j) (hx : X.env.scope.names.lookup x = some .local) (hy : X.env.scope.names.lookup y = some .local) (ha : PA X [a, b] (tA C f))
    (hw : swappedStores [.Tuple [.Name x px, .Name y py] kt pt] (.Tuple [a, b] k2 pt2) X.env = pure (some [x, y])) (hn : (decide (i < C.n) && nin i C.L && decide (j < C.n) && nin j C.L) = true)
    (hs : swapsWithSole [.Tuple [.Name x px, .Name y py] kt pt] (.Tuple [a, b] k2 pt2) pos.line X.env = pure false := by rfl) : PS X (.Assign [.Tuple [.Name x px, .Name y py] kt pt] (.Tuple [a, b] k2 pt2) pos) (tS C (parS i j f)) := PS.imp (ps_par hc hN hi hj hij hx hy ha hw hs) fun D σ H ⟨s, fr, r, q⟩ => by
  refine tA_K P_S r q fun xs s1 vs H1 e r1 q1 => ?_
  match xs, vs, e, q1, r1 with
  | [x, y], [v, w], _, q1, r1 =>
    have h1 := bool_and hn
    have h2 := bool_and h1.1
    have h3 := bool_and h2.1
    have r2 : R C (σ.set i (some v)) (s1.set i (some x)) (.it w y.1 y.2 :: fr) H1 := R.store (x := x) r1 (by rw [r1.ln]; exact of_decide_eq_true h3.1) (of_nin h3.2)
    have r3 := R.store (i := j) (x := y) r2 (by rw [r2.ln]; exact of_decide_eq_true h2.2) (of_nin h1.2)
    exact ⟨v, w, rfl, q1 _ H1 r3⟩
  | [], _, _, q1, _ => exact q1.elim
  | [_], _, _, q1, _ => exact q1.elim
  | _ :: _ :: _ :: _, _, _, q1, _ => exact q1.elim
/-! loops -/
def forGo (g : It → S → Option S) (fb : S → SRes) : List It → S → SRes
  | [], s => .nx s
  | x :: xs, s => match g x s with
    | none => .bad
    | some s1 => match fb s1 with
      | .nx s2 => forGo g fb xs s2
      | .ct s2 => forGo g fb xs s2
      | .bk s2 => .nx s2
      | r => r
def forS (fi : S → Res (List It)) (g : It → S → Option S) (fb : S → SRes) : S → SRes := fun s => (fi s).sbind fun xs s1 => forGo g fb xs s1
theorem ps_fr {iter : Expr} {tgs : List Nat} {fi : S → Res (List It)} {g : It → S → Option S} {fb : S → SRes} (hp : PassesOwn (model X.prog X.w) X.A X.env X.xe) (hc : X.calm = true) (hi : PI X tg iter (tI C fi)) (hg : PG X tg (tG C tgs g)) (hb : PSs X body (tS C fb))
    (hs : ∀ x, foldedSetIterable iter X.env x = pure x := by intro _; rfl) : PS X (.For tg iter body [] pos) (tS C (forS fi g fb)) := PS.imp (ps_for hp hc hi hg hb hs) fun D σ H ⟨s, fr, r, q⟩ => by
  have q0 : postS C D fr (bindK .exc .bad (fi s) _) := q
  refine ⟨s, fr, r, ?_⟩
  cases ef : fi s with
  | bad => rw [ef] at q0; exact q0.elim
  | exc c fs s1 => rw [ef] at q0; exact q0 σ
  | ok xs s1 =>
    rw [ef] at q0
    intro J kp H1 ok1 r1
    have q1 : postS C D fr (forGo g fb xs s1) := q0
    refine ⟨fun i m σ H => m = xs.length - i ∧ i ≤ xs.length ∧ ∃ si, R C σ si (kp ++ fr) H ∧ postS C D fr (forGo g fb (xs.drop i) si), ⟨_, rfl, Nat.zero_le _, s1, r1, q1⟩, ?_⟩
    rintro i m σ H ⟨rfl, hle, si, ri, qi⟩
    have rkl : Rl C.toGt (kp ++ (fr ++ slF σ si)) H := List.append_assoc _ _ _ ▸ ri.rl
    by_cases hlt : i < xs.length
    · have hx : xs[i]? = some xs[i] := List.getElem?_eq_getElem hlt
      obtain ⟨go, yl⟩ := ok1.go _ H i _ rkl hx
      refine .inr ⟨go, fun σ' H' => ∃ si, R C σ' si (kp ++ fr) H' ∧ postS C D fr (forGo g fb (xs.drop (i + 1)) si), fun σ' H' p' => ⟨_, by omega, rfl, hlt, p'⟩, fun v H' y => ?_⟩
      have ry : R C σ si (.it v (xs[i]).1 (xs[i]).2 :: (kp ++ fr)) H' := by
        refine ⟨ri.sl, ?_, fun f hf => ?_, ri.pn, ri.ln⟩
        · have := yl v H' y
          rw [← List.append_assoc] at this
          exact this
        · rcases List.mem_cons.mp hf with e | hf
          · subst e; exact ok1.sz _ (List.getElem_mem hlt)
          · exact ri.sz f hf
      rw [List.drop_eq_getElem_cons hlt] at qi
      unfold forGo at qi
      cases eg : g xs[i] si with
      | none => rw [eg] at qi; exact qi.elim
      | some s2 =>
        rw [eg] at qi
        dsimp only at qi
        refine ⟨si, _, xs[i], s2, ry, eg, fun σ' _ r2 => ⟨s2, _, r2, ?_⟩⟩
        cases eb : fb s2 with
        | nx s3 => rw [eb] at qi; exact fun σ2 H2 r3 => ⟨s3, r3, qi⟩
        | ct s3 => rw [eb] at qi; exact fun σ2 H2 r3 => ⟨s3, r3, qi⟩
        | bk s3 => rw [eb] at qi; exact fun σ2 H2 r3 => qi σ2 H2 (r3.drop (List.sublist_append_right _ _))
        | rt x s3 => rw [eb] at qi; exact fun v σ2 H2 r3 => qi v σ2 H2 (r3.drop ((List.sublist_append_right _ _).cons_cons _))
        | exc c fs s3 => rw [eb] at qi; exact fun σ2 => (qi σ2).more (List.sublist_append_right _ _)
        | bad => rw [eb] at qi; exact qi.elim
    · have e : i = xs.length := by omega
      subst e
      rw [List.drop_length] at qi
      exact .inl ⟨ok1.stop _ H rkl, qi σ H (ri.drop (List.sublist_append_right _ _))⟩
def whGo (c : S → Res Bool) (fb : S → SRes) : Nat → S → SRes
  | 0, _ => .bad
  | n + 1, s => (c s).sbind fun b s1 => if b then match fb s1 with
      | .nx s2 => whGo c fb n s2
      | .ct s2 => whGo c fb n s2
      | .bk s2 => .nx s2
      | r => r
    else .nx s1
theorem ps_wh {t : S → Res Bool} {fb : S → SRes} (n : Nat) (hp : PassesOwn (model X.prog X.w) X.A X.env X.xe) (hc : PT X c (tT C t)) (hb : PSs X body (tS C fb)) : PS X (.While c body [] pos) (tS C (whGo t fb n)) := PS.imp (ps_while hp hc hb) fun D σ H ⟨s, fr, r, q⟩ => by
  refine ⟨fun m σ H => ∃ s, R C σ s fr H ∧ postS C D fr (whGo t fb m s), ⟨n, s, r, q⟩, ?_⟩
  rintro m σ H ⟨s, r, q⟩
  cases m with
  | zero => exact q.elim
  | succ m =>
    refine tT_K P_S r q fun x s1 H1 r1 q1 => ?_
    cases x with
    | false => rw [if_neg Bool.false_ne_true]; exact q1 σ H1 r1
    | true =>
      rw [if_pos rfl]
      refine ⟨fun σ' H' => ∃ s, R C σ' s fr H' ∧ postS C D fr (whGo t fb m s), fun σ' H' p' => ⟨m, Nat.lt_succ_self _, p'⟩, s1, fr, r1, ?_⟩
      have q2 : postS C D fr (match fb s1 with
        | .nx s2 => whGo t fb m s2
        | .ct s2 => whGo t fb m s2
        | .bk s2 => .nx s2
        | r => r) := q1
      cases eb : fb s1 with
      | nx s3 => rw [eb] at q2; exact fun σ2 H2 r3 => ⟨s3, r3, q2⟩
      | ct s3 => rw [eb] at q2; exact fun σ2 H2 r3 => ⟨s3, r3, q2⟩
      | bk s3 => rw [eb] at q2; exact fun σ2 H2 r3 => q2 σ2 H2 r3
      | rt x s3 => rw [eb] at q2; exact q2
      | exc c fs s3 => rw [eb] at q2; exact q2
      | bad => rw [eb] at q2; exact q2.elim
end
end Pv
/-! PvT: what is written: items, keys, fields, a list's methods. -/
namespace Pv
open PySem PySem.Spec PyProof.Rows L2

/-! ### keys -/
section
variable {κ : Type} [DecidableEq κ]
theorem putK_at {k : κ} {u v : V} : ∀ {kvs : List (κ × V)} {j : Nat}, (kvs.map (·.1)).Nodup → kvs[j]? = some (k, u) → (putK kvs k v).map (·.1) = kvs.map (·.1) ∧ (putK kvs k v).map (·.2) = (kvs.map (·.2)).set j v := by
  intro kvs j nd h
  have hany : (kvs.any fun kv => decide (kv.1 = k)) = true := List.any_eq_true.mpr ⟨(k, u), List.mem_of_getElem? h, by simp⟩
  unfold putK
  rw [if_pos hany]
  clear hany
  induction kvs generalizing j with
  | nil => cases h
  | cons p r ih =>
    have nd' := List.nodup_cons.mp (by simpa only [List.map_cons] using nd)
    cases j with
    | zero =>
      cases h
      have no : ∀ q ∈ r, (if q.1 = k then (q.1, v) else q) = q := fun q hq => if_neg fun e => nd'.1 (by rw [← e]; exact List.mem_map.mpr ⟨q, hq, rfl⟩)
      have em : r.map (fun kv => if kv.1 = k then (kv.1, v) else kv) = r := by
        rw [List.map_congr_left no, List.map_id']
      constructor
      · rw [List.map_cons, em]; simp
      · rw [List.map_cons, em]; simp
    | succ j =>
      have h' : r[j]? = some (k, u) := h
      have ne : p.1 ≠ k := fun e => nd'.1 (by rw [e]; exact List.mem_map.mpr ⟨(k, u), List.mem_of_getElem? h', rfl⟩)
      obtain ⟨i1, i2⟩ := ih nd'.2 h'
      constructor
      · rw [List.map_cons, if_neg ne, List.map_cons, i1, List.map_cons]
      · rw [List.map_cons, if_neg ne, List.map_cons, i2, List.map_cons, List.set_cons_succ]
end
theorem idxK_K {kvs : List (Key × V)} {k : Key} : (∀ j, idxK (kvs.map fun p => kD p.1) (kD k) = some j → ∃ u, kvs[j]? = some (k, u)) ∧ (idxK (kvs.map fun p => kD p.1) (kD k) = none → valV kvs k = none) := by
  induction kvs with
  | nil => exact ⟨(fun j h => by cases h), fun _ => rfl⟩
  | cons p r ih =>
    obtain ⟨i1, i2⟩ := ih
    by_cases c : p.1 = k
    · refine ⟨fun j h => ?_, fun h => ?_⟩
      · have e : 0 = j := by simpa [idxK, sameK_kD, c] using h
        subst e
        exact ⟨p.2, by rw [← c]; rfl⟩
      · simp [idxK, sameK_kD, c] at h
    · refine ⟨fun j h => ?_, fun h => ?_⟩
      · obtain ⟨j', e1, e2⟩ : ∃ j', idxK (r.map fun p => kD p.1) (kD k) = some j' ∧ j' + 1 = j := by simpa [idxK, sameK_kD, c] using h
        subst e2
        exact i1 j' e1
      · rw [valV_neg c]
        exact i2 (by simpa [idxK, sameK_kD, c] using h)
theorem idxK_T {kvs : List (List Key × V)} {k : List Key} : (∀ j, idxK (kvs.map fun p => D.tup (p.1.map kD)) (.tup (k.map kD)) = some j → ∃ u, kvs[j]? = some (k, u)) ∧ (idxK (kvs.map fun p => D.tup (p.1.map kD)) (.tup (k.map kD)) = none → valV kvs k = none) := by
  induction kvs with
  | nil => exact ⟨(fun j h => by cases h), fun _ => rfl⟩
  | cons p r ih =>
    obtain ⟨i1, i2⟩ := ih
    by_cases c : p.1 = k
    · refine ⟨fun j h => ?_, fun h => ?_⟩
      · have e : 0 = j := by simpa [idxK, sameK_T, c] using h
        subst e
        exact ⟨p.2, by rw [← c]; rfl⟩
      · simp [idxK, sameK_T, c] at h
    · refine ⟨fun j h => ?_, fun h => ?_⟩
      · obtain ⟨j', e1, e2⟩ : ∃ j', idxK (r.map fun p => D.tup (p.1.map kD)) (.tup (k.map kD)) = some j' ∧ j' + 1 = j := by simpa [idxK, sameK_T, c] using h
        subst e2
        exact i1 j' e1
      · rw [valV_neg c]
        exact i2 (by simpa [idxK, sameK_T, c] using h)
theorem nodup_of_map {α β : Type} (f : α → β) : ∀ {l : List α}, (l.map f).Nodup → l.Nodup
  | [], _ => List.nodup_nil
  | a :: l, h => by
    have h' := List.nodup_cons.mp (by simpa only [List.map_cons] using h)
    exact List.nodup_cons.mpr ⟨fun m => h'.1 (List.mem_map.mpr ⟨a, m, rfl⟩), nodup_of_map f h'.2⟩
/-- the dict's object behind d[k] = v, by data -/
theorem DO.put {G : Gt} {t : Bool} {ks : List D} {vs : List V} {o : HO} {H : Hp} {a : Addr} {k : D} {y v : V} (h : DO t ks vs o) (nd : ks.Nodup) (hk : okKey t k = true) (sk : See G H k y) (ho : H a = some o) (hz : vs.length < sizeLine) :
    ∃ o', DPut H a y v (upd H a o') ∧ DO t (putKk ks k) (match idxK ks k with | some j => vs.set j v | none => vs ++ [v]) o' := by
  rcases h with ⟨rfl, kvs, rfl, rfl, rfl⟩ | ⟨rfl, kvs, rfl, rfl, rfl⟩
  · have ok' : (keyO k).isSome = true := hk
    obtain ⟨k', e⟩ := Option.isSome_iff_exists.mp ok'
    obtain rfl := keyO_of e
    obtain rfl := See.key sk
    have nd' : (kvs.map (·.1)).Nodup := nodup_of_map kD (by rw [List.map_map]; exact nd)
    refine ⟨.dK (putK kvs k' v), DPut.k ho (by rw [List.length_map] at hz; exact hz), .inl ⟨rfl, _, rfl, ?_⟩⟩
    obtain ⟨i1, i2⟩ := idxK_K (kvs := kvs) (k := k')
    unfold putKk
    cases q : idxK (kvs.map fun p => kD p.1) (kD k') with
    | some j =>
      obtain ⟨u, hu⟩ := i1 j q
      obtain ⟨p1, p2⟩ := putK_at (v := v) nd' hu
      refine ⟨?_, p2.symm⟩
      have : ∀ l : List (Key × V), (l.map fun p => kD p.1) = (l.map (·.1)).map kD := fun l => by rw [List.map_map]; rfl
      show (kvs.map fun p => kD p.1) = ((putK kvs k' v).map fun p => kD p.1)
      rw [this, this, p1]
    | none =>
      rw [putK_new v (i2 q)]
      refine ⟨?_, ?_⟩
      · show (kvs.map fun p => kD p.1) ++ [kD k'] = _
        rw [List.map_append]; rfl
      · show kvs.map (·.2) ++ [v] = _
        rw [List.map_append]; rfl
  · have ok' : (keyT k).isSome = true := hk
    obtain ⟨k', e⟩ := Option.isSome_iff_exists.mp ok'
    obtain rfl := keyT_of e
    obtain ⟨b, ws, rfl, hb, sw⟩ := sk
    obtain rfl := SeeL.keys sw
    have nd' : (kvs.map (·.1)).Nodup := nodup_of_map (fun k => D.tup (k.map kD)) (by rw [List.map_map]; exact nd)
    refine ⟨.dT (putK kvs k' v), DPut.t ho hb (by rw [List.length_map] at hz; exact hz), .inr ⟨rfl, _, rfl, ?_⟩⟩
    obtain ⟨i1, i2⟩ := idxK_T (kvs := kvs) (k := k')
    unfold putKk
    cases q : idxK (kvs.map fun p => D.tup (p.1.map kD)) (.tup (k'.map kD)) with
    | some j =>
      obtain ⟨u, hu⟩ := i1 j q
      obtain ⟨p1, p2⟩ := putK_at (v := v) nd' hu
      refine ⟨?_, p2.symm⟩
      have : ∀ l : List (List Key × V), (l.map fun p => D.tup (p.1.map kD)) = (l.map (·.1)).map fun k => D.tup (k.map kD) := fun l => by rw [List.map_map]; rfl
      show (kvs.map fun p => D.tup (p.1.map kD)) = ((putK kvs k' v).map fun p => D.tup (p.1.map kD))
      rw [this, this, p1]
    | none =>
      rw [putK_new v (i2 q)]
      refine ⟨?_, ?_⟩
      · show (kvs.map fun p => D.tup (p.1.map kD)) ++ [D.tup (k'.map kD)] = _
        rw [List.map_append]; rfl
      · show kvs.map (·.2) ++ [v] = _
        rw [List.map_append]; rfl
theorem idxK_lt : ∀ {ks : List D} {k : D} {j : Nat}, idxK ks k = some j → j < ks.length
  | [], _, _, h => by cases h
  | a :: ks, k, j, h => by
    unfold idxK at h
    split at h
    · cases h; exact Nat.zero_lt_succ _
    · cases q : idxK ks k with
      | none => rw [q] at h; cases h
      | some i =>
        rw [q] at h
        cases h
        exact Nat.succ_lt_succ (idxK_lt q)
theorem sameK_refl_of {t : Bool} {k : D} (h : okKey t k = true) : sameK k k = true := by
  cases t with
  | false =>
    obtain ⟨k', e⟩ := Option.isSome_iff_exists.mp (show (keyO k).isSome = true from h)
    rw [keyO_of e, sameK_kD]
    simp
  | true =>
    obtain ⟨k', e⟩ := Option.isSome_iff_exists.mp (show (keyT k).isSome = true from h)
    rw [keyT_of e, sameK_T]
    simp
theorem idxK_not_mem {t : Bool} : ∀ {ks : List D} {k : D}, okKey t k = true → idxK ks k = none → k ∉ ks
  | [], _, _, _, m => by cases m
  | a :: ks, k, hk, h, m => by
    unfold idxK at h
    split at h
    · cases h
    · rename_i c
      cases q : idxK ks k with
      | some i => rw [q] at h; cases h
      | none =>
        rcases List.mem_cons.mp m with e | m
        · subst e
          exact c (sameK_refl_of hk)
        · exact idxK_not_mem hk q m
theorem nodup_snoc {α : Type} {l : List α} {a : α} (h : l.Nodup) (n : a ∉ l) : (l ++ [a]).Nodup := by
  rw [List.nodup_append]
  refine ⟨h, by simp, fun x hx y hy => ?_⟩
  have : y = a := by simpa using hy
  subst this
  exact fun e => n (e ▸ hx)
theorem szL_set : ∀ {ds : List D} {j : Nat} {d : D}, szL ds → szD d → szL (ds.set j d)
  | [], _, _, h, _ => h
  | _ :: _, 0, _, h, k => ⟨k, h.2⟩
  | _ :: ds, j + 1, _, h, k => ⟨h.1, szL_set h.2 k⟩

/-! ### a container's item stored -/
/-- the depth below it, the container, the index, the value -/
def storeD (n : Nat) (d i : D) (m : Nat) (y : D) : Option It := match d, i with
  | .lst ds, .int k => match ixN ds.length k with
    | some j => some (min n m, .lst (ds.set j y))
    | none => none
  | .dct t ks ds, k => if okKey t k && decide (ds.length < sizeLine) then some (min n m, .dct t (putKk ks k) (putKv ks ds k y)) else none
  | _, _ => none
section
variable {G : Gt} {l : List Fr} {H : Hp}
theorem its_len2 {vs : List V} {ds : List D} {v : V} {d : D} {j : Nat} (h : vs.length = ds.length) : (vs.set j v).length = (ds.set j d).length := by rw [List.length_set, List.length_set, h]
theorem Rl.setAt : ∀ {vs : List V} {ds : List D} {j : Nat} {v : V} {d : D} {n : Nat} {l : List Fr}, vs.length = ds.length → Rl G (.it v n d :: (its n vs ds ++ l)) H → Rl G (its n (vs.set j v) (ds.set j d) ++ l) H
  | [], [], j, v, d, n, l, _, r => r.tail
  | w :: vs, e :: ds, 0, v, d, n, l, _, r => Rl.sublist ((List.sublist_cons_self _ _).cons_cons _) r
  | w :: vs, e :: ds, j + 1, v, d, n, l, hl, r => by
    have r1 : Rl G (.it v n d :: (its n vs ds ++ (.it w n e :: l))) H := Rl.perm (List.Perm.cons _ List.perm_middle.symm) r
    have r2 := Rl.setAt (j := j) (by simpa using hl) r1
    exact Rl.perm List.perm_middle r2
  | [], _ :: _, _, _, _, _, _, h, _ => by simp at h
  | _ :: _, [], _, _, _, _, _, h, _ => by simp at h
/-- the heap behind o[i] = v -/
def rPut (o i v : V) (H H' : Hp) : Prop := (∃ p xs k j, o = .ref p ∧ i = .int k ∧ H p = some (.lst xs) ∧ ixN xs.length k = some j ∧ H' = upd H p (.lst (xs.set j v))) ∨ ∃ p, o = .ref p ∧ DPut H p i v H'
theorem Rl.storeAt {o iv v : V} {n m n' : Nat} {d i y d' : D} (r : Rl G (.it o (n + 1) d :: .it v m y :: l) H) (si : See G H i iv) (e : storeD n d i m y = some (n', d')) (hz : ∀ t ks ds, d = .dct t ks ds → ks.Nodup) : ∃ H', rPut o iv v H H' ∧ Rl G (.it o (n' + 1) d' :: l) H' := by
  cases d with
  | lst ds =>
    cases i with
    | int k =>
      have e' : (match ixN ds.length k with
        | some j => some (min n m, D.lst (ds.set j y))
        | none => none) = some (n', d') := e
      cases q : ixN ds.length k with
      | none => rw [q] at e'; cases e'
      | some j =>
        rw [q] at e'
        cases e'
        cases si
        obtain ⟨p, vs, rfl, hp, hl, r1⟩ := Rl.openLst r
        have r2 := Rl.lowers (Nat.min_le_left n m) r1
        have r3 := Rl.lower (Nat.min_le_right n m) (Rl.perm List.perm_middle r2)
        have r4 := Rl.setAt (j := j) hl r3
        have r5 := Rl.newLst (its_len2 hl) r4 (del_self H p)
        rw [upd_del] at r5
        exact ⟨_, .inl ⟨p, vs, k, j, rfl, rfl, hp, by rw [hl]; exact q, rfl⟩, r5⟩
    | _ => cases e
  | dct t ks ds =>
    have e' : (if okKey t i && decide (ds.length < sizeLine) then some (min n m, D.dct t (putKk ks i) (putKv ks ds i y)) else none) = some (n', d') := e
    split at e'
    · rename_i c
      cases e'
      have c' := bool_and c
      obtain ⟨p, vs, ob, rfl, hp, dO, hl, r1⟩ := Rl.openDct r
      obtain ⟨o', dp, dO'⟩ := dO.put (v := v) (hz t ks ds rfl) c'.1 si hp (by rw [hl]; exact of_decide_eq_true c'.2)
      have r2 := Rl.lowers (Nat.min_le_left n m) r1
      have r3 := Rl.lower (Nat.min_le_right n m) (Rl.perm List.perm_middle r2)
      refine ⟨_, .inr ⟨p, rfl, dp⟩, ?_⟩
      unfold putKv
      cases q : idxK ks i with
      | some j =>
        rw [q] at dO'
        have r4 := Rl.setAt (j := j) hl r3
        have r5 := Rl.newDct (its_len2 hl) dO' r4 (del_self H p)
        rw [upd_del] at r5
        exact r5
      | none =>
        rw [q] at dO'
        have r4 : Rl G (its (min n m) (vs ++ [v]) (ds ++ [y]) ++ l) (del H p) := by
          rw [its_app hl, List.append_assoc]
          exact Rl.perm List.perm_middle.symm r3
        have r5 := Rl.newDct (by rw [List.length_append, List.length_append, hl]; rfl) dO' r4 (del_self H p)
        rw [upd_del] at r5
        exact r5
    · cases e'
  | _ => cases e
theorem storeD_sz {n m n' : Nat} {d i y d' : D} (zd : szD d) (zi : szD i) (zy : szD y) (e : storeD n d i m y = some (n', d')) : szD d' := by
  cases d with
  | lst ds =>
    cases i with
    | int k =>
      have e' : (match ixN ds.length k with
        | some j => some (min n m, D.lst (ds.set j y))
        | none => none) = some (n', d') := e
      cases q : ixN ds.length k with
      | none => rw [q] at e'; cases e'
      | some j =>
        rw [q] at e'
        cases e'
        exact ⟨by rw [List.length_set]; exact zd.1, szL_set zd.2 zy⟩
    | _ => cases e
  | dct t ks ds =>
    have e' : (if okKey t i && decide (ds.length < sizeLine) then some (min n m, D.dct t (putKk ks i) (putKv ks ds i y)) else none) = some (n', d') := e
    split at e'
    · rename_i c
      cases e'
      have c' := bool_and c
      have hl := of_decide_eq_true c'.2
      unfold putKk putKv
      cases q : idxK ks i with
      | some j => exact ⟨by show (ds.set j y).length ≤ _; rw [List.length_set]; exact zd.1, zd.2.1, szL_set zd.2.2.1 zy, zd.2.2.2⟩
      | none => exact ⟨by show (ds ++ [y]).length ≤ _; rw [List.length_append]; exact hl, szL_app zd.2.1 ⟨zi, trivial⟩, szL_app zd.2.2.1 ⟨zy, trivial⟩, nodup_snoc zd.2.2.2 (idxK_not_mem c'.1 q)⟩
    · cases e'
  | _ => cases e
end
section
variable {C : Cn} {X : Cx} {st : Stmt} {o i e a b c : Expr} {es : List Expr} {pos p tpos : Pos} {l : List Fr} {H : Hp} {σ : L2.St} {s : S} {fr fr' : List Fr} {D₀ : Ends} {r : Nat}
theorem set_any (hu : X.A.units + 1 < cLine) : PSet X (fun o i v H Q => ∃ H', rPut o i v H H' ∧ Q H') := by
  rintro pins s σ H o i v ov iv u Q I ro ri rv ⟨H', h, q⟩
  rcases h with ⟨p, xs, k, j, rfl, rfl, hp, hj, rfl⟩ | ⟨p, rfl, dp⟩
  · exact set_list pins s σ H _ _ v ov iv u Q I ro ri rv ⟨p, xs, k, j, rfl, rfl, hp, hj, q⟩
  · cases ro
    exact d_setItem hu I dp ri rv fun s' I' => ⟨H', I', q⟩
def stM (r : Nat) (i : D) (x : It) (s : S) : SRes := match s[r]? with
  | some (some (n + 1, d)) => match storeD n d i x.1 x.2 with
    | some (n', d') => .nx (s.set r (some (n' + 1, d')))
    | none => .bad
  | _ => .bad
def sbS (r : Nat) (fi : S → Option D) (fe : S → Res It) : S → SRes := fun s => (fe s).sbind fun x s1 => match fi s1 with
  | some i => stM r i x s1
  | none => .bad
theorem stM_run {x : It} {i : D} {v iv : V} (rr : R C σ s (.it v x.1 x.2 :: fr) H) (si : See C.toGt H i iv) (zi : szD i) (q : postS C D₀ fr (stM r i x s)) : ∃ o, σ[r]? = some (some o) ∧ ∃ H', rPut o iv v H H' ∧ D₀.nx σ H' := by
  unfold stM at q
  split at q
  · rename_i n d es
    cases eq : storeD n d i x.1 x.2 with
    | none => rw [eq] at q; exact q.elim
    | some z =>
      obtain ⟨n', d'⟩ := z
      rw [eq] at q
      obtain ⟨o, ev, r1⟩ := rr.take es
      have nd : ∀ t ks ds, d = .dct t ks ds → ks.Nodup := fun t ks ds ed => by
        have := r1.szd
        subst ed
        exact this.2.2.2
      have zd' : szD d' := storeD_sz r1.szd zi (R.tail r1).szd eq
      obtain ⟨H', h, rl⟩ := Rl.storeAt r1.rl si eq nd
      refine ⟨o, ev, H', h, ?_⟩
      have r2 : R C σ (s.set r none) (.it o (n' + 1) d' :: fr) H' := ⟨r1.sl, rl, fun f hf => by
        rcases List.mem_cons.mp hf with e | hf
        · subst e; exact zd'
        · exact r1.sz f (List.mem_cons_of_mem _ (List.mem_cons_of_mem _ hf)), r1.pn, r1.ln⟩
      have r3 := r2.put (x := (n' + 1, d')) ev
      rw [List.set_set] at r3
      exact q σ H' r3
  · exact q.elim
/-- name[i] = e -/
theorem ps_sb {fi : S → Option D} {fe : S → Res It} (hu : X.A.units + 64 < cLine) (ho : PE X o (tVar r)) (hi : PE X i (tSee C fi)) (he : PE X e (tE C fe)) (hs : swapsWithSole [.Subscript o i tpos] e pos.line X.env = pure false := by rfl) (hw : swappedStores [.Subscript o i tpos] e X.env = pure none := by rfl)
    (h1 : (assignEach [.Subscript o i tpos] X.env).map (·.2) = [assign (.Subscript o i tpos) X.env] := by rfl)
    (ha : ∀ v, assign (.Subscript o i tpos) X.env v = (do let ov ← holding [v] (eval o X.env); let iv ← holding [v, ov] (eval i X.env); standAt tpos; holding [v, ov, iv] (setItem ov iv v); release [v, ov, iv] []) := by intro _; rfl) :
    PS X (.Assign [.Subscript o i tpos] e pos) (tS C (sbS r fi fe)) := PS.imp (ps_asg he (pg_sub ho hi (set_any (by omega)) ha) hs hw h1) fun D σ H ⟨s, fr, rr, q⟩ => by
  refine tE_K P_S rr q fun x s1 v H1 r1 q1 => ?_
  cases ei : fi s1 with
  | none => rw [ei] at q1; exact q1.elim
  | some i =>
    rw [ei] at q1
    have hr : ∃ y, s1[r]? = some (some y) := by
      have q2 : postS C D fr (stM r i x s1) := q1
      unfold stM at q2
      split at q2
      · rename_i n d es; exact ⟨_, es⟩
      · exact q2.elim
    obtain ⟨y, ey⟩ := hr
    obtain ⟨o, ev⟩ := r1.sl.ok r y ey
    refine ⟨o, ev, s1, _, i, r1, ei, fun iv H2 u2 s2 z2 => ?_⟩
    obtain ⟨o', ev', H', h, k⟩ := stM_run (r1.mono u2) s2 z2 q1
    rw [ev] at ev'
    cases ev'
    exact ⟨H', h, k⟩

/-! ### op= -/
def addI : D → D → Option D
  | .int i, .int j => some (.int (i + j))
  | .str a, .str b => if line (a.length + b.length) then some (.str (a ++ b)) else none
  | _, _ => none
theorem io_add {G : Gt} : OpR X (inplaceOp .Add) (rD G addI) := by
  refine OpR_imp (OpR.or iop_add iop_add_str) ?_
  rintro x y H Q ⟨dx, dy, z, s1, s2, z1, z2, e, k⟩
  cases dx with
  | int i =>
    cases dy with
    | int j =>
      cases s1; cases s2; cases e
      exact .inl ⟨i, j, rfl, rfl, k _ _ (.refl _) trivial fun l r => Rl.imm rfl rfl r⟩
    | _ => cases e
  | str a =>
    cases dy with
    | str b =>
      cases s1; cases s2
      simp only [addI] at e
      split at e
      · rename_i c
        cases e
        exact .inr ⟨a, b, rfl, rfl, of_line c, k _ _ (.refl _) trivial fun l r => Rl.imm rfl rfl r⟩
      · cases e
    | _ => cases e
  | _ => cases dy <;> cases e
theorem io_sub {G : Gt} : OpR X (inplaceOp .Sub) (rD G subD) := by
  refine OpR_imp iop_sub ?_
  rintro x y H Q ⟨dx, dy, z, s1, s2, z1, z2, e, k⟩
  cases dx with
  | int i =>
    cases dy with
    | int j =>
      cases s1; cases s2; cases e
      exact ⟨i, j, rfl, rfl, k _ _ (.refl _) trivial fun l r => Rl.imm rfl rfl r⟩
    | _ => cases e
  | _ => cases dy <;> cases e
def mulI : D → D → Option D
  | .int i, .int j => if small i || small j then some (.int (i * j)) else none
  | _, _ => none
theorem io_mul {G : Gt} : OpR X (inplaceOp .Mult) (rD G mulI) := by
  refine OpR_imp iop_mul ?_
  rintro x y H Q ⟨dx, dy, z, s1, s2, z1, z2, e, k⟩
  cases dx with
  | int i =>
    cases dy with
    | int j =>
      cases s1; cases s2
      simp only [mulI] at e
      split at e
      · rename_i c
        cases e
        refine ⟨i, j, rfl, rfl, ?_, k _ _ (.refl _) trivial fun l r => Rl.imm rfl rfl r⟩
        rcases Bool.or_eq_true_iff.mp c with c | c
        · exact .inl (small_of_true c)
        · exact .inr (small_of_true c)
      · cases e
    | _ => cases e
  | _ => cases dy <;> cases e
theorem io_fdiv {G : Gt} : OpR X (inplaceOp .FloorDiv) (rD G fdivD) := by
  refine OpR_imp iop_fdiv ?_
  rintro x y H Q ⟨dx, dy, z, s1, s2, z1, z2, e, k⟩
  cases dx with
  | int i =>
    cases dy with
    | int j =>
      cases s1; cases s2
      simp only [fdivD] at e
      split at e
      · rename_i c
        cases e
        have c' : CDiv i j := by
          have := of_decide_eq_true c
          unfold CDiv
          omega
        exact ⟨i, j, rfl, rfl, c', k _ _ (.refl _) trivial fun l r => Rl.imm rfl rfl r⟩
      · cases e
    | _ => cases e
  | _ => cases dy <;> cases e
theorem io_mod {G : Gt} : OpR X (inplaceOp .Mod) (rD G modD) := by
  refine OpR_imp iop_mod ?_
  rintro x y H Q ⟨dx, dy, z, s1, s2, z1, z2, e, k⟩
  cases dx with
  | int i =>
    cases dy with
    | int j =>
      cases s1; cases s2
      simp only [modD] at e
      split at e
      · rename_i c
        cases e
        have c' := of_decide_eq_true c
        exact ⟨i, j, rfl, rfl, c', k _ _ (.refl _) trivial fun l r => Rl.imm rfl rfl r⟩
      · cases e
    | _ => cases e
  | _ => cases dy <;> cases e
/-- name op= e -/
def agS (i : Nat) (g : D → D → Option D) (fe : S → Res It) : S → SRes := fun s => match s[i]? with
  | some (some x0) => if isImm x0.2 then (fe s).sbind fun y s1 => match g x0.2 y.2 with
    | some z => .nx (s1.set i (some (B, z)))
    | none => .bad
    else .bad
  | _ => .bad
theorem ps_ag {i : Nat} {x : Str} {op : Operator} {pos' : Pos} {g : D → D → Option D} {fe : S → Res It} (hN : X.N.Nodup) (hi : X.N[i]? = some x) (hx : Loc X.env.scope x) (he : PE X e (tE C fe)) (ho : OpR X (inplaceOp op) (rD C.toGt g)) (hn : decide (i < C.n) = true) (nl : nin i C.L = true)
    (hf : X.fn x = true ∨ X.env.scope.names.lookup x = some .local := by first | exact .inl rfl | exact .inr rfl | assumption) : PS X (.AugAssign (.Name x pos') op e pos) (tS C (agS i g fe)) := PS.imp (ps_aug hN hi hx he ho hf) fun D σ H ⟨s, fr, rr, q⟩ => by
  unfold agS at q
  split at q
  · rename_i x0 e0
    split at q
    · rename_i im
      obtain ⟨v0, ev, r0⟩ := rr.take e0
      have rx : R C σ s (.it v0 B x0.2 :: fr) H := rr.imm im r0.see r0.szd
      refine ⟨v0, ev, tE_K (P_S.more (List.sublist_cons_self _ _)) rx q fun y s1 v H1 r1 q1 => ?_⟩
      cases eg : g x0.2 y.2 with
      | none => rw [eg] at q1; exact q1.elim
      | some z =>
        rw [eg] at q1
        have ry := r1.tail
        exact ⟨x0.2, y.2, z, ry.see, r1.see, ry.szd, r1.szd, eg, fun t H3 u3 z3 q3 => q1 _ H3 (R.store (x := (B, z)) (R.res ry.tail z3 q3) (by rw [ry.ln]; exact of_decide_eq_true hn) (of_nin nl))⟩
    · exact q.elim
  · exact q.elim
theorem get_any (hK : X.K = C.K) (hu : X.A.units + 1 < cLine) : PGet X (fun o i H Q => (∃ p xs k v, o = .ref p ∧ i = .int k ∧ SqL X.K H p xs ∧ atI xs k = some v ∧ Q v H) ∨ ∃ p v, o = .ref p ∧ DGet H p i (some v) ∧ Q v H) := by
  rintro pins s σ H o i ov iv Q I ro ri q
  rcases q with ⟨p, xs, k, v, rfl, rfl, hp, hv, q⟩ | ⟨p, v, rfl, g, q⟩
  · cases ro
    obtain ⟨t, rfl⟩ := ri
    obtain ⟨its, r, pl, hz⟩ := I.list hp
    obtain ⟨j, h1, h2, h3, h4, h5⟩ := atI_get hv
    obtain ⟨w, ew, rw'⟩ := r.get h2
    have hl := r.length
    have hn := line63
    have fin : EP X pins σ Q w s := ⟨v, H, I, rw', q⟩
    by_cases h0 : 0 ≤ k
    · have hj : k.toNat = j := by
        rw [seqIndex_of h0 h5] at h1
        exact Option.some.inj h1
      exact wpAny_getItem_list pl.isList h0 (by omega) (by rw [hj]; simpa using ew) fin
    · have hj : (k + (its.toArray.size : Int)).toNat = j := by
        rw [seqIndex_neg (by omega) h4] at h1
        rw [List.size_toArray, ← hl]
        exact Option.some.inj h1
      exact wpAny_getItem_list_neg pl.isList (by omega) (by rw [List.size_toArray] <;> omega) (by omega) (by rw [hj]; simpa using ew) fin
  · cases ro
    exact d_getItem hu I g ri fun w' s' I' r' => ⟨v, H, I', r', q⟩
def kidW : D → D → Option Nat
  | .lst ds, .int i => ixN ds.length i
  | .dct t ks _, k => if okKey t k then idxK ks k else none
  | _, _ => none
/-- name[i] op= e -/
def asb (r : Nat) (fi : S → Option D) (g : D → D → Option D) (fe : S → Res It) : S → SRes := fun s => match s[r]?, fi s with
  | some (some x0), some i => if isImm i then match kidW x0.2 i with
    | some j => match (kids x0.2)[j]? with
      | some k => if isImm k then (fe s).sbind fun y s1 => match g k y.2 with
        | some z => stM r i (B, z) s1
        | none => .bad
        else .bad
      | none => .bad
    | none => .bad
    else .bad
  | _, _ => .bad
theorem ps_asb (hK : X.K = C.K) (hu : X.A.units + 64 < cLine) {op : Operator} {g : D → D → Option D} {fi : S → Option D} {fe : S → Res It} (ho : PE X o (tVar r)) (hi : PE X i (tSee C fi)) (he : PE X e (tE C fe)) (hp : OpR X (inplaceOp op) (rD C.toGt g))
    (ha : ∀ ov iv new, augStore i ov iv new = (do holding [new, ov, iv] (setItem ov iv new); release [new, ov, iv] []; pure .next) := by intros; rfl) : PS X (.AugAssign (.Subscript o i tpos) op e pos) (tS C (asb r fi g fe)) :=
  PS.imp (ps_augS ho hi (get_any hK (by omega)) he hp (set_any (by omega)) ha) fun D σ H ⟨s, fr, rr, q⟩ => by
    unfold asb at q
    split at q
    · rename_i x0 i e0 ei
      split at q
      · rename_i imi
        cases q2 : kidW x0.2 i with
        | none => rw [q2] at q; exact q.elim
        | some j =>
          rw [q2] at q
          dsimp only at q
          cases q3 : (kids x0.2)[j]? with
          | none => rw [q3] at q; exact q.elim
          | some k =>
            rw [q3] at q
            dsimp only at q
            split at q
            · rename_i imk
              obtain ⟨v0, ev, r0⟩ := rr.take e0
              refine ⟨v0, ev, s, fr, i, rr, ei, fun iv H1 u1 s1 z1 => ?_⟩
              have r1 : R C σ s (.it iv B i :: fr) H1 := (rr.mono u1).imm imi s1 z1
              have s0 := (r0.mono u1).see
              have z0 := r0.szd
              obtain ⟨n0, d0⟩ := x0
              have fin : ∀ {w : V}, Kid C.toGt H1 d0 v0 j w → tE C fe σ H1 fun y H4 => rD C.toGt g w y H4 fun z H5 => ∃ H', rPut v0 iv z H5 H' ∧ D.nx σ H' := fun {w} kd => by
                have r2 : R C σ s (.it w B k :: .it iv B i :: fr) H1 := r1.imm imk (kd.see s0 q3) (sz_kid z0 q3)
                refine tE_K (P_S.more ((List.sublist_cons_self _ _).trans (List.sublist_cons_self _ _))) r2 q fun y s2 v H2 r3 q4 => ?_
                cases eg : g k y.2 with
                | none => rw [eg] at q4; exact q4.elim
                | some z =>
                  rw [eg] at q4
                  have r4 := r3.tail
                  refine ⟨k, y.2, z, r4.see, r3.see, r4.szd, r3.szd, eg, fun t H5 u5 z5 q5 => ?_⟩
                  have r5 : R C σ s2 (.it t B z :: .it iv B i :: fr) H5 := R.res r4.tail z5 q5
                  have si := (R.tail r5).see
                  have zi := (R.tail r5).szd
                  have r6 : R C σ s2 (.it t B z :: fr) H5 := r5.drop ((List.sublist_cons_self _ _).cons_cons _)
                  obtain ⟨o', ev', H', h, k'⟩ := stM_run (x := (B, z)) r6 si zi q4
                  rw [ev] at ev'
                  cases ev'
                  exact ⟨H', h, k'⟩
              cases d0 with
              | lst ds =>
                cases i with
                | int i =>
                  cases s1
                  obtain ⟨q', vs, rfl, hp', sl⟩ := s0
                  obtain ⟨w, hw, sw⟩ := SeeL.get sl q3
                  exact .inl ⟨q', vs, i, w, rfl, rfl, .of hp', atI_mk (by rw [sl.length]; exact q2) hw, fin ⟨q', vs, rfl, hp', hw⟩⟩
                | _ => cases q2
              | dct t ks ds =>
                have q2' : (if okKey t i then idxK ks i else none) = some j := q2
                split at q2'
                · rename_i c
                  obtain ⟨q', o, vs, ob, rfl, dO, rd, g1, g2, g3⟩ := dget_of s0 s1 c
                  obtain ⟨w', rfl, hw'⟩ := g3 _ q2'
                  exact .inr ⟨q', w', rfl, g1, fin ⟨q', vs, ob, rfl, dO, rd, hw'⟩⟩
                · cases q2'
              | _ => cases q2
            · exact q.elim
      · exact q.elim
    · exact q.elim
end
end Pv
/-! PvU: a def's promise by data, its call. -/
namespace Pv
open PySem PySem.Spec PyProof.Rows L2

/-! ### the promise: what is lent comes back -/
def selV : List Bool → List V → List V
  | true :: m, v :: vs => v :: selV m vs
  | false :: m, _ :: vs => selV m vs
  | _, _ => []
abbrev Fd := List It → Option (It × List It)
def spF (G : Gt) (lm : List Bool) (np : Nat) (fn : Fd) : Sp := fun vs H Q _ => ∃ xs fr x ys, vs.length = xs.length ∧ vs.length = np ∧ Rl G (itsN vs xs ++ fr) H ∧ (∀ x ∈ xs, szD x.2) ∧ (∀ f ∈ fr, szF f) ∧ fn xs = some (x, ys) ∧
  ∀ v H', ys.length = (selV lm vs).length → Rl G (.it v x.1 x.2 :: (itsN (selV lm vs) ys ++ fr)) H' → szD x.2 → (∀ y ∈ ys, szD y.2) → Q v H'
/-- what the lent slots hold -/
def retL : List Bool → S → Option (List It)
  | [], _ => some []
  | true :: m, some y :: s => (retL m s).map (y :: ·)
  | false :: m, _ :: s => retL m s
  | _, _ => none
def fnD (n : Nat) (lm : List Bool) (fb : S → SRes) : Fd := fun xs => match fb (xs.map some ++ List.replicate (n - xs.length) none) with
  | .rt x s => (retL lm s).map fun ys => (x, ys)
  | .nx s => (retL lm s).map fun ys => ((B, .non), ys)
  | _ => none
def lmL : Nat → List Bool → List Nat
  | _, [] => []
  | i, true :: m => i :: lmL (i + 1) m
  | i, false :: m => lmL (i + 1) m
section
variable {G : Gt} {H : Hp}
theorem slF_start : ∀ {vs : List V} {xs : List It} (k m : Nat), vs.length = xs.length → slF (vs.map some ++ List.replicate k none) (xs.map some ++ List.replicate m none) = itsN vs xs
  | [], [], 0, m, _ => by cases m <;> rfl
  | [], [], k + 1, 0, _ => rfl
  | [], [], k + 1, m + 1, _ => slF_start (vs := []) (xs := []) k m rfl
  | v :: vs, x :: xs, k, m, h => congrArg (Fr.it v x.1 x.2 :: ·) (slF_start k m (by simpa using h))
  | [], _ :: _, _, _, h => by simp at h
  | _ :: _, [], _, _, h => by simp at h
theorem retL_sub : ∀ {lm : List Bool} {σ : List (Option V)} {s : S} {vs : List V} {ys : List It}, (∀ i : Nat, lm[i]? = some true → σ[i]? = (vs[i]?).map some) → σ.length = s.length → lm.length ≤ vs.length → retL lm s = some ys → (itsN (selV lm vs) ys).Sublist (slF σ s) ∧ ys.length = (selV lm vs).length
  | [], σ, s, vs, ys, _, _, _, e => by
    cases e
    refine ⟨?_, ?_⟩
    · cases vs <;> exact List.nil_sublist _
    · cases vs <;> rfl
  | true :: m, [], s, vs, ys, _, hl, _, e => by
    cases s with
    | nil => cases e
    | cons a s => simp at hl
  | true :: m, o :: σ, [], vs, ys, _, hl, _, e => by simp at hl
  | true :: m, o :: σ, none :: s, vs, ys, _, hl, _, e => by cases e
  | true :: m, o :: σ, some y :: s, [], ys, _, _, hv, _ => by simp at hv
  | true :: m, o :: σ, some y :: s, v :: vs, ys, h, hl, hv, e => by
    have e' : (retL m s).map (y :: ·) = some ys := e
    cases q : retL m s with
    | none => rw [q] at e'; cases e'
    | some zs =>
      rw [q] at e'
      cases e'
      have h0 := h 0 rfl
      have : o = some v := by simpa using h0
      subst this
      obtain ⟨i1, i2⟩ := retL_sub (lm := m) (σ := σ) (s := s) (vs := vs) (fun i hi => by simpa using h (i + 1) (by simpa using hi)) (by simpa using hl) (by simpa using hv) q
      exact ⟨i1.cons_cons _, congrArg (· + 1) i2⟩
  | false :: m, [], [], vs, ys, _, _, _, e => by cases e
  | false :: m, [], _ :: s, vs, ys, _, hl, _, e => by simp at hl
  | false :: m, o :: σ, [], vs, ys, _, hl, _, e => by simp at hl
  | false :: m, o :: σ, p :: s, [], ys, _, _, hv, _ => by simp at hv
  | false :: m, o :: σ, p :: s, v :: vs, ys, h, hl, hv, e => by
    obtain ⟨i1, i2⟩ := retL_sub (lm := m) (σ := σ) (s := s) (vs := vs) (fun i hi => by simpa using h (i + 1) (by simpa using hi)) (by simpa using hl) (by simpa using hv) e
    refine ⟨?_, i2⟩
    cases o with
    | none => exact i1
    | some w =>
      cases p with
      | none => exact i1
      | some z => exact i1.cons _
theorem lmL_mem : ∀ {lm : List Bool} {i k : Nat}, lm[i]? = some true → k + i ∈ lmL k lm
  | true :: m, 0, k, _ => List.mem_cons_self
  | true :: m, i + 1, k, h => List.mem_cons_of_mem _ (by
    have := lmL_mem (lm := m) (i := i) (k := k + 1) (by simpa using h)
    rwa [Nat.add_right_comm, Nat.add_assoc] at this)
  | false :: m, i + 1, k, h => by
    have := lmL_mem (lm := m) (i := i) (k := k + 1) (by simpa using h)
    show k + (i + 1) ∈ lmL (k + 1) m
    rwa [Nat.add_right_comm, Nat.add_assoc] at this
  | false :: m, 0, k, h => by cases h
  | [], i, k, h => by cases h
theorem lmL_of : ∀ {lm : List Bool} {j k : Nat}, j ∈ lmL k lm → ∃ i, lm[i]? = some true ∧ j = k + i
  | true :: m, j, k, h => by
    rcases List.mem_cons.mp h with h | h
    · exact ⟨0, rfl, h⟩
    · obtain ⟨i, h1, h2⟩ := lmL_of (lm := m) h
      exact ⟨i + 1, h1, by omega⟩
  | false :: m, j, k, h => by
    obtain ⟨i, h1, h2⟩ := lmL_of (lm := m) (k := k + 1) h
    exact ⟨i + 1, h1, by omega⟩
  | [], _, _, h => by cases h
end

/-- the context of a def's body by data -/
abbrev cnOf (G : Gt) (n : Nat) (lm : List Bool) (vs : List V) : Cn := ⟨G, n, fun _ _ _ _ => False, lmL 0 lm, fun i => vs.getD i .non⟩
section
variable {P : Program} {w : World} {K : PySem.W.Frag} {mg : Str → Option Value} {base : Heap} {G : Gt}
theorem itsN_szF : ∀ {vs : List V} {xs : List It}, (∀ x ∈ xs, szD x.2) → ∀ f ∈ itsN vs xs, szF f
  | [], xs, _, f, h => by cases xs <;> cases h
  | v :: vs, [], _, f, h => by cases h
  | v :: vs, x :: xs, z, f, h => by
    rcases List.mem_cons.mp h with e | h
    · subst e; exact z x List.mem_cons_self
    · exact itsN_szF (fun y hy => z y (List.mem_cons_of_mem _ hy)) f h
/-- a frame without a size is kept aside: sizes are asked of the def's own things only -/
theorem fn_run {n : Nat} {lm : List Bool} {vs : List V} {xs : List It} {x : It} {ys : List It} {fr : List Fr} {fb : S → SRes} {H : Hp} {Q : VK} {N : List Str} (hN : N.length = n) (hp : xs.length ≤ n) (hl : vs.length = xs.length) (hlm : lm.length ≤ xs.length) (rl : Rl G (itsN vs xs ++ fr) H) (sz : ∀ x ∈ xs, szD x.2) (szr : ∀ f ∈ fr, szF f)
    (e : fnD n lm fb xs = some (x, ys)) (k : ∀ v H', ys.length = (selV lm vs).length → Rl G (.it v x.1 x.2 :: (itsN (selV lm vs) ys ++ fr)) H' → szD x.2 → (∀ y ∈ ys, szD y.2) → Q v H') :
    tS (cnOf G n lm vs) fb { nx := fun _ H' => Q .non H', rt := Q } (L2.start N vs) H := by
  have rr : R (cnOf G n lm vs) (L2.start N vs) (xs.map some ++ List.replicate (n - xs.length) none) fr H := by
    unfold L2.start
    have esl := slF_start (vs := vs) (xs := xs) (N.length - vs.length) (n - xs.length) hl
    refine ⟨⟨?_, fun j y ey => ?_⟩, ?_, ?_, fun j hj => ?_, ?_⟩
    · simp only [List.length_append, List.length_map, List.length_replicate]
      omega
    · by_cases c : j < xs.length
      · refine ⟨vs[j]'(by omega), ?_⟩
        rw [List.getElem?_append_left (by rw [List.length_map]; omega), List.getElem?_map, List.getElem?_eq_getElem (by omega)]
        rfl
      · rw [List.getElem?_append_right (by rw [List.length_map]; omega)] at ey
        have := List.mem_of_getElem? ey
        rw [List.mem_replicate] at this
        cases this.2
    · show Rl G (fr ++ slF _ _) H
      rw [esl]
      exact Rl.perm List.perm_append_comm rl
    · rw [esl]
      exact fun f hf => (List.mem_append.mp hf).elim (szr f) (itsN_szF sz f)
    · obtain ⟨i, h1, h2⟩ := lmL_of hj
      have hi : i < lm.length := (List.getElem?_eq_some_iff.mp h1).1
      have h3 : j < vs.length := by omega
      rw [List.getElem?_append_left (by rw [List.length_map]; omega), List.getElem?_map]
      show (vs[j]?).map some = some (some (vs.getD j .non))
      rw [List.getD_eq_getElem?_getD, List.getElem?_eq_getElem h3]
      rfl
    · show (xs.map some ++ List.replicate (n - xs.length) none).length = n
      simp only [List.length_append, List.length_map, List.length_replicate]
      omega
  have fin : ∀ {x : It} {s' : S} {σ' : L2.St} {v : V} {H' : Hp} {ys : List It}, R (cnOf G n lm vs) σ' s' (.it v x.1 x.2 :: fr) H' → retL lm s' = some ys → ys.length = (selV lm vs).length ∧ Rl G (.it v x.1 x.2 :: (itsN (selV lm vs) ys ++ fr)) H' ∧ szD x.2 ∧ ∀ y ∈ ys, szD y.2 := fun {x s' σ' v H' ys} r er => by
    obtain ⟨i1, i2⟩ := retL_sub (lm := lm) (σ := σ') (s := s') (vs := vs) (fun i hi => by
      have h1 := r.pn (0 + i) (lmL_mem hi)
      rw [Nat.zero_add] at h1
      rw [h1]
      have hi' : i < lm.length := (List.getElem?_eq_some_iff.mp hi).1
      have h3 : i < vs.length := by omega
      show some (some (vs.getD i .non)) = _
      rw [List.getD_eq_getElem?_getD, List.getElem?_eq_getElem h3]
      rfl) r.sl.len (by omega) er
    have sub : (Fr.it v x.1 x.2 :: (fr ++ itsN (selV lm vs) ys)).Sublist (.it v x.1 x.2 :: fr ++ slF σ' s') := by
      exact ((List.Sublist.refl fr).append i1).cons_cons _
    refine ⟨i2, Rl.perm (List.Perm.cons _ List.perm_append_comm) (Rl.sublist sub r.rl), r.szd, ?_⟩
    have zs : ∀ f ∈ itsN (selV lm vs) ys, szF f := fun f hf => r.sz f (sub.subset (List.mem_cons_of_mem _ (List.mem_append_right _ hf)))
    have : ∀ {us : List V} {ys : List It}, ys.length = us.length → (∀ f ∈ itsN us ys, szF f) → ∀ y ∈ ys, szD y.2 := by
      intro us
      induction us with
      | nil => intro ys hl _ y hy; cases ys with
        | nil => cases hy
        | cons => simp at hl
      | cons u us ih =>
        intro ys hl h y hy
        cases ys with
        | nil => cases hy
        | cons z ys =>
          rcases List.mem_cons.mp hy with e | hy
          · subst e; exact h _ List.mem_cons_self
          · exact ih (by simpa using hl) (fun f hf => h f (List.mem_cons_of_mem _ hf)) y hy
    exact this i2 zs
  refine ⟨_, fr, rr, ?_⟩
  unfold fnD at e
  split at e
  · rename_i x' s' eb
    rw [eb]
    cases er : retL lm s' with
    | none => rw [er] at e; cases e
    | some zs =>
      rw [er] at e
      cases e
      intro v σ' H' r
      obtain ⟨f1, f2, f3, f4⟩ := fin r er
      exact k v H' f1 f2 f3 f4
  · rename_i s' eb
    rw [eb]
    cases er : retL lm s' with
    | none => rw [er] at e; cases e
    | some zs =>
      rw [er] at e
      cases e
      intro σ' H' r
      obtain ⟨f1, f2, f3, f4⟩ := fin (x := (B, .non)) (v := .non) (r.imm rfl rfl trivial) er
      exact k .non H' f1 f2 f3 f4
  · cases e
/-- THE RULE for a def by data -/
theorem fn_ok {x qual : Str} {st : Stmt} {f : Addr} {fd : FuncData} {N ps : List Str} {k n : Nat} {lm : List Bool} {fb : S → SRes} {sp : Fd} (F : Fun K x qual st f fd) (S0 : FnScope N ps (defScope st)) (hN : N.length = n) (hp : ps.length ≤ n) (hlm : lm.length ≤ ps.length) (he : ∀ xs r, sp xs = some r → fnD n lm fb xs = some r)
    (hb : ∀ (cdv : Value) (A : Around) (outer : List Env) (s : Shared) (H : Hp) (vs : List V) (E : XK), Room k (A.deeper (envOfC qual (defScope st) s.heap.objs.size f cdv)) →
      PSs (cxOf CX0 P w K mg base N qual (defScope st) f cdv A outer s H E).nox (defBody st) (tS (cnOf G n lm vs) fb)) : FnOk P w K mg base CX0 (k + 1) f fd ps (spF G lm ps.length sp) := by
  refine F.ok S0 (fun vs H Q E h => ?_) (fun cdv A outer s H vs Q E hr h => ?_)
  · obtain ⟨xs, fr, x, ys, h1, h2, _⟩ := h
    exact h2
  · obtain ⟨xs, fr, x, ys, h1, h2, rl, sz, szr, e, q⟩ := h
    exact ⟨_, hb cdv A outer s H vs E hr, fn_run hN (by omega) h1 (by omega) rl sz szr (he _ _ e) q⟩
end

/-! ### the call -/
def MvOk (σ : L2.St) : List (Option Nat) → List V → Prop
  | [], [] => True
  | none :: ml, _ :: vs => MvOk σ ml vs
  | some r :: ml, v :: vs => σ[r]? = some (some v) ∧ MvOk σ ml vs
  | _, _ => False
/-- the frames of what is not lent -/
def nmF : List (Option Nat) → List V → List It → List Fr
  | some _ :: ml, _ :: vs, xs => nmF ml vs xs
  | none :: ml, v :: vs, x :: xs => .it v x.1 x.2 :: nmF ml vs xs
  | _, _, _ => []
/-- the lent things are taken from their slots when all arguments are there -/
def mixI : List (Option Nat) → List It → S → Option (List It × S)
  | [], [], s => some ([], s)
  | some r :: ml, xs, s => match s[r]? with
    | some (some x) => match mixI ml xs (s.set r none) with
      | some (ys, s') => some (x :: ys, s')
      | none => none
    | _ => none
  | none :: ml, x :: xs, s => match mixI ml xs s with
    | some (ys, s') => some (x :: ys, s')
    | none => none
  | _, _, _ => none
def postAL (C : Cn) (σ : L2.St) (ml : List (Option Nat)) (fr : List Fr) (r : Res (List It)) (Q : List V → Hp → Prop) : Prop := match r with
  | .ok xs s => ∀ vs H', MvOk σ ml vs → R C σ s (nmF ml vs xs ++ fr) H' → Q vs H'
  | .exc c fs s => excP C c fs s fr σ
  | .bad => False
def tAL (C : Cn) (ml : List (Option Nat)) (f : S → Res (List It)) : TA := fun σ H Q => ∃ s fr, R C σ s fr H ∧ postAL C σ ml fr (f s) Q
/-- a name's thing, moved into the call -/
def mvM (r : Nat) : S → Res It := fun s => match s[r]? with
  | some (some x) => .ok x (s.set r none)
  | _ => .bad
def bkS : List (Option Nat) → List It → S → S
  | some r :: ml, y :: ys, s => bkS ml ys (s.set r (some y))
  | none :: ml, ys, s => bkS ml ys s
  | _, _, s => s
section
variable {C : Cn} {X : Cx} {e a b c : Expr} {es : List Expr} {pos p : Pos} {l : List Fr} {H : Hp} {σ : L2.St} {s : S} {fr fr' : List Fr} {r : Nat}
theorem P_AL {ml : List (Option Nat)} {Q : List V → Hp → Prop} : Post C σ fr Res.exc Res.bad fun r => postAL C σ ml fr r Q := ⟨fun _ _ _ h => h, fun h => h⟩
theorem tAL_K {γ : Type} {ex : Nat → List D → S → γ} {bad : γ} {post : γ → Prop} {ml : List (Option Nat)} {f : S → Res (List It)} {g : List It → S → γ} {Q : List V → Hp → Prop} (P : Post C σ fr ex bad post) (r : R C σ s fr H) (h : post (bindK ex bad (f s) g))
    (k : ∀ xs s1 vs H1, MvOk σ ml vs → R C σ s1 (nmF ml vs xs ++ fr) H1 → post (g xs s1) → Q vs H1) : tAL C ml f σ H Q := by
  refine ⟨s, fr, r, ?_⟩
  cases q : f s with
  | ok x s1 =>
    rw [q] at h
    exact fun v H1 m r1 => k x s1 v H1 m r1 h
  | exc c fs s1 =>
    rw [q] at h
    exact P.ex c fs s1 h
  | bad =>
    rw [q] at h
    exact P.bad h
theorem al0 : PA X [] (tAL C [] nilM) := PA.imp pa_nil fun σ H Q ⟨s, fr, r, k⟩ => k [] H trivial r
theorem al {ml : List (Option Nat)} {f : S → Res It} {g : S → Res (List It)} (h : PE X e (tE C f)) (k : PA X es (tAL C ml g)) (hs : starEach (e :: es) X.env = (false, eval e X.env) :: starEach es X.env := by rfl) : PA X (e :: es) (tAL C (none :: ml) (consM f g)) := PA.imp (pa_cons h k hs) fun σ H Q ⟨s, fr, r, h⟩ => by
  refine tE_K P_AL r h fun x s1 v H1 r1 h1 => ?_
  refine tAL_K (P_AL.more (List.sublist_cons_self _ _)) r1 h1 fun xs s2 vs H2 m2 r2 h2 => ?_
  exact h2 (v :: vs) H2 m2 (r2.perm (show (nmF ml vs xs ++ (Fr.it v x.1 x.2 :: fr)).Perm (Fr.it v x.1 x.2 :: (nmF ml vs xs ++ fr)) from List.perm_middle))
def consL (r : Nat) (g : S → Res (List It)) : S → Res (List It) := fun s => match s[r]? with
  | some (some _) => g s
  | _ => .bad
theorem almv {ml : List (Option Nat)} {g : S → Res (List It)} (h : PE X e (tVar r)) (k : PA X es (tAL C ml g)) (hs : starEach (e :: es) X.env = (false, eval e X.env) :: starEach es X.env := by rfl) : PA X (e :: es) (tAL C (some r :: ml) (consL r g)) := PA.imp (pa_cons h k hs) fun σ H Q ⟨s, fr, rr, h⟩ => by
  unfold consL at h
  split at h
  · rename_i x es
    obtain ⟨v, ev⟩ := rr.sl.ok r _ es
    refine ⟨v, ev, s, fr, rr, ?_⟩
    cases q : g s with
    | ok xs s2 =>
      rw [q] at h
      exact fun vs H2 m2 r2 => h (v :: vs) H2 ⟨ev, m2⟩ r2
    | exc c fs s2 => rw [q] at h; exact h
    | bad => rw [q] at h; exact h
  · exact h.elim
theorem R.mix : ∀ {ml : List (Option Nat)} {vs : List V} {xs ys : List It} {s s' : S} {fr : List Fr}, MvOk σ ml vs → mixI ml xs s = some (ys, s') → R C σ s (nmF ml vs xs ++ fr) H → vs.length = ys.length ∧ R C σ s' (itsN vs ys ++ fr) H
  | [], [], [], ys, s, s', fr, _, e, r => by
    cases e
    exact ⟨rfl, r⟩
  | some q :: ml, v :: vs, xs, ys, s, s', fr, m, e, r => by
    unfold mixI at e
    split at e
    · rename_i x es
      cases em : mixI ml xs (s.set q none) with
      | none => rw [em] at e; cases e
      | some z =>
        obtain ⟨zs, s2⟩ := z
        rw [em] at e
        cases e
        obtain ⟨v', ev, r1⟩ := R.take r es
        rw [m.1] at ev
        cases ev
        have r2 : R C σ (s.set q none) (nmF ml vs xs ++ (.it v x.1 x.2 :: fr)) H := r1.perm List.perm_middle.symm
        obtain ⟨h1, h2⟩ := R.mix (ml := ml) m.2 em r2
        exact ⟨by rw [List.length_cons, List.length_cons, h1], h2.perm List.perm_middle⟩
    · cases e
  | none :: ml, v :: vs, x :: xs, ys, s, s', fr, m, e, r => by
    unfold mixI at e
    cases em : mixI ml xs s with
    | none => rw [em] at e; cases e
    | some z =>
      obtain ⟨zs, s2⟩ := z
      rw [em] at e
      cases e
      have r2 : R C σ s (nmF ml vs xs ++ (.it v x.1 x.2 :: fr)) H := R.perm List.perm_middle.symm r
      obtain ⟨h1, h2⟩ := R.mix (ml := ml) m em r2
      exact ⟨by rw [List.length_cons, List.length_cons, h1], h2.perm List.perm_middle⟩
  | none :: ml, v :: vs, [], ys, s, s', fr, m, e, r => by
    unfold mixI at e
    cases e
  | [], [], _ :: _, _, _, _, _, _, e, _ => by
    unfold mixI at e
    cases e
  | [], _ :: _, _, _, _, _, _, m, _, _ => m.elim
  | none :: _, [], _, _, _, _, _, m, _, _ => m.elim
  | some _ :: _, [], _, _, _, _, _, m, _, _ => m.elim
theorem R.back : ∀ {ml : List (Option Nat)} {vs : List V} {ys : List It} {s : S}, MvOk σ ml vs → ys.length = (selV (ml.map Option.isSome) vs).length → R C σ s (itsN (selV (ml.map Option.isSome) vs) ys ++ fr) H → R C σ (bkS ml ys s) fr H
  | [], [], ys, s, _, hl, r => by
    cases ys with
    | nil => exact r
    | cons y ys => simp [selV] at hl
  | none :: ml, v :: vs, ys, s, m, hl, r => R.back (ml := ml) (vs := vs) m hl r
  | some q :: ml, v :: vs, [], s, m, hl, r => by simp [selV] at hl
  | some q :: ml, v :: vs, y :: ys, s, m, hl, r => by
    have r1 : R C σ s (.it v y.1 y.2 :: (itsN (selV (ml.map Option.isSome) vs) ys ++ fr)) H := r
    exact R.back (ml := ml) (vs := vs) m.2 (by simpa [selV] using hl) (r1.put m.1)
  | [], _ :: _, _, _, m, _, _ => m.elim
  | none :: _, [], _, _, m, _, _ => m.elim
  | some _ :: _, [], _, _, m, _, _ => m.elim
def callG (ml : List (Option Nat)) (fn : Fd) (xs : List It) (s1 : S) : Res It := match mixI ml xs s1 with
  | some (ys, s2) => match fn ys with
    | some (x, zs) => .ok x (bkS ml zs s2)
    | none => .bad
  | none => .bad
def callF (ml : List (Option Nat)) (fn : Fd) (f : S → Res (List It)) : S → Res It := fun s => bindK .exc .bad (f s) (callG ml fn)
theorem MvOk.len : ∀ {ml : List (Option Nat)} {vs : List V}, MvOk σ ml vs → vs.length = ml.length
  | [], [], _ => rfl
  | none :: ml, v :: vs, h => congrArg (· + 1) (MvOk.len (ml := ml) h)
  | some r :: ml, v :: vs, h => congrArg (· + 1) (MvOk.len (ml := ml) h.2)
  | [], _ :: _, h => h.elim
  | none :: _, [], h => h.elim
  | some _ :: _, [], h => h.elim
/-- the promise, from the state that the arguments leave -/
theorem spF_of {ml : List (Option Nat)} {fn : Fd} {np : Nat} {E : XK} {Q : VK} {xs : List It} {s1 : S} {vs : List V} {H1 : Hp} {x : It} {ys : List It} (hn : ml.length = np) (e : vs.length = xs.length) (m : MvOk σ ml vs) (r1 : R C σ s1 (itsN vs xs ++ fr) H1) (ef : fn xs = some (x, ys))
    (q1 : ∀ v H', R C σ (bkS ml ys s1) (.it v x.1 x.2 :: fr) H' → Q v H') : spF C.toGt (ml.map Option.isSome) np fn vs H1 Q E := by
  refine ⟨xs, fr ++ slF σ s1, x, ys, e, m.len.trans hn, List.append_assoc _ _ _ ▸ r1.rl, ?_, fun f hf => r1.sz f (by rw [List.append_assoc]; exact List.mem_append_right _ hf), ef, fun v H' hl rl zx zy => ?_⟩
  · have zs : ∀ f ∈ itsN vs xs, szF f := fun f hf => r1.sz f (List.mem_append_left _ (List.mem_append_left _ hf))
    have := itsN_szs e zs
    exact fun y hy => szL_mem.mp this y.2 (List.mem_map.mpr ⟨y, hy, rfl⟩)
  · have r2 : R C σ s1 (itsN (selV (ml.map Option.isSome) vs) ys ++ (.it v x.1 x.2 :: fr)) H' := by
      refine ⟨r1.sl, ?_, fun f hf => ?_, r1.pn, r1.ln⟩
      · rw [List.append_assoc]
        exact Rl.perm List.perm_middle.symm rl
      · rw [List.append_assoc] at hf
        rcases List.mem_append.mp hf with hf | hf
        · exact itsN_szF zy f hf
        · rcases List.mem_cons.mp hf with e | hf
          · subst e; exact zx
          · exact r1.sz f (by rw [List.append_assoc]; exact List.mem_append_right _ hf)
    exact q1 v H' (R.back m hl r2)
theorem callF_imp {ml : List (Option Nat)} {fn : Fd} {f : S → Res (List It)} {np : Nat} {E : XK} {Q : VK} (hn : ml.length = np) (q : tE C (callF ml fn f) σ H Q) : tCall (spF C.toGt (ml.map Option.isSome) np fn) [] E (tAL C ml f) σ H Q := by
  obtain ⟨s, fr, r, q⟩ := q
  refine tAL_K P_E r q fun xs s1 vs H1 m r1 q1 => ?_
  rw [List.append_nil]
  have q2 : postE C σ fr (callG ml fn xs s1) Q := q1
  unfold callG at q2
  cases em : mixI ml xs s1 with
  | none => rw [em] at q2; exact q2.elim
  | some z =>
    obtain ⟨ys, s2⟩ := z
    rw [em] at q2
    dsimp only at q2
    obtain ⟨e, r2⟩ := R.mix m em r1
    cases ef : fn ys with
    | none => rw [ef] at q2; exact q2.elim
    | some z =>
      obtain ⟨x, zs⟩ := z
      rw [ef] at q2
      exact spF_of hn e m r2 ef q2
/-- f(e, ..) -/
theorem pm_fn {k : Nat} {f : Addr} {fd : FuncData} {ps : List Str} {x : Str} {ml : List (Option Nat)} {fn : Fd} {fa : S → Res (List It)} (F : FnOk X.prog X.w X.K X.mg X.base CX0 k f fd ps (spF C.toGt (ml.map Option.isSome) ps.length fn)) (hr : Room k X.A) (hg : Gl X x) (hm : X.mg x = some (.ref f)) (hk : PySem.W.keepIn X.K (.ref f) = true) (hb : Binds X.K fd ps [])
    (hn : ml.length = ps.length) (ha : PA X (e :: es) (tAL C ml fa)) (hdb : (x == ("__debug__" : Str)) = false := by decide) (he : starEach (e :: es) X.env = (false, eval e X.env) :: starEach es X.env := by rfl) (hpl : (backTo pos (starEach es X.env)).any (·.1) = false := by rfl) :
    PE X (.Call (.Name x p) (e :: es) [] pos) (tE C (callF ml fn fa)) := PE.imp (pe_call (E := fun _ _ _ => False) F hr hg hm hk hb .nil pass0 ha hdb he hpl) fun _ _ _ q => callF_imp hn q
end
end Pv
/-! PvV: is None, a list's methods, fields, own methods (property, in, ==), making an object, star, slices with a step. -/
namespace Pv
open PySem PySem.Spec PyProof.Rows L2

section
variable {C : Cn} {X : Cx} {o e a b c : Expr} {es : List Expr} {pos p cpos apos tpos : Pos} {l : List Fr} {H : Hp} {σ : L2.St} {s : S} {fr fr' : List Fr} {r : Nat} {G : Gt}
/-! ### is None -/
def isN : D → D → Option D := fun x y => match y with
  | .non => match x with
    | .non => some (.bl true)
    | _ => some (.bl false)
  | _ => none
theorem see_non {d : D} {v : V} (h : See G H d v) : decide (v = V.non) = (match d with | .non => true | _ => false) := by
  cases d with
  | non => cases h; rfl
  | bl _ => cases h; rfl
  | int _ => cases h; rfl
  | str _ => cases h; rfl
  | tup ds => obtain ⟨a, vs, rfl, _⟩ := h; rfl
  | lst ds => obtain ⟨a, vs, rfl, _⟩ := h; rfl
  | dct _ _ ds => obtain ⟨a, vs, o, rfl, _⟩ := h; rfl
  | obj _ ds => obtain ⟨a, dx, vs, rfl, _⟩ := h; rfl
  | scr ns => obtain ⟨a, rfl, _⟩ := h; rfl
  | nst ks => obtain ⟨a, bs, rfl, _⟩ := h; rfl
theorem o_is : OpR X (compareOp .Is) (rD G isN) := by
  refine OpR_imp op_isN ?_
  rintro x y H Q ⟨dx, dy, z, s1, s2, z1, z2, e, k⟩
  cases dy with
  | non =>
    cases s2
    refine ⟨rfl, ?_⟩
    rw [see_non s1]
    cases dx <;> (cases e; exact k _ _ (.refl _) trivial fun l r => Rl.imm rfl rfl r)
  | _ => cases e
theorem o_isnot : OpR X (compareOp .IsNot) (rD G fun x y => notD (isN x y)) := by
  refine OpR_imp op_notN ?_
  rintro x y H Q ⟨dx, dy, z, s1, s2, z1, z2, e, k⟩
  cases dy with
  | non =>
    cases s2
    refine ⟨rfl, ?_⟩
    rw [see_non s1]
    cases dx <;> (cases e; exact k _ _ (.refl _) trivial fun l r => Rl.imm rfl rfl r)
  | _ => cases e
/-! ### a list's methods, at a name -/
theorem lst_ty {K : PySem.W.Frag} {d : D} {v : V} {ds : List D} (h : See G H d v) (e : d = .lst ds) : tyV K "list" v H := by
  subst e
  obtain ⟨a, vs, rfl, q, _⟩ := h
  exact .inl ⟨rfl, vs, .of q⟩
def isL (r : Nat) (s : S) : Bool := match s[r]? with
  | some (some (_, .lst _)) => true
  | _ => false
theorem isL_of {r : Nat} {s : S} (h : isL r s = true) : ∃ n ds, s[r]? = some (some (n, .lst ds)) := by
  unfold isL at h
  split at h
  · rename_i n ds e; exact ⟨n, ds, e⟩
  · cases h
def apM (r : Nat) (f : S → Res It) : S → Res It := fun s => if isL r s then bindK .exc .bad (f s) fun x s1 => match s1[r]? with
    | some (some (n + 1, .lst ds)) => if decide (ds.length < sizeLine) then .ok (B, .non) (s1.set r (some (min n x.1 + 1, .lst (ds ++ [x.2])))) else .bad
    | _ => .bad
  else .bad
theorem pm_ap {f : S → Res It} (ho : PE X o (tVar r)) (ha : PE X e (tE C f)) (hs1 : starEach [e] X.env = (false, eval e X.env) :: starEach [] X.env := by rfl)
    (hbase : attributeBase o "append" X.env (eval o X.env) = eval o X.env := by rfl)
    (hfew : ((backTo cpos (starEach [e] X.env)).all (fun x => !x.1) && (backToKw cpos (keywordEach [] X.env)).all (fun x => x.1.isSome) && decide (([e] : List Expr).length + ([] : List Keyword).length + (if ([] : List Keyword).isEmpty then 0 else 1) < 30)) = true := by rfl)
    (hline : (apos.endLine == cpos.line) = true := by rfl) (hplain : (backTo cpos (starEach [] X.env)).any (·.1) = false := by rfl) :
    PE X (.Call (.Attribute o "append" apos) [e] [] cpos) (tE C (apM r f)) := PE.imp (pe_bm PySem.F.plainAttrs_list PySem.F.slot_list_append PySem.F.type_list_append mt_append ho (pa_cons ha pa_nil hs1) hbase hfew hline hs1 hplain) fun σ H Q ⟨s, fr, rr, q⟩ => by
  unfold apM at q
  split at q
  · rename_i il
    obtain ⟨n0, ds0, e0⟩ := isL_of il
    obtain ⟨o, ev, r0⟩ := rr.take e0
    refine ⟨o, ev, lst_ty r0.see rfl, tE_K P_E rr q fun x s1 v H1 r1 q1 => ?_⟩
    have q2 : postE C σ fr (match s1[r]? with
      | some (some (n + 1, .lst ds)) => if decide (ds.length < sizeLine) then .ok (B, .non) (s1.set r (some (min n x.1 + 1, .lst (ds ++ [x.2])))) else .bad
      | _ => .bad) Q := q1
    split at q2
    · rename_i n ds es
      split at q2
      · rename_i c
        have hz := of_decide_eq_true c
        obtain ⟨o', ev', r2⟩ := r1.take es
        rw [ev] at ev'
        cases ev'
        obtain ⟨pp, vs, rfl, hp, sl⟩ := r2.see
        have r3 : R C σ (s1.set r none) (.it v x.1 x.2 :: .it (.ref pp) (n + 1) (.lst ds) :: fr) H1 := r2.perm (.swap _ _ _)
        obtain ⟨vs', hp', hl', _⟩ := Rl.app r3.rl
        rw [hp] at hp'
        cases hp'
        refine ⟨pp, vs, v, rfl, rfl, hp, by rw [sl.length]; exact hz, ?_⟩
        have r4 : R C σ (s1.set r none) (.it (.ref pp) (min n x.1 + 1) (.lst (ds ++ [x.2])) :: fr) (upd H1 pp (.lst (vs ++ [v]))) := R.reframe (fr := .it v x.1 x.2 :: .it (.ref pp) (n + 1) (.lst ds) :: fr) r3 (fun l rl => by
          obtain ⟨vs'', hp'', hl'', rl'⟩ := Rl.app rl
          rw [hp] at hp''
          cases hp''
          exact rl') fun f hf => by
            rcases List.mem_cons.mp hf with e | hf
            · subst e
              have zl := (R.tail r3).szd
              exact ⟨by show (ds ++ [x.2]).length ≤ _; rw [List.length_append]; exact hz, szL_app zl.2 ⟨r3.szd, trivial⟩⟩
            · exact r3.sz f (List.mem_append_left _ (List.mem_cons_of_mem _ (List.mem_cons_of_mem _ hf)))
        have r5 := r4.put (x := (min n x.1 + 1, .lst (ds ++ [x.2]))) ev
        rw [List.set_set] at r5
        exact q2 _ _ (r5.imm rfl rfl trivial)
      · exact q2.elim
    · exact q2.elim
  · exact q.elim
/-- two lists' items put together -/
theorem Rl.ext {D0 b0 : Addr} {n m : Nat} {ds es : List D} {l : List Fr} (r : Rl G (.it (.ref b0) (m + 1) (.lst es) :: .it (.ref D0) (n + 1) (.lst ds) :: l) H) : ∃ vs ws, H D0 = some (.lst vs) ∧ H b0 = some (.lst ws) ∧ vs.length = ds.length ∧ ws.length = es.length ∧
    Rl G (.it (.ref D0) (min n m + 1) (.lst (ds ++ es)) :: l) (upd H D0 (.lst (vs ++ ws))) := by
  obtain ⟨p, ws, e, hp, hl, r1⟩ := Rl.openLst r
  cases e
  have r1' : Rl G (.it (.ref D0) (n + 1) (.lst ds) :: (its m ws es ++ l)) H := (Rl.perm List.perm_middle r1).mono (del_sub _ _)
  obtain ⟨p, vs, e, hp2, hl2, r2⟩ := Rl.openLst r1'
  cases e
  refine ⟨vs, ws, hp2, hp, hl2, hl, ?_⟩
  have r3 := Rl.lowers (Nat.min_le_left n m) r2
  have r4 : Rl G (its m ws es ++ (its (min n m) vs ds ++ l)) (del H D0) := Rl.perm (List.perm_append_comm_assoc _ _ _) r3
  have r5 := Rl.lowers (Nat.min_le_right n m) r4
  have r6 : Rl G (its (min n m) (vs ++ ws) (ds ++ es) ++ l) (del H D0) := by
    rw [its_app hl2, List.append_assoc]
    exact Rl.perm (List.perm_append_comm_assoc _ _ _) r5
  have r7 := Rl.newLst (by rw [List.length_append, List.length_append, hl, hl2]) r6 (del_self H D0)
  rw [upd_del] at r7
  exact r7
def exG (r : Nat) (x : It) (s1 : S) : Res It := match x, s1[r]? with
    | (m + 1, .lst es), some (some (n + 1, .lst ds)) => if line (ds.length + es.length) then .ok (B, .non) (s1.set r (some (min n m + 1, .lst (ds ++ es)))) else .bad
    | _, _ => .bad
def exM (r : Nat) (f : S → Res It) : S → Res It := fun s => if isL r s then bindK .exc .bad (f s) (exG r)
  else .bad
theorem pm_ex {f : S → Res It} (ho : PE X o (tVar r)) (ha : PE X e (tE C f)) (hs1 : starEach [e] X.env = (false, eval e X.env) :: starEach [] X.env := by rfl)
    (hbase : attributeBase o "extend" X.env (eval o X.env) = eval o X.env := by rfl)
    (hfew : ((backTo cpos (starEach [e] X.env)).all (fun x => !x.1) && (backToKw cpos (keywordEach [] X.env)).all (fun x => x.1.isSome) && decide (([e] : List Expr).length + ([] : List Keyword).length + (if ([] : List Keyword).isEmpty then 0 else 1) < 30)) = true := by rfl)
    (hline : (apos.endLine == cpos.line) = true := by rfl) (hplain : (backTo cpos (starEach [] X.env)).any (·.1) = false := by rfl) :
    PE X (.Call (.Attribute o "extend" apos) [e] [] cpos) (tE C (exM r f)) := PE.imp (pe_bm PySem.F.plainAttrs_list PySem.F.slot_list_extend PySem.F.type_list_extend mt_extend ho (pa_cons ha pa_nil hs1) hbase hfew hline hs1 hplain) fun σ H Q ⟨s, fr, rr, q⟩ => by
  unfold exM at q
  split at q
  · rename_i il
    obtain ⟨n0, ds0, e0⟩ := isL_of il
    obtain ⟨o, ev, r0⟩ := rr.take e0
    refine ⟨o, ev, lst_ty r0.see rfl, tE_K P_E rr q fun x s1 v H1 r1 q1 => ?_⟩
    have q2 : postE C σ fr (exG r x s1) Q := q1
    unfold exG at q2
    split at q2
    · rename_i m es n ds e3
      split at q2
      · rename_i c
        have hz := of_line c
        obtain ⟨o', ev', r2⟩ := r1.take e3
        rw [ev] at ev'
        cases ev'
        obtain ⟨pp, vs, rfl, hp, sl⟩ := r2.see
        have r3 : R C σ (s1.set r none) (.it v (m + 1) (.lst es) :: .it (.ref pp) (n + 1) (.lst ds) :: fr) H1 := r2.perm (.swap _ _ _)
        obtain ⟨qq, ws, rfl, hq, sl2⟩ := r3.see
        refine ⟨pp, qq, vs, ws, rfl, rfl, hp, hq, by rw [sl.length, sl2.length]; exact hz, ?_⟩
        have r4 : R C σ (s1.set r none) (.it (.ref pp) (min n m + 1) (.lst (ds ++ es)) :: fr) (upd H1 pp (.lst (vs ++ ws))) := R.reframe (fr := .it (.ref qq) (m + 1) (.lst es) :: .it (.ref pp) (n + 1) (.lst ds) :: fr) r3 (fun l rl => by
          obtain ⟨vs'', ws'', h1, h2, _, _, rl'⟩ := Rl.ext rl
          rw [hp] at h1
          rw [hq] at h2
          cases h1
          cases h2
          exact rl') fun f hf => by
            rcases List.mem_cons.mp hf with e | hf
            · subst e
              have zl := (R.tail r3).szd
              exact ⟨by show (ds ++ es).length ≤ _; rw [List.length_append]; exact hz, szL_app zl.2 r3.szd.2⟩
            · exact r3.sz f (List.mem_append_left _ (List.mem_cons_of_mem _ (List.mem_cons_of_mem _ hf)))
        have r5 := r4.put (x := (min n m + 1, .lst (ds ++ es))) ev
        rw [List.set_set] at r5
        exact q2 _ _ (r5.imm rfl rfl trivial)
      · exact q2.elim
    · exact q2.elim
  · exact q.elim
/-- xs.pop(i): an item that cannot change -/
def poG (r : Nat) (x : It) (s1 : S) : Res It := match x.2, s1[r]? with
    | .int i, some (some (n + 1, .lst ds)) => match ixN ds.length i with
      | some j => match ds[j]? with
        | some d => if smI i then .ok (if isImm d then B else n, d) (s1.set r (some (n + 1, .lst (ds.eraseIdx j)))) else .bad
        | none => .bad
      | none => .bad
    | _, _ => .bad
def poM (r : Nat) (f : S → Res It) : S → Res It := fun s => if isL r s then bindK .exc .bad (f s) (poG r)
  else .bad
theorem Rl.eraseAt : ∀ {vs : List V} {ds : List D} {j : Nat} {v : V} {d : D} {n : Nat} {l : List Fr}, vs[j]? = some v → ds[j]? = some d → Rl G (its n vs ds ++ l) H → Rl G (.it v n d :: (its n (vs.eraseIdx j) (ds.eraseIdx j) ++ l)) H
  | w :: vs, e :: ds, 0, v, d, n, l, h, k, r => by cases h; cases k; exact r
  | w :: vs, e :: ds, j + 1, v, d, n, l, h, k, r => by
    have r1 : Rl G (its n vs ds ++ (.it w n e :: l)) H := Rl.perm List.perm_middle.symm r
    have r2 := Rl.eraseAt (j := j) (by simpa using h) (by simpa using k) r1
    refine Rl.perm ?_ r2
    exact (List.perm_middle.cons _).trans (.swap _ _ _) |>.trans (.swap _ _ _)
  | [], _, _, _, _, _, _, h, _, _ => by simp at h
  | _ :: _, [], _, _, _, _, _, _, k, _ => by simp at k

theorem Rl.popAt {D0 : Addr} {n j : Nat} {ds : List D} {d : D} {l : List Fr} (r : Rl G (.it (.ref D0) (n + 1) (.lst ds) :: l) H) (hd : ds[j]? = some d) : ∃ vs w, H D0 = some (.lst vs) ∧ vs.length = ds.length ∧ vs[j]? = some w ∧ Rl G (.it w n d :: .it (.ref D0) (n + 1) (.lst (ds.eraseIdx j)) :: l) (upd H D0 (.lst (vs.eraseIdx j))) := by
  obtain ⟨p, vs, e, hp, hl, r1⟩ := Rl.openLst r
  cases e
  obtain ⟨hj, _⟩ := List.getElem?_eq_some_iff.mp hd
  have hw : vs[j]? = some (vs[j]'(by omega)) := List.getElem?_eq_getElem (by omega)
  refine ⟨vs, _, hp, hl, hw, ?_⟩
  have r2 := Rl.eraseAt hw hd r1
  have r3 : Rl G (its n (vs.eraseIdx j) (ds.eraseIdx j) ++ (.it (vs[j]'(by omega)) n d :: l)) (del H D0) := Rl.perm List.perm_middle.symm r2
  have r4 := Rl.newLst (by rw [List.length_eraseIdx, List.length_eraseIdx, hl]) r3 (del_self H D0)
  rw [upd_del] at r4
  exact Rl.perm (.swap _ _ _) r4
theorem szL_erase {ds : List D} (j : Nat) (h : szL ds) : szL (ds.eraseIdx j) := szL_mem.mpr fun d hd => szL_mem.mp h d (List.mem_of_mem_eraseIdx hd)
theorem pm_po {f : S → Res It} (ho : PE X o (tVar r)) (ha : PE X e (tE C f)) (hs1 : starEach [e] X.env = (false, eval e X.env) :: starEach [] X.env := by rfl)
    (hbase : attributeBase o "pop" X.env (eval o X.env) = eval o X.env := by rfl)
    (hfew : ((backTo cpos (starEach [e] X.env)).all (fun x => !x.1) && (backToKw cpos (keywordEach [] X.env)).all (fun x => x.1.isSome) && decide (([e] : List Expr).length + ([] : List Keyword).length + (if ([] : List Keyword).isEmpty then 0 else 1) < 30)) = true := by rfl)
    (hline : (apos.endLine == cpos.line) = true := by rfl) (hplain : (backTo cpos (starEach [] X.env)).any (·.1) = false := by rfl) :
    PE X (.Call (.Attribute o "pop" apos) [e] [] cpos) (tE C (poM r f)) := PE.imp (pe_bm PySem.F.plainAttrs_list PySem.F.slot_list_pop PySem.F.type_list_pop mt_popAt ho (pa_cons ha pa_nil hs1) hbase hfew hline hs1 hplain) fun σ H Q ⟨s, fr, rr, q⟩ => by
  unfold poM at q
  split at q
  · rename_i il
    obtain ⟨n0, ds0, e0⟩ := isL_of il
    obtain ⟨o, ev, r0⟩ := rr.take e0
    refine ⟨o, ev, lst_ty r0.see rfl, tE_K P_E rr q fun x s1 v H1 r1 q1 => ?_⟩
    have q2 : postE C σ fr (poG r x s1) Q := q1
    unfold poG at q2
    split at q2
    · rename_i i n ds e3 e4
      cases q3 : ixN ds.length i with
      | none => rw [q3] at q2; exact q2.elim
      | some j =>
        rw [q3] at q2
        dsimp only at q2
        cases q4 : ds[j]? with
        | none => rw [q4] at q2; exact q2.elim
        | some d =>
          rw [q4] at q2
          dsimp only at q2
          split at q2
          · rename_i c
            have c' := smI_tr c
            have ex : v = .int i := by
              have := r1.see
              rw [e3] at this
              exact this
            subst ex
            obtain ⟨o', ev', r2⟩ := (r1.tail).take e4
            rw [ev] at ev'
            cases ev'
            obtain ⟨pp, vs, rfl, hp, sl⟩ := r2.see
            obtain ⟨vs', w, hp', hl', hw, _⟩ := Rl.popAt r2.rl q4
            rw [hp] at hp'
            cases hp'
            obtain ⟨h1, h2, h3, h4⟩ := ixN_seq q3
            refine ⟨pp, vs, i, j, w, rfl, rfl, hp, by omega, by omega, by rw [hl']; exact h1, hw, ?_⟩
            have r4 : R C σ (s1.set r none) (.it w n d :: .it (.ref pp) (n + 1) (.lst (ds.eraseIdx j)) :: fr) (upd H1 pp (.lst (vs.eraseIdx j))) := R.reframe (fr := .it (.ref pp) (n + 1) (.lst ds) :: fr) r2 (fun l rl => by
              obtain ⟨vs'', w', hp'', hl'', hw', rl'⟩ := Rl.popAt rl q4
              rw [hp] at hp''
              cases hp''
              rw [hw] at hw'
              cases hw'
              exact rl') fun f hf => by
                have zl := r2.szd
                rcases List.mem_cons.mp hf with e | hf
                · subst e; exact szL_mem.mp zl.2 d (List.mem_of_getElem? q4)
                · rcases List.mem_cons.mp hf with e | hf
                  · subst e
                    exact ⟨Nat.le_trans (List.length_eraseIdx_le _ _) zl.1, szL_erase j zl.2⟩
                  · exact r2.sz f (List.mem_append_left _ (List.mem_cons_of_mem _ hf))
            have r5 := (r4.perm (.swap _ _ _)).put (x := (n + 1, .lst (ds.eraseIdx j))) ev
            rw [List.set_set] at r5
            refine q2 _ _ ?_
            split
            · rename_i im
              exact r5.tail.imm im r5.see r5.szd
            · exact r5
          · exact q2.elim
    · exact q2.elim
  · exact q.elim
end
end Pv
/-! PvW: fields, own methods (property, in, ==), making an object, star, slices with a step. -/
namespace Pv
open PySem PySem.Spec PyProof.Rows L2

section
variable {C : Cn} {X : Cx} {o e a b : Expr} {es : List Expr} {pos p cpos apos tpos : Pos} {l : List Fr} {H : Hp} {σ : L2.St} {s : S} {fr fr' : List Fr} {r c : Nat} {G : Gt}
/-! ### a field stored -/
def fdG (r c j : Nat) (x : It) (s1 : S) : SRes := match s1[r]? with
  | some (some (n + 1, .obj c' ds)) => if c' = c then if j = ds.length then .nx (s1.set r (some (min n x.1 + 1, .obj c (ds ++ [x.2])))) else if j < ds.length then .nx (s1.set r (some (min n x.1 + 1, .obj c (ds.set j x.2)))) else .bad else .bad
  | _ => .bad
def fdS (r c j : Nat) (fe : S → Res It) : S → SRes := fun s => (fe s).sbind (fdG r c j)
theorem putF_app {nm : Str} {v : V} : ∀ {ns : List Str} {vs : List V}, ns.Nodup → ns[vs.length]? = some nm → putF nm v (ns.zip vs) = ns.zip (vs ++ [v])
  | n :: ns, [], _, h => by
    cases h
    simp [putF]
  | n :: ns, w :: vs, nd, h => by
    have h' : ns[vs.length]? = some nm := h
    have ne : n ≠ nm := fun q => (List.nodup_cons.mp nd).1 (by rw [q]; exact List.mem_of_getElem? h')
    show (if n = nm then (n, v) :: ns.zip vs else (n, w) :: putF nm v (ns.zip vs)) = _
    rw [if_neg ne, putF_app (List.nodup_cons.mp nd).2 h']
    rfl
  | [], _, _, h => by cases h
theorem putF_set {nm : Str} {v : V} : ∀ {ns : List Str} {vs : List V} {j : Nat}, ns.Nodup → ns[j]? = some nm → j < vs.length → putF nm v (ns.zip vs) = ns.zip (vs.set j v)
  | n :: ns, w :: vs, 0, _, h, _ => by
    cases h
    simp [putF]
  | n :: ns, w :: vs, j + 1, nd, h, hl => by
    have h' : ns[j]? = some nm := h
    have ne : n ≠ nm := fun q => (List.nodup_cons.mp nd).1 (by rw [q]; exact List.mem_of_getElem? h')
    show (if n = nm then (n, v) :: ns.zip vs else (n, w) :: putF nm v (ns.zip vs)) = _
    rw [if_neg ne, putF_set (List.nodup_cons.mp nd).2 h' (by simpa using hl)]
    rfl
  | [], _, _, _, h, _ => by cases h
  | _ :: _, [], _, _, _, hl => by simp at hl
theorem ps_fd {j : Nat} {nm : Str} {fe : S → Res It} {pos' : Pos} (ho : PE X o (tVar r)) (he : PE X e (tE C fe)) (hc : ClsG X.K C.toGt c) (hn : (C.cn c)[j]? = some nm) (hl : decide ((C.cn c).length < 900) = true) (hs : swapsWith e (some (.Attribute o nm pos')) pos.line X.env = pure false := by rfl) :
    PS X (.Assign [.Attribute o nm pos'] e pos) (tS C (fdS r c j fe)) := PS.imp (ps_fld ho he hs) fun D₀ σ H ⟨s, fr, rr, q⟩ => by
  refine tE_K P_S rr q fun x s1 v H1 r1 q1 => ?_
  have q2 : postS C D₀ fr (fdG r c j x s1) := q1
  unfold fdG at q2
  split at q2
  · rename_i n c' ds es
    split at q2
    · rename_i ec
      subst ec
      obtain ⟨o, ev, r2⟩ := r1.take es
      obtain ⟨pp, dx, vs, rfl, hp, hlen, r3⟩ := Rl.openObj r2.rl
      have fl : ((C.cn c').zip vs).length < 1000 := by
        have := of_decide_eq_true hl
        rw [List.length_zip]
        omega
      refine ⟨.ref pp, ev, pp, _, dx, _, rfl, hp, hc.cl, hc.no _ (List.mem_of_getElem? hn), fl, ?_⟩
      have r4 : Rl C.toGt (its (min n x.1) vs ds ++ (.it v (min n x.1) x.2 :: (fr ++ slF σ (s1.set r none)))) (del H1 pp) := by
        have q4 := Rl.lowers (Nat.min_le_left n x.1) r3
        exact Rl.perm List.perm_middle.symm (Rl.lower (Nat.min_le_right n x.1) (Rl.perm List.perm_middle q4))
      have zo := r2.szd
      have zx := (R.tail r2).szd
      have fin : ∀ {ds' : List D} {vs' : List V}, vs'.length = ds'.length → szL ds' → putF nm v ((C.cn c').zip vs) = (C.cn c').zip vs' → Rl C.toGt (its (min n x.1) vs' ds' ++ (fr ++ slF σ (s1.set r none))) (del H1 pp) → R C σ (s1.set r (some (min n x.1 + 1, .obj c' ds'))) fr (upd H1 pp (.ins (C.ca c') dx (putF nm v ((C.cn c').zip vs)))) := fun {ds' vs'} hl' z' ep rl' => by
        have r5 := Rl.newObj (c := c') (dx := dx) hl' rl' (del_self H1 pp)
        rw [upd_del, ← ep] at r5
        have r6 : R C σ (s1.set r none) (.it (.ref pp) (min n x.1 + 1) (.obj c' ds') :: fr) (upd H1 pp (.ins (C.ca c') dx (putF nm v ((C.cn c').zip vs)))) := ⟨r2.sl, r5, fun f hf => by
          rcases List.mem_cons.mp hf with e | hf
          · subst e; exact z'
          · exact r2.sz f (List.mem_cons_of_mem _ (List.mem_cons_of_mem _ hf)), r2.pn, r2.ln⟩
        have r7 := r6.put (x := (min n x.1 + 1, .obj c' ds')) ev
        rw [List.set_set] at r7
        exact r7
      split at q2
      · rename_i ej
        subst ej
        refine q2 σ _ (fin (vs' := vs ++ [v]) (by rw [List.length_append, List.length_append, hlen]; rfl) (szL_app (show szL ds from zo) ⟨zx, trivial⟩) (putF_app hc.nd (by rw [hlen]; exact hn)) ?_)
        rw [its_app hlen, List.append_assoc]
        exact r4
      · split at q2
        · rename_i hj
          refine q2 σ _ (fin (vs' := vs.set j v) (its_len2 hlen) (szL_set (show szL ds from zo) zx) (putF_set hc.nd hn (by rw [hlen]; exact hj)) ?_)
          exact Rl.setAt hlen (Rl.perm List.perm_middle r4)
        · exact q2.elim
    · exact q2.elim
  · exact q2.elim
/-! ### own methods -/
def isO (c : Nat) (d : D) : Bool := match d with
  | .obj c' _ => c' == c
  | _ => false
theorem isO_of {d : D} (h : isO c d = true) : ∃ ds, d = .obj c ds := by
  cases d <;> first
    | cases h
    | exact ⟨_, by rw [eq_of_beq (show (_ == c) = true from h)]⟩
/-- e.f, a property -/
def prM (c : Nat) (fn : Fd) (f : S → Res It) : S → Res It := fun s => bindK .exc .bad (f s) fun x s1 => if isO c x.2 then match fn [x] with
    | some (y, _) => .ok y s1
    | none => .bad
  else .bad
theorem pm_pr {k : Nat} {pa g : Addr} {fd : FuncData} {ps : List Str} {nm : Str} {fn : Fd} {f : S → Res It} (ha : PE X a (tE C f)) (hc : Cls X.K (C.ca c)) (hp : PropOf X.K (C.ca c) nm pa g) (F : FnOk X.prog X.w X.K X.mg X.base CX0 k g fd ps (spF C.toGt [false] 1 fn)) (hr : Room (k + 1) X.A) (hb : Binds X.K fd ps [])
    (hab : attributeBase a nm X.env (eval a X.env) = eval a X.env) : PE X (.Attribute a nm pos) (tE C (prM c fn f)) := PE.imp (pe_prop (E := fun _ _ _ => False) ha hc hp F hr hb .nil pass0 hab) fun σ H Q ⟨s, fr, rr, q⟩ => by
  refine tE_K P_E rr q fun x s1 v H1 r1 q1 => ?_
  have q2 : postE C σ fr (if isO c x.2 then match fn [x] with
    | some (y, _) => .ok y s1
    | none => .bad
    else .bad) Q := q1
  split at q2
  · rename_i io
    obtain ⟨ds, ed⟩ := isO_of io
    have sv := r1.see
    rw [ed] at sv
    obtain ⟨q, dx, vs, rfl, hp, sl⟩ := sv
    cases ef : fn [x] with
    | none => rw [ef] at q2; exact q2.elim
    | some z =>
      obtain ⟨y, ys⟩ := z
      rw [ef] at q2
      exact ⟨q, dx, _, rfl, hp, spF_of (ml := [none]) (xs := [x]) (vs := [.ref q]) (s1 := s1) rfl rfl trivial r1 ef fun v H' r' => q2 v H' (by
        cases ys <;> exact r')⟩
  · exact q2.elim
/-- x in o -/
def inM (c : Nat) (fn : Fd) (fa fb : S → Res It) : S → Res It := fun s => bindK .exc .bad (fa s) fun x s1 => bindK .exc .bad (fb s1) fun y s2 => if isO c y.2 then match fn [y, x] with
    | some ((_, .bl t), []) => .ok (B, .bl t) s2
    | _ => .bad
  else .bad
theorem o_own_in {k : Nat} {f : Addr} {fd : FuncData} {ps : List Str} {sp : Sp} (hs : PySem.W.findIn X.K (.ref (C.ca c)) "__contains__" = some (some (.ref f))) (hf : PySem.W.isFn X.K (.ref f) = true) (F : FnOk X.prog X.w X.K X.mg X.base CX0 k f fd ps sp) (hr : Room k X.A) (hb : Binds X.K fd ps []) :
    OpR X (compareOp .In) (fun x y H Q => ∃ q dx fs, y = .ref q ∧ H q = some (.ins (C.ca c) dx fs) ∧ sp [y, x] H (fun v H' => ∃ t, v = .bl t ∧ Q (.bl t) H') (fun _ _ _ => False)) := by
  rintro pins s σ H x y v u Q I rx ry ⟨q, dx, fs, rfl, hq, h⟩
  cases ry
  obtain ⟨mA, J, _⟩ := ins_get I.hok hq
  obtain ⟨od, J, _⟩ := J.look
  obtain ⟨m, hF⟩ := I.fr
  refine PySem.W.in_K hF I.ok.mod.kin J hs hf (thn (run_fn (Q := fun v H' => ∃ t, v = .bl t ∧ Q (.bl t) H') F hr hb .nil pass0 I (us := [.ref q, v]) (vs := [.ref q, x]) (.cons rfl (.cons rx .nil)) (by rw [List.append_nil]; exact h)) fun w s' ⟨v', H', I', rv, t, ev, q'⟩ => ?_)
  subst ev
  cases rv
  exact wpAny_truthy_bool ⟨.bl t, H', I', rfl, q'⟩
theorem o_own_notin {k : Nat} {f : Addr} {fd : FuncData} {ps : List Str} {sp : Sp} (hs : PySem.W.findIn X.K (.ref (C.ca c)) "__contains__" = some (some (.ref f))) (hf : PySem.W.isFn X.K (.ref f) = true) (F : FnOk X.prog X.w X.K X.mg X.base CX0 k f fd ps sp) (hr : Room k X.A) (hb : Binds X.K fd ps []) :
    OpR X (compareOp .NotIn) (fun x y H Q => ∃ q dx fs, y = .ref q ∧ H q = some (.ins (C.ca c) dx fs) ∧ sp [y, x] H (fun v H' => ∃ t, v = .bl t ∧ Q (.bl (!t)) H') (fun _ _ _ => False)) := by
  rintro pins s σ H x y v u Q I rx ry ⟨q, dx, fs, rfl, hq, h⟩
  cases ry
  obtain ⟨mA, J, _⟩ := ins_get I.hok hq
  obtain ⟨od, J, _⟩ := J.look
  obtain ⟨m, hF⟩ := I.fr
  refine PySem.W.notIn_K hF I.ok.mod.kin J hs hf (thn (run_fn (Q := fun v H' => ∃ t, v = .bl t ∧ Q (.bl (!t)) H') F hr hb .nil pass0 I (us := [.ref q, v]) (vs := [.ref q, x]) (.cons rfl (.cons rx .nil)) (by rw [List.append_nil]; exact h)) fun w s' ⟨v', H', I', rv, t, ev, q'⟩ => ?_)
  subst ev
  cases rv
  exact wpAny_truthy_bool ⟨.bl (!t), H', I', rfl, q'⟩
theorem inM_imp {fn : Fd} {fa fb : S → Res It} {E : XK} {Q : VK} (q : tE C (inM c fn fa fb) σ H Q) : tOp (fun x y H Q => ∃ q dx fs, y = .ref q ∧ H q = some (.ins (C.ca c) dx fs) ∧ spF C.toGt [false, false] 2 fn [y, x] H (fun v H' => ∃ t, v = .bl t ∧ Q (.bl t) H') E) (tE C fa) (tE C fb) σ H Q := by
  obtain ⟨s, fr, rr, q⟩ := q
  refine tE_K P_E rr q fun x s1 v H1 r1 h1 => ?_
  refine tE_K (P_E.more (List.sublist_cons_self _ _)) r1 h1 fun y s2 w H2 r2 h2 => ?_
  have q2 : postE C σ fr (if isO c y.2 then match fn [y, x] with
    | some ((_, .bl t), []) => .ok (B, .bl t) s2
    | _ => .bad
    else .bad) Q := h2
  split at q2
  · rename_i io
    obtain ⟨ds, ed⟩ := isO_of io
    have sv := r2.see
    rw [ed] at sv
    obtain ⟨q, dx, vs, rfl, hp, sl⟩ := sv
    split at q2
    · rename_i n t ef
      exact ⟨q, dx, _, rfl, hp, spF_of (ml := [none, none]) (xs := [y, x]) (vs := [.ref q, v]) (s1 := s2) rfl rfl trivial r2 ef fun v H' r' => ⟨t, r'.see, q2 _ H' (r'.tail.imm rfl rfl trivial)⟩⟩
    · exact q2.elim
  · exact q2.elim
theorem pm_in {k : Nat} {f : Addr} {fd : FuncData} {ps : List Str} {fn : Fd} {fa fb : S → Res It} (hs : PySem.W.findIn X.K (.ref (C.ca c)) "__contains__" = some (some (.ref f))) (hf : PySem.W.isFn X.K (.ref f) = true) (F : FnOk X.prog X.w X.K X.mg X.base CX0 k f fd ps (spF C.toGt [false, false] 2 fn)) (hr : Room k X.A) (hb : Binds X.K fd ps [])
    (ha : PE X a (tE C fa)) (hb' : PE X b (tE C fb)) (hm : behindInMarks .In b = false) : PE X (.Compare a [.In] [b] pos) (tE C (inM c fn fa fb)) := PE.imp (pe_cmpR (o_own_in (C := C) (c := c) hs hf F hr hb) ha hb' hm) fun _ _ _ => inM_imp
theorem pt_in {k : Nat} {f : Addr} {fd : FuncData} {ps : List Str} {fn : Fd} {fa fb : S → Res It} (hs : PySem.W.findIn X.K (.ref (C.ca c)) "__contains__" = some (some (.ref f))) (hf : PySem.W.isFn X.K (.ref f) = true) (F : FnOk X.prog X.w X.K X.mg X.base CX0 k f fd ps (spF C.toGt [false, false] 2 fn)) (hr : Room k X.A) (hb : Binds X.K fd ps [])
    (ha : PE X a (tE C fa)) (hb' : PE X b (tE C fb)) (hm : behindInMarks .In b = false) : PT X (.Compare a [.In] [b] pos) (tT C (tstM (inM c fn fa fb))) := PT.imp (pt_cmpR (o_own_in (C := C) (c := c) hs hf F hr hb) ha hb' hm) fun _ _ _ h => inM_imp (t_of_M h)
/-- o == y, o's own -/
def eqM (c : Nat) (ok : D → Bool) (fn : Fd) (fa fb : S → Res It) : S → Res It := fun s => bindK .exc .bad (fa s) fun x s1 => bindK .exc .bad (fb s1) fun y s2 => if isO c x.2 && ok y.2 then match fn [x, y] with
    | some ((_, .bl t), []) => .ok (B, .bl t) s2
    | _ => .bad
  else .bad
/-- what may stand on the right: its class does not go ahead -/
def EqOk (X : Cx) (G : Gt) (c : Nat) (ok : D → Bool) : Prop := ∀ H d v, See G H d v → ok d = true → ∃ tb, TyX X.K H v tb ∧ PySem.W.notFirst X.K (G.ca c) tb = true
theorem o_own_eq {k : Nat} {f : Addr} {fd : FuncData} {ps : List Str} {sp : Sp} (hs : PySem.W.findIn X.K (.ref (C.ca c)) "__eq__" = some (some (.ref f))) (hf : PySem.W.isFn X.K (.ref f) = true) (F : FnOk X.prog X.w X.K X.mg X.base CX0 k f fd ps sp) (hr : Room k X.A) (hb : Binds X.K fd ps []) :
    OpR X (compareOp .Eq) (fun x y H Q => ∃ q dx fs tb, x = .ref q ∧ H q = some (.ins (C.ca c) dx fs) ∧ TyX X.K H y tb ∧ PySem.W.notFirst X.K (C.ca c) tb = true ∧ sp [x, y] H (fun v H' => ∃ t, v = .bl t ∧ Q (.bl t) H') (fun _ _ _ => False)) := by
  rintro pins s σ H x y v u Q I rx ry ⟨q, dx, fs, tb, rfl, hq, ht, hn, h⟩
  cases rx
  obtain ⟨mA, J, _⟩ := ins_get I.hok hq
  obtain ⟨od, J, _⟩ := J.look
  obtain ⟨m, hF⟩ := I.fr
  obtain ⟨P, Z, pz, _⟩ := kit_of I ry ht
  show wpAny (model X.prog X.w) X.A (richCompare .Eq (.ref q) u) (EP X pins σ Q) X.xe s
  refine PySem.W.cmp_K (op := .Eq) (tb := tb) hr.units0 hF I.ok.mod.kin J (Z.ty _ _ I.kIn pz) hn hs hf (thn (run_fn (Q := fun v H' => ∃ t, v = .bl t ∧ Q (.bl t) H') F hr hb .nil pass0 I (us := [.ref q, u]) (vs := [.ref q, y]) (.cons rfl (.cons ry .nil)) (by rw [List.append_nil]; exact h)) fun w s' ⟨v', H', I', rv, t, ev, q'⟩ => ?_)
  subst ev
  cases rv
  exact ⟨.bl t, H', I', rfl, q'⟩
end
end Pv
/-! PvX: own ==, making an object, star, slices with a step. -/
namespace Pv
open PySem PySem.Spec PyProof.Rows L2

section
variable {C : Cn} {X : Cx} {o e a b : Expr} {es : List Expr} {pos p cpos apos tpos : Pos} {l : List Fr} {H : Hp} {σ : L2.St} {s : S} {fr fr' : List Fr} {r c : Nat} {G : Gt}
theorem eqM_imp {ok : D → Bool} {fn : Fd} {fa fb : S → Res It} {E : XK} {Q : VK} (hok : EqOk X C.toGt c ok) (q : tE C (eqM c ok fn fa fb) σ H Q) :
    tOp (fun x y H Q => ∃ q dx fs tb, x = .ref q ∧ H q = some (.ins (C.ca c) dx fs) ∧ TyX X.K H y tb ∧ PySem.W.notFirst X.K (C.ca c) tb = true ∧ spF C.toGt [false, false] 2 fn [x, y] H (fun v H' => ∃ t, v = .bl t ∧ Q (.bl t) H') E) (tE C fa) (tE C fb) σ H Q := by
  obtain ⟨s, fr, rr, q⟩ := q
  refine tE_K P_E rr q fun x s1 v H1 r1 h1 => ?_
  refine tE_K (P_E.more (List.sublist_cons_self _ _)) r1 h1 fun y s2 w H2 r2 h2 => ?_
  have q2 : postE C σ fr (if isO c x.2 && ok y.2 then match fn [x, y] with
    | some ((_, .bl t), []) => .ok (B, .bl t) s2
    | _ => .bad
    else .bad) Q := h2
  split at q2
  · rename_i io
    have io' := bool_and io
    obtain ⟨ds, ed⟩ := isO_of io'.1
    have sv := (R.tail r2).see
    rw [ed] at sv
    obtain ⟨q, dx, vs, rfl, hp, sl⟩ := sv
    obtain ⟨tb, t1, t2⟩ := hok H2 y.2 w r2.see io'.2
    split at q2
    · rename_i n t ef
      exact ⟨q, dx, _, tb, rfl, hp, t1, t2, spF_of (ml := [none, none]) (xs := [x, y]) (vs := [.ref q, w]) (s1 := s2) rfl rfl trivial (r2.perm (.swap _ _ _)) ef fun v H' r' => ⟨t, r'.see, q2 _ H' (r'.tail.imm rfl rfl trivial)⟩⟩
    · exact q2.elim
  · exact q2.elim
theorem pm_eq {k : Nat} {f : Addr} {fd : FuncData} {ps : List Str} {ok : D → Bool} {fn : Fd} {fa fb : S → Res It} (hok : EqOk X C.toGt c ok) (hs : PySem.W.findIn X.K (.ref (C.ca c)) "__eq__" = some (some (.ref f))) (hf : PySem.W.isFn X.K (.ref f) = true) (F : FnOk X.prog X.w X.K X.mg X.base CX0 k f fd ps (spF C.toGt [false, false] 2 fn)) (hr : Room k X.A) (hb : Binds X.K fd ps [])
    (ha : PE X a (tE C fa)) (hb' : PE X b (tE C fb)) (hm : behindInMarks .Eq b = false) : PE X (.Compare a [.Eq] [b] pos) (tE C (eqM c ok fn fa fb)) := PE.imp (pe_cmpR (o_own_eq (C := C) (c := c) hs hf F hr hb) ha hb' hm) fun _ _ _ => eqM_imp hok
theorem pt_eq {k : Nat} {f : Addr} {fd : FuncData} {ps : List Str} {ok : D → Bool} {fn : Fd} {fa fb : S → Res It} (hok : EqOk X C.toGt c ok) (hs : PySem.W.findIn X.K (.ref (C.ca c)) "__eq__" = some (some (.ref f))) (hf : PySem.W.isFn X.K (.ref f) = true) (F : FnOk X.prog X.w X.K X.mg X.base CX0 k f fd ps (spF C.toGt [false, false] 2 fn)) (hr : Room k X.A) (hb : Binds X.K fd ps [])
    (ha : PE X a (tE C fa)) (hb' : PE X b (tE C fb)) (hm : behindInMarks .Eq b = false) : PT X (.Compare a [.Eq] [b] pos) (tT C (tstM (eqM c ok fn fa fb))) := PT.imp (pt_cmpR (o_own_eq (C := C) (c := c) hs hf F hr hb) ha hb' hm) fun _ _ _ h => eqM_imp hok (t_of_M h)
/-- of the class itself, or of no class of the program -/
def eqSelf (c : Nat) : D → Bool
  | .obj c' _ => c' == c
  | .dct _ _ _ => false
  | .nst _ => false
  | _ => true
theorem eqOk_self {cs : List Nat} (hK : C.K = X.K) (g : IsaG X.K C.toGt cs) (hc : c ∈ cs) (hn : ∀ t ∈ tyAs, PySem.W.notFirst X.K (C.ca c) (.type t) = true) (hs : PySem.W.notFirst X.K (C.ca c) (.ref (C.ca c)) = true) : EqOk X C.toGt c (eqSelf c) := fun H d v sv h => by
  by_cases h1 : ∃ c' ds, d = .obj c' ds
  · obtain ⟨c', ds, rfl⟩ := h1
    have e : c' = c := eq_of_beq (show (c' == c) = true from h)
    subst e
    exact ⟨_, see_obj g hc sv, hs⟩
  · by_cases h2 : ∃ t ks ds, d = .dct t ks ds
    · obtain ⟨t, ks, ds, rfl⟩ := h2
      cases h
    · have n1 : ∀ c ds, d ≠ .obj c ds := fun c ds q => h1 ⟨c, ds, q⟩
      have n2 : ∀ t ks ds, d ≠ .dct t ks ds := fun t ks ds q => h2 ⟨t, ks, ds, q⟩
      have n3 : ∀ ks, d ≠ .nst ks := fun ks q => by subst q; cases h
      exact ⟨_, see_ty hK n1 n2 n3 sv, hn _ (tyN_as d n1)⟩
/-! ### making an object -/
def mkG (c : Nat) (ml : List (Option Nat)) (fn : Fd) (xs : List It) (s1 : S) : Res It := match mixI ml xs s1 with
  | some (ys, s2) => match fn ((B, .obj c []) :: ys) with
    | some ((_, .non), y :: zs) => .ok y (bkS ml zs s2)
    | _ => .bad
  | none => .bad
def mkM (c : Nat) (ml : List (Option Nat)) (fn : Fd) (f : S → Res (List It)) : S → Res It := fun s => bindK .exc .bad (f s) (mkG c ml fn)
theorem pm_mk {k : Nat} {f : Addr} {fd : FuncData} {ps : List Str} {x : Str} {ml : List (Option Nat)} {fn : Fd} {fa : S → Res (List It)} (M : Mk X.K (C.ca c) f) (F : FnOk X.prog X.w X.K X.mg X.base CX0 k f fd ps (spF C.toGt (true :: ml.map Option.isSome) ps.length fn)) (hr : Room (k + 1) X.A) (hg : Gl X x) (hm : X.mg x = some (.ref (C.ca c))) (hb : Binds X.K fd ps [])
    (hn : ml.length + 1 = ps.length) (ha : PA X (e :: es) (tAL C ml fa)) (hdb : (x == ("__debug__" : Str)) = false := by decide) (he : starEach (e :: es) X.env = (false, eval e X.env) :: starEach es X.env := by rfl) (hpl : (backTo pos (starEach es X.env)).any (·.1) = false := by rfl) :
    PE X (.Call (.Name x p) (e :: es) [] pos) (tE C (mkM c ml fn fa)) := PE.imp (pe_make (E := fun _ _ _ => False) M F hr hg hm hb .nil pass0 ha hdb he hpl) fun σ H Q ⟨s, fr, rr, q⟩ => by
  refine tAL_K P_E rr q fun xs0 s0 vs H1 m r0 q1 => ?_
  intro x dx hx hdx ne
  rw [List.append_nil]
  have q2 : postE C σ fr (mkG c ml fn xs0 s0) Q := q1
  unfold mkG at q2
  cases em : mixI ml xs0 s0 with
  | none => rw [em] at q2; exact q2.elim
  | some z =>
  obtain ⟨xs, s1⟩ := z
  rw [em] at q2
  dsimp only at q2
  obtain ⟨e, r1⟩ := R.mix m em r0
  split at q2
  · rename_i n y ys ef
    have hx' : upd H1 dx (.own x) x = none := by rw [upd_ne (Ne.symm ne)]; exact hx
    have s1' : Sub H1 (upd H1 dx (.own x)) := upd_sub hdx
    have r2 : R C σ s1 (.it (.ref x) B (.obj c []) :: (itsN vs xs ++ fr)) (upd (upd H1 dx (.own x)) x (.ins (C.ca c) dx [])) := by
      have r3 := r1.mono s1'
      refine ⟨r3.sl, ?_, fun f hf => ?_, r3.pn, r3.ln⟩
      · have := Rl.newObj (c := c) (n := B) (dx := dx) (vs := []) (ds := []) rfl (show Rl C.toGt (its B [] [] ++ (itsN vs xs ++ fr ++ slF σ s1)) _ from r3.rl) hx'
        rw [List.zip_nil_right] at this
        exact R_low this
      · rcases List.mem_cons.mp hf with e | hf
        · subst e; exact (show szL [] from trivial)
        · exact r3.sz f hf
    refine ⟨(B, .obj c []) :: xs, fr ++ slF σ s1, (n, .non), y :: ys, by rw [List.length_cons, List.length_cons, e], by rw [List.length_cons, m.len]; exact hn, ?_, ?_, ?_, ef, fun v H' hl rl zx zy => ?_⟩
    · have := r2.rl
      rw [← List.append_assoc]
      exact this
    · have zs : ∀ f ∈ itsN vs xs, szF f := fun f hf => r1.sz f (List.mem_append_left _ (List.mem_append_left _ hf))
      have := itsN_szs e zs
      intro y hy
      rcases List.mem_cons.mp hy with e | hy
      · subst e; exact (show szL [] from trivial)
      · exact szL_mem.mp this y.2 (List.mem_map.mpr ⟨y, hy, rfl⟩)
    · exact fun f hf => r1.sz f (by rw [List.append_assoc]; exact List.mem_append_right _ hf)
    · have hl' : ys.length = (selV (ml.map Option.isSome) vs).length := by simpa [selV] using hl
      have r4 : R C σ s1 (itsN (selV (ml.map Option.isSome) vs) ys ++ (.it (.ref x) y.1 y.2 :: fr)) H' := by
        refine ⟨r1.sl, ?_, fun f hf => ?_, r1.pn, r1.ln⟩
        · have rl' : Rl C.toGt (.it v n .non :: .it (.ref x) y.1 y.2 :: (itsN (selV (ml.map Option.isSome) vs) ys ++ (fr ++ slF σ s1))) H' := rl
          rw [List.append_assoc]
          exact Rl.perm List.perm_middle.symm rl'.tail
        · rw [List.append_assoc] at hf
          rcases List.mem_append.mp hf with hf | hf
          · exact itsN_szF (fun z hz => zy z (List.mem_cons_of_mem _ hz)) f hf
          · rcases List.mem_cons.mp hf with e | hf
            · subst e; exact zy y List.mem_cons_self
            · exact r1.sz f (by rw [List.append_assoc]; exact List.mem_append_right _ hf)
      have ev : v = .non := Rl.see rl
      exact ⟨ev, q2 _ H' (R.back m hl' r4)⟩
  · exact q2.elim
where
  R_low {l : List Fr} {v : V} {d : D} {H : Hp} (h : Rl C.toGt (.it v (B + 1) d :: l) H) : Rl C.toGt (.it v B d :: l) H := Rl.lower (Nat.le_succ _) h
/-! ### star -/
def seqD : D → Option (List D)
  | .tup ds => some ds
  | .lst ds => some ds
  | _ => none
def starA (f : S → Option D) (g : S → Option (List D)) : S → Option (List D) := fun s => match (f s).bind seqD, g s with
  | some ds, some es => some (ds ++ es)
  | _, _ => none
theorem pa_starV {f : S → Option D} {g : S → Option (List D)} {sp_ : Pos} (h : PE X e (tSee C f)) (k : PA X es (tSA C g)) (hs : starEach (.Starred e sp_ :: es) X.env = (true, eval e X.env) :: starEach es X.env := by rfl) : PA X (.Starred e sp_ :: es) (tSA C (starA f g)) := PA.imp (StX.pa_star h k hs) fun σ H Q ⟨s, fr, zs, r, e, q⟩ => by
  unfold starA at e
  cases q1 : f s with
  | none => rw [q1] at e; cases e
  | some d =>
    rw [q1] at e
    cases q3 : g s with
    | none => rw [q3] at e; cases d <;> cases e
    | some es' =>
      rw [q3] at e
      cases d with
      | tup ds =>
        cases e
        refine ⟨s, fr, _, r, q1, fun v H1 u1 s1 z1 => ?_⟩
        obtain ⟨pp, vs, rfl, hp, sl⟩ := s1
        refine ⟨pp, vs, rfl, .inl (.of hp), s, fr, es', r.mono u1, q3, fun ws H2 u2 s2 z2 => ?_⟩
        exact q _ H2 (u1.trans u2) (SeeL_app (SeeL.mono u2 _ sl) s2) (szL_app z1.2 z2)
      | lst ds =>
        cases e
        refine ⟨s, fr, _, r, q1, fun v H1 u1 s1 z1 => ?_⟩
        obtain ⟨pp, vs, rfl, hp, sl⟩ := s1
        refine ⟨pp, vs, rfl, .inr (.of hp), s, fr, es', r.mono u1, q3, fun ws H2 u2 s2 z2 => ?_⟩
        exact q _ H2 (u1.trans u2) (SeeL_app (SeeL.mono u2 _ sl) s2) (szL_app z1.2 z2)
      | _ => cases e
/-! ### slices with a step -/
def pickL {α : Type} (xs : List α) (lo hi st : Option Int) : List α := (sliceRange (sliceBounds lo hi st xs.length).1 (sliceBounds lo hi st xs.length).2.1 (sliceBounds lo hi st xs.length).2.2).filterMap (xs[·]?)
def tSl3 (K : PySem.W.Frag) (te : TE) (tl th ts : TO) : TE := fun σ H Q => te σ H fun x H1 => tl σ H1 fun l H2 => th σ H2 fun u H3 => ts σ H3 fun st H4 => ∃ q xs, x = .ref q ∧ SqL K H4 q xs ∧ st ≠ some 0 ∧ ∀ p, H4 p = none → Q (.ref p) (upd H4 p (.lst (pickL xs l u st)))
theorem vals_pick {xs : List V} {us : List Value} (r : Vals xs us) : ∀ ps : List Nat, Vals (ps.filterMap (xs[·]?)) (ps.filterMap (us[·]?))
  | [] => .nil
  | i :: ps => by
    cases h : xs[i]? with
    | none =>
      have h2 := r.none_of h
      rw [List.filterMap_cons_none h, List.filterMap_cons_none h2]
      exact vals_pick r ps
    | some x =>
      obtain ⟨u, h2, h3⟩ := r.get h
      rw [List.filterMap_cons_some h, List.filterMap_cons_some h2]
      exact .cons h3 (vals_pick r ps)
theorem pe_slice3 {te : TE} {tl th ts : TO} {lo hi : Option Expr} {st0 : Expr} {p2 : Pos} (he : PE X e te) (hl : PO X lo tl) (hu : PO X hi th) (hs : PO X (some st0) ts) : PE X (.Subscript e (.Slice lo hi (some st0) p2) pos) (tSl3 X.K te tl th ts) := by
  refine ⟨fun pins s σ H Q I h => ?_⟩
  refine Subscript_ (thn (he.run pins s σ H _ I h) fun v s1 ⟨x, H1, I1, r1, q1⟩ => ?_)
  refine wpAny_Slice (thn (hl.run pins s1 σ H1 _ I1 q1) fun vl s2 ⟨l, H2, I2, pl, q2⟩ => thn (hu.run pins s2 σ H2 _ I2 q2) fun vu s3 ⟨u, H3, I3, pu, q3⟩ => thn (hs.run pins s3 σ H3 _ I3 q3) fun vs s4 ⟨st, H4, I4, ps, q, xs, ex, hq, h0, q4⟩ => ?_)
  subst ex
  cases r1
  have I5 : Inv X pins σ H4 { s4 with heap := s4.heap.push { cls := .type "slice", data := .fields #[vl, vu, vs] } } := I4.kept (t' := s4.toks) fun b ob q => Heap.get?_push_of_some _ q
  obtain ⟨its, r, ht, hz⟩ := I5.list hq
  have hlen := r.length
  have hT : ({ s4 with heap := s4.heap.push { cls := .type "slice", data := .fields #[vl, vu, vs] } } : Shared).TypeIs (.ref q) "list" := ht.isList.typeIs
  refine tail_any (ops := [.ref q, .ref s4.heap.objs.size]) hT slot_list_getitem.lookup (wpAny_getItem_list_slice ht.isList (Heap.IsSliceOf.new ..) pl pu ps h0 ?_ (by rw [List.size_toArray] <;> omega)) (by with_unfolding_all rfl)
  have ep : slicePick its.toArray l u st = (pickL its l u st).toArray := by
    unfold slicePick pickL
    simp
  rw [ep]
  have hfr := I5.hok.fresh (Nat.le_refl _)
  refine ⟨.ref _, _, I5.laid (t' := s4.toks) (o := .lst (pickL xs l u st)) (fun b ob q => Heap.get?_push_of_some _ q) (Nat.le_refl _) ?_, rfl, q4 _ hfr⟩
  have rp : Vals (pickL xs l u st) (pickL its l u st) := by
    unfold pickL
    rw [hlen]
    exact vals_pick r _
  refine ⟨?_, _, 0, rp, Heap.get?_push_size _ rfl⟩
  have := slicePick_size_le its.toArray l u st
  rw [ep, List.size_toArray, List.size_toArray, ← rp.length] at this
  omega
/-! t[::-1] -/
theorem getItem_tuple_rev {prog : Program} {w : World} {A : Around} {E : Value → Shared → Prop} {s : Shared} {t sl : Addr} {items : Array Value} {vs : Value} {Q : Value → Shared → Prop} (ht : IsTup s.heap t items) (hs : s.heap.IsSliceOf sl .none .none vs) (ps : IsPart vs (some (-1)))
    (h : Q (.ref s.heap.objs.size) { s with heap := s.heap.push { cls := .type "tuple", data := .seq items.toList.reverse.toArray } }) (hsz : items.size ≤ sizeLine) : wpAny (model prog w) A (getItem (.ref t) (.ref sl)) Q E s := by
  have hrev : sizeOk (.seq items.toList.reverse.toArray) := by
    show items.toList.reverse.toArray.size ≤ sizeLine
    rw [List.size_toArray, List.length_reverse, Array.length_toList]
    exact hsz
  obtain ⟨os, hos, hcs, hds⟩ := id hs
  have hTs : s.TypeIs (.ref sl) "slice" := ⟨os, hos, hcs⟩
  unfold getItem
  try with_reducible refine wpAny_holding ?_
  first | refine wpAny_bind (wpAny_pure ?_) | skip
  refine wpAny_bind (wpAny_sequenceKey ht.typeIs (by decide) ?_)
  refine wpAny_bind (wpAny_callSpecial?_slot (name := Str.ofString "__getitem__") ht.typeIs PyProof.Rows.slot_tuple_getitem
    (wpAny_call_entry PyProof.Rows.slot_tuple_getitem ht.typeIs entry_tuple_getitem ?_ (args_tuple_getitem _ _)))
  show wpAny _ _ (Builtin.Tuple.tupleItemsOf (.ref t) >>= _) _ _ s
  refine wpAny_bind (tupleItemsOf_ ht ?_)
  refine wpAny_bind (wpAny_typeOf hTs ?_)
  rw [if_pos (by decide)]
  have hap : ∀ {Q : Int × Int × Nat → Shared → Prop}, Q ((items.size : Int) - 1, -1, items.size) s → wpAny (model prog w) A.in1 (Builtin.Slice.sliceApplied (.ref sl) (pure (items.size : Int))) Q E s := fun {Q} hQ => by
    unfold Builtin.Slice.sliceApplied Builtin.Slice.sliceFields
    refine wpAny_bind (wpAny_bind (wpAny_field hos hds (x := .none) rfl (wpAny_bind (wpAny_field hos hds (x := .none) rfl (wpAny_bind (wpAny_field hos hds (x := vs) rfl (wpAny_pure ?_)))))))
    refine wpAny_bind (HT.slicePart_ ps ?_)
    show wpAny _ _ (if ((-1 : Int) == 0) = true then _ else _) _ _ s
    rw [if_neg (by decide)]
    refine wpAny_bind (HT.slicePart_ .none (wpAny_bind (HT.slicePart_ .none (wpAny_bind (wpAny_pure ?_)))))
    show wpAny _ _ (match Builtin.Slice.sliceAdjust none none (-1) (items.size : Int) with | (lo, hi) => pure (lo, (-1 : Int), Builtin.Slice.slicePlaces lo hi (-1))) _ _ s
    have e1 : Builtin.Slice.sliceAdjust none none (-1) (items.size : Int) = ((items.size : Int) - 1, -1) := rfl
    have e2 : Builtin.Slice.slicePlaces ((items.size : Int) - 1) (-1) (-1) = items.size := by
      unfold Builtin.Slice.slicePlaces
      have h1 : ¬ ((-1 : Int) > 0) := by omega
      rw [if_neg h1]
      show (if ((items.size : Int) - 1 > -1) then ((items.size : Int) - 1 - -1 - 1) / 1 + 1 else 0).toNat = _
      rw [Int.ediv_one]
      split <;> omega
    rw [e1]
    show wpAny _ _ (pure ((items.size : Int) - 1, (-1 : Int), Builtin.Slice.slicePlaces ((items.size : Int) - 1) (-1) (-1))) _ _ s
    rw [e2]
    exact wpAny_pure hQ
  refine wpAny_bind (hap ?_)
  have hno : ¬ ((((items.size : Int) - 1) == 0 && (-1 : Int) == 1 && items.size == items.size) = true) := by
    intro q
    rw [Bool.and_eq_true, Bool.and_eq_true] at q
    have := eq_of_beq q.1.2
    omega
  have hpick : ((List.range items.size).filterMap fun (k : Nat) => items[(((items.size : Int) - 1) + (k : Int) * (-1)).toNat]?) = items.toList.reverse := by
    have fc : ∀ (l : List Value) (ks : List Nat), (∀ k ∈ ks, k < l.length) → (ks.filterMap fun (k : Nat) => l[(((l.length : Int) - 1) + (k : Int) * (-1)).toNat]?) = ks.filterMap fun k => l.reverse[k]? := fun l ks => by
      induction ks with
      | nil => intro _; rfl
      | cons k ks ih =>
        intro h
        have hk := h k List.mem_cons_self
        rw [List.filterMap_cons, List.filterMap_cons, ih fun x hx => h x (List.mem_cons_of_mem _ hx), List.getElem?_reverse hk, show (((l.length : Int) - 1) + (k : Int) * (-1)).toNat = l.length - 1 - k by omega]
    have tk : ∀ (m : List Value) (n : Nat), ((List.range n).filterMap fun k => m[k]?) = m.take n := fun m n => by
      induction n with
      | zero => rfl
      | succ n ih =>
        rw [List.range_succ, List.filterMap_append, ih, List.take_add_one]
        cases h : m[n]? <;> simp [h]
    have e : ∀ (l : List Value), ((List.range l.length).filterMap fun (k : Nat) => l[(((l.length : Int) - 1) + (k : Int) * (-1)).toNat]?) = l.reverse := fun l => by
      rw [fc l _ fun k hk => List.mem_range.mp hk, tk, ← List.length_reverse, List.take_length]
    have := e items.toList
    simpa using this
  show wpAny _ _ (if (((items.size : Int) - 1) == 0 && (-1 : Int) == 1 && items.size == items.size) = true then _ else _) _ _ s
  rw [if_neg hno, hpick]
  first
    | exact wpAny_bind (m := Builtin.Tuple.tupleExact _) (wpAny_newObj_type (wpAny_pure ⟨_, rfl, wpAny_pure h⟩) hrev)
    | exact wpAny_bind (m := Builtin.Tuple.tupleExact _) (wpAny_newObj_type (wpAny_bind (wpAny_pure (wpAny_pure ⟨_, rfl, wpAny_pure h⟩))) hrev)
    | exact wpAny_bind (wpAny_bind (m := Builtin.Tuple.tupleExact _) (wpAny_newObj_type (wpAny_pure (wpAny_pure ⟨_, rfl, wpAny_pure h⟩)) hrev))
    | exact wpAny_bind (wpAny_bind (m := Builtin.Tuple.tupleExact _) (wpAny_newObj_type (wpAny_pure ⟨_, rfl, wpAny_pure h⟩) hrev))
def tSl3X (K : PySem.W.Frag) (te : TE) (tl th ts : TO) : TE := fun σ H Q => te σ H fun x H1 => tl σ H1 fun l H2 => th σ H2 fun u H3 => ts σ H3 fun st H4 => ∃ q xs, x = .ref q ∧ ((SqL K H4 q xs ∧ st ≠ some 0 ∧ ∀ p, H4 p = none → Q (.ref p) (upd H4 p (.lst (pickL xs l u st)))) ∨
  (SqT K H4 q xs ∧ l = none ∧ u = none ∧ st = some (-1) ∧ ∀ p, H4 p = none → Q (.ref p) (upd H4 p (.tup xs.reverse))))
theorem vals_rev : ∀ {xs : List V} {us : List Value}, Vals xs us → Vals xs.reverse us.reverse
  | [], _, .nil => .nil
  | x :: xs, _, .cons a r => by
    rw [List.reverse_cons, List.reverse_cons]
    exact (vals_rev r).append (.cons a .nil)
theorem SeeL_rev {H : Hp} : ∀ {ds : List D} {vs : List V}, SeeL G H ds vs → SeeL G H ds.reverse vs.reverse
  | [], _, q => by cases q; exact rfl
  | d :: ds, _, ⟨v, r, e, q, t⟩ => by
    subst e
    rw [List.reverse_cons, List.reverse_cons]
    exact SeeL_app (SeeL_rev t) ⟨v, [], rfl, q, rfl⟩
theorem pe_slice3X {te : TE} {tl th ts : TO} {lo hi : Option Expr} {st0 : Expr} {p2 : Pos} (he : PE X e te) (hl : PO X lo tl) (hu : PO X hi th) (hs : PO X (some st0) ts) : PE X (.Subscript e (.Slice lo hi (some st0) p2) pos) (tSl3X X.K te tl th ts) := by
  refine ⟨fun pins s σ H Q I h => ?_⟩
  refine Subscript_ (thn (he.run pins s σ H _ I h) fun v s1 ⟨x, H1, I1, r1, q1⟩ => ?_)
  refine wpAny_Slice (thn (hl.run pins s1 σ H1 _ I1 q1) fun vl s2 ⟨l, H2, I2, pl, q2⟩ => thn (hu.run pins s2 σ H2 _ I2 q2) fun vu s3 ⟨u, H3, I3, pu, q3⟩ => thn (hs.run pins s3 σ H3 _ I3 q3) fun vs s4 ⟨st, H4, I4, ps, q, xs, ex, q5⟩ => ?_)
  subst ex
  cases r1
  have I5 : Inv X pins σ H4 { s4 with heap := s4.heap.push { cls := .type "slice", data := .fields #[vl, vu, vs] } } := I4.kept (t' := s4.toks) fun b ob q => Heap.get?_push_of_some _ q
  rcases q5 with ⟨hq, h0, q4⟩ | ⟨hq, e1, e2, e3, q4⟩
  · obtain ⟨its, r, ht, hz⟩ := I5.list hq
    have hlen := r.length
    have hT : ({ s4 with heap := s4.heap.push { cls := .type "slice", data := .fields #[vl, vu, vs] } } : Shared).TypeIs (.ref q) "list" := ht.isList.typeIs
    refine tail_any (ops := [.ref q, .ref s4.heap.objs.size]) hT slot_list_getitem.lookup (wpAny_getItem_list_slice ht.isList (Heap.IsSliceOf.new ..) pl pu ps h0 ?_ (by rw [List.size_toArray] <;> omega)) (by with_unfolding_all rfl)
    have ep : slicePick its.toArray l u st = (pickL its l u st).toArray := by
      unfold slicePick pickL
      simp
    rw [ep]
    have hfr := I5.hok.fresh (Nat.le_refl _)
    refine ⟨.ref _, _, I5.laid (t' := s4.toks) (o := .lst (pickL xs l u st)) (fun b ob q => Heap.get?_push_of_some _ q) (Nat.le_refl _) ?_, rfl, q4 _ hfr⟩
    have rp : Vals (pickL xs l u st) (pickL its l u st) := by
      unfold pickL
      rw [hlen]
      exact vals_pick r _
    refine ⟨?_, _, 0, rp, Heap.get?_push_size _ rfl⟩
    have := slicePick_size_le its.toArray l u st
    rw [ep, List.size_toArray, List.size_toArray, ← rp.length] at this
    omega
  · subst e1 e2 e3
    cases pl
    cases pu
    obtain ⟨its, r, ht, hz⟩ := I5.tuple hq
    have hlen := r.length
    refine tail_any (ops := [.ref q, .ref s4.heap.objs.size]) ht.typeIs PyProof.Rows.slot_tuple_getitem.lookup (getItem_tuple_rev ht (Heap.IsSliceOf.new ..) ps ?_ (by rw [List.size_toArray] <;> omega)) (by with_unfolding_all rfl)
    have hfr := I5.hok.fresh (Nat.le_refl _)
    refine ⟨.ref _, _, I5.laid (t' := s4.toks) (o := .tup xs.reverse) (fun b ob q => Heap.get?_push_of_some _ q) (Nat.le_refl _) ?_, rfl, q4 _ hfr⟩
    have rp : Vals xs.reverse its.reverse := vals_rev r
    exact ⟨by rw [List.length_reverse]; omega, its.reverse, rp, IsTup.new _ _⟩
def sl3D (d : D) (lo hi st : Option Int) : Option D := match d with
  | .lst ds => if isImmL ds && !(st == some 0) then some (.lst (pickL ds lo hi st)) else none
  | .tup ds => if isImmL ds && lo == none && hi == none && st == some (-1) then some (.tup ds.reverse) else none
  | _ => none
def sl3V (f : S → Option D) (lo hi st : S → Option (Option Int)) : S → Option D := fun s => match f s, lo s, hi s, st s with
  | some d, some l, some h, some t => sl3D d l h t
  | _, _, _, _ => none
theorem SeeL_pick {ds : List D} {vs : List V} (q : SeeL G H ds vs) : ∀ ps : List Nat, SeeL G H (ps.filterMap (ds[·]?)) (ps.filterMap (vs[·]?))
  | [] => rfl
  | i :: ps => by
    cases h : ds[i]? with
    | none =>
      have h2 : vs[i]? = none := by
        have := List.getElem?_eq_none_iff.mp h
        exact List.getElem?_eq_none_iff.mpr (by rw [q.length]; exact this)
      rw [List.filterMap_cons_none h, List.filterMap_cons_none h2]
      exact SeeL_pick q ps
    | some d =>
      obtain ⟨v, h2, h3⟩ := q.get h
      rw [List.filterMap_cons_some h, List.filterMap_cons_some h2]
      exact ⟨v, _, rfl, h3, SeeL_pick q ps⟩
theorem pickL_sub {α : Type} {xs : List α} {lo hi st : Option Int} : ∀ x ∈ pickL xs lo hi st, x ∈ xs := fun x h => by
  unfold pickL at h
  obtain ⟨i, _, hi⟩ := List.mem_filterMap.mp h
  exact List.mem_of_getElem? hi
theorem pickL_len (ds : List D) (lo hi st : Option Int) : (pickL ds lo hi st).length ≤ ds.length := by
  have := slicePick_size_le (ds.map fun _ => Value.none).toArray lo hi st
  have e : slicePick (ds.map fun _ => Value.none).toArray lo hi st = ((pickL ds lo hi st).map fun _ => Value.none).toArray := by
    unfold slicePick pickL
    rw [List.map_filterMap]
    simp
  rw [e, List.size_toArray, List.size_toArray, List.length_map, List.length_map] at this
  exact this
theorem pv_slice3 {f : S → Option D} {lo hi : Option Expr} {st : Expr} {fl fh ft : S → Option (Option Int)} {p2 : Pos} (hK : C.K = X.K) (ha : PE X a (tSee C f)) (hl : PO X lo (tO C fl)) (hh : PO X hi (tO C fh)) (ht : PO X (some st) (tO C ft)) : PE X (.Subscript a (.Slice lo hi (some st) p2) pos) (tV C (sl3V f fl fh ft)) :=
  PE.imp (pe_slice3X ha hl hh ht) fun σ H Q ⟨s, fr, z, r, e, k⟩ => by
    unfold sl3V at e
    split at e
    · rename_i d l h t e1 e2 e3 e4
      refine ⟨s, fr, d, r, e1, fun v H1 u1 s1 z1 => ⟨s, fr, l, r.mono u1, e2, fun H2 u2 => ⟨s, fr, h, (r.mono u1).mono u2, e3, fun H3 u3 => ⟨s, fr, t, ((r.mono u1).mono u2).mono u3, e4, fun H4 u4 => ?_⟩⟩⟩⟩
      have rr := (((r.mono u1).mono u2).mono u3).mono u4
      have ss := ((s1.mono u2).mono u3).mono u4
      have uu := ((u1.trans u2).trans u3).trans u4
      cases d with
      | lst ds =>
        have e' : (if isImmL ds && !(t == some 0) then some (D.lst (pickL ds l h t)) else none) = some z := e
        split at e'
        · rename_i c
          cases e'
          have c' := bool_and c
          obtain ⟨q, vs, rfl, hp, sl⟩ := ss
          have im : isImmL (pickL ds l h t) = true := isImmL_mem.mpr fun x hx => isImmL_mem.mp c'.1 x (pickL_sub x hx)
          have zz : szD (.lst (pickL ds l h t)) := ⟨Nat.le_trans (pickL_len _ _ _ _) z1.1, szL_mem.mpr fun x hx => szL_mem.mp z1.2 x (pickL_sub x hx)⟩
          refine ⟨q, vs, rfl, .inl ⟨.of hp, fun e0 => ?_, fun p hp' => k _ _ (uu.trans (upd_sub hp')) (R.res rr zz fun l' rl => Rl.freshLst im ?_ hp' rl)⟩⟩
          · subst e0
            simp at c'
          · unfold pickL
            rw [sl.length]
            exact SeeL_pick sl _
        · cases e'
      | tup ds =>
        have e' : (if isImmL ds && l == none && h == none && t == some (-1) then some (D.tup ds.reverse) else none) = some z := e
        split at e'
        · rename_i c
          cases e'
          obtain ⟨c, c4⟩ := bool_and c
          obtain ⟨c, c3⟩ := bool_and c
          obtain ⟨c1, c2⟩ := bool_and c
          obtain ⟨q, vs, rfl, hp, sl⟩ := ss
          have im : isImmL ds.reverse = true := isImmL_mem.mpr fun x hx => isImmL_mem.mp c1 x (List.mem_reverse.mp hx)
          have zz : szD (.tup ds.reverse) := ⟨by rw [List.length_reverse]; exact z1.1, szL_mem.mpr fun x hx => szL_mem.mp z1.2 x (List.mem_reverse.mp hx)⟩
          exact ⟨q, vs, rfl, .inr ⟨.of hp, eq_of_beq c2, eq_of_beq c3, eq_of_beq c4, fun p hp' => k _ _ (uu.trans (upd_sub hp')) (R.res rr zz fun l' rl => Rl.freshTup im (SeeL_rev sl) hp' rl)⟩⟩
        · cases e'
      | _ => cases e
    · cases e
end
end Pv
/-! PvY: what the printed texts use: globals' promises, rooms, new dicts, f(x)[g(y)]. -/
namespace Pv
open PySem PySem.Spec PyProof.Rows L2

theorem room65 {k : Nat} {A : Around} (r : Room k A) : A.units + 65 < cLine := by have := r.un; omega
theorem room100 {k : Nat} {A : Around} (r : Room k A) : A.units + 100 < cLine := by have := r.un; omega
section
variable (P : Program) (w : World) (K : PySem.W.Frag) (mg : Str → Option Value) (base : Heap) (G : Gt)
/-- a def of the module -/
structure GF (x : Str) (k : Nat) (ps : List Str) (lm : List Bool) (fn : Fd) : Prop where
  ex : ∃ (f : Addr) (fd : FuncData), FnOk P w K mg base CX0 k f fd ps (spF G lm ps.length fn) ∧ mg x = some (.ref f) ∧ PySem.W.keepIn K (.ref f) = true ∧ Binds K fd ps []
/-- a method -/
structure GM (c : Nat) (x : Str) (k : Nat) (ps : List Str) (lm : List Bool) (fn : Fd) : Prop where
  ex : ∃ (f : Addr) (fd : FuncData), FnOk P w K mg base CX0 k f fd ps (spF G lm ps.length fn) ∧ PySem.W.findIn K (.ref (G.ca c)) x = some (some (.ref f)) ∧ PySem.W.isFn K (.ref f) = true ∧ Binds K fd ps []
/-- a property -/
structure GP (c : Nat) (x : Str) (k : Nat) (ps : List Str) (lm : List Bool) (fn : Fd) : Prop where
  ex : ∃ (pa f : Addr) (fd : FuncData), FnOk P w K mg base CX0 k f fd ps (spF G lm ps.length fn) ∧ PropOf K (G.ca c) x pa f ∧ Binds K fd ps []
end
section
variable {C : Cn} {X : Cx} {o e a b : Expr} {es : List Expr} {pos p cpos apos tpos : Pos} {l : List Fr} {H : Hp} {σ : L2.St} {s : S} {fr fr' : List Fr} {r c : Nat}
theorem PE.of_all {α : Prop} {t : TE} (h : α) (k : α → PE X e t) : PE X e t := k h
theorem pm_fnG {k : Nat} {ps : List Str} {x : Str} {ml : List (Option Nat)} {lm : List Bool} {fn : Fd} {fa : S → Res (List It)} (F : GF X.prog X.w X.K X.mg X.base C.toGt x k ps lm fn) (hr : Room k X.A) (hl : lm = ml.map Option.isSome) (hg : Gl X x) (hn : ml.length = ps.length) (ha : PA X (e :: es) (tAL C ml fa))
    (hdb : (x == ("__debug__" : Str)) = false := by decide) (he : starEach (e :: es) X.env = (false, eval e X.env) :: starEach es X.env := by rfl) (hpl : (backTo pos (starEach es X.env)).any (·.1) = false := by rfl) : PE X (.Call (.Name x p) (e :: es) [] pos) (tE C (callF ml fn fa)) := by
  obtain ⟨f, fd, F, hm, hk, hb⟩ := F.ex
  subst hl
  exact pm_fn F hr hg hm hk hb hn ha hdb he hpl
theorem pm_mkG {k : Nat} {ps : List Str} {x : Str} {ml : List (Option Nat)} {lm : List Bool} {fn : Fd} {fa : S → Res (List It)} (mk : PySem.W.makesIn X.K (C.ca c) = true) (kp : PySem.W.keepIn X.K (.ref (C.ca c)) = true) (hm : X.mg x = some (.ref (C.ca c))) (F : GM X.prog X.w X.K X.mg X.base C.toGt c "__init__" k ps lm fn) (hr : Room (k + 1) X.A)
    (hl : lm = true :: ml.map Option.isSome) (hg : Gl X x) (hn : ml.length + 1 = ps.length) (ha : PA X (e :: es) (tAL C ml fa))
    (hdb : (x == ("__debug__" : Str)) = false := by decide) (he : starEach (e :: es) X.env = (false, eval e X.env) :: starEach es X.env := by rfl) (hpl : (backTo pos (starEach es X.env)).any (·.1) = false := by rfl) : PE X (.Call (.Name x p) (e :: es) [] pos) (tE C (mkM c ml fn fa)) := by
  obtain ⟨f, fd, F, hs, hf, hb⟩ := F.ex
  subst hl
  exact pm_mk ⟨mk, hs, hf, kp⟩ F hr hg hm hb hn ha hdb he hpl
theorem pm_prG {k : Nat} {ps : List Str} {nm : Str} {fn : Fd} {f : S → Res It} (ha : PE X a (tE C f)) (hc : Cls X.K (C.ca c)) (F : GP X.prog X.w X.K X.mg X.base C.toGt c nm k ps [false] fn) (hps : ps.length = 1) (hr : Room (k + 1) X.A) (hab : attributeBase a nm X.env (eval a X.env) = eval a X.env) : PE X (.Attribute a nm pos) (tE C (prM c fn f)) := by
  obtain ⟨pa, g, fd, F, hp, hb⟩ := F.ex
  rw [hps] at F
  exact pm_pr ha hc hp F hr hb hab
theorem pm_inG {k : Nat} {ps : List Str} {fn : Fd} {fa fb : S → Res It} (F : GM X.prog X.w X.K X.mg X.base C.toGt c "__contains__" k ps [false, false] fn) (hps : ps.length = 2) (hr : Room k X.A) (ha : PE X a (tE C fa)) (hb' : PE X b (tE C fb)) (hm : behindInMarks .In b = false) : PE X (.Compare a [.In] [b] pos) (tE C (inM c fn fa fb)) := by
  obtain ⟨f, fd, F, hs, hf, hb⟩ := F.ex
  rw [hps] at F
  exact pm_in hs hf F hr hb ha hb' hm
theorem pt_inG {k : Nat} {ps : List Str} {fn : Fd} {fa fb : S → Res It} (F : GM X.prog X.w X.K X.mg X.base C.toGt c "__contains__" k ps [false, false] fn) (hps : ps.length = 2) (hr : Room k X.A) (ha : PE X a (tE C fa)) (hb' : PE X b (tE C fb)) (hm : behindInMarks .In b = false) : PT X (.Compare a [.In] [b] pos) (tT C (tstM (inM c fn fa fb))) := by
  obtain ⟨f, fd, F, hs, hf, hb⟩ := F.ex
  rw [hps] at F
  exact pt_in hs hf F hr hb ha hb' hm
theorem pm_eqG {k : Nat} {ps : List Str} {ok : D → Bool} {fn : Fd} {fa fb : S → Res It} (hok : EqOk X C.toGt c ok) (F : GM X.prog X.w X.K X.mg X.base C.toGt c "__eq__" k ps [false, false] fn) (hps : ps.length = 2) (hr : Room k X.A) (ha : PE X a (tE C fa)) (hb' : PE X b (tE C fb)) (hm : behindInMarks .Eq b = false) : PE X (.Compare a [.Eq] [b] pos) (tE C (eqM c ok fn fa fb)) := by
  obtain ⟨f, fd, F, hs, hf, hb⟩ := F.ex
  rw [hps] at F
  exact pm_eq hok hs hf F hr hb ha hb' hm
theorem pt_eqG {k : Nat} {ps : List Str} {ok : D → Bool} {fn : Fd} {fa fb : S → Res It} (hok : EqOk X C.toGt c ok) (F : GM X.prog X.w X.K X.mg X.base C.toGt c "__eq__" k ps [false, false] fn) (hps : ps.length = 2) (hr : Room k X.A) (ha : PE X a (tE C fa)) (hb' : PE X b (tE C fb)) (hm : behindInMarks .Eq b = false) : PT X (.Compare a [.Eq] [b] pos) (tT C (tstM (eqM c ok fn fa fb))) := by
  obtain ⟨f, fd, F, hs, hf, hb⟩ := F.ex
  rw [hps] at F
  exact pt_eq hok hs hf F hr hb ha hb' hm
theorem pe_gint {x : Str} {n : Int} (hg : Gl X x) (hm : ∃ t, X.mg x = some (.int n t)) (hd : (x == ("__debug__" : Str)) = false := by decide) : PE X (.Name x pos) (tC (.int n)) := by
  obtain ⟨t, ht⟩ := hm
  exact pe_glob hg ht ⟨t, rfl⟩ hd
theorem pm_mv (h : PE X e (tVar r)) : PE X e (tE C (mvM r)) := PE.imp h fun σ H Q ⟨s, fr, rr, q⟩ => by
  unfold mvM at q
  cases es : s[r]? with
  | none => rw [es] at q; exact q.elim
  | some o =>
    cases o with
    | none => rw [es] at q; exact q.elim
    | some x =>
      rw [es] at q
      obtain ⟨v, ev, r1⟩ := rr.take es
      exact ⟨v, ev, q v H r1⟩
/-! {} -/
def newD (t : Bool) : S → Res It := fun s => .ok (B, .dct t [] []) s
theorem pm_newK : PE X (.Dict [] [] pos) (tE C (newD false)) := PE.imp pe_dnewK fun σ H Q ⟨s, fr, r, k⟩ p hp => by
  refine k _ _ ?_
  have r1 : R C σ s (.it (.ref p) (B + 1) (.dct false [] []) :: fr) (upd H p (.dK [])) := r.reframe (fr' := .it (.ref p) (B + 1) (.dct false [] []) :: fr) (fun l rl => Rl.newDct (n := B) (vs := []) (ds := []) rfl (.inl ⟨rfl, [], rfl, rfl, rfl⟩) rl hp) fun f hf => by
    rcases List.mem_cons.mp hf with e | hf
    · subst e; exact ⟨Nat.zero_le _, trivial, trivial, List.nodup_nil⟩
    · exact r.sz f (List.mem_append_left _ hf)
  exact R.lower (Nat.le_succ _) r1
theorem pm_newT : PE X (.Dict [] [] pos) (tE C (newD true)) := PE.imp pe_dnewT fun σ H Q ⟨s, fr, r, k⟩ p hp => by
  refine k _ _ ?_
  have r1 : R C σ s (.it (.ref p) (B + 1) (.dct true [] []) :: fr) (upd H p (.dT [])) := r.reframe (fr' := .it (.ref p) (B + 1) (.dct true [] []) :: fr) (fun l rl => Rl.newDct (n := B) (vs := []) (ds := []) rfl (.inr ⟨rfl, [], rfl, rfl, rfl⟩) rl hp) fun f hf => by
    rcases List.mem_cons.mp hf with e | hf
    · subst e; exact ⟨Nat.zero_le _, trivial, trivial, List.nodup_nil⟩
    · exact r.sz f (List.mem_append_left _ hf)
  exact R.lower (Nat.le_succ _) r1
/-! an item at an index that is computed -/
def mIxM (f g : S → Res It) : S → Res It := fun s => bindK .exc .bad (f s) fun x s1 => bindK .exc .bad (g s1) fun i s2 => match seqIx x.2 i.2 with
  | some j => match (kids x.2)[j]? with
    | some k => .ok (if isImm k then B else 0, k) s2
    | none => .bad
  | none => .bad
theorem pm_ixM (hK : X.K = C.K) {f g : S → Res It} (ha : PE X a (tE C f)) (hb : PE X b (tE C g)) (hs : PlainIx b) : PE X (.Subscript a b pos) (tE C (mIxM f g)) := PE.imp (pe_ix ix_seq ha hb hs) fun σ H Q ⟨s, fr, r, h⟩ => by
  refine tE_K P_E r h fun x s1 v H1 r1 h1 => ?_
  refine tE_K (P_E.more (List.sublist_cons_self _ _)) r1 h1 fun i s2 w H2 r2' h2 => ?_
  obtain ⟨n, d⟩ := x
  obtain ⟨m, i⟩ := i
  have r2 := R.tail r2'
  have si := r2'.see
  dsimp only at h2 r2 si
  cases q2 : seqIx d i with
  | none => rw [q2] at h2; exact h2.elim
  | some j =>
    rw [q2] at h2
    dsimp only at h2
    cases q3 : (kids d)[j]? with
    | none => rw [q3] at h2; exact h2.elim
    | some k =>
      rw [q3] at h2
      cases d with
      | lst ds =>
        cases i with
        | int i =>
          cases si
          obtain ⟨q, vs, rfl, hp, sl⟩ := r2.see
          obtain ⟨w, hw, sw⟩ := SeeL.get sl q3
          exact .inl ⟨q, vs, i, w, rfl, rfl, .of hp, atI_mk (by rw [sl.length]; exact q2) hw, h2 w H2 (r2.kid q3 ⟨q, vs, rfl, hp, hw⟩)⟩
        | _ => cases q2
      | tup ds =>
        cases i with
        | int i =>
          cases si
          obtain ⟨q, vs, rfl, hp, sl⟩ := r2.see
          obtain ⟨w, hw, sw⟩ := SeeL.get sl q3
          exact .inr (.inl ⟨q, vs, i, w, rfl, rfl, .of hp, atI_mk (by rw [sl.length]; exact q2) hw, h2 w H2 (r2.kid q3 ⟨q, vs, rfl, hp, hw⟩)⟩)
        | _ => cases q2
      | scr ns =>
        cases i with
        | int i =>
          cases si
          obtain ⟨q, rfl, hp⟩ := r2.see
          have e4' : (ns.map D.int)[j]? = some k := q3
          rw [List.getElem?_map] at e4'
          cases q4 : ns[j]? with
          | none => rw [q4] at e4'; cases e4'
          | some m =>
            exact .inl ⟨q, _, i, .int m, rfl, rfl, hK ▸ hp, atI_mk (by rw [List.length_map]; exact q2) (by rw [List.getElem?_map, q4]; rfl), h2 _ H2 (r2.kid q3 ⟨q, m, rfl, hp, q4, rfl⟩)⟩
        | _ => cases q2
      | _ => cases q2
/-! ranges of outcomes -/
def r1G (x : It) (s : S) : Res (List It) := match x.2 with
  | .int n => if smI n && line n.toNat then .ok (rgI 0 n.toNat) s else .bad
  | _ => .bad
def itR1M (f : S → Res It) : S → Res (List It) := fun s => bindK .exc .bad (f s) r1G
theorem pi_r1M {tg : Expr} {f : S → Res It} (hg : Gl X "range") (hm : X.mg "range" = none) (ha : PE X a (tE C f)) (hs1 : starEach [a] X.env = (false, eval a X.env) :: starEach [] X.env := by rfl) (hs : starEach [a] X.env = [(false, eval a X.env)] := by rfl) : PI X tg (.Call (.Name "range" p) [a] [] pos) (tI C (itR1M f)) :=
  PI.imp (pi_range1 hg hm (pa_cons ha pa_nil hs1) hs) fun σ H Q ⟨s, fr, r, q⟩ => by
    refine tE_K P_I r q fun x s1 v H1 r1 q1 => ?_
    have q2 : postI C σ fr (r1G x s1) Q := q1
    unfold r1G at q2
    split at q2
    · rename_i n e
      split at q2
      · rename_i c
        have c0 := bool_and c
        have c' := smI_tr c0.1
        have sv := r1.see
        rw [e] at sv
        cases sv
        exact ⟨n, rfl, c'.1, c'.2, q2 _ [] H1 (itOk_rng (of_line c0.2)) r1.tail⟩
      · exact q2.elim
    · exact q2.elim
def r2G (x y : It) (s : S) : Res (List It) := match x.2, y.2 with
  | .int m, .int n => if smI m && smI n && line (n - m).toNat then .ok (rgI m (n - m).toNat) s else .bad
  | _, _ => .bad
def itR2M (f g : S → Res It) : S → Res (List It) := fun s => bindK .exc .bad (f s) fun x s1 => bindK .exc .bad (g s1) fun y s2 => r2G x y s2
theorem pi_r2M {tg : Expr} {f g : S → Res It} (hg : Gl X "range") (hm : X.mg "range" = none) (ha : PE X a (tE C f)) (hb : PE X b (tE C g)) (hs1 : starEach [a, b] X.env = (false, eval a X.env) :: starEach [b] X.env := by rfl) (hs2 : starEach [b] X.env = (false, eval b X.env) :: starEach [] X.env := by rfl)
    (hs : starEach [a, b] X.env = [(false, eval a X.env), (false, eval b X.env)] := by rfl) (hs3 : starEach [b] X.env = [(false, eval b X.env)] := by rfl) : PI X tg (.Call (.Name "range" p) [a, b] [] pos) (tI C (itR2M f g)) :=
  PI.imp (pi_range2 hg hm (pa_cons ha (pa_cons hb pa_nil hs2) hs1) hs hs3) fun σ H Q ⟨s, fr, r, q⟩ => by
    refine tE_K P_I r q fun x s1 v H1 r1 q1 => ?_
    refine tE_K (P_I.more (List.sublist_cons_self _ _)) r1 q1 fun y s2 w H2 r2 q2' => ?_
    have q2 : postI C σ fr (r2G x y s2) Q := q2'
    unfold r2G at q2
    split at q2
    · rename_i m n e1 e2
      split at q2
      · rename_i c
        have c0 := bool_and c
        have c1 := bool_and c0.1
        have c2 := smI_tr c1.1
        have c3 := smI_tr c1.2
        have sw := r2.see
        rw [e2] at sw
        cases sw
        have sv := (R.tail r2).see
        rw [e1] at sv
        cases sv
        exact ⟨m, n, rfl, ⟨c2.1, c2.2, c3.1, c3.2⟩, q2 _ [] H2 (itOk_rng (of_line c0.2)) r2.tail.tail⟩
      · exact q2.elim
    · exact q2.elim
end
theorem fn_zero {P : Program} {w : World} {K : PySem.W.Frag} {mg : Str → Option Value} {base : Heap} {G : Gt} {k np : Nat} {f : Addr} {fd : FuncData} {ps : List Str} {lm : List Bool} : FnOk P w K mg base CX0 k f fd ps (spF G lm np fun _ => none) := by
  constructor
  · rintro vs H Q E ⟨xs, fr, x, ys, _, _, _, _, _, e, _⟩
    cases e
  · intros
    rename_i h
    obtain ⟨xs, fr, x, ys, _, _, _, _, _, e, _⟩ := h
    cases e
theorem kitOne_self {K : PySem.W.Frag} {C : Addr} : PySem.W.kitOne K (.ref C) (.ref C) = some (true) := by simp [PySem.W.kitOne]
theorem notFirst_self {K : PySem.W.Frag} {C : Addr} : PySem.W.notFirst K C (.ref C) = true := by simp [PySem.W.notFirst]
/-! the law's own promise -/
def spLaw (K : PySem.W.Frag) : Sp := fun vs H Q _ => ∃ (a : Addr) (ns : List Int), vs = [.ref a] ∧ SqL K H a (ns.map V.int) ∧ ns.length ≤ 63 ∧ ∀ H', Q (.bl true) H'
theorem spLaw.to {K : PySem.W.Frag} {G : Gt} {fn : Fd} {vs : List V} {H : Hp} {Q : VK} {E : XK} (h : spLaw K vs H Q E) (hG : G.K = K) (ht : ∀ ns : List Int, ns.length ≤ 63 → ∃ n, fn [(0, .scr ns)] = some ((n, .bl true), [])) : spF G [false] 1 fn vs H Q E := by
  obtain ⟨a, ns, rfl, hS, hl, k⟩ := h
  obtain ⟨n, e⟩ := ht ns hl
  refine ⟨[(0, .scr ns)], [], (n, .bl true), [], rfl, rfl, ?_, ?_, (fun f hf => by cases hf), e, fun v H' _ rl _ _ => ?_⟩
  · subst hG
    exact ⟨H, fun _ => none, .refl _, none_sub, (fun _ _ _ => rfl), fun _ => none, fun _ => none, .refl _, .refl _, (fun _ _ z => by cases z), ⟨a, rfl, hS⟩, trivial⟩
  · intro x hx
    rcases List.mem_cons.mp hx with e | hx
    · subst e; trivial
    · cases hx
  · obtain rfl : v = .bl true := Rl.see rl
    exact k H'
end Pv
namespace Pv
open PySem PySem.Spec PyProof.Rows L2
/-! PvZ: more: x not in o (own) -/
def ninM (c : Nat) (fn : Fd) (fa fb : S → Res It) : S → Res It := fun s => bindK .exc .bad (fa s) fun x s1 => bindK .exc .bad (fb s1) fun y s2 => if isO c y.2 then match fn [y, x] with
    | some ((_, .bl t), []) => .ok (B, .bl (!t)) s2
    | _ => .bad
  else .bad
section
variable {X : Cx} {C : Cn} {a b : Expr} {pos : Pos} {c : Nat} {σ : L2.St} {H : Hp}
theorem ninM_imp {fn : Fd} {fa fb : S → Res It} {E : XK} {Q : VK} (q : tE C (ninM c fn fa fb) σ H Q) : tOp (fun x y H Q => ∃ q dx fs, y = .ref q ∧ H q = some (.ins (C.ca c) dx fs) ∧ spF C.toGt [false, false] 2 fn [y, x] H (fun v H' => ∃ t, v = .bl t ∧ Q (.bl (!t)) H') E) (tE C fa) (tE C fb) σ H Q := by
  obtain ⟨s, fr, rr, q⟩ := q
  refine tE_K P_E rr q fun x s1 v H1 r1 h1 => ?_
  refine tE_K (P_E.more (List.sublist_cons_self _ _)) r1 h1 fun y s2 w H2 r2 h2 => ?_
  have q2 : postE C σ fr (if isO c y.2 then match fn [y, x] with
    | some ((_, .bl t), []) => .ok (B, .bl (!t)) s2
    | _ => .bad
    else .bad) Q := h2
  split at q2
  · rename_i io
    obtain ⟨ds, ed⟩ := isO_of io
    have sv := r2.see
    rw [ed] at sv
    obtain ⟨q, dx, vs, rfl, hp, sl⟩ := sv
    split at q2
    · rename_i n t ef
      exact ⟨q, dx, _, rfl, hp, spF_of (ml := [none, none]) (xs := [y, x]) (vs := [.ref q, v]) (s1 := s2) rfl rfl trivial r2 ef fun v H' r' => ⟨t, r'.see, q2 _ H' (r'.tail.imm rfl rfl trivial)⟩⟩
    · exact q2.elim
  · exact q2.elim
theorem pm_ninG {k : Nat} {ps : List Str} {fn : Fd} {fa fb : S → Res It} (F : GM X.prog X.w X.K X.mg X.base C.toGt c "__contains__" k ps [false, false] fn) (hps : ps.length = 2) (hr : Room k X.A) (ha : PE X a (tE C fa)) (hb' : PE X b (tE C fb)) (hm : behindInMarks .NotIn b = false) : PE X (.Compare a [.NotIn] [b] pos) (tE C (ninM c fn fa fb)) := by
  obtain ⟨f, fd, F, hs, hf, hb⟩ := F.ex
  rw [hps] at F
  exact PE.imp (pe_cmpR (o_own_notin (C := C) (c := c) hs hf F hr hb) ha hb' hm) fun _ _ _ => ninM_imp
theorem pt_ninG {k : Nat} {ps : List Str} {fn : Fd} {fa fb : S → Res It} (F : GM X.prog X.w X.K X.mg X.base C.toGt c "__contains__" k ps [false, false] fn) (hps : ps.length = 2) (hr : Room k X.A) (ha : PE X a (tE C fa)) (hb' : PE X b (tE C fb)) (hm : behindInMarks .NotIn b = false) : PT X (.Compare a [.NotIn] [b] pos) (tT C (tstM (ninM c fn fa fb))) := by
  obtain ⟨f, fd, F, hs, hf, hb⟩ := F.ex
  rw [hps] at F
  exact PT.imp (pt_cmpR (o_own_notin (C := C) (c := c) hs hf F hr hb) ha hb' hm) fun _ _ _ h => ninM_imp (t_of_M h)
end
end Pv
namespace Pv
open PySem PySem.Spec PyProof.Rows L2
/-! Pv1: a starred value that is made -/
section
variable {C : Cn} {X : Cx} {e : Expr} {es : List Expr} {pos : Pos} {H : Hp} {σ : L2.St} {s : S} {fr : List Fr}
theorem R.immsN {vs : List V} : ∀ {ds : List D} {ws : List V}, isImmL ds = true → SeeL C.toGt H ds ws → szL ds → R C σ s fr H → R C σ s (itsN ws (ds.map fun d => (B, d)) ++ fr) H
  | [], _, _, rfl, _, r => r
  | d :: ds, _, i, ⟨w, ws, rfl, q, qs⟩, z, r => by
    have i' := bool_and i
    exact R.imm i'.1 q z.1 (R.immsN (vs := vs) (ds := ds) (ws := ws) i'.2 qs z.2 r)
theorem itsN_app : ∀ {as : List V} {xs : List It} {bs : List V} {ys : List It}, as.length = xs.length → itsN (as ++ bs) (xs ++ ys) = itsN as xs ++ itsN bs ys
  | [], [], _, _, _ => rfl
  | a :: as, x :: xs, _, _, e => congrArg (Fr.it a x.1 x.2 :: ·) (itsN_app (by simpa using e))
  | [], _ :: _, _, _, e => by simp at e
  | _ :: _, [], _, _, e => by simp at e
/-- what a star spreads -/
def seqE : D → Option (List D)
  | .tup ds => some ds
  | .lst ds => some ds
  | .dct true ks _ => some ks
  | _ => none
def ckR (s : Shared) (P : Nat → Value → Prop) (n : Nat) : Result → Shared → Prop := fun r' s' => r' = .ok (.ret (.ref s.heap.objs.size)) ∧ ∃ h' tk acc' c', s' = { s with heap := h', toks := tk } ∧ (∀ b o, s.heap.get? b = some o → h'.get? b = some o) ∧ h'.get? s.heap.objs.size = some { cls := .type "list", dict := none, data := .seq acc' c', slots := #[] } ∧ ItemsOf P acc' n
theorem collect_kdl {prog : Program} {w : World} {A : Around} {E : Value → Shared → Prop} {s : Shared} {T : String} {r d : Addr} {n : Nat} {P : Nat → Value → Prop} {OK : Heap → Prop} {Q : List Value → Shared → Prop} (K : PySem.W.KdlSrc prog w T r d n P OK) (hh : A.handled = none) (hok : OK s.heap) (hn : n ≤ sizeLine)
    (hQ : ∀ h' tk acc', (∀ b o, s.heap.get? b = some o → h'.get? b = some o) → ItemsOf P acc' n → Q acc'.toList { s with heap := h', toks := tk }) : wpAny (model prog w) A (collect (.ref r)) Q E s := by
  unfold collect
  refine wpAny_bind (wpAny_runValue (codeAny_mono (R := ckR s P n) (codeAny_builtin PySem.F.entry_proto_collect ?_) ?_))
  · rw [Around.under_plainId PySem.F.plain_proto_collect _]
    show wpAny _ A.in1 (newList [] >>= fun l => again (.builtin "list.__iadd__" ⟨[l, .ref r], []⟩)) _ _ s
    refine wpAny_bind (wpAny_newObj_type ?_)
    refine wpAny_pure ⟨plainId_quiet PySem.F.plain_list_iadd _, codeAny_builtin PySem.F.entry_list_iadd ?_⟩
    rw [Around.under_plainId PySem.F.plain_list_iadd _]
    have hS : (s.heap.push { cls := .type "list", data := .seq ([] : List Value).toArray }).get? s.heap.objs.size = some { cls := .type "list", data := .seq ([] : List Value).toArray } := Heap.get?_push_size _ rfl
    have hlt := K.there _ hok
    show wpAny _ A.in1 (Builtin.List.listExtendWith (.ref s.heap.objs.size) (.ref r) (.ref s.heap.objs.size)) _ _ _
    refine PySem.W.kdl_extend (R := ckR s P n) (s := { s with heap := s.heap.push { cls := .type "list", data := .seq ([] : List Value).toArray } }) K hh (K.keep _ _ hok fun b _ o e => Heap.get?_push_of_some _ e) s.heap.objs.size (Nat.ne_of_gt hlt.1) (Nat.ne_of_gt hlt.2) (.ref s.heap.objs.size) _ hS (fun h' tk acc' c' hk hS' hacc => ?_) hn
    exact ⟨rfl, h', tk, acc', c', rfl, fun b o e => hk b o (Nat.ne_of_lt (Heap.lt_size e)) (Heap.get?_push_of_some _ e), hS', hacc⟩
  · rintro r' s' ⟨rfl, h', tk, acc', c', rfl, hk, hS', hacc⟩
    show wpAny _ A (load s.heap.objs.size >>= _) _ _ _
    exact wpAny_bind (wpAny_load hS' (wpAny_pure (hQ h' tk acc' hk hacc)))
theorem star_dT {pins : List (Addr × Obj)} {s : Shared} {a : Addr} {kvs : List (List Key × V)} {E : Value → Shared → Prop} {Q : List Value → Shared → Prop} (hc : X.calm = true) (I : Inv X pins σ H s) (h : Rd H a (.dT kvs)) (hQ : ∀ us s' bs, Inv X pins σ H s' → IsKeys H kvs bs → Vals (bs.map V.ref) us → Q us s') :
    PySem.W.StarOf (model X.prog X.w) X.A E (.ref a) Q s := by
  obtain ⟨z, hs, ks, pr, o, es, ep, ho, hx, hdt, he, hn⟩ := (show ObjOk X.prog X.w H s.heap a (.dT kvs) from h.ok I.hok)
  have l1 : es.size = ks.length := size_of_entries he
  have l2 : kvs.length = ks.length := Paired.length pr
  have hT : s.TypeIs (.ref a) "dict" := ⟨o, ho, hx.1⟩
  have go : wpAny (model X.prog X.w) X.A (collect (.ref a)) Q E s := by
    refine collect_kdl (kdl_raw hs hx hdt) (I.ok.hd hc) ho (by omega) fun h' tk acc' kp it => ?_
    have ea : acc'.toList = (ks.map fun x => x.2.1).map Value.ref := by
      have hl : acc'.toList.length = ks.length := by rw [Array.length_toList, it.1]; exact l1
      apply List.ext_getElem?
      intro j
      rw [List.getElem?_map, List.getElem?_map]
      cases hj : acc'.toList[j]? with
      | none =>
        have h1 := List.getElem?_eq_none_iff.mp hj
        rw [List.getElem?_eq_none (by omega)]
        rfl
      | some v =>
        obtain ⟨en, hen, hv⟩ := it.2 j v (by rw [← Array.getElem?_toList]; exact hj)
        have qe := entry_at he j
        rw [hen] at qe
        cases hb : ks[j]? with
        | none =>
          rw [hb] at qe
          exact nomatch (show some en = none from qe)
        | some b =>
          rw [hb] at qe
          have e2 : en = entryOfKey (tupleKind (mixKind X.prog X.w)) b := Option.some.inj qe
          rw [hv, e2]
          rfl
    exact hQ _ _ _ (I.kept (t' := tk) kp) (isKeys_of pr) (by rw [ea]; exact vals_refs _)
  unfold PySem.W.StarOf notIterableAtAll
  exact wpAny_bind (wpAny_specialOf hT PySem.F.slot_dict_iter.lookup (wpAny_pure ⟨rfl, go⟩))
theorem pa_starX {te : TE} {t : TA} {p : Pos} (hc : X.calm = true) (he : PE X e te) (hr : PA X es t) (hs : starEach (.Starred e p :: es) X.env = (true, eval e X.env) :: starEach es X.env := by rfl) :
    PA X (.Starred e p :: es) (fun σ H Q => te σ H fun x H1 => (∃ p xs, x = V.ref p ∧ (SqT X.K H1 p xs ∨ SqL X.K H1 p xs) ∧ t σ H1 fun ys H2 => Q (xs ++ ys) H2) ∨ ∃ d kvs, x = V.ref d ∧ Rd H1 d (.dT kvs) ∧ ∀ bs, IsKeys H1 kvs bs → t σ H1 fun ys H2 => Q (bs.map V.ref ++ ys) H2) := by
  refine ⟨fun pos pins s σ H Q I h => ?_⟩
  refine PySem.W.items_star (thn (he.run pins s σ H _ I h) fun v s1 ⟨y, H1, I1, ry, q⟩ => ?_) hs
  rcases q with ⟨a, xs, ey, hx, q⟩ | ⟨d, kvs, ey, hd, q⟩
  · subst ey
    obtain rfl : v = Value.ref a := ry
    refine StX.star_any I1 hx fun us s2 I2 rv => ?_
    exact thn (hr.run pos pins s2 σ H1 _ I2 q) fun ws s3 ⟨vs, H3, I3, r3, q3⟩ => ⟨xs ++ vs, H3, I3, rv.append r3, q3⟩
  · subst ey
    obtain rfl : v = Value.ref d := ry
    refine star_dT hc I1 hd fun us s2 bs I2 ib rv => ?_
    exact thn (hr.run pos pins s2 σ H1 _ I2 (q bs ib)) fun ws s3 ⟨vs, H3, I3, r3, q3⟩ => ⟨bs.map V.ref ++ vs, H3, I3, rv.append r3, q3⟩
def starM (f : S → Res It) (g : S → Res (List It)) : S → Res (List It) := fun s => bindK .exc .bad (f s) fun x s1 => match seqE x.2 with
  | some ds => if isImmL ds then bindK .exc .bad (g s1) fun xs s2 => .ok (ds.map (fun d => (B, d)) ++ xs) s2 else .bad
  | none => .bad
theorem pa_starM (hc : X.calm = true) {f : S → Res It} {g : S → Res (List It)} {sp_ : Pos} (h : PE X e (tE C f)) (k : PA X es (tA C g)) (hs : starEach (.Starred e sp_ :: es) X.env = (true, eval e X.env) :: starEach es X.env := by rfl) : PA X (.Starred e sp_ :: es) (tA C (starM f g)) := PA.imp (pa_starX hc h k hs) fun σ H Q ⟨s, fr, r, q⟩ => by
  refine tE_K P_A r q fun x s1 v H1 r1 h1 => ?_
  have h2 : postA C σ fr (match seqE x.2 with
    | some ds => if isImmL ds then bindK .exc .bad (g s1) fun xs s2 => .ok (ds.map (fun d => (B, d)) ++ xs) s2 else .bad
    | none => .bad) Q := h1
  obtain ⟨n, d⟩ := x
  have go : ∀ ds ws, isImmL ds = true → SeeL C.toGt H1 ds ws → szL ds → postA C σ fr (bindK .exc .bad (g s1) fun xs s2 => .ok (ds.map (fun d => (B, d)) ++ xs) s2) Q → tA C g σ H1 fun ys H2 => Q (ws ++ ys) H2 := fun ds ws i sl z q => by
    have r2 := R.immsN (vs := ws) i sl z r1.tail
    refine tA_K (P_A.more (List.sublist_append_right _ _)) r2 q fun xs s2 vs H2 e2 r3 q3 => ?_
    refine q3 (ws ++ vs) H2 (by simp [e2, sl.length]) ?_
    rw [itsN_app (by simp [sl.length])]
    refine r3.perm ?_
    rw [← List.append_assoc]
    exact List.perm_append_comm.append_right _
  cases d with
  | tup ds =>
    dsimp only [seqE] at h2
    split at h2
    · rename_i i
      obtain ⟨pp, vs, ev, hp, sl⟩ := r1.see
      exact .inl ⟨pp, vs, ev, .inl (.of hp), go ds vs i sl r1.szd.2 h2⟩
    · exact h2.elim
  | lst ds =>
    dsimp only [seqE] at h2
    split at h2
    · rename_i i
      obtain ⟨pp, vs, ev, hp, sl⟩ := r1.see
      exact .inl ⟨pp, vs, ev, .inr (.of hp), go ds vs i sl r1.szd.2 h2⟩
    · exact h2.elim
  | dct t ks ds =>
    cases t with
    | false => exact h2.elim
    | true =>
      dsimp only [seqE] at h2
      split at h2
      · rename_i i
        obtain ⟨a, vs, o, ev, dO, rd, sl⟩ := r1.see
        have zz := r1.szd
        rcases dO with ⟨q, _⟩ | ⟨-, kvs, rfl, rfl, rfl⟩
        · cases q
        · exact .inr ⟨a, kvs, ev, rd, fun bs ib => go _ (bs.map V.ref) i (isKeys_see ib) zz.2.1 h2⟩
      · exact h2.elim
  | _ => exact h2.elim
end
end Pv
namespace Pv
open PySem PySem.Spec PyProof.Rows L2
/-! Pv2: sets of ints that are sorted or counted at once -/
def insU (a : Int) : List Int → List Int
  | [] => [a]
  | b :: l => if a < b then a :: b :: l else if a = b then b :: l else b :: insU a l
/-- ascending, each once -/
def dd (ns : List Int) : List Int := ns.foldr insU []
theorem mem_insU {a k : Int} : ∀ {l : List Int}, k ∈ insU a l ↔ k = a ∨ k ∈ l
  | [] => by simp [insU]
  | b :: l => by
    unfold insU
    split
    · simp
    · split
      · rename_i h
        subst h
        simp
      · simp only [List.mem_cons, mem_insU (l := l)]
        constructor
        · rintro (h | h | h)
          · exact .inr (.inl h)
          · exact .inl h
          · exact .inr (.inr h)
        · rintro (h | h | h)
          · exact .inr (.inl h)
          · exact .inl h
          · exact .inr (.inr h)
theorem insU_asc {a : Int} : ∀ {l : List Int}, l.Pairwise (· < ·) → (insU a l).Pairwise (· < ·)
  | [], _ => by simp [insU]
  | b :: l, h => by
    obtain ⟨h1, h2⟩ := List.pairwise_cons.mp h
    unfold insU
    split
    · rename_i q
      refine List.pairwise_cons.mpr ⟨fun x hx => ?_, h⟩
      rcases List.mem_cons.mp hx with e | hx
      · omega
      · have := h1 x hx; omega
    · split
      · exact h
      · refine List.pairwise_cons.mpr ⟨fun x hx => ?_, insU_asc h2⟩
        rcases mem_insU.mp hx with e | hx
        · omega
        · exact h1 x hx
theorem dd_asc : ∀ ns : List Int, (dd ns).Pairwise (· < ·)
  | [] => List.Pairwise.nil
  | a :: ns => insU_asc (dd_asc ns)
theorem mem_dd {k : Int} : ∀ {ns : List Int}, k ∈ dd ns ↔ k ∈ ns
  | [] => by simp [dd]
  | a :: ns => by
    show k ∈ insU a (dd ns) ↔ _
    rw [mem_insU, mem_dd, List.mem_cons]
theorem asc_nd {l : List Int} (h : l.Pairwise (· < ·)) : l.Nodup := h.imp fun q e => by omega
theorem asc_one {a b : List Int} (ha : a.Pairwise (· < ·)) (hb : b.Pairwise (· < ·)) (h : ∀ k, k ∈ a ↔ k ∈ b) : a = b :=
  ((List.perm_ext_iff_of_nodup (asc_nd ha) (asc_nd hb)).mpr fun k => h k).eq_of_pairwise (le := fun x y : Int => x ≤ y) (fun x y _ _ h1 h2 => by omega) (ha.imp fun q => by omega) (hb.imp fun q => by omega)
theorem dd_snoc (ns : List Int) (k : Int) : (dd (ns ++ [k])).length = if decide (k ∈ ns) = true then (dd ns).length else (dd ns).length + 1 := by
  by_cases h : k ∈ ns
  · rw [if_pos (decide_eq_true h)]
    exact congrArg _ (asc_one (dd_asc _) (dd_asc _) fun j => by
      rw [mem_dd, mem_dd]
      simp only [List.mem_append, List.mem_singleton]
      exact ⟨fun q => q.elim id fun e => e ▸ h, .inl⟩)
  · rw [if_neg (by simp [h])]
    have p : (dd (ns ++ [k])).Perm (k :: dd ns) := (List.perm_ext_iff_of_nodup (asc_nd (dd_asc _)) (List.nodup_cons.mpr ⟨fun q => h (mem_dd.mp q), asc_nd (dd_asc _)⟩)).mpr fun j => by
      rw [mem_dd, List.mem_cons, mem_dd]
      simp only [List.mem_append, List.mem_singleton]
      exact Or.comm
    rw [p.length_eq, List.length_cons]
theorem dd_len (ns : List Int) : (dd ns).length ≤ ns.length := List.Nodup.length_le_of_subset (asc_nd (dd_asc ns)) fun x hx => mem_dd.mp hx
/-- the number of a set's members -/
theorem setR_card {w : World} {h : Heap} {a : Addr} {S : Int → Bool} {n : Nat} (R : SetR w h a S n) {ms : List Int} (hm : ms.Nodup) (e : ∀ k, k ∈ ms ↔ S k = true) : ms.length = n := by
  obtain ⟨o, es, ep, t, ho, hx, hd, g, nd, hS, hb, hf, hn, _⟩ := R
  have p : ms.Perm (es.toList.map keyOf) := (List.perm_ext_iff_of_nodup hm nd).mpr fun k => (e k).trans (hS k)
  rw [p.length_eq, List.length_map, Array.length_toList, hn]
/-! ### set(t), t a tuple of ints -/
section
variable {C : Cn} {X : Cx} {e a b c : Expr} {es : List Expr} {pos p tpos : Pos} {l : List Fr} {H : Hp} {σ : L2.St} {s : S} {fr : List Fr}
def rSetT (K : PySem.W.Frag) (w : World) : List V → Hp → VK → Prop := fun xs H Q => ∃ q ns, xs = [V.ref q] ∧ SqT K H q (ns.map V.int) ∧ ns.length < 4000 ∧ ∀ p, H p = none → Q (.ref p) (upd H p (SetO w p (fun j => decide (j ∈ ns)) (dd ns).length))
theorem cr_setT (hc : X.calm = true) : CallR X (.type "set") (rSetT X.K X.w) := by
  intro pins s σ H xs us Q I r h
  obtain ⟨q, ns, rfl, hq, hl, k⟩ := h
  obtain ⟨u, rfl, rx⟩ := r.one
  cases rx
  obtain ⟨its, rv, pl, hz⟩ := I.tuple hq
  refine call_set_tupI ns (I.ok.hd hc) pl (by simpa using intsAre_of rv) (by unfold scanBound; omega) fun h' tk c R hcn kp => ?_
  have ec := setR_card R (asc_nd (dd_asc ns)) fun k => by rw [mem_dd]; simp
  have I2 : Inv X pins σ (upd H s.heap.objs.size (SetO X.w s.heap.objs.size (fun j => decide (j ∈ ns)) c)) { s with heap := h', toks := tk } := I.laid (t' := tk) kp (Nat.le_refl _) (setO_new R)
  rw [← ec] at I2
  exact ⟨.ref s.heap.objs.size, _, I2, rfl, k _ (I.hok.fresh (Nat.le_refl _))⟩
/-- the ints of a row -/
def intsT : D → Option (List Int)
  | .tup ds => allO intO ds
  | _ => none
def intsL : D → Option (List Int)
  | .lst ds => allO intO ds
  | _ => none
/-- sorted of a set -/
def srtM (k : D → Option (List Int)) (f : S → Res It) : S → Res It := fun s => bindK .exc .bad (f s) fun x s1 => match k x.2 with
  | some ns => if decide (ns.length < 4000) && decide ((dd ns).length < 64) then .ok (B, .lst ((dd ns).map .int)) s1 else .bad
  | none => .bad
/-- len of a set -/
def lenS (k : D → Option (List Int)) (f : S → Res It) : S → Res It := fun s => bindK .exc .bad (f s) fun x s1 => match k x.2 with
  | some ns => if decide (ns.length < 4000) then .ok (B, .int (dd ns).length) s1 else .bad
  | none => .bad
theorem allO_int {ds : List D} {ns : List Int} (h : allO intO ds = some ns) : ds = ns.map .int := by
  induction ds generalizing ns with
  | nil => cases h; rfl
  | cons d ds ih =>
    unfold allO at h
    split at h
    · rename_i a l e1 e2
      cases h
      cases d <;> cases e1
      rw [List.map_cons, ih e2]
    · cases h
theorem imm_ints : ∀ ns : List Int, isImmL (ns.map D.int) = true
  | [] => rfl
  | n :: ns => by
    show (isImm (D.int n) && isImmL (ns.map D.int)) = true
    rw [imm_ints ns]
    rfl
theorem see_ints {G : Gt} {H : Hp} : ∀ ns : List Int, SeeL G H (ns.map D.int) (ns.map V.int)
  | [] => rfl
  | n :: ns => ⟨V.int n, ns.map V.int, rfl, rfl, see_ints ns⟩
theorem ints_see {G : Gt} {H : Hp} : ∀ {ns : List Int} {vs : List V}, SeeL G H (ns.map D.int) vs → vs = ns.map V.int
  | [], _, q => q
  | n :: ns, _, ⟨v, r, e, q, t⟩ => by
    subst e
    rw [ints_see t]
    cases q
    rfl
theorem sz_ints : ∀ ns : List Int, szL (ns.map D.int)
  | [] => trivial
  | n :: ns => ⟨trivial, sz_ints ns⟩
/-- the sorted list laid -/
theorem sort_end {w : World} {D0 : Addr} {ns : List Int} {H : Hp} {Q : VK} (hD : H D0 = some (SetO w D0 (fun j => decide (j ∈ ns)) (dd ns).length)) (h64 : (dd ns).length < 64) (r : R C σ s fr H) (q : postE C σ fr (.ok (B, .lst ((dd ns).map .int)) s) Q) : rSortedSet w [V.ref D0] H Q := by
  refine ⟨D0, _, _, rfl, hD, h64, fun ms p hs hm hl hp => ?_⟩
  have e : ms = dd ns := asc_one hs (dd_asc ns) fun k => by rw [hm, mem_dd]; simp
  subst e
  exact q _ _ (R.res r ⟨by rw [List.length_map]; unfold sizeLine; omega, sz_ints _⟩ fun l' rl => Rl.freshLst (imm_ints _) (see_ints _) hp rl)
/-- sorted(set(t)) -/
theorem pm_sortT {f : S → Res It} {p1 p2 q1 : Pos} (hK : X.K = C.K) (hc : X.calm = true) (hg : Gl X "sorted") (hm : X.mg "sorted" = none) (hg2 : Gl X "set") (hm2 : X.mg "set" = none) (ha : PE X a (tE C f))
    (h1 : starEach [.Call (.Name "set" p2) [a] [] q1] X.env = (false, eval (.Call (.Name "set" p2) [a] [] q1) X.env) :: starEach [] X.env := by rfl) (h2 : starEach [a] X.env = (false, eval a X.env) :: starEach [] X.env := by rfl) :
    PE X (.Call (.Name "sorted" p1) [.Call (.Name "set" p2) [a] [] q1] [] pos) (tE C (srtM intsT f)) :=
  PE.imp (pe_callB (cr_sortedSet hc) hg hm PyProof.Rows.boot_sorted (pa_cons (pe_callTy (cr_setT hc) hg2 hm2 PyProof.Rows.boot_set (pa_cons ha pa_nil h2) (by decide) (by decide) h2 rfl) pa_nil h1) (by decide) (by decide) h1 rfl) fun σ H Q ⟨s, fr, r, q⟩ => by
    refine tE_K P_E r q fun x s1 v H1 r1 h1 => ?_
    obtain ⟨n, d⟩ := x
    have h2 : postE C σ fr (match intsT d with
      | some ns => if decide (ns.length < 4000) && decide ((dd ns).length < 64) then .ok (B, .lst ((dd ns).map .int)) s1 else .bad
      | none => .bad) Q := h1
    cases d with
    | tup ds =>
      cases e : intsT (.tup ds) with
      | none => rw [e] at h2; exact h2.elim
      | some ns =>
        rw [e] at h2
        dsimp only at h2
        split at h2
        · rename_i cnd
          obtain ⟨c1, c2⟩ := bool_and cnd
          have ed := allO_int e
          subst ed
          obtain ⟨pp, vs, ev, hp, sl⟩ := r1.see
          have evs := ints_see sl
          subst evs
          refine ⟨pp, ns, by rw [ev], hK ▸ .of hp, of_decide_eq_true c1, fun D0 hD => ?_⟩
          exact sort_end upd_same (of_decide_eq_true c2) (r1.tail.mono (upd_sub hD)) h2
        · exact h2.elim
    | _ => exact h2.elim
/-! len -/
def rLenSet (w : World) : List V → Hp → VK → Prop := fun xs H Q => ∃ (a : Addr) (S : Int → Bool) (n : Nat), xs = [V.ref a] ∧ H a = some (SetO w a S n) ∧ n < 4000 ∧ Q (.int n) H
theorem cr_lenSet : CallR X (.builtin "len") (rLenSet X.w) := by
  intro pins s σ H xs us Q I r h
  obtain ⟨a, S, n, rfl, ha, hl, q⟩ := h
  rw [Vals.ref1 r]
  obtain ⟨o, es, ep, t, ho, hex, hd, _, _, _, _, hf, hn, _⟩ := setO_get I ha
  exact call_len_set ho hex hd hf (by rw [hn]; omega) ⟨.int n, H, I.tok _, ⟨_, by rw [hn]⟩, q⟩
/-! ### comprehensions of sets of ints -/
theorem addI_ok {pins : List (Addr × Obj)} {s : Shared} {D0 : Addr} {S : Int → Bool} {n : Nat} {k : Int} {u : Value} {Q : VK} (I : Inv X pins σ H s) (ru : RelV (.int k) u) (hD : H D0 = some (SetO X.w D0 S n)) (room : n + 1 < scanBound) (h : Q .non (upd H D0 (SetO X.w D0 (fun j => S j || decide (j = k)) (if S k = true then n else n + 1)))) :
    wpAny (model X.prog X.w) X.A (call (.builtin "set.add") [.ref D0, u]) (EP X pins σ Q) X.xe s :=
  mt_sadd pins s σ H (.ref D0) [.int k] (.ref D0) [u] Q I rfl (.cons ru .nil) ⟨D0, k, S, n, rfl, rfl, hD, room, h⟩
/-- {elt for target in iter if ..}, ints: D0 the new set -/
def tScI (w : World) (wi : TI) (g : TG) (tt : TT) (te : TE) (vs : List Nat) : TE := fun σ H Q => wi σ H fun J H1 => ∀ D0, H1 D0 = none → ∃ W : Nat → Nat → Hp → Prop, (∃ m, W 0 m (upd H1 D0 (SetO w D0 (fun _ => false) 0))) ∧ ∀ i m H, W i m H →
  (J.stop i H ∧ Q (.ref D0) H) ∨ (J.go i H ∧ ∃ Nx : Hp → Prop, (∀ H', Nx H' → ∃ m', m' < m ∧ W (i + 1) m' H') ∧ ∀ x H', J.yld i H x H' → g x (wipe σ vs) H' fun σ2 H2 => wipe σ2 vs = wipe σ vs ∧ tt σ2 H2 fun b H3 =>
    if b = true then te σ2 H3 fun y H4 => ∃ (k : Int) (S : Int → Bool) (n : Nat), y = .int k ∧ H4 D0 = some (SetO w D0 S n) ∧ n + 1 < scanBound ∧ Nx (upd H4 D0 (SetO w D0 (fun j => S j || decide (j = k)) (if S k = true then n else n + 1))) else Nx H3)
theorem pe_scI {elt tg iter : Expr} {ifs : List Expr} {scope : Scope} {own : List (PySem.Str × Nat)} {wi : TI} {g : TG} {tt : TT} {te : TE} (hc : X.calm = true) (hN : X.N.Nodup) (hi : PI X tg iter wi) (ok : BlkOk X.N X.env.scope scope own)
    (hg : ∀ (s : Shared) (H : Hp) (C : Addr) (cl : List (PySem.Str × Addr)) (fp : List Addr), PG (X.blk s H scope (compEnvC scope cl C X.env) fp) tg g) (ht : ∀ (s : Shared) (H : Hp) (C : Addr) (cl : List (PySem.Str × Addr)) (fp : List Addr), PTs (X.blk s H scope (compEnvC scope cl C X.env) fp) ifs tt)
    (he : ∀ (s : Shared) (H : Hp) (C : Addr) (cl : List (PySem.Str × Addr)) (fp : List Addr), PE (X.blk s H scope (compEnvC scope cl C X.env) fp) elt te) (hs : ∀ x, foldedSetIterable iter X.env x = pure x := by intro _; rfl) :
    PE X (.SetComp elt [⟨tg, iter, ifs, 0⟩] scope pos) (tScI X.w wi g tt te (own.map (·.2))) := by
  refine ⟨fun pins s σ H Q I h => ?_⟩
  rw [PpSet.eval_SetComp]
  have hfree : ∀ y ∈ scope.names, y.2 = .free → ∃ c, X.env.cells.lookup y.1 = some c := fun y hy e => (ok.free y hy e).elim (fun k => I.ok.has _ (.inl k)) fun k => I.ok.has _ (.inr k)
  refine wpAny_comprehension_free (use := none) rfl hs (closure_ok hfree) ok.kind (fun y hy e => by rw [ok.uniq y hy, e])
    (thn (hi.run pins s σ H _ I h) fun xv s1 hx => thn hx fun itv s2 h2 => ?_)
  obtain ⟨it, fp, tn, J, H2, e, I2, T, st2, f2, q⟩ := h2
  subst e
  refine PpSet.newSet_ok (newEnv_comp ?_)
  -- the set laid
  generalize hD : s2.heap.objs.size = D0
  obtain ⟨W, ⟨m0, w0⟩, turn⟩ := q D0 (I2.hok.fresh (Nat.le_of_eq hD))
  generalize ho : ({ cls := .type "set", dict := none, data := .set #[] 0 (.fresh 0 0 (!X.w.params.followText "set-order")) } : Obj) = ob
  have hR : SetR X.w (s2.heap.push ob) D0 (fun _ => false) 0 := by
    subst hD ho
    exact setR_fresh X.w
  have push : ∀ b o, s2.heap.get? b = some o → (s2.heap.push ob).get? b = some o := fun b o e => Heap.get?_push_of_some _ e
  have szp : (s2.heap.push ob).objs.size = s2.heap.objs.size + 1 := Heap.size_push _ _
  generalize hs3 : ({ s2 with heap := s2.heap.push ob } : Shared) = s3
  have h3 : s3.heap = s2.heap.push ob := by rw [← hs3]
  have I3 : Inv X pins σ (upd H2 D0 (SetO X.w D0 (fun _ => false) 0)) s3 := by
    rw [← hs3]
    exact I2.laid (t' := s2.toks) push (Nat.le_of_eq hD) (setO_new hR)
  have st3 : tn 0 s3.heap := T.keep _ _ _ st2 fun b _ o e => by rw [h3]; exact push b o e
  have f3 : ∀ b ∈ fp, FpOk X pins (upd H2 D0 (SetO X.w D0 (fun _ => false) 0)) b ∧ b < s3.heap.objs.size := fun b hb => by
    obtain ⟨o, e, _⟩ := T.obj _ _ st2 b hb
    have lt := Heap.lt_size e
    refine ⟨⟨by rw [upd_ne (by rw [← hD]; exact Nat.ne_of_lt lt)]; exact (f2 b hb).1, (f2 b hb).2⟩, by rw [h3]; exact Nat.lt_of_lt_of_le lt (by rw [szp]; exact Nat.le_succ _)⟩
  have I4 := block_start I3 ok hN f3
  have gg := hg s3 (upd H2 D0 (SetO X.w D0 (fun _ => false) 0)) s3.heap.objs.size (cellsFrom (s3.heap.objs.size + 1) scope.names (cloFrom X.env.cells scope.names [])) fp
  have gt := ht s3 (upd H2 D0 (SetO X.w D0 (fun _ => false) 0)) s3.heap.objs.size (cellsFrom (s3.heap.objs.size + 1) scope.names (cloFrom X.env.cells scope.names [])) fp
  have ge := he s3 (upd H2 D0 (SetO X.w D0 (fun _ => false) 0)) s3.heap.objs.size (cellsFrom (s3.heap.objs.size + 1) scope.names (cloFrom X.env.cells scope.names [])) fp
  show codeAny _ _ (.compStart (.SetComp elt [⟨tg, iter, ifs, 0⟩] scope pos) 0 (.ref it) (.ref D0) (compEnvC scope (cellsFrom (s3.heap.objs.size + 1) scope.names (cloFrom X.env.cells scope.names [])) s3.heap.objs.size X.env)) (compPost (model X.prog X.w) X.A X.xe none (EP X pins σ Q) (.ref D0) s3.heap.objs.size) { s3 with heap := pushCells (s3.heap.push { cls := .type "dict", data := .dict #[] }) scope.names }
  have fpn : ∀ b ∈ fp, (upd H2 D0 (SetO X.w D0 (fun _ => false) 0)) b = none := fun b hb => (f3 b hb).1.1
  generalize hce : compEnvC scope (cellsFrom (s3.heap.objs.size + 1) scope.names (cloFrom X.env.cells scope.names [])) s3.heap.objs.size X.env = ce at I4 gg gt ge ⊢
  have cL : ce.locals = s3.heap.objs.size := by subst hce; rfl
  generalize hH3 : upd H2 D0 (SetO X.w D0 (fun _ => false) 0) = H3 at I3 I4 gg gt ge w0 fpn f3
  generalize hs4 : ({ s3 with heap := pushCells (s3.heap.push { cls := .type "dict", data := .dict #[] }) scope.names } : Shared) = s4 at I4 ⊢
  have st4 : tn 0 s4.heap := T.keep _ _ _ st3 fun b _ o e => by rw [← hs4]; exact pushCells_keeps _ _ _ _ (Heap.get?_push_of_some _ e)
  have fst : ∀ {σ' : L2.St} {H' : Hp} {s' : Shared}, Inv (X.blk s3 H3 scope ce fp) [] σ' H' s' → (∀ b ∈ fp, H' b = none) → ∀ b ∈ fp, FpOk (X.blk s3 H3 scope ce fp) [] H' b := fun {σ' H' s'} I' hn b hb =>
    ⟨hn b hb, (I'.ok.exf b hb).1, I'.ok.exfs b hb, .inl hb, fun x c e => (I'.ok.exf b hb).2 x c e, fun p hp => absurd (show p ∈ ([] : List (Addr × Obj)) ++ [] from hp) (by simp)⟩
  have loop : codeAny (model X.prog X.w) X.A (.compLoop (.SetComp elt [⟨tg, iter, ifs, 0⟩] scope pos) 0 (.ref it) (.ref D0) ce) (compPost (model X.prog X.w) X.A X.xe none (EP X pins σ Q) (.ref D0) s3.heap.objs.size) s4 := by
    refine PpSet.compLoopS_any (fun n s' => ∃ i H', Inv (X.blk s3 H3 scope ce fp) [] (wipe σ (own.map (·.2))) H' s' ∧ tn i s'.heap ∧ (∀ b ∈ fp, H' b = none) ∧ W i n H') ?_ m0 ⟨0, H3, I4, st4, fpn, w0⟩
    rintro n s5 ⟨i, H5, I5, st5, n5, w5⟩
    rcases turn i n H5 w5 with ⟨stop, qq⟩ | ⟨go, Nx, hNx, step⟩
    · refine thnF (T.done (X.blk s3 H3 scope ce fp) rfl rfl rfl hc i [] s5 _ H5 (fun _ _ => False) I5 (fst I5 n5) st5 stop) fun r s6 ⟨hr, I6⟩ => ?_
      subst hr
      have I7 : Inv X pins σ H5 s6 := I3.call' (ch := fp) I6.os I6.base I6.hok I6.bare fun b hb => ⟨(f3 b hb).1.2.2.2.1, (f3 b hb).1.2.1, (f3 b hb).1.2.2.2.2.1, (f3 b hb).1.2.2.2.2.2⟩
      have nC : H5 s3.heap.objs.size = none := by
        have z : H5 ce.locals = none := I6.free
        rwa [cL] at z
      obtain ⟨m, hn, _⟩ := I6.loc
      have hn : s6.heap.Ns ce.locals m := hn
      rw [cL] at hn
      obtain ⟨g0, g1, g2, g3, g4, g5⟩ := I3.fpOk (Nat.le_refl _) nC
      exact ⟨m, hn, fun h'' sb => ⟨.ref D0, H5, I7.turned (t' := s6.toks) (fun b o hb e => (sb.2 b hb).trans e) g0 g1 g3 g4 g5, rfl, qq⟩⟩
    · refine thnF (T.item (X.blk s3 H3 scope ce fp) rfl rfl rfl hc i [] s5 _ H5 (fun _ _ => False) I5 (fst I5 n5) st5 go) fun r s6 ⟨u, hr, h6⟩ => ?_
      subst hr
      refine thnF h6 fun _ s7 ⟨x, H7, I7, r7, y7, st7, n7⟩ => ?_
      have I7' := I7.pinned (fst I7 n7) (T.obj _ _ st7)
      refine thnF (gg.run _ s7 _ H7 x u _ I7' r7 (step x H7 y7)) fun _ s8 ⟨σ8, H8, I8, hw8, q8⟩ => ?_
      refine thnF (gt.run _ s8 σ8 H8 _ I8 q8) fun b s9 ⟨H9, I9, q9⟩ => ?_
      have fin : ∀ {s' : Shared} {H' : Hp}, Inv (X.blk s3 H3 scope ce fp) ([] ++ pinsAt fp s7.heap) σ8 H' s' → Nx H' → ∃ m, m < n ∧ ∃ i H', Inv (X.blk s3 H3 scope ce fp) [] (wipe σ (own.map (·.2))) H' s' ∧ tn i s'.heap ∧ (∀ b ∈ fp, H' b = none) ∧ W i m H' := fun {s' H'} I' nx => by
        obtain ⟨m', hm, w'⟩ := hNx H' nx
        have pin : ∀ b ∈ fp, ∀ o, s7.heap.get? b = some o → s'.heap.get? b = some o ∧ H' b = none := fun b hb o e =>
          let z := I'.pin (b, o) (List.mem_append_right _ (List.mem_append_right _ (mem_pinsAt hb e)))
          ⟨z.1, z.2.1⟩
        refine ⟨m', hm, i + 1, H', (I'.unpinned (pins := [])).weak (by rw [← hw8, wipe_length]) (fun j v e => ?_), T.keep _ _ _ st7 fun b hb o e => (pin b hb o e).1, fun b hb => ?_, w'⟩
        · rw [← hw8] at e
          exact (wipe_some e).1
        · obtain ⟨o, e, _⟩ := T.obj _ _ st7 b hb
          exact (pin b hb o e).2
      cases b with
      | false =>
        simp only [Bool.false_eq_true, if_false] at q9 ⊢
        exact fin I9 q9
      | true =>
        simp only [if_true] at q9 ⊢
        refine thnF (ge.run _ s9 σ8 H9 _ I9 q9) fun z s10 ⟨yv, H10, I10, r10, k, S0, n0, ey, hD10, hz10, nx⟩ => ?_
        subst ey
        exact thnF (addI_ok (X := X.blk s3 H3 scope ce fp) I10 r10 hD10 hz10 (Q := fun _ H' => Nx H') nx) fun _ s11 ⟨_, H11, I11, _, nx'⟩ => fin I11 nx'
  exact PpSet.codeAny_compStart_set loop (T.self X.A 0 _ _ _ st4 loop)
theorem wipe_twice (σ : L2.St) (vs : List Nat) : wipe (wipe σ vs) vs = wipe σ vs := by
  have ww : ∀ l : List Nat, (∀ v ∈ l, v ∈ vs) → wipe (wipe σ vs) l = wipe σ vs := by
    intro l
    induction l with
    | nil => intro _; rfl
    | cons a l ih =>
      intro h
      show (wipe (wipe σ vs) l).set a none = _
      rw [ih fun v hv => h v (List.mem_cons_of_mem _ hv)]
      apply List.ext_getElem?
      intro j
      by_cases c : a = j
      · subst c
        cases q : (wipe σ vs)[a]? with
        | none =>
          rw [List.getElem?_set_self']
          simp [q]
        | some o =>
          cases o with
          | none =>
            rw [List.getElem?_set_self']
            simp [q]
          | some w => exact absurd (h a List.mem_cons_self) (wipe_some q).2
      · rw [List.getElem?_set_ne c]
  exact ww vs fun _ h => h
theorem tE_congr {f f' : S → Res It} {Q : VK} (h : ∀ s, f' s = f s) (q : tE C f σ H Q) : tE C f' σ H Q := by
  have e : f' = f := funext h
  rw [e]
  exact q
theorem sc_run {w : World} {vs tgs : List Nat} {g : It → S → Option S} {ft : S → Res Bool} {fe : S → Res It} {J : L2.It} {xs YS : List It} {NS : List Int} {kp : List Fr} {s1 S2 : S} {H1 : Hp} {Q2 : VK} (hw : okOwn C.n C.L vs = true) (htg : tgs.all (fun i => vs.contains i) = true)
    (ok1 : ItOk C.toGt J xs kp) (r1 : R C σ s1 (kp ++ fr) H1) (et : lcGo vs g ft fe xs (wipeS s1 vs) = .ok YS S2) (en : allO intO (YS.map (·.2)) = some NS) (hl : NS.length < 4000)
    (q1 : ∀ D0 H', H' D0 = some (SetO w D0 (fun j => decide (j ∈ NS)) (dd NS).length) → R C σ (restore S2 s1 vs) (kp ++ fr) H' → Q2 (.ref D0) H') : ∀ D0, H1 D0 = none → ∃ W : Nat → Nat → Hp → Prop, (∃ m, W 0 m (upd H1 D0 (SetO w D0 (fun _ => false) 0))) ∧ ∀ i m H, W i m H →
    (J.stop i H ∧ Q2 (.ref D0) H) ∨ (J.go i H ∧ ∃ Nx : Hp → Prop, (∀ H', Nx H' → ∃ m', m' < m ∧ W (i + 1) m' H') ∧ ∀ x H', J.yld i H x H' → tG C.nox tgs g x (wipe σ vs) H' fun σ2 H2 => wipe σ2 vs = wipe σ vs ∧ tT C.nox ft σ2 H2 fun b H3 =>
      if b = true then tE C.nox fe σ2 H3 fun y H4 => ∃ (k : Int) (S : Int → Bool) (n : Nat), y = .int k ∧ H4 D0 = some (SetO w D0 S n) ∧ n + 1 < scanBound ∧ Nx (upd H4 D0 (SetO w D0 (fun j => S j || decide (j = k)) (if S k = true then n else n + 1))) else Nx H3) := by
  intro D0 hD
  obtain ⟨st, rb, back⟩ := R.block hw r1
  let φ : List Int → Heap → Prop := fun acc h => SetR w h D0 (fun j => decide (j ∈ acc)) (dd acc).length
  have φe : ∀ acc, HO.ext (φ acc) = SetO w D0 (fun j => decide (j ∈ acc)) (dd acc).length := fun _ => rfl
  let Pv : Nat → Hp → Prop := fun i H => ∃ (acc zs : List Int) (ys : List It) (si : S), acc ++ zs = NS ∧ allO intO (ys.map (·.2)) = some zs ∧ lcGo vs g ft fe (xs.drop i) si = .ok ys S2 ∧ R C (wipe σ vs) si (.raw D0 (φ acc) :: (st ++ (kp ++ fr))) H
  have P0 : Pv 0 (upd H1 D0 (SetO w D0 (fun _ => false) 0)) := by
    refine ⟨[], NS, YS, wipeS s1 vs, rfl, en, et, ?_⟩
    have e0 : SetO w D0 (fun _ => false) 0 = HO.ext (φ []) := by
      rw [φe]
      simp [dd]
    rw [e0]
    exact rb.reframe (fr' := .raw D0 (φ []) :: (st ++ (kp ++ fr))) (fun l rl => Rl.newRaw rl hD) fun f hf => by
      rcases List.mem_cons.mp hf with e | hf
      · subst e; exact trivial
      · exact rb.sz f (List.mem_append_left _ hf)
  have kfront : ∀ {x : Fr}, (x :: (st ++ (kp ++ fr))).Perm (kp ++ (x :: (st ++ fr))) := fun {x} =>
    ((List.perm_append_comm_assoc st kp fr).cons _).trans List.perm_middle.symm
  refine ⟨fun i m H => m = xs.length - i ∧ i ≤ xs.length ∧ Pv i H, ⟨_, rfl, Nat.zero_le _, P0⟩, ?_⟩
  rintro i m H ⟨rfl, hle, acc, zs, ys, si, eacc, ezs, ego, ri⟩
  have rk := ri.perm kfront
  have rkl : Rl C.toGt (kp ++ ((Fr.raw D0 (φ acc) :: (st ++ fr)) ++ slF (wipe σ vs) si)) H := by
    rw [← List.append_assoc]
    exact rk.rl
  by_cases hlt : i < xs.length
  · have hx : xs[i]? = some xs[i] := List.getElem?_eq_getElem hlt
    obtain ⟨go, yl⟩ := ok1.go _ H i _ rkl hx
    refine .inr ⟨go, Pv (i + 1), fun H' p' => ⟨_, by omega, rfl, hlt, p'⟩, fun v H' y => ?_⟩
    have ry : R C (wipe σ vs) si (.it v (xs[i]).1 (xs[i]).2 :: (.raw D0 (φ acc) :: (st ++ (kp ++ fr)))) H' := by
      refine ⟨rk.sl, ?_, fun f hf => ?_, rk.pn, rk.ln⟩
      · refine Rl.perm (List.Perm.cons _ ?_) (yl v H' y)
        rw [← List.append_assoc]
        exact kfront.symm.append_right _
      · rcases List.mem_cons.mp hf with e | hf
        · subst e; exact ok1.sz _ (List.getElem_mem hlt)
        · exact ri.sz f hf
    rw [List.drop_eq_getElem_cons hlt] at ego
    unfold lcGo at ego
    split at ego
    · cases ego
    · rename_i s2 eg
      refine ⟨si, _, xs[i], s2, ry.nox, eg, fun σ2 hw2 r2 => ?_⟩
      have wv : wipe σ2 vs = wipe (wipe σ vs) vs := hw2 vs fun j hj => by
        have := List.all_eq_true.mp htg j hj
        simpa using this
      have wv' : wipe σ2 vs = wipe σ vs := wv.trans (wipe_twice σ vs)
      refine ⟨wv', s2, _, r2, ?_⟩
      cases eft : ft s2 with
      | bad => rw [eft] at ego; cases ego
      | exc c fs s1 => rw [eft] at ego; cases ego
      | ok bt s3 =>
        rw [eft] at ego
        cases bt with
        | false =>
          intro H2 r3
          rw [if_neg Bool.false_ne_true]
          have r4 := R.wiped hw r3.yox
          rw [wv'] at r4
          exact ⟨acc, zs, ys, _, eacc, ezs, ego, r4⟩
        | true =>
          intro H2 r3
          rw [if_pos rfl]
          refine ⟨s3, _, r3, ?_⟩
          dsimp only at ego
          cases efe : fe s3 with
          | bad => rw [efe] at ego; cases ego
          | exc c fs s1 => rw [efe] at ego; cases ego
          | ok y s4 =>
            rw [efe] at ego
            dsimp only at ego
            intro w' H3 r4
            cases erest : lcGo vs g ft fe (xs.drop (i + 1)) (wipeS s4 vs) with
            | bad => rw [erest] at ego; cases ego
            | exc c fs s1 => rw [erest] at ego; cases ego
            | ok ys' s5 =>
              rw [erest] at ego
              cases ego
              have r5 := R.wiped hw r4.yox
              rw [wv'] at r5
              obtain ⟨m, d⟩ := y
              rw [List.map_cons] at ezs
              unfold allO at ezs
              split at ezs
              · rename_i k zs' e1 e2
                cases ezs
                cases d <;> cases e1
                have ev : w' = .int k := r5.see
                subst ev
                have r6 := r5.tail
                have hat : H3 D0 = some (SetO w D0 (fun j => decide (j ∈ acc)) (dd acc).length) := Rl.rawAt r6.rl
                have hdl := dd_len acc
                have hal : acc.length ≤ NS.length := by rw [← eacc, List.length_append]; omega
                refine ⟨k, _, _, rfl, hat, by unfold scanBound; omega, acc ++ [k], zs', ys', _, by rw [← eacc, List.append_assoc]; rfl, e2, erest, ?_⟩
                have e0 : SetO w D0 (fun j => decide (j ∈ acc) || decide (j = k)) (if decide (k ∈ acc) = true then (dd acc).length else (dd acc).length + 1) = HO.ext (φ (acc ++ [k])) := by
                  rw [φe, dd_snoc]
                  congr 1
                  funext j
                  simp
                rw [e0]
                exact R.reframe (fr := .raw D0 (φ acc) :: (st ++ (kp ++ fr))) r6 (fun l rl => Rl.rawPut rl) fun f hf => by
                  rcases List.mem_cons.mp hf with e | hf
                  · subst e; exact trivial
                  · exact r6.sz f (List.mem_append_left _ (List.mem_cons_of_mem _ hf))
              · cases ezs
  · have e : i = xs.length := by omega
    subst e
    refine .inl ⟨ok1.stop _ H rkl, ?_⟩
    rw [List.drop_length] at ego
    unfold lcGo at ego
    cases ego
    cases ezs
    rw [List.append_nil] at eacc
    subst eacc
    exact q1 D0 H (Rl.rawAt ri.rl) (back ri.tail)
theorem srtC_imp {w : World} {vs tgs : List Nat} {fi : S → Res (List It)} {g : It → S → Option S} {ft : S → Res Bool} {fe : S → Res It} {k : List Int → D} {P : List Int → Bool} {Q : VK} {Q2 : VK} (hw : okOwn C.n C.L vs = true) (htg : tgs.all (fun i => vs.contains i) = true)
    (q : tE C (fun s => bindK .exc .bad (lcM vs fi g ft fe s) fun x s1 => match intsL x.2 with
      | some ns => if decide (ns.length < 4000) && P ns then .ok (B, k ns) s1 else .bad
      | none => .bad) σ H Q)
    (go : ∀ ns s2 fr2 D0 H', P ns = true → H' D0 = some (SetO w D0 (fun j => decide (j ∈ ns)) (dd ns).length) → R C σ s2 fr2 H' → (∀ v H2, R C σ s2 (.it v B (k ns) :: fr2) H2 → Q v H2) → Q2 (.ref D0) H') :
    tScI w (tI C fi) (tG C.nox tgs g) (tT C.nox ft) (tE C.nox fe) vs σ H Q2 := by
  obtain ⟨s, fr, r, q⟩ := q
  have q : postE C σ fr (bindK .exc .bad (bindK .exc .bad (fi s) fun xs s1 => match lcGo vs g ft fe xs (wipeS s1 vs) with
      | .ok ys s2 => .ok (min B (minDep ys + 1), .lst (ys.map (·.2))) (restore s2 s1 vs)
      | _ => .bad) fun x s1 => match intsL x.2 with
      | some ns => if decide (ns.length < 4000) && P ns then .ok (B, k ns) s1 else .bad
      | none => .bad) Q := q
  refine ⟨s, fr, r, ?_⟩
  cases ef : fi s with
  | bad => rw [ef] at q; exact q.elim
  | exc c fs s1 => rw [ef] at q; exact q
  | ok xs s1 =>
    rw [ef] at q
    have q1 : postE C σ fr (bindK .exc .bad (match lcGo vs g ft fe xs (wipeS s1 vs) with
      | .ok ys s2 => .ok (min B (minDep ys + 1), .lst (ys.map (·.2))) (restore s2 s1 vs)
      | _ => .bad) fun x s1 => match intsL x.2 with
      | some ns => if decide (ns.length < 4000) && P ns then .ok (B, k ns) s1 else .bad
      | none => .bad) Q := q
    cases et : lcGo vs g ft fe xs (wipeS s1 vs) with
    | bad => rw [et] at q1; exact q1.elim
    | exc c fs s1 => rw [et] at q1; exact q1.elim
    | ok YS S2 =>
      rw [et] at q1
      have q2 : postE C σ fr (match allO intO (YS.map (·.2)) with
        | some ns => if decide (ns.length < 4000) && P ns then .ok (B, k ns) (restore S2 s1 vs) else .bad
        | none => .bad) Q := q1
      cases en : allO intO (YS.map (·.2)) with
      | none => rw [en] at q2; exact q2.elim
      | some NS =>
        rw [en] at q2
        dsimp only at q2
        split at q2
        · rename_i cnd
          obtain ⟨c1, c2⟩ := bool_and cnd
          exact fun J kp H1 ok1 r1 => sc_run hw htg ok1 r1 et en (of_decide_eq_true c1) fun D0 H' hD r2 => go NS _ _ D0 H' c2 hD r2 fun v H2 r3 => q2 v H2 (r3.drop ((List.sublist_append_right _ _).cons_cons _))
        · exact q2.elim
section
variable {elt tg iter : Expr} {ifs : List Expr} {scope : Scope} {own : List (Str × Nat)} {tgs : List Nat} {fi : S → Res (List It)} {g : It → S → Option S} {ft : S → Res Bool} {fe : S → Res It} {p1 p2 : Pos}
/-- sorted({elt for target in iter if ..}) -/
theorem pm_sortC (hg0 : Gl X "sorted") (hm0 : X.mg "sorted" = none) (hc : X.calm = true) (hN : X.N.Nodup) (hi : PI X tg iter (tI C fi)) (ok : BlkOk X.N X.env.scope scope own)
    (hg : ∀ (s : Shared) (H : Hp) (D : Addr) (cl : List (Str × Addr)) (fp : List Addr), PG (X.blk s H scope (compEnvC scope cl D X.env) fp) tg (tG C.nox tgs g)) (ht : ∀ (s : Shared) (H : Hp) (D : Addr) (cl : List (Str × Addr)) (fp : List Addr), PTs (X.blk s H scope (compEnvC scope cl D X.env) fp) ifs (tT C.nox ft))
    (he : ∀ (s : Shared) (H : Hp) (D : Addr) (cl : List (Str × Addr)) (fp : List Addr), PE (X.blk s H scope (compEnvC scope cl D X.env) fp) elt (tE C.nox fe)) (hw : okOwn C.n C.L (own.map (·.2)) = true) (htg : tgs.all (fun i => (own.map (·.2)).contains i) = true) (hs : ∀ x, foldedSetIterable iter X.env x = pure x := by intro _; rfl)
    (h1 : starEach [.SetComp elt [⟨tg, iter, ifs, 0⟩] scope p2] X.env = (false, eval (.SetComp elt [⟨tg, iter, ifs, 0⟩] scope p2) X.env) :: starEach [] X.env := by rfl) :
    PE X (.Call (.Name "sorted" p1) [.SetComp elt [⟨tg, iter, ifs, 0⟩] scope p2] [] pos) (tE C (srtM intsL (lcM (own.map (·.2)) fi g ft fe))) :=
  PE.imp (pe_callB (cr_sortedSet hc) hg0 hm0 PyProof.Rows.boot_sorted (pa_cons (pe_scI hc hN hi ok hg ht he hs) pa_nil h1) (by decide) (by decide) h1 rfl) fun σ H Q q =>
    srtC_imp (w := X.w) (Q2 := fun v H' => rSortedSet X.w [v] H' Q) (k := fun ns => .lst ((dd ns).map .int)) (P := fun ns => decide ((dd ns).length < 64)) hw htg q fun ns s2 fr2 D0 H' hp hD r q2 => sort_end hD (of_decide_eq_true hp) r q2
/-- len({elt for target in iter if ..}) -/
theorem pm_lenC (hg0 : Gl X "len") (hm0 : X.mg "len" = none) (hc : X.calm = true) (hN : X.N.Nodup) (hi : PI X tg iter (tI C fi)) (ok : BlkOk X.N X.env.scope scope own)
    (hg : ∀ (s : Shared) (H : Hp) (D : Addr) (cl : List (Str × Addr)) (fp : List Addr), PG (X.blk s H scope (compEnvC scope cl D X.env) fp) tg (tG C.nox tgs g)) (ht : ∀ (s : Shared) (H : Hp) (D : Addr) (cl : List (Str × Addr)) (fp : List Addr), PTs (X.blk s H scope (compEnvC scope cl D X.env) fp) ifs (tT C.nox ft))
    (he : ∀ (s : Shared) (H : Hp) (D : Addr) (cl : List (Str × Addr)) (fp : List Addr), PE (X.blk s H scope (compEnvC scope cl D X.env) fp) elt (tE C.nox fe)) (hw : okOwn C.n C.L (own.map (·.2)) = true) (htg : tgs.all (fun i => (own.map (·.2)).contains i) = true) (hs : ∀ x, foldedSetIterable iter X.env x = pure x := by intro _; rfl)
    (h1 : starEach [.SetComp elt [⟨tg, iter, ifs, 0⟩] scope p2] X.env = (false, eval (.SetComp elt [⟨tg, iter, ifs, 0⟩] scope p2) X.env) :: starEach [] X.env := by rfl) :
    PE X (.Call (.Name "len" p1) [.SetComp elt [⟨tg, iter, ifs, 0⟩] scope p2] [] pos) (tE C (lenS intsL (lcM (own.map (·.2)) fi g ft fe))) :=
  PE.imp (pe_callB cr_lenSet hg0 hm0 PySem.boot_len (pa_cons (pe_scI hc hN hi ok hg ht he hs) pa_nil h1) (by decide) (by decide) h1 rfl) fun σ H Q q =>
    srtC_imp (w := X.w) (Q2 := fun v H' => rLenSet X.w [v] H' Q) (k := fun ns => .int (dd ns).length) (P := fun ns => decide (ns.length < 4000)) hw htg (by
      refine tE_congr (fun s => ?_) q
      unfold lenS
      congr 1
      funext x s1
      cases intsL x.2 <;> simp) fun ns s2 fr2 D0 H' hp hD r q2 => ⟨D0, _, _, rfl, hD, by have := dd_len ns; have := of_decide_eq_true hp; omega, q2 _ _ (R.imm rfl rfl trivial r)⟩
end
end
end Pv
namespace Pv
open PySem PySem.Spec PyProof.Rows L2
/-! Pv3: made ranges, slices of made rows, counts -/
section
variable {C : Cn} {X : Cx} {e a b c : Expr} {es : List Expr} {pos p tpos px : Pos} {l : List Fr} {H : Hp} {σ : L2.St} {s : S} {fr : List Fr}
def rgM (g : List D → D) (f : S → Res It) : S → Res It := fun s => bindK .exc .bad (f s) fun x s1 => match x.2 with
  | .int n => if rgOk 0 n then .ok (B, g (rgD 0 n)) s1 else .bad
  | _ => .bad
theorem pm_trg {f : S → Res It} {pr : Pos} (hc : X.calm = true) (hg : Gl X "tuple") (hm : X.mg "tuple" = none) (hg2 : Gl X "range") (hm2 : X.mg "range" = none) (ha : PE X a (tE C f)) (na : starEach [a] X.env = (false, eval a X.env) :: starEach [] X.env := by rfl)
    (nb : starEach [Expr.Call (.Name "range" pr) [a] [] px] X.env = (false, eval (Expr.Call (.Name "range" pr) [a] [] px) X.env) :: starEach [] X.env := by rfl) : PE X (.Call (.Name "tuple" p) [Expr.Call (.Name "range" pr) [a] [] px] [] pos) (tE C (rgM .tup f)) :=
  PE.imp (pe_tupRg hc hg hm (prg_1 hg2 hm2 ha na) nb) fun σ H Q ⟨s, fr, r, q⟩ => by
    refine tE_K P_E r q fun x s1 v H1 r1 h1 => ?_
    obtain ⟨n, d⟩ := x
    cases d with
    | int n =>
      have h2 : postE C σ fr (if rgOk 0 n then .ok (B, .tup (rgD 0 n)) s1 else .bad) Q := h1
      split at h2
      · rename_i c
        have ev : v = .int n := r1.see
        have c' : RgOk 0 n := by
          have := of_decide_eq_true c
          exact ⟨by omega, by omega, by omega, by omega, this.2.2⟩
        exact ⟨n, ev, c', fun q hq => h2 _ _ (R.res r1.tail (rgD_sz c) fun l rl => Rl.freshTup (rgD_imm 0 n) (rgD_see 0 n) hq rl)⟩
      · exact h2.elim
    | _ => exact h1.elim
theorem pm_lrg {f : S → Res It} {pr : Pos} (hc : X.calm = true) (hg : Gl X "list") (hm : X.mg "list" = none) (hg2 : Gl X "range") (hm2 : X.mg "range" = none) (ha : PE X a (tE C f)) (na : starEach [a] X.env = (false, eval a X.env) :: starEach [] X.env := by rfl)
    (nb : starEach [Expr.Call (.Name "range" pr) [a] [] px] X.env = (false, eval (Expr.Call (.Name "range" pr) [a] [] px) X.env) :: starEach [] X.env := by rfl) : PE X (.Call (.Name "list" p) [Expr.Call (.Name "range" pr) [a] [] px] [] pos) (tE C (rgM .lst f)) :=
  PE.imp (pe_listRg hc hg hm (prg_1 hg2 hm2 ha na) nb) fun σ H Q ⟨s, fr, r, q⟩ => by
    refine tE_K P_E r q fun x s1 v H1 r1 h1 => ?_
    obtain ⟨n, d⟩ := x
    cases d with
    | int n =>
      have h2 : postE C σ fr (if rgOk 0 n then .ok (B, .lst (rgD 0 n)) s1 else .bad) Q := h1
      split at h2
      · rename_i c
        have ev : v = .int n := r1.see
        have c' : RgOk 0 n := by
          have := of_decide_eq_true c
          exact ⟨by omega, by omega, by omega, by omega, this.2.2⟩
        exact ⟨n, ev, c', fun q hq => h2 _ _ (R.res r1.tail (rgD_sz c) fun l rl => Rl.freshLst (rgD_imm 0 n) (rgD_see 0 n) hq rl)⟩
      · exact h2.elim
    | _ => exact h1.elim
/-- a slice of a made row -/
def slM (f : S → Res It) (lo hi : S → Option (Option Int)) : S → Res It := fun s => bindK .exc .bad (f s) fun x s1 => match lo s1, hi s1 with
  | some l, some h => match cutD x.2 l h with
    | some z => .ok (B, z) s1
    | none => .bad
  | _, _ => .bad
theorem pm_slice {f : S → Res It} {lo hi : Option Expr} {fl fh : S → Option (Option Int)} {p2 : Pos} (ha : PE X a (tE C f)) (hl : PO X lo (tO C fl)) (hh : PO X hi (tO C fh)) : PE X (.Subscript a (.Slice lo hi none p2) pos) (tE C (slM f fl fh)) :=
  PE.imp (pe_slice (SlR.or sl_list sl_tupA) ha hl hh) fun σ H Q ⟨s, fr, r, q⟩ => by
    refine tE_K P_E r q fun x s1 v H1 r1 h1 => ?_
    obtain ⟨n, d⟩ := x
    have h2 : postE C σ fr (match fl s1, fh s1 with
      | some l, some h => match cutD d l h with
        | some z => .ok (B, z) s1
        | none => .bad
      | _, _ => .bad) Q := h1
    split at h2
    · rename_i l h e2 e3
      cases ec : cutD d l h with
      | none => rw [ec] at h2; exact h2.elim
      | some z =>
        rw [ec] at h2
        have k : ∀ v H2, R C σ s1 (.it v B z :: fr) H2 → Q v H2 := h2
        refine ⟨s1, _, l, r1, e2, fun H2 u2 => ⟨s1, _, h, r1.mono u2, e3, fun H3 u3 => ?_⟩⟩
        have rr := (r1.mono u2).mono u3
        have ss : See C.toGt H3 d v := rr.see
        have z1 := rr.szd
        cases d with
        | lst ds =>
          have e' : (if isImmL ds then some (D.lst (cutL ds l h)) else none) = some z := ec
          split at e'
          · rename_i c
            cases e'
            obtain ⟨q, vs, rfl, hp, sl⟩ := ss
            have im : isImmL (cutL ds l h) = true := isImmL_mem.mpr fun x hx => isImmL_mem.mp c x (cutL_sub ds l h x hx)
            have zz : szD (.lst (cutL ds l h)) := ⟨Nat.le_trans (cutL_len _ _ _) z1.1, szL_mem.mpr fun x hx => szL_mem.mp z1.2 x (cutL_sub ds l h x hx)⟩
            exact .inl ⟨q, vs, rfl, .of hp, fun t ht => k _ _ (R.res rr.tail zz fun l' rl => Rl.freshLst im (SeeL_cut l h sl) ht rl)⟩
          · cases e'
        | tup ds =>
          have e' : (if isImmL ds then some (D.tup (cutL ds l h)) else none) = some z := ec
          split at e'
          · rename_i c
            cases e'
            obtain ⟨q, vs, rfl, hp, sl⟩ := ss
            have im : isImmL (cutL ds l h) = true := isImmL_mem.mpr fun x hx => isImmL_mem.mp c x (cutL_sub ds l h x hx)
            have zz : szD (.tup (cutL ds l h)) := ⟨Nat.le_trans (cutL_len _ _ _) z1.1, szL_mem.mpr fun x hx => szL_mem.mp z1.2 x (cutL_sub ds l h x hx)⟩
            refine .inr ⟨q, vs, rfl, .of hp, fun hw => ?_, fun hw t ht => k _ _ (R.res rr.tail zz fun l' rl => Rl.freshTup im (SeeL_cut l h sl) ht rl)⟩
            have ed : cutL ds l h = ds := by
              have lz := sl.length
              unfold cutL
              rw [← lz, hw.1, hw.2, lz]
              simp
            refine k _ _ (R.res rr.tail zz fun l' rl => ?_)
            rw [ed]
            exact Rl.imm (by simpa only [isImm] using c) ⟨q, vs, rfl, hp, sl⟩ rl
          · cases e'
        | _ => cases ec
    · exact h2.elim
/-- f.count(k), ints -/
def cntM (f g : S → Res It) : S → Res It := fun s => bindK .exc .bad (f s) fun x s1 => match intsL x.2 with
  | some ns => bindK .exc .bad (g s1) fun y s2 => match y.2 with
    | .int k => .ok (B, .int (ns.count k : Nat)) s2
    | _ => .bad
  | none => .bad
theorem pm_cnt {f g : S → Res It} {apos cpos : Pos} (hK : X.K = C.K) (ha : PE X a (tE C f)) (hb : PE X b (tE C g)) (h1 : starEach [b] X.env = (false, eval b X.env) :: starEach [] X.env := by rfl)
    (hbase : attributeBase a "count" X.env (eval a X.env) = eval a X.env := by rfl)
    (hfew : ((backTo cpos (starEach [b] X.env)).all (fun x => !x.1) && (backToKw cpos (keywordEach [] X.env)).all (fun x => x.1.isSome)
      && decide ([b].length + ([] : List Keyword).length + (if ([] : List Keyword).isEmpty then 0 else 1) < 30)) = true := by rfl)
    (hline : (apos.endLine == cpos.line) = true := by rfl) (hplain : (backTo cpos (starEach [] X.env)).any (·.1) = false := by rfl) :
    PE X (.Call (.Attribute a "count" apos) [b] [] cpos) (tE C (cntM f g)) :=
  PE.imp (pe_bm PySem.F.plainAttrs_list PySem.F.slot_list_count PySem.F.type_list_count mt_lcount ha (pa_cons hb pa_nil h1) hbase hfew hline h1 hplain) fun σ H Q ⟨s, fr, r, q⟩ => by
    refine tE_K P_E r q fun x s1 v H1 r1 h1 => ?_
    obtain ⟨n, d⟩ := x
    have h2 : postE C σ fr (match intsL d with
      | some ns => bindK .exc .bad (g s1) fun y s2 => match y.2 with
        | .int k => .ok (B, .int (ns.count k : Nat)) s2
        | _ => .bad
      | none => .bad) Q := h1
    cases d with
    | lst ds =>
      cases en : intsL (.lst ds) with
      | none => rw [en] at h2; exact h2.elim
      | some ns =>
        rw [en] at h2
        have ed := allO_int en
        subst ed
        refine ⟨hK ▸ lst_ty r1.see rfl, ?_⟩
        refine tE_K (P_E.more (List.sublist_cons_self _ _)) r1 h2 fun y s2 w H2 r2 h3 => ?_
        obtain ⟨m, dy⟩ := y
        cases dy with
        | int k =>
          have ew : w = .int k := r2.see
          subst ew
          have r3 := r2.tail
          obtain ⟨q', vs, ev, hp, sl⟩ := r3.see
          have evs := ints_see sl
          subst evs
          exact ⟨q', ns, k, ev, rfl, hK ▸ .of hp, h3 _ _ (R.imm rfl rfl trivial r3.tail)⟩
        | _ => exact h3.elim
    | _ => exact h2.elim
end
end Pv
namespace Pv
open PySem PySem.Spec PyProof.Rows L2
/-! Pv4: sets of ints by two clauses -/
theorem sTurn_out (elt t0 i0 t1 i1 : Expr) (ifs0 ifs1 : List Expr) (scope : Scope) (pos : Pos) (it acc : Value) (env : Env) :
    compTurn (.SetComp elt [⟨t0, i0, ifs0, 0⟩, ⟨t1, i1, ifs1, 0⟩] scope pos) 0 it acc env = (do
      standAt i0.pos
      match ← pyNext it with
      | none => pure (.done .next)
      | some v =>
        letOwnedTupleGo t0 it v
        assign t0 env v
        let mut ok := true
        for c in ifs0 do
          if ok then ok ← isTrue c env (eval c env)
        if ok then
          let x ← eval i1 env
          standAt i1.pos
          let x ← foldedSetIterable i1 env x
          let _ ← runOwn (.compStart (.SetComp elt [⟨t0, i0, ifs0, 0⟩, ⟨t1, i1, ifs1, 0⟩] scope pos) 1 (← holding [x] (pyIter x)) acc env) env
        again (.compLoop (.SetComp elt [⟨t0, i0, ifs0, 0⟩, ⟨t1, i1, ifs1, 0⟩] scope pos) 0 it acc env)) := by rfl
theorem sTurn_in (elt t0 i0 t1 i1 : Expr) (ifs0 ifs1 : List Expr) (scope : Scope) (pos : Pos) (it acc : Value) (env : Env) :
    compTurn (.SetComp elt [⟨t0, i0, ifs0, 0⟩, ⟨t1, i1, ifs1, 0⟩] scope pos) 1 it acc env = (do
      standAt i1.pos
      match ← pyNext it with
      | none => pure (.done .next)
      | some v =>
        letOwnedTupleGo t1 it v
        assign t1 env v
        let mut ok := true
        for c in ifs1 do
          if ok then ok ← isTrue c env (eval c env)
        if ok then
          (do let v ← eval elt env; standAt elt.pos; let _ ← call (.builtin "set.add") [acc, v])
        again (.compLoop (.SetComp elt [⟨t0, i0, ifs0, 0⟩, ⟨t1, i1, ifs1, 0⟩] scope pos) 1 it acc env)) := by rfl
section
variable {prog : Program} {w : World} {A : Around} {Rr : Result → Shared → Prop} {s : Shared} {elt t0 i0 t1 i1 : Expr} {ifs0 ifs1 : List Expr} {scope : Scope} {pos : Pos} {it acc : Value} {env : Env}
theorem sLoop_out (hs : ∀ x, foldedSetIterable i1 env x = pure x) (I : Nat → Shared → Prop)
    (turn : ∀ n s, I n s → wpAny (model prog w) A (pyNext it) (fun r s₁ => match r with
      | none => Rr (.ok .next) s₁
      | some v => wpAny (model prog w) A (letOwnedTupleGo t0 it v) (fun _ s₁' => wpAny (model prog w) A (assign t0 env v) (fun _ s₂ =>
          wpAny (model prog w) A (forIn ifs0 true fun c r => if r = true then do let ok ← isTrue c env (eval c env); pure (ForInStep.yield ok) else pure (ForInStep.yield r)) (fun ok s₃ =>
            if ok = true then wpAny (model prog w) A (eval i1 env) (fun x s₄ => wpAny (model prog w) A (pyIter x) (fun it1 s₅ =>
              codeAny (model prog w) A (.compStart (.SetComp elt [⟨t0, i0, ifs0, 0⟩, ⟨t1, i1, ifs1, 0⟩] scope pos) 1 it1 acc env) (fun r s' => match r with
                | .ok _ => ∃ m, m < n ∧ I m s'
                | .error _ => False) s₅) (notedBy (model prog w) A env fun e s' => Rr (.error e) s') s₄) (notedBy (model prog w) A env fun e s' => Rr (.error e) s') s₃
            else ∃ m, m < n ∧ I m s₃) (notedBy (model prog w) A env fun e s' => Rr (.error e) s') s₂) (notedBy (model prog w) A env fun e s' => Rr (.error e) s') s₁') (notedBy (model prog w) A env fun e s' => Rr (.error e) s') s₁) (notedBy (model prog w) A env fun e s' => Rr (.error e) s') s)
    (n : Nat) (h : I n s) : codeAny (model prog w) A (.compLoop (.SetComp elt [⟨t0, i0, ifs0, 0⟩, ⟨t1, i1, ifs1, 0⟩] scope pos) 0 it acc env) Rr s := by
  refine codeAny_loop rfl I (fun n s hI => ?_) n h
  show wpAny _ A ((compTurn (.SetComp elt [⟨t0, i0, ifs0, 0⟩, ⟨t1, i1, ifs1, 0⟩] scope pos) 0 it acc env).onRaise (fun x => do noteFrame x env; theTreesLotGoes x)) _ _ s
  refine wpAny_noted ?_
  rw [sTurn_out]
  refine wpAny_bind (wpAny_standAt (wpAny_bind (wpAny_mono (turn n s hI) (fun r s₁ h₁ => ?_) fun _ _ h' => h')))
  cases r with
  | none => exact wpAny_pure h₁
  | some v =>
    refine wpAny_bind (wpAny_mono h₁ (fun _ s₁' h₁' => ?_) fun _ _ h' => h')
    refine wpAny_bind (wpAny_mono h₁' (fun _ s₂ h₂ => wpAny_bind (wpAny_mono h₂ (fun ok s₃ h₃ => ?_) fun _ _ h' => h')) fun _ _ h' => h')
    cases ok with
    | false => exact wpAny_pure ⟨rfl, h₃⟩
    | true =>
      refine wpAny_bind (wpAny_mono h₃ (fun x s₄ h₄ => ?_) fun _ _ h' => h')
      refine wpAny_bind (wpAny_standAt (wpAny_bind (wpAny_of_eq (hs x) (wpAny_bind (wpAny_holding (wpAny_mono h₄ (fun it1 s₅ h₅ => ?_) fun _ _ h' => h'))))))
      refine wpAny_bind (wpAny_runOwn ?_)
      rw [Around.mark_none]
      refine codeAny_mono h₅ fun r s' hr => ?_
      cases r with
      | ok f =>
        first
          | exact wpAny_pure ⟨rfl, hr⟩
          | exact wpAny_bind (wpAny_pure (wpAny_pure ⟨rfl, hr⟩))
      | error e => exact hr.elim
theorem sLoop_in (I : Nat → Shared → Prop)
    (turn : ∀ n s, I n s → wpAny (model prog w) A (pyNext it) (fun r s₁ => match r with
      | none => Rr (.ok .next) s₁
      | some v => wpAny (model prog w) A (letOwnedTupleGo t1 it v) (fun _ s₁' => wpAny (model prog w) A (assign t1 env v) (fun _ s₂ =>
          wpAny (model prog w) A (forIn ifs1 true fun c r => if r = true then do let ok ← isTrue c env (eval c env); pure (ForInStep.yield ok) else pure (ForInStep.yield r)) (fun ok s₃ =>
            if ok = true then wpAny (model prog w) A (eval elt env) (fun x s₄ =>
              wpAny (model prog w) A (call (.builtin "set.add") [acc, x]) (fun _ s₅ => ∃ m, m < n ∧ I m s₅) (notedBy (model prog w) A env fun e s' => Rr (.error e) s') s₄) (notedBy (model prog w) A env fun e s' => Rr (.error e) s') s₃
            else ∃ m, m < n ∧ I m s₃) (notedBy (model prog w) A env fun e s' => Rr (.error e) s') s₂) (notedBy (model prog w) A env fun e s' => Rr (.error e) s') s₁') (notedBy (model prog w) A env fun e s' => Rr (.error e) s') s₁) (notedBy (model prog w) A env fun e s' => Rr (.error e) s') s)
    (n : Nat) (h : I n s) : codeAny (model prog w) A (.compLoop (.SetComp elt [⟨t0, i0, ifs0, 0⟩, ⟨t1, i1, ifs1, 0⟩] scope pos) 1 it acc env) Rr s := by
  refine codeAny_loop rfl I (fun n s hI => ?_) n h
  show wpAny _ A ((compTurn (.SetComp elt [⟨t0, i0, ifs0, 0⟩, ⟨t1, i1, ifs1, 0⟩] scope pos) 1 it acc env).onRaise (fun x => do noteFrame x env; theTreesLotGoes x)) _ _ s
  refine wpAny_noted ?_
  rw [sTurn_in]
  refine wpAny_bind (wpAny_standAt (wpAny_bind (wpAny_mono (turn n s hI) (fun r s₁ h₁ => ?_) fun _ _ h' => h')))
  cases r with
  | none => exact wpAny_pure h₁
  | some v =>
    refine wpAny_bind (wpAny_mono h₁ (fun _ s₁' h₁' => ?_) fun _ _ h' => h')
    refine wpAny_bind (wpAny_mono h₁' (fun _ s₂ h₂ => wpAny_bind (wpAny_mono h₂ (fun ok s₃ h₃ => ?_) fun _ _ h' => h')) fun _ _ h' => h')
    cases ok with
    | false => exact wpAny_pure ⟨rfl, h₃⟩
    | true => exact wpAny_bind (wpAny_bind (wpAny_mono h₃ (fun x s₄ h₄ => wpAny_bind (wpAny_standAt (wpAny_bind (wpAny_mono h₄ (fun _ s₅ h₅ => wpAny_pure (wpAny_pure ⟨rfl, h₅⟩)) fun _ _ h' => h')))) fun _ _ h' => h'))
theorem sStart1 (h0 : codeAny (model prog w) A (.compLoop (.SetComp elt [⟨t0, i0, ifs0, 0⟩, ⟨t1, i1, ifs1, 0⟩] scope pos) 1 it acc env) Rr s)
    (h : wpAny (model prog w) A (pyIter it) (fun it' s' => codeAny (model prog w) A (.compLoop (.SetComp elt [⟨t0, i0, ifs0, 0⟩, ⟨t1, i1, ifs1, 0⟩] scope pos) 1 it' acc env) Rr s')
      (notedBy (model prog w) A env fun x s' => Rr (.error x) s') s) :
    codeAny (model prog w) A (.compStart (.SetComp elt [⟨t0, i0, ifs0, 0⟩, ⟨t1, i1, ifs1, 0⟩] scope pos) 1 it acc env) Rr s := by
  refine codeAny_of_tree ?_
  show wpAny _ _ ((compStart (.SetComp elt [⟨t0, i0, ifs0, 0⟩, ⟨t1, i1, ifs1, 0⟩] scope pos) 1 it acc env).onRaise (fun x => do noteFrame x env; standAt theWindowsPlace)) _ _ s
  refine wpAny_notedAt ?_
  unfold compStart
  show wpAny _ _ (ask >>= _) _ _ s
  refine wpAny_bind (wpAny_askSetting (wpAny_ite ?_))
  split
  · first
      | exact wpAny_bind (wpAny_pure (wpAny_pure (And.intro rfl h0)))
      | exact wpAny_pure (And.intro rfl h0)
  · first
      | exact wpAny_bind (wpAny_rule (wpAny_bind (wpAny_standAt (wpAny_bind (wpAny_mono h (fun it' s' h' => wpAny_pure (And.intro rfl h')) fun _ _ x => x)))))
      | (refine wpAny_bind (wpAny_rule ?_); show wpAny _ _ (standAt i1.pos >>= _) _ _ s; exact wpAny_bind (wpAny_standAt (wpAny_bind (wpAny_mono h (fun it' s' h' => wpAny_pure (And.intro rfl h')) fun _ _ x => x))))
end
section
variable {C : Cn} {X : Cx} {e a b c : Expr} {es : List Expr} {pos p tpos : Pos} {l : List Fr} {H : Hp} {σ : L2.St} {s : S} {fr : List Fr}
def tSc2 (w : World) (wi : TI) (g : TG) (tt : TT) (wi1 : TI) (g1 : TG) (tt1 : TT) (te : TE) (vs vs1 : List Nat) : TE := fun σ H Q => wi σ H fun J H1 => ∀ D0, H1 D0 = none → ∃ W : Nat → Nat → Hp → Prop, (∃ m, W 0 m (upd H1 D0 (SetO w D0 (fun _ => false) 0))) ∧ ∀ i m H, W i m H →
  (J.stop i H ∧ Q (.ref D0) H) ∨ (J.go i H ∧ ∃ Nx : Hp → Prop, (∀ H', Nx H' → ∃ m', m' < m ∧ W (i + 1) m' H') ∧ ∀ x H', J.yld i H x H' → g x (wipe σ vs) H' fun σ2 H2 => wipe σ2 vs = wipe σ vs ∧ tt σ2 H2 fun b H3 =>
    if b = true then wi1 σ2 H3 fun J1 H4 => ∃ W1 : Nat → Nat → Hp → Prop, (∃ m, W1 0 m H4) ∧ ∀ j k H, W1 j k H →
      (J1.stop j H ∧ Nx H) ∨ (J1.go j H ∧ ∃ Nx1 : Hp → Prop, (∀ H', Nx1 H' → ∃ k', k' < k ∧ W1 (j + 1) k' H') ∧ ∀ x H', J1.yld j H x H' → g1 x (wipe σ2 vs1) H' fun σ3 H5 => wipe σ3 vs1 = wipe σ2 vs1 ∧ tt1 σ3 H5 fun b H6 =>
        if b = true then te σ3 H6 fun y H7 => ∃ (k : Int) (S : Int → Bool) (n : Nat), y = .int k ∧ H7 D0 = some (SetO w D0 S n) ∧ n + 1 < scanBound ∧ Nx1 (upd H7 D0 (SetO w D0 (fun j => S j || decide (j = k)) (if S k = true then n else n + 1))) else Nx1 H6)
    else Nx H3)
theorem pe_sc2I {elt tg iter tg1 iter1 : Expr} {ifs ifs1 : List Expr} {scope : Scope} {own : List (PySem.Str × Nat)} {vs1 : List Nat} {wi wi1 : TI} {g g1 : TG} {tt tt1 : TT} {te : TE} (hc : X.calm = true) (hN : X.N.Nodup) (hi : PI X tg iter wi) (ok : BlkOk X.N X.env.scope scope own) (hv : ∀ i ∈ vs1, i ∈ own.map (·.2))
    (hg : ∀ (s : Shared) (H : Hp) (C : Addr) (cl : List (PySem.Str × Addr)) (fp : List Addr), PG (X.blk s H scope (compEnvC scope cl C X.env) fp) tg g) (ht : ∀ (s : Shared) (H : Hp) (C : Addr) (cl : List (PySem.Str × Addr)) (fp : List Addr), PTs (X.blk s H scope (compEnvC scope cl C X.env) fp) ifs tt)
    (hi1 : ∀ (s : Shared) (H : Hp) (C : Addr) (cl : List (PySem.Str × Addr)) (fp : List Addr), PI (X.blk s H scope (compEnvC scope cl C X.env) fp) tg1 iter1 wi1)
    (hg1 : ∀ (s : Shared) (H : Hp) (C : Addr) (cl : List (PySem.Str × Addr)) (fp : List Addr), PG (X.blk s H scope (compEnvC scope cl C X.env) fp) tg1 g1) (ht1 : ∀ (s : Shared) (H : Hp) (C : Addr) (cl : List (PySem.Str × Addr)) (fp : List Addr), PTs (X.blk s H scope (compEnvC scope cl C X.env) fp) ifs1 tt1)
    (he : ∀ (s : Shared) (H : Hp) (C : Addr) (cl : List (PySem.Str × Addr)) (fp : List Addr), PE (X.blk s H scope (compEnvC scope cl C X.env) fp) elt te) (hs : ∀ x, foldedSetIterable iter X.env x = pure x := by intro _; rfl) (hs1 : ∀ env x, foldedSetIterable iter1 env x = pure x := by intro _ _; rfl) :
    PE X (.SetComp elt [⟨tg, iter, ifs, 0⟩, ⟨tg1, iter1, ifs1, 0⟩] scope pos) (tSc2 X.w wi g tt wi1 g1 tt1 te (own.map (·.2)) vs1) := by
  refine ⟨fun pins s σ H Q I h => ?_⟩
  rw [PpSet.eval_SetComp]
  have hfree : ∀ y ∈ scope.names, y.2 = .free → ∃ c, X.env.cells.lookup y.1 = some c := fun y hy e => (ok.free y hy e).elim (fun k => I.ok.has _ (.inl k)) fun k => I.ok.has _ (.inr k)
  refine wpAny_comprehension_free (use := none) rfl hs (closure_ok hfree) ok.kind (fun y hy e => by rw [ok.uniq y hy, e])
    (thn (hi.run pins s σ H _ I h) fun xv s1 hx => thn hx fun itv s2 h2 => ?_)
  obtain ⟨it, fp, tn, J, H2, e, I2, T, st2, f2, q⟩ := h2
  subst e
  refine PpSet.newSet_ok (newEnv_comp ?_)
  generalize hD : s2.heap.objs.size = D0
  obtain ⟨W, ⟨m0, w0⟩, turn⟩ := q D0 (I2.hok.fresh (Nat.le_of_eq hD))
  generalize ho : ({ cls := .type "set", dict := none, data := .set #[] 0 (.fresh 0 0 (!X.w.params.followText "set-order")) } : Obj) = ob
  have hR : SetR X.w (s2.heap.push ob) D0 (fun _ => false) 0 := by
    subst hD ho
    exact setR_fresh X.w
  have push : ∀ b o, s2.heap.get? b = some o → (s2.heap.push ob).get? b = some o := fun b o e => Heap.get?_push_of_some _ e
  have szp : (s2.heap.push ob).objs.size = s2.heap.objs.size + 1 := Heap.size_push _ _
  generalize hs3 : ({ s2 with heap := s2.heap.push ob } : Shared) = s3
  have h3 : s3.heap = s2.heap.push ob := by rw [← hs3]
  have I3 : Inv X pins σ (upd H2 D0 (SetO X.w D0 (fun _ => false) 0)) s3 := by
    rw [← hs3]
    exact I2.laid (t' := s2.toks) push (Nat.le_of_eq hD) (setO_new hR)
  have st3 : tn 0 s3.heap := T.keep _ _ _ st2 fun b _ o e => by rw [h3]; exact push b o e
  have f3 : ∀ b ∈ fp, FpOk X pins (upd H2 D0 (SetO X.w D0 (fun _ => false) 0)) b ∧ b < s3.heap.objs.size := fun b hb => by
    obtain ⟨o, e, _⟩ := T.obj _ _ st2 b hb
    have lt := Heap.lt_size e
    refine ⟨⟨by rw [upd_ne (by rw [← hD]; exact Nat.ne_of_lt lt)]; exact (f2 b hb).1, (f2 b hb).2⟩, by rw [h3]; exact Nat.lt_of_lt_of_le lt (by rw [szp]; exact Nat.le_succ _)⟩
  have I4 := block_start I3 ok hN f3
  have gg := hg s3 (upd H2 D0 (SetO X.w D0 (fun _ => false) 0)) s3.heap.objs.size (cellsFrom (s3.heap.objs.size + 1) scope.names (cloFrom X.env.cells scope.names [])) fp
  have gt := ht s3 (upd H2 D0 (SetO X.w D0 (fun _ => false) 0)) s3.heap.objs.size (cellsFrom (s3.heap.objs.size + 1) scope.names (cloFrom X.env.cells scope.names [])) fp
  have ge := he s3 (upd H2 D0 (SetO X.w D0 (fun _ => false) 0)) s3.heap.objs.size (cellsFrom (s3.heap.objs.size + 1) scope.names (cloFrom X.env.cells scope.names [])) fp
  have gi1 := hi1 s3 (upd H2 D0 (SetO X.w D0 (fun _ => false) 0)) s3.heap.objs.size (cellsFrom (s3.heap.objs.size + 1) scope.names (cloFrom X.env.cells scope.names [])) fp
  have gg1 := hg1 s3 (upd H2 D0 (SetO X.w D0 (fun _ => false) 0)) s3.heap.objs.size (cellsFrom (s3.heap.objs.size + 1) scope.names (cloFrom X.env.cells scope.names [])) fp
  have gt1 := ht1 s3 (upd H2 D0 (SetO X.w D0 (fun _ => false) 0)) s3.heap.objs.size (cellsFrom (s3.heap.objs.size + 1) scope.names (cloFrom X.env.cells scope.names [])) fp
  show codeAny _ _ (.compStart (.SetComp elt [⟨tg, iter, ifs, 0⟩, ⟨tg1, iter1, ifs1, 0⟩] scope pos) 0 (.ref it) (.ref D0) (compEnvC scope (cellsFrom (s3.heap.objs.size + 1) scope.names (cloFrom X.env.cells scope.names [])) s3.heap.objs.size X.env)) (compPost (model X.prog X.w) X.A X.xe none (EP X pins σ Q) (.ref D0) s3.heap.objs.size) { s3 with heap := pushCells (s3.heap.push { cls := .type "dict", data := .dict #[] }) scope.names }
  have fpn : ∀ b ∈ fp, (upd H2 D0 (SetO X.w D0 (fun _ => false) 0)) b = none := fun b hb => (f3 b hb).1.1
  generalize hce : compEnvC scope (cellsFrom (s3.heap.objs.size + 1) scope.names (cloFrom X.env.cells scope.names [])) s3.heap.objs.size X.env = ce at I4 gg gt ge gi1 gg1 gt1 ⊢
  have cL : ce.locals = s3.heap.objs.size := by subst hce; rfl
  generalize hH3 : upd H2 D0 (SetO X.w D0 (fun _ => false) 0) = H3 at I3 I4 gg gt ge gi1 gg1 gt1 w0 fpn f3
  generalize hs4 : ({ s3 with heap := pushCells (s3.heap.push { cls := .type "dict", data := .dict #[] }) scope.names } : Shared) = s4 at I4 ⊢
  have st4 : tn 0 s4.heap := T.keep _ _ _ st3 fun b _ o e => by rw [← hs4]; exact pushCells_keeps _ _ _ _ (Heap.get?_push_of_some _ e)
  have fst : ∀ {σ' : L2.St} {H' : Hp} {s' : Shared}, Inv (X.blk s3 H3 scope ce fp) [] σ' H' s' → (∀ b ∈ fp, H' b = none) → ∀ b ∈ fp, FpOk (X.blk s3 H3 scope ce fp) [] H' b := fun {σ' H' s'} I' hn b hb =>
    ⟨hn b hb, (I'.ok.exf b hb).1, I'.ok.exfs b hb, .inl hb, fun x c e => (I'.ok.exf b hb).2 x c e, fun p hp => absurd (show p ∈ ([] : List (Addr × Obj)) ++ [] from hp) (by simp)⟩
  have loop : codeAny (model X.prog X.w) X.A (.compLoop (.SetComp elt [⟨tg, iter, ifs, 0⟩, ⟨tg1, iter1, ifs1, 0⟩] scope pos) 0 (.ref it) (.ref D0) ce) (compPost (model X.prog X.w) X.A X.xe none (EP X pins σ Q) (.ref D0) s3.heap.objs.size) s4 := by
    refine sLoop_out (hs1 ce) (fun n s' => ∃ i H', Inv (X.blk s3 H3 scope ce fp) [] (wipe σ (own.map (·.2))) H' s' ∧ tn i s'.heap ∧ (∀ b ∈ fp, H' b = none) ∧ W i n H') ?_ m0 ⟨0, H3, I4, st4, fpn, w0⟩
    rintro n s5 ⟨i, H5, I5, st5, n5, w5⟩
    rcases turn i n H5 w5 with ⟨stop, qq⟩ | ⟨go, Nx, hNx, step⟩
    · refine thnF (T.done (X.blk s3 H3 scope ce fp) rfl rfl rfl hc i [] s5 _ H5 (fun _ _ => False) I5 (fst I5 n5) st5 stop) fun r s6 ⟨hr, I6⟩ => ?_
      subst hr
      have I7 : Inv X pins σ H5 s6 := I3.call' (ch := fp) I6.os I6.base I6.hok I6.bare fun b hb => ⟨(f3 b hb).1.2.2.2.1, (f3 b hb).1.2.1, (f3 b hb).1.2.2.2.2.1, (f3 b hb).1.2.2.2.2.2⟩
      have nC : H5 s3.heap.objs.size = none := by
        have z : H5 ce.locals = none := I6.free
        rwa [cL] at z
      obtain ⟨m, hn, _⟩ := I6.loc
      have hn : s6.heap.Ns ce.locals m := hn
      rw [cL] at hn
      obtain ⟨g0, g1, g2, g3, g4, g5⟩ := I3.fpOk (Nat.le_refl _) nC
      exact ⟨m, hn, fun h'' sb => ⟨.ref D0, H5, I7.turned (t' := s6.toks) (fun b o hb e => (sb.2 b hb).trans e) g0 g1 g3 g4 g5, rfl, qq⟩⟩
    · refine thnF (T.item (X.blk s3 H3 scope ce fp) rfl rfl rfl hc i [] s5 _ H5 (fun _ _ => False) I5 (fst I5 n5) st5 go) fun r s6 ⟨u, hr, h6⟩ => ?_
      subst hr
      refine thnF h6 fun _ s7 ⟨x, H7, I7, r7, y7, st7, n7⟩ => ?_
      have I7' := I7.pinned (fst I7 n7) (T.obj _ _ st7)
      refine thnF (gg.run _ s7 _ H7 x u _ I7' r7 (step x H7 y7)) fun _ s8 ⟨σ8, H8, I8, hw8, q8⟩ => ?_
      refine thnF (gt.run _ s8 σ8 H8 _ I8 q8) fun b s9 ⟨H9, I9, q9⟩ => ?_
      have fin : ∀ {σ9 : L2.St} {s' : Shared} {H' : Hp}, Inv (X.blk s3 H3 scope ce fp) ([] ++ pinsAt fp s7.heap) σ9 H' s' → (wipe σ (own.map (·.2))).length = σ9.length → (∀ (j : Nat) v, (wipe σ (own.map (·.2)))[j]? = some (some v) → σ9[j]? = some (some v)) → Nx H' →
          ∃ m, m < n ∧ ∃ i H', Inv (X.blk s3 H3 scope ce fp) [] (wipe σ (own.map (·.2))) H' s' ∧ tn i s'.heap ∧ (∀ b ∈ fp, H' b = none) ∧ W i m H' := fun {σ9 s' H'} I' hl hk nx => by
        obtain ⟨m', hm, w'⟩ := hNx H' nx
        have pin : ∀ b ∈ fp, ∀ o, s7.heap.get? b = some o → s'.heap.get? b = some o ∧ H' b = none := fun b hb o e =>
          let z := I'.pin (b, o) (List.mem_append_right _ (List.mem_append_right _ (mem_pinsAt hb e)))
          ⟨z.1, z.2.1⟩
        refine ⟨m', hm, i + 1, H', (I'.unpinned (pins := [])).weak hl hk, T.keep _ _ _ st7 fun b hb o e => (pin b hb o e).1, fun b hb => ?_, w'⟩
        obtain ⟨o, e, _⟩ := T.obj _ _ st7 b hb
        exact (pin b hb o e).2
      have hl8 : (wipe σ (own.map (·.2))).length = σ8.length := by rw [← hw8, wipe_length]
      have hk8 : ∀ (j : Nat) v, (wipe σ (own.map (·.2)))[j]? = some (some v) → σ8[j]? = some (some v) := fun j v e => by
        rw [← hw8] at e
        exact (wipe_some e).1
      have hk9 : ∀ (j : Nat) v, (wipe σ (own.map (·.2)))[j]? = some (some v) → (wipe σ8 vs1)[j]? = some (some v) := fun j v e => by
        rw [← hw8] at e
        obtain ⟨e1, e2⟩ := wipe_some e
        rw [L2.wipe_out fun z => e2 (hv j z)]
        exact e1
      cases b with
      | false =>
        simp only [Bool.false_eq_true, if_false] at q9 ⊢
        exact fin I9 hl8 hk8 q9
      | true =>
        simp only [if_true] at q9 ⊢
        refine thnF (gi1.run _ s9 σ8 H9 _ I9 q9) fun xv s10 hx => thnF hx fun itv s11 h11 => ?_
        obtain ⟨it1, fp1, tn1, J1, H11, e1, I11, T1, st11, f11, W1, ⟨m1, w1⟩, turn1⟩ := h11
        subst e1
        have fst1 : ∀ {H' : Hp}, (∀ b ∈ fp1, H' b = none) → ∀ b ∈ fp1, FpOk (X.blk s3 H3 scope ce fp) ([] ++ pinsAt fp s7.heap) H' b := fun hn b hb => ⟨hn b hb, (f11 b hb).2⟩
        have loop1 : codeAny (model X.prog X.w) X.A (.compLoop (.SetComp elt [⟨tg, iter, ifs, 0⟩, ⟨tg1, iter1, ifs1, 0⟩] scope pos) 1 (.ref it1) (.ref D0) ce)
            (fun r s' => match r with
              | .ok _ => ∃ m, m < n ∧ ∃ i H', Inv (X.blk s3 H3 scope ce fp) [] (wipe σ (own.map (·.2))) H' s' ∧ tn i s'.heap ∧ (∀ b ∈ fp, H' b = none) ∧ W i m H'
              | .error _ => False) s11 := by
          refine sLoop_in (fun k s' => ∃ j H', Inv (X.blk s3 H3 scope ce fp) ([] ++ pinsAt fp s7.heap) (wipe σ8 vs1) H' s' ∧ tn1 j s'.heap ∧ (∀ b ∈ fp1, H' b = none) ∧ W1 j k H') ?_ m1 ⟨0, H11, I11.weak (wipe_length _ _) (fun j v e => (wipe_some e).1), st11, fun b hb => (f11 b hb).1, w1⟩
          rintro k s12 ⟨j, H12, I12, st12, n12, w12⟩
          rcases turn1 j k H12 w12 with ⟨stop1, nx1⟩ | ⟨go1, Nx1, hNx1, step1⟩
          · refine thnF (T1.done (X.blk s3 H3 scope ce fp) rfl rfl rfl hc j _ s12 (wipe σ8 vs1) H12 (fun _ _ => False) I12 (fst1 n12) st12 stop1) fun r s13 ⟨hr, I13⟩ => ?_
            subst hr
            exact fin I13 (hl8.trans (wipe_length σ8 vs1).symm) hk9 nx1
          · refine thnF (T1.item (X.blk s3 H3 scope ce fp) rfl rfl rfl hc j _ s12 (wipe σ8 vs1) H12 (fun _ _ => False) I12 (fst1 n12) st12 go1) fun r s13 ⟨u1, hr, h13⟩ => ?_
            subst hr
            refine thnF h13 fun _ s14 ⟨x1, H14, I14, r14, y14, st14, n14⟩ => ?_
            have I14' := I14.pinned (fst1 n14) (T1.obj _ _ st14)
            refine thnF (gg1.run _ s14 (wipe σ8 vs1) H14 x1 u1 _ I14' r14 (step1 x1 H14 y14)) fun _ s15 ⟨σ15, H15, I15, hw15, q15⟩ => ?_
            refine thnF (gt1.run _ s15 σ15 H15 _ I15 q15) fun b1 s16 ⟨H16, I16, q16⟩ => ?_
            have fin1 : ∀ {s' : Shared} {H' : Hp}, Inv (X.blk s3 H3 scope ce fp) (([] ++ pinsAt fp s7.heap) ++ pinsAt fp1 s14.heap) σ15 H' s' → Nx1 H' → ∃ m, m < k ∧ ∃ j H', Inv (X.blk s3 H3 scope ce fp) ([] ++ pinsAt fp s7.heap) (wipe σ8 vs1) H' s' ∧ tn1 j s'.heap ∧ (∀ b ∈ fp1, H' b = none) ∧ W1 j m H' := fun {s' H'} I' nx => by
              obtain ⟨m', hm, w'⟩ := hNx1 H' nx
              have pin : ∀ b ∈ fp1, ∀ o, s14.heap.get? b = some o → s'.heap.get? b = some o ∧ H' b = none := fun b hb o e =>
                let z := I'.pin (b, o) (List.mem_append_right _ (List.mem_append_right _ (mem_pinsAt hb e)))
                ⟨z.1, z.2.1⟩
              refine ⟨m', hm, j + 1, H', I'.unpinned.weak (by rw [← hw15, wipe_length]) (fun j v e => by rw [← hw15] at e; exact (wipe_some e).1), T1.keep _ _ _ st14 fun b hb o e => (pin b hb o e).1, fun b hb => ?_, w'⟩
              obtain ⟨o, e, _⟩ := T1.obj _ _ st14 b hb
              exact (pin b hb o e).2
            cases b1 with
            | false =>
              simp only [Bool.false_eq_true, if_false] at q16 ⊢
              exact fin1 I16 q16
            | true =>
              simp only [if_true] at q16 ⊢
              refine thnF (ge.run _ s16 σ15 H16 _ I16 q16) fun z s17 ⟨yv, H17, I17, r17, kk, S0, n0, ey, hD17, hz17, nx⟩ => ?_
              subst ey
              exact thnF (addI_ok (X := X.blk s3 H3 scope ce fp) I17 r17 hD17 hz17 (Q := fun _ H' => Nx1 H') nx) fun _ s18 ⟨_, H18, I18, _, nx'⟩ => fin1 I18 nx'
        exact sStart1 loop1 (T1.self X.A 0 _ _ _ st11 loop1)
  exact PpSet.codeAny_compStart_set loop (T.self X.A 0 _ _ _ st4 loop)
/-- the values of two clauses -/
def lc2Go (vs vs1 : List Nat) (g : It → S → Option S) (ft : S → Res Bool) (fi1 : S → Res (List It)) (g1 : It → S → Option S) (ft1 : S → Res Bool) (fe : S → Res It) : List It → S → Res (List It)
  | [], s => .ok [] s
  | x :: xs, s => match g x s with
    | none => .bad
    | some s1 => match ft s1 with
      | .ok true s2 => match fi1 s2 with
        | .ok ys s3 => match lcGo vs1 g1 ft1 fe ys (wipeS s3 vs1) with
          | .ok zs s4 => match lc2Go vs vs1 g ft fi1 g1 ft1 fe xs (wipeS s4 vs) with
            | .ok ws s5 => .ok (zs ++ ws) s5
            | _ => .bad
          | _ => .bad
        | _ => .bad
      | .ok false s2 => lc2Go vs vs1 g ft fi1 g1 ft1 fe xs (wipeS s2 vs)
      | _ => .bad
def lc2M (vs vs1 : List Nat) (fi : S → Res (List It)) (g : It → S → Option S) (ft : S → Res Bool) (fi1 : S → Res (List It)) (g1 : It → S → Option S) (ft1 : S → Res Bool) (fe : S → Res It) : S → Res It := fun s => bindK .exc .bad (fi s) fun xs s1 => match lc2Go vs vs1 g ft fi1 g1 ft1 fe xs (wipeS s1 vs) with
  | .ok ys s2 => .ok (min B (minDep ys + 1), .lst (ys.map (·.2))) (restore s2 s1 vs)
  | _ => .bad
theorem wipe_sub (σ : L2.St) (vs vs1 : List Nat) (h : ∀ i ∈ vs1, i ∈ vs) : wipe (wipe σ vs1) vs = wipe σ vs := by
  have len : ∀ (σ : L2.St) (l : List Nat), (wipe σ l).length = σ.length := fun σ l => wipe_length σ l
  apply List.ext_getElem?
  intro j
  by_cases hj : j ∈ vs
  · have e : ∀ (τ : L2.St), (wipe τ vs)[j]? = if j < τ.length then some none else none := fun τ => by
      cases q : (wipe τ vs)[j]? with
      | none =>
        have := List.getElem?_eq_none_iff.mp q
        rw [len] at this
        rw [if_neg (by omega)]
      | some o =>
        have lt := (List.getElem?_eq_some_iff.mp q).1
        rw [len] at lt
        rw [if_pos lt]
        cases o with
        | none => rfl
        | some w => exact absurd hj (wipe_some q).2
    rw [e, e, len]
  · rw [L2.wipe_out hj, L2.wipe_out hj, L2.wipe_out fun z => hj (h j z)]
theorem allO_app {ds es : List D} {ns : List Int} (h : allO intO (ds ++ es) = some ns) : ∃ as bs, ns = as ++ bs ∧ allO intO ds = some as ∧ allO intO es = some bs := by
  induction ds generalizing ns with
  | nil => exact ⟨[], ns, rfl, rfl, h⟩
  | cons d ds ih =>
    rw [List.cons_append] at h
    unfold allO at h
    split at h
    · rename_i a l e1 e2
      cases h
      obtain ⟨as, bs, rfl, h1, h2⟩ := ih e2
      refine ⟨a :: as, bs, rfl, ?_, h2⟩
      unfold allO
      rw [e1, h1]
    · cases h
theorem sc2_run {w : World} {vs vs1 tgs tgs1 : List Nat} {g g1 : It → S → Option S} {ft ft1 : S → Res Bool} {fi1 : S → Res (List It)} {fe : S → Res It} {J : L2.It} {xs YS : List It} {NS : List Int} {kp : List Fr} {s1 S2 : S} {H1 : Hp} {Q2 : VK} (hw : okOwn C.n C.L vs = true) (hw1 : okOwn C.n C.L vs1 = true) (hv : ∀ i ∈ vs1, i ∈ vs) (htg : tgs.all (fun i => vs.contains i) = true) (htg1 : tgs1.all (fun i => vs1.contains i) = true)
    (ok1 : ItOk C.toGt J xs kp) (r1 : R C σ s1 (kp ++ fr) H1) (et : lc2Go vs vs1 g ft fi1 g1 ft1 fe xs (wipeS s1 vs) = .ok YS S2) (en : allO intO (YS.map (·.2)) = some NS) (hl : NS.length < 4000)
    (q1 : ∀ D0 H', H' D0 = some (SetO w D0 (fun j => decide (j ∈ NS)) (dd NS).length) → R C σ (restore S2 s1 vs) (kp ++ fr) H' → Q2 (.ref D0) H') : ∀ D0, H1 D0 = none → ∃ W : Nat → Nat → Hp → Prop, (∃ m, W 0 m (upd H1 D0 (SetO w D0 (fun _ => false) 0))) ∧ ∀ i m H, W i m H →
    (J.stop i H ∧ Q2 (.ref D0) H) ∨ (J.go i H ∧ ∃ Nx : Hp → Prop, (∀ H', Nx H' → ∃ m', m' < m ∧ W (i + 1) m' H') ∧ ∀ x H', J.yld i H x H' → tG C.nox tgs g x (wipe σ vs) H' fun σ2 H2 => wipe σ2 vs = wipe σ vs ∧ tT C.nox ft σ2 H2 fun b H3 =>
      if b = true then tI C.nox fi1 σ2 H3 fun J1 H4 => ∃ W1 : Nat → Nat → Hp → Prop, (∃ m, W1 0 m H4) ∧ ∀ j k H, W1 j k H →
        (J1.stop j H ∧ Nx H) ∨ (J1.go j H ∧ ∃ Nx1 : Hp → Prop, (∀ H', Nx1 H' → ∃ k', k' < k ∧ W1 (j + 1) k' H') ∧ ∀ x H', J1.yld j H x H' → tG C.nox tgs1 g1 x (wipe σ2 vs1) H' fun σ3 H5 => wipe σ3 vs1 = wipe σ2 vs1 ∧ tT C.nox ft1 σ3 H5 fun b H6 =>
          if b = true then tE C.nox fe σ3 H6 fun y H7 => ∃ (k : Int) (S : Int → Bool) (n : Nat), y = .int k ∧ H7 D0 = some (SetO w D0 S n) ∧ n + 1 < scanBound ∧ Nx1 (upd H7 D0 (SetO w D0 (fun j => S j || decide (j = k)) (if S k = true then n else n + 1))) else Nx1 H6)
      else Nx H3) := by
  intro D0 hD
  obtain ⟨st, rb, back⟩ := R.block hw r1
  let φ : List Int → Heap → Prop := fun acc h => SetR w h D0 (fun j => decide (j ∈ acc)) (dd acc).length
  have φe : ∀ acc, HO.ext (φ acc) = SetO w D0 (fun j => decide (j ∈ acc)) (dd acc).length := fun _ => rfl
  let Pv : Nat → Hp → Prop := fun i H => ∃ (acc zs : List Int) (ys : List It) (si : S), acc ++ zs = NS ∧ allO intO (ys.map (·.2)) = some zs ∧ lc2Go vs vs1 g ft fi1 g1 ft1 fe (xs.drop i) si = .ok ys S2 ∧ R C (wipe σ vs) si (.raw D0 (φ acc) :: (st ++ (kp ++ fr))) H
  have P0 : Pv 0 (upd H1 D0 (SetO w D0 (fun _ => false) 0)) := by
    refine ⟨[], NS, YS, wipeS s1 vs, rfl, en, et, ?_⟩
    have e0 : SetO w D0 (fun _ => false) 0 = HO.ext (φ []) := by
      rw [φe]
      simp [dd]
    rw [e0]
    exact rb.reframe (fr' := .raw D0 (φ []) :: (st ++ (kp ++ fr))) (fun l rl => Rl.newRaw rl hD) fun f hf => by
      rcases List.mem_cons.mp hf with e | hf
      · subst e; exact trivial
      · exact rb.sz f (List.mem_append_left _ hf)
  have kfront : ∀ {x : Fr}, (x :: (st ++ (kp ++ fr))).Perm (kp ++ (x :: (st ++ fr))) := fun {x} =>
    ((List.perm_append_comm_assoc st kp fr).cons _).trans List.perm_middle.symm
  refine ⟨fun i m H => m = xs.length - i ∧ i ≤ xs.length ∧ Pv i H, ⟨_, rfl, Nat.zero_le _, P0⟩, ?_⟩
  rintro i m H ⟨rfl, hle, acc, zs, ys, si, eacc, ezs, ego, ri⟩
  have rk := ri.perm kfront
  have rkl : Rl C.toGt (kp ++ ((Fr.raw D0 (φ acc) :: (st ++ fr)) ++ slF (wipe σ vs) si)) H := by
    rw [← List.append_assoc]
    exact rk.rl
  by_cases hlt : i < xs.length
  · have hx : xs[i]? = some xs[i] := List.getElem?_eq_getElem hlt
    obtain ⟨go, yl⟩ := ok1.go _ H i _ rkl hx
    refine .inr ⟨go, Pv (i + 1), fun H' p' => ⟨_, by omega, rfl, hlt, p'⟩, fun v H' y => ?_⟩
    have ry : R C (wipe σ vs) si (.it v (xs[i]).1 (xs[i]).2 :: (.raw D0 (φ acc) :: (st ++ (kp ++ fr)))) H' := by
      refine ⟨rk.sl, ?_, fun f hf => ?_, rk.pn, rk.ln⟩
      · refine Rl.perm (List.Perm.cons _ ?_) (yl v H' y)
        rw [← List.append_assoc]
        exact kfront.symm.append_right _
      · rcases List.mem_cons.mp hf with e | hf
        · subst e; exact ok1.sz _ (List.getElem_mem hlt)
        · exact ri.sz f hf
    rw [List.drop_eq_getElem_cons hlt] at ego
    unfold lc2Go at ego
    split at ego
    · cases ego
    · rename_i s2 eg
      refine ⟨si, _, xs[i], s2, ry.nox, eg, fun σ2 hw2 r2 => ?_⟩
      have wv : wipe σ2 vs = wipe (wipe σ vs) vs := hw2 vs fun j hj => by
        have := List.all_eq_true.mp htg j hj
        simpa using this
      have wv' : wipe σ2 vs = wipe σ vs := wv.trans (wipe_twice σ vs)
      refine ⟨wv', s2, _, r2, ?_⟩
      cases eft : ft s2 with
      | bad => rw [eft] at ego; cases ego
      | exc c fs s1 => rw [eft] at ego; cases ego
      | ok bt s3 =>
        rw [eft] at ego
        cases bt with
        | false =>
          intro H2 r3
          rw [if_neg Bool.false_ne_true]
          have r4 := R.wiped hw r3.yox
          rw [wv'] at r4
          exact ⟨acc, zs, ys, _, eacc, ezs, ego, r4⟩
        | true =>
          intro H2 r3
          rw [if_pos rfl]
          refine ⟨s3, _, r3, ?_⟩
          dsimp only at ego
          cases ei : fi1 s3 with
          | bad => rw [ei] at ego; cases ego
          | exc c fs s1 => rw [ei] at ego; cases ego
          | ok YI s4 =>
            rw [ei] at ego
            dsimp only at ego
            intro J1 kp1 H4 okI r4
            cases einn : lcGo vs1 g1 ft1 fe YI (wipeS s4 vs1) with
            | bad => rw [einn] at ego; cases ego
            | exc c fs s1 => rw [einn] at ego; cases ego
            | ok ZI S4 =>
              rw [einn] at ego
              dsimp only at ego
              cases erest : lc2Go vs vs1 g ft fi1 g1 ft1 fe (xs.drop (i + 1)) (wipeS S4 vs) with
              | bad => rw [erest] at ego; cases ego
              | exc c fs s1 => rw [erest] at ego; cases ego
              | ok WS S5 =>
                rw [erest] at ego
                cases ego
                rw [List.map_append] at ezs
                obtain ⟨ai, bi, rfl, ea, eb⟩ := allO_app ezs
                -- the inner loop
                let P1 : Nat → Hp → Prop := fun j H => ∃ (ac zi : List Int) (yi : List It) (sj : S), acc ++ ai = ac ++ zi ∧ allO intO (yi.map (·.2)) = some zi ∧ lcGo vs1 g1 ft1 fe (YI.drop j) sj = .ok yi S4 ∧ R C (wipe σ2 vs1) sj (.raw D0 (φ ac) :: (kp1 ++ (st ++ (kp ++ fr)))) H
                have r5 := R.wiped hw1 r4.yox
                refine ⟨fun j k H => k = YI.length - j ∧ j ≤ YI.length ∧ P1 j H, ⟨_, rfl, Nat.zero_le _, acc, ai, ZI, _, rfl, ea, einn, r5.perm List.perm_middle⟩, ?_⟩
                rintro j k H5 ⟨rfl, hlj, ac, zi, yi, sj, eac, ezi, egj, rj⟩
                have rjp := rj.perm (fr' := kp1 ++ (Fr.raw D0 (φ ac) :: (st ++ (kp ++ fr)))) List.perm_middle.symm
                have rjl : Rl C.toGt (kp1 ++ ((Fr.raw D0 (φ ac) :: (st ++ (kp ++ fr))) ++ slF (wipe σ2 vs1) sj)) H5 := by
                  rw [← List.append_assoc]
                  exact rjp.rl
                by_cases hjt : j < YI.length
                · have hy : YI[j]? = some YI[j] := List.getElem?_eq_getElem hjt
                  obtain ⟨goj, ylj⟩ := okI.go _ H5 j _ rjl hy
                  refine .inr ⟨goj, P1 (j + 1), fun H' p' => ⟨_, by omega, rfl, hjt, p'⟩, fun v1 H6 y1 => ?_⟩
                  have rv : R C (wipe σ2 vs1) sj (.it v1 (YI[j]).1 (YI[j]).2 :: (.raw D0 (φ ac) :: (kp1 ++ (st ++ (kp ++ fr))))) H6 := by
                    refine ⟨rj.sl, ?_, fun f hf => ?_, rj.pn, rj.ln⟩
                    · refine Rl.perm (List.Perm.cons _ ?_) (ylj v1 H6 y1)
                      rw [← List.append_assoc]
                      exact List.perm_middle.append_right _
                    · rcases List.mem_cons.mp hf with e | hf
                      · subst e; exact okI.sz _ (List.getElem_mem hjt)
                      · exact rj.sz f hf
                  rw [List.drop_eq_getElem_cons hjt] at egj
                  unfold lcGo at egj
                  split at egj
                  · cases egj
                  · rename_i t2 egg
                    refine ⟨sj, _, YI[j], t2, rv.nox, egg, fun σ3 hw3 q3 => ?_⟩
                    have xv : wipe σ3 vs1 = wipe (wipe σ2 vs1) vs1 := hw3 vs1 fun a ha => by
                      have := List.all_eq_true.mp htg1 a ha
                      simpa using this
                    have xv' : wipe σ3 vs1 = wipe σ2 vs1 := xv.trans (wipe_twice σ2 vs1)
                    refine ⟨xv', t2, _, q3, ?_⟩
                    cases eft1 : ft1 t2 with
                    | bad => rw [eft1] at egj; cases egj
                    | exc c fs s1 => rw [eft1] at egj; cases egj
                    | ok bt1 t3 =>
                      rw [eft1] at egj
                      cases bt1 with
                      | false =>
                        intro H7 q4
                        rw [if_neg Bool.false_ne_true]
                        have q5 := R.wiped hw1 q4.yox
                        rw [xv'] at q5
                        exact ⟨ac, zi, yi, _, eac, ezi, egj, q5⟩
                      | true =>
                        intro H7 q4
                        rw [if_pos rfl]
                        refine ⟨t3, _, q4, ?_⟩
                        dsimp only at egj
                        cases efe : fe t3 with
                        | bad => rw [efe] at egj; cases egj
                        | exc c fs s1 => rw [efe] at egj; cases egj
                        | ok y t4 =>
                          rw [efe] at egj
                          dsimp only at egj
                          intro w' H8 q5
                          cases er1 : lcGo vs1 g1 ft1 fe (YI.drop (j + 1)) (wipeS t4 vs1) with
                          | bad => rw [er1] at egj; cases egj
                          | exc c fs s1 => rw [er1] at egj; cases egj
                          | ok yi' t5 =>
                            rw [er1] at egj
                            cases egj
                            have q6 := R.wiped hw1 q5.yox
                            rw [xv'] at q6
                            obtain ⟨m, d⟩ := y
                            rw [List.map_cons] at ezi
                            unfold allO at ezi
                            split at ezi
                            · rename_i k zi' e1 e2
                              cases ezi
                              cases d <;> cases e1
                              have ev : w' = .int k := q6.see
                              subst ev
                              have q7 := q6.tail
                              have hat : H8 D0 = some (SetO w D0 (fun j => decide (j ∈ ac)) (dd ac).length) := Rl.rawAt q7.rl
                              have hdl := dd_len ac
                              have hal : ac.length ≤ NS.length := by
                                rw [← eacc, ← List.append_assoc, eac]
                                simp only [List.length_append]
                                omega
                              refine ⟨k, _, _, rfl, hat, by unfold scanBound; omega, ac ++ [k], zi', yi', _, by rw [eac, List.append_assoc]; rfl, e2, er1, ?_⟩
                              have e0 : SetO w D0 (fun j => decide (j ∈ ac) || decide (j = k)) (if decide (k ∈ ac) = true then (dd ac).length else (dd ac).length + 1) = HO.ext (φ (ac ++ [k])) := by
                                rw [φe, dd_snoc]
                                congr 1
                                funext j
                                simp
                              rw [e0]
                              exact R.reframe (fr := .raw D0 (φ ac) :: (kp1 ++ (st ++ (kp ++ fr)))) q7 (fun l rl => Rl.rawPut rl) fun f hf => by
                                rcases List.mem_cons.mp hf with e | hf
                                · subst e; exact trivial
                                · exact q7.sz f (List.mem_append_left _ (List.mem_cons_of_mem _ hf))
                            · cases ezi
                · have e : j = YI.length := by omega
                  subst e
                  refine .inl ⟨okI.stop _ H5 rjl, ?_⟩
                  rw [List.drop_length] at egj
                  unfold lcGo at egj
                  cases egj
                  cases ezi
                  rw [List.append_nil] at eac
                  subst eac
                  have q6 : R C (wipe σ2 vs1) S4 (.raw D0 (φ (acc ++ ai)) :: (st ++ (kp ++ fr))) H5 := rj.drop ((List.sublist_append_right _ _).cons_cons _)
                  have q7 := R.wiped hw q6
                  rw [wipe_sub σ2 vs vs1 hv, wv'] at q7
                  exact ⟨acc ++ ai, bi, WS, _, by rw [← eacc, List.append_assoc], eb, erest, q7⟩
  · have e : i = xs.length := by omega
    subst e
    refine .inl ⟨ok1.stop _ H rkl, ?_⟩
    rw [List.drop_length] at ego
    unfold lc2Go at ego
    cases ego
    cases ezs
    rw [List.append_nil] at eacc
    subst eacc
    exact q1 D0 H (Rl.rawAt ri.rl) (back ri.tail)
section
variable {elt tg iter tg1 iter1 : Expr} {ifs ifs1 : List Expr} {scope : Scope} {own : List (Str × Nat)} {tgs tgs1 vs1 : List Nat} {fi fi1 : S → Res (List It)} {g g1 : It → S → Option S} {ft ft1 : S → Res Bool} {fe : S → Res It} {p1 p2 : Pos}
/-- sorted({elt for target in iter if .. for target1 in iter1 if ..}) -/
theorem pm_sortC2 (hg0 : Gl X "sorted") (hm0 : X.mg "sorted" = none) (hc : X.calm = true) (hN : X.N.Nodup) (hi : PI X tg iter (tI C fi)) (ok : BlkOk X.N X.env.scope scope own)
    (hg : ∀ (s : Shared) (H : Hp) (D : Addr) (cl : List (Str × Addr)) (fp : List Addr), PG (X.blk s H scope (compEnvC scope cl D X.env) fp) tg (tG C.nox tgs g)) (ht : ∀ (s : Shared) (H : Hp) (D : Addr) (cl : List (Str × Addr)) (fp : List Addr), PTs (X.blk s H scope (compEnvC scope cl D X.env) fp) ifs (tT C.nox ft))
    (hi1 : ∀ (s : Shared) (H : Hp) (D : Addr) (cl : List (Str × Addr)) (fp : List Addr), PI (X.blk s H scope (compEnvC scope cl D X.env) fp) tg1 iter1 (tI C.nox fi1))
    (hg1 : ∀ (s : Shared) (H : Hp) (D : Addr) (cl : List (Str × Addr)) (fp : List Addr), PG (X.blk s H scope (compEnvC scope cl D X.env) fp) tg1 (tG C.nox tgs1 g1)) (ht1 : ∀ (s : Shared) (H : Hp) (D : Addr) (cl : List (Str × Addr)) (fp : List Addr), PTs (X.blk s H scope (compEnvC scope cl D X.env) fp) ifs1 (tT C.nox ft1))
    (he : ∀ (s : Shared) (H : Hp) (D : Addr) (cl : List (Str × Addr)) (fp : List Addr), PE (X.blk s H scope (compEnvC scope cl D X.env) fp) elt (tE C.nox fe)) (hw : okOwn C.n C.L (own.map (·.2)) = true) (hw1 : okOwn C.n C.L vs1 = true) (hv : vs1.all (fun i => (own.map (·.2)).contains i) = true) (htg : tgs.all (fun i => (own.map (·.2)).contains i) = true) (htg1 : tgs1.all (fun i => vs1.contains i) = true)
    (hs : ∀ x, foldedSetIterable iter X.env x = pure x := by intro _; rfl) (hs1 : ∀ env x, foldedSetIterable iter1 env x = pure x := by intro _ _; rfl)
    (h1 : starEach [.SetComp elt [⟨tg, iter, ifs, 0⟩, ⟨tg1, iter1, ifs1, 0⟩] scope p2] X.env = (false, eval (.SetComp elt [⟨tg, iter, ifs, 0⟩, ⟨tg1, iter1, ifs1, 0⟩] scope p2) X.env) :: starEach [] X.env := by rfl) :
    PE X (.Call (.Name "sorted" p1) [.SetComp elt [⟨tg, iter, ifs, 0⟩, ⟨tg1, iter1, ifs1, 0⟩] scope p2] [] pos) (tE C (srtM intsL (lc2M (own.map (·.2)) vs1 fi g ft fi1 g1 ft1 fe))) :=
  have hv' : ∀ i ∈ vs1, i ∈ own.map (·.2) := fun i hi => by
    have := List.all_eq_true.mp hv i hi
    simpa using this
  PE.imp (pe_callB (cr_sortedSet hc) hg0 hm0 PyProof.Rows.boot_sorted (pa_cons (pe_sc2I hc hN hi ok hv' hg ht hi1 hg1 ht1 he hs hs1) pa_nil h1) (by decide) (by decide) h1 rfl) fun σ H Q ⟨s, fr, r, q⟩ => by
    have q : postE C σ fr (bindK .exc .bad (bindK .exc .bad (fi s) fun xs s1 => match lc2Go (own.map (·.2)) vs1 g ft fi1 g1 ft1 fe xs (wipeS s1 (own.map (·.2))) with
        | .ok ys s2 => .ok (min B (minDep ys + 1), .lst (ys.map (·.2))) (restore s2 s1 (own.map (·.2)))
        | _ => .bad) fun x s1 => match intsL x.2 with
        | some ns => if decide (ns.length < 4000) && decide ((dd ns).length < 64) then .ok (B, .lst ((dd ns).map .int)) s1 else .bad
        | none => .bad) Q := q
    refine ⟨s, fr, r, ?_⟩
    cases ef : fi s with
    | bad => rw [ef] at q; exact q.elim
    | exc c fs s1 => rw [ef] at q; exact q
    | ok xs s1 =>
      rw [ef] at q
      have q1 : postE C σ fr (bindK .exc .bad (match lc2Go (own.map (·.2)) vs1 g ft fi1 g1 ft1 fe xs (wipeS s1 (own.map (·.2))) with
        | .ok ys s2 => .ok (min B (minDep ys + 1), .lst (ys.map (·.2))) (restore s2 s1 (own.map (·.2)))
        | _ => .bad) fun x s1 => match intsL x.2 with
        | some ns => if decide (ns.length < 4000) && decide ((dd ns).length < 64) then .ok (B, .lst ((dd ns).map .int)) s1 else .bad
        | none => .bad) Q := q
      cases et : lc2Go (own.map (·.2)) vs1 g ft fi1 g1 ft1 fe xs (wipeS s1 (own.map (·.2))) with
      | bad => rw [et] at q1; exact q1.elim
      | exc c fs s1 => rw [et] at q1; exact q1.elim
      | ok YS S2 =>
        rw [et] at q1
        have q2 : postE C σ fr (match allO intO (YS.map (·.2)) with
          | some ns => if decide (ns.length < 4000) && decide ((dd ns).length < 64) then .ok (B, .lst ((dd ns).map .int)) (restore S2 s1 (own.map (·.2))) else .bad
          | none => .bad) Q := q1
        cases en : allO intO (YS.map (·.2)) with
        | none => rw [en] at q2; exact q2.elim
        | some NS =>
          rw [en] at q2
          dsimp only at q2
          split at q2
          · rename_i cnd
            obtain ⟨c1, c2⟩ := bool_and cnd
            exact fun J kp H1 ok1 r1 => sc2_run (Q2 := fun v H' => rSortedSet X.w [v] H' Q) hw hw1 hv' htg htg1 ok1 r1 et en (of_decide_eq_true c1) fun D0 H' hD r2 => sort_end hD (of_decide_eq_true c2) r2 fun v H2 r3 => q2 v H2 (r3.drop ((List.sublist_append_right _ _).cons_cons _))
          · exact q2.elim
end
end
end Pv
namespace Pv
open PySem PySem.Spec PyProof.Rows L2
/-! Pv5: dict comprehensions, a dict's values walked, two items stored at once -/
section
variable {C : Cn} {X : Cx} {tg e a b c : Expr} {es : List Expr} {pos p tpos apos cpos : Pos} {l : List Fr} {H : Hp} {σ : L2.St} {s s' : S} {fr : List Fr} {G : Gt}
/-! ### values walked -/
def iValsL (td : TE) : TI := fun σ H R => td σ H fun x H1 => ∃ d kvs, x = .ref d ∧ Rd H1 d (.dK kvs) ∧ ∀ o H2, LockTo H1 d o (.dK kvs) H2 → R (Itd d o kvs) H2
theorem pi_valsL {td : TE} (he : PE X e td) (hbase : attributeBase e "values" X.env (eval e X.env) = eval e X.env := by rfl) (hline : (apos.endLine == cpos.line) = true := by rfl) : PI X tg (.Call (.Attribute e "values" apos) [] [] cpos) (iValsL td) := by
  refine ⟨fun pins s σ H R I h => ?_⟩
  refine wpAny_Call_method (T := "dict") (id := "dict.values") hbase rfl hline F.plainAttrs_dict F.slot_dict_values F.type_dict_values (thn (he.run pins s σ H _ I h) fun u s1 ⟨x, H1, I1, rx, d, kvs, ex, rd, q⟩ => ?_)
  subst ex
  obtain rfl : u = Value.ref d := rx
  obtain ⟨o, H2, I2, hd, lt⟩ : ∃ o H2, Inv X pins σ H2 s1 ∧ H2 d = some (.frz o (.dK kvs)) ∧ LockTo H1 d o (.dK kvs) H2 := by
    rcases rd with r | ⟨o, r⟩
    · obtain ⟨o, I2⟩ := I1.lock r (show Mut (some (.dK kvs)) from trivial)
      exact ⟨o, _, I2, upd_same, .inr ⟨r, rfl⟩⟩
    · exact ⟨o, H1, I1, r, .inl ⟨r, rfl⟩⟩
  obtain ⟨hs, hgd, hx, es, ep, vs, hdt, hsz, kv, hm⟩ := I2.frzK hd
  have hl : kvs.length = vs.length := Paired.length kv
  refine ⟨hm.dictOf.typeIs, hm.dictOf.mapOf.noDict, ?_⟩
  have I3 : Inv X pins σ H2 { s1 with heap := s1.heap.push { cls := .type "dict_values", data := .fields #[.ref d] } } := I2.kept (t' := s1.toks) fun b ob q => Heap.get?_push_of_some _ q
  have fin : wpAny (model X.prog X.w) X.A (pyIter (.ref s1.heap.objs.size)) (PIE X pins σ tg R) X.xe { s1 with heap := s1.heap.push { cls := .type "dict_values", data := .fields #[.ref d] } } := by
    refine wpAny_pyIter_values (d := d) (knd := mixKind X.prog X.w) ⟨_, Heap.get?_push_size _ rfl, rfl, rfl⟩ (hm.push _) (pi_one (tk := s1.toks) I3 _ (turn_vals _ hdt) ⟨_, Heap.get?_push_size _ rfl, rfl, ?_⟩ (q o H2 lt))
    rw [hl] <;> rfl
  show wpAny _ _ (callWith cpos (.builtin "dict.values") [.ref d] [] []) _ X.xe s1
  exact method_meetsIn F.slot_dict_values F.entry_dict_values rfl (PySem.evalArgs_none ⟨rfl, hm.dictOf.typeIs, F.args_dict_values_1 _, _, meets_dict_values (mixKind X.prog X.w) d hs, ⟨vs, hm.dictOf⟩, fin⟩)
theorem itOk_vals {kvs : List (Key × V)} {ds : List D} {q : Addr} {o : Obj} (z : szL ds) (zl : ds.length ≤ sizeLine) (im : isImmL ds = true) : ItOk G (Itd q o kvs) (ds.map fun d => (B, d)) [.lock q o (.dK kvs), .it (.ref q) 0 (.dct false (kvs.map fun p => kD p.1) ds)] := by
  have see : ∀ {l : List Fr} {H : Hp}, Rl G ([.lock q o (.dK kvs), .it (.ref q) 0 (.dct false (kvs.map fun p => kD p.1) ds)] ++ l) H → H q = some (.frz o (.dK kvs)) ∧ SeeL G H ds (kvs.map (·.2)) := fun {l H} r => by
    have hl := Rl.lockAt r
    obtain ⟨p, vs, o', e', dO, rd, sl⟩ := Rl.see (Rl.tail r)
    cases e'
    have ho : o' = .dK kvs := by
      rcases rd with rd | ⟨_, rd⟩
      · rw [hl] at rd
        have n1 := dO.nfz
        cases rd
        exact n1.elim
      · rw [hl] at rd
        cases rd
        rfl
    subst ho
    rcases dO with ⟨_, kvs', eo, _, ev⟩ | ⟨et, _⟩
    · cases eo
      exact ⟨hl, ev ▸ sl⟩
    · cases et
  refine ⟨fun l H i x r e => ?_, fun l H r => ?_, fun x hx => ?_, by rw [List.length_map]; exact zl⟩
  · rw [List.getElem?_map] at e
    cases hd : ds[i]? with
    | none => rw [hd] at e; cases e
    | some d =>
      rw [hd] at e
      cases e
      obtain ⟨h1, h2⟩ := see r
      obtain ⟨w, hw, sw⟩ := SeeL.get h2 hd
      have hw' : (kvs[i]?).map (·.2) = some w := by rw [← List.getElem?_map]; exact hw
      refine ⟨⟨h1, ?_⟩, fun v H' y => ?_⟩
      · cases hk : kvs[i]? with
        | none => rw [hk] at hw'; cases hw'
        | some _ => exact (List.getElem?_eq_some_iff.mp hk).1
      · obtain ⟨rfl, k, hk⟩ := y
        rw [hk] at hw'
        cases hw'
        exact Rl.imm (isImmL_mem.mp im d (List.mem_of_getElem? hd)) sw r
  · obtain ⟨h1, h2⟩ := see r
    refine ⟨h1, ?_⟩
    have := h2.length
    rw [List.length_map] at this
    rw [List.length_map]
    omega
  · obtain ⟨d, hd, rfl⟩ := List.mem_map.mp hx
    exact szL_mem.mp z d hd
/-- a dict's values -/
def vsM (f : S → Res It) : S → Res (List It) := fun s => bindK .exc .bad (f s) fun x s1 => match x.2 with
  | .dct false _ ds => if isImmL ds then .ok (ds.map fun d => (B, d)) s1 else .bad
  | _ => .bad
theorem pi_vs {f : S → Res It} (h : PE X e (tE C f)) (hbase : attributeBase e "values" X.env (eval e X.env) = eval e X.env := by rfl) (hline : (apos.endLine == cpos.line) = true := by rfl) : PI X tg (.Call (.Attribute e "values" apos) [] [] cpos) (tI C (vsM f)) := PI.imp (pi_valsL h hbase hline) fun σ H Q ⟨s, fr, r, q⟩ => by
  refine tE_K P_I r q fun x s1 v H1 r1 h1 => ?_
  obtain ⟨n, d⟩ := x
  cases d with
  | dct t ks ds =>
    cases t with
    | true => exact h1.elim
    | false =>
      have q' : postI C σ fr (if isImmL ds then .ok (ds.map fun d => (B, d)) s1 else .bad) Q := h1
      split at q'
      · rename_i im
        have r0 := r1.lower (Nat.zero_le _)
        obtain ⟨p, vs, o, rfl, dO, rd, sl⟩ := r0.see
        rcases dO with ⟨_, kvs, rfl, rfl, rfl⟩ | ⟨et, _⟩
        · refine ⟨p, kvs, rfl, rd, fun od H2 lt => ?_⟩
          refine q' _ [.lock p od (.dK kvs), .it (.ref p) 0 (.dct false (kvs.map fun p => kD p.1) ds)] H2 (itOk_vals r0.szd.2.2.1 r0.szd.1 im) ?_
          refine ⟨r0.sl, ?_, fun f hf => ?_, r0.pn, r0.ln⟩
          · exact Rl.lockTo (vs := kvs.map (·.2)) (.inl ⟨rfl, kvs, rfl, rfl, rfl⟩) lt r0.rl
          · rcases List.mem_cons.mp hf with e | hf
            · subst e; trivial
            · exact r0.sz f hf
        · cases et
      · exact q'.elim
  | _ => exact h1.elim
/-! ### dict comprehensions, keys ints or texts -/
def dcGo (vs : List Nat) (g : It → S → Option S) (ft : S → Res Bool) (fk fe : S → Res It) : List It → (Nat × List D × List D) → S → Res (Nat × List D × List D)
  | [], a, s => .ok a s
  | x :: xs, a, s => match g x s with
    | none => .bad
    | some s1 => match ft s1 with
      | .ok true s2 => match fk s2 with
        | .ok k s3 => match fe s3 with
          | .ok y s4 => if okKey false k.2 && decide (a.2.2.length < sizeLine) then dcGo vs g ft fk fe xs (min a.1 y.1, putKk a.2.1 k.2, putKv a.2.1 a.2.2 k.2 y.2) (wipeS s4 vs) else .bad
          | _ => .bad
        | _ => .bad
      | .ok false s2 => dcGo vs g ft fk fe xs a (wipeS s2 vs)
      | _ => .bad
def dcM (vs : List Nat) (fi : S → Res (List It)) (g : It → S → Option S) (ft : S → Res Bool) (fk fe : S → Res It) : S → Res It := fun s => bindK .exc .bad (fi s) fun xs s1 => match dcGo vs g ft fk fe xs (B, [], []) (wipeS s1 vs) with
  | .ok a s2 => .ok (min B (a.1 + 1), .dct false a.2.1 a.2.2) (restore s2 s1 vs)
  | _ => .bad
theorem DO.putD {ks : List D} {kvs : List (Key × V)} (ek : ks = kvs.map fun p => kD p.1) (nd : ks.Nodup) (k' : Key) (v : V) : DO false (putKk ks (kD k')) (match idxK ks (kD k') with | some j => (kvs.map (·.2)).set j v | none => kvs.map (·.2) ++ [v]) (.dK (putK kvs k' v)) := by
  subst ek
  have nd' : (kvs.map (·.1)).Nodup := nodup_of_map kD (by rw [List.map_map]; exact nd)
  refine .inl ⟨rfl, _, rfl, ?_⟩
  obtain ⟨i1, i2⟩ := idxK_K (kvs := kvs) (k := k')
  unfold putKk
  cases q : idxK (kvs.map fun p => kD p.1) (kD k') with
  | some j =>
    obtain ⟨u, hu⟩ := i1 j q
    obtain ⟨p1, p2⟩ := putK_at (v := v) nd' hu
    refine ⟨?_, p2.symm⟩
    have : ∀ l : List (Key × V), (l.map fun p => kD p.1) = (l.map (·.1)).map kD := fun l => by rw [List.map_map]; rfl
    show (kvs.map fun p => kD p.1) = ((putK kvs k' v).map fun p => kD p.1)
    rw [this, this, p1]
  | none =>
    rw [putK_new v (i2 q)]
    refine ⟨?_, ?_⟩
    · show (kvs.map fun p => kD p.1) ++ [kD k'] = _
      rw [List.map_append]; rfl
    · show kvs.map (·.2) ++ [v] = _
      rw [List.map_append]; rfl
theorem Rl.putD {D0 : Addr} {n m : Nat} {ks ds : List D} {k' : Key} {v : V} {y : D} {l : List Fr} (nd : ks.Nodup) (r : Rl G (.it v m y :: .it (.ref D0) (n + 1) (.dct false ks ds) :: l) H) :
    ∃ kvs, H D0 = some (.dK kvs) ∧ kvs.length = ds.length ∧ Rl G (.it (.ref D0) (min n m + 1) (.dct false (putKk ks (kD k')) (putKv ks ds (kD k') y)) :: l) (upd H D0 (.dK (putK kvs k' v))) := by
  obtain ⟨p, vs, ob, e, hp, dO, hl, r1⟩ := Rl.openDct (Rl.perm (.swap _ _ _) r)
  cases e
  rcases dO with ⟨_, kvs, rfl, ek, rfl⟩ | ⟨et, _⟩
  · have r2 := Rl.lowers (Nat.min_le_left n m) r1
    have r3 := Rl.lower (Nat.min_le_right n m) (Rl.perm List.perm_middle r2)
    have hd := DO.putD ek nd k' v
    refine ⟨kvs, hp, by rw [← hl, List.length_map], ?_⟩
    unfold putKv
    cases q : idxK ks (kD k') with
    | some j =>
      rw [q] at hd
      have r4 := Rl.setAt (j := j) hl r3
      have r5 := Rl.newDct (its_len2 hl) hd r4 (del_self H D0)
      rw [upd_del] at r5
      exact r5
    | none =>
      rw [q] at hd
      have r4 : Rl G (its (min n m) (kvs.map (·.2) ++ [v]) (ds ++ [y]) ++ l) (del H D0) := by
        rw [its_app hl, List.append_assoc]
        exact Rl.perm List.perm_middle.symm r3
      have r5 := Rl.newDct (by rw [List.length_append, List.length_append, hl]; rfl) hd r4 (del_self H D0)
      rw [upd_del] at r5
      exact r5
  · cases et
theorem dc_run {vs tgs : List Nat} {g : It → S → Option S} {ft : S → Res Bool} {fk fe : S → Res It} {J : L2.It} {xs : List It} {A : Nat × List D × List D} {kp : List Fr} {s1 S2 : S} {H1 : Hp} {Q : VK} (hw : okOwn C.n C.L vs = true) (htg : tgs.all (fun i => vs.contains i) = true)
    (ok1 : ItOk C.toGt J xs kp) (r1 : R C σ s1 (kp ++ fr) H1) (et : dcGo vs g ft fk fe xs (B, [], []) (wipeS s1 vs) = .ok A S2)
    (q1 : ∀ v H', R C σ (restore S2 s1 vs) (.it v (min B (A.1 + 1)) (.dct false A.2.1 A.2.2) :: (kp ++ fr)) H' → Q v H') : ∀ D, H1 D = none → ∃ W : Nat → Nat → Hp → Prop, (∃ m, W 0 m (upd H1 D (.dK []))) ∧ ∀ i m H, W i m H →
    (J.stop i H ∧ Q (.ref D) H) ∨ (J.go i H ∧ ∃ Nx : Hp → Prop, (∀ H', Nx H' → ∃ m', m' < m ∧ W (i + 1) m' H') ∧ ∀ x H', J.yld i H x H' → tG C.nox tgs g x (wipe σ vs) H' fun σ2 H2 => wipe σ2 vs = wipe σ vs ∧ tT C.nox ft σ2 H2 fun b H3 =>
      if b = true then tE C.nox fk σ2 H3 fun y H4 => tE C.nox fe σ2 H4 fun z H5 => ∃ kvs k, y = kV k ∧ H5 D = some (.dK kvs) ∧ kvs.length < sizeLine ∧ Nx (upd H5 D (.dK (putK kvs k z))) else Nx H3) := by
  intro D0 hD
  obtain ⟨st, rb, back⟩ := R.block hw r1
  let Pv : Nat → Hp → Prop := fun i H => ∃ a si, dcGo vs g ft fk fe (xs.drop i) a si = .ok A S2 ∧ R C (wipe σ vs) si (.it (.ref D0) (a.1 + 1) (.dct false a.2.1 a.2.2) :: (st ++ (kp ++ fr))) H
  have P0 : Pv 0 (upd H1 D0 (.dK [])) := by
    refine ⟨(B, [], []), wipeS s1 vs, et, ?_⟩
    exact rb.reframe (fr' := .it (.ref D0) (B + 1) (.dct false [] []) :: (st ++ (kp ++ fr))) (fun l rl => Rl.newDct (n := B) (vs := []) (ds := []) rfl (.inl ⟨rfl, [], rfl, rfl, rfl⟩) rl hD) fun f hf => by
      rcases List.mem_cons.mp hf with e | hf
      · subst e; exact ⟨Nat.zero_le _, trivial, trivial, List.nodup_nil⟩
      · exact rb.sz f (List.mem_append_left _ hf)
  have kfront : ∀ {f : Fr}, (f :: (st ++ (kp ++ fr))).Perm (kp ++ (f :: (st ++ fr))) := fun {f} =>
    ((List.perm_append_comm_assoc st kp fr).cons _).trans List.perm_middle.symm
  refine ⟨fun i m H => m = xs.length - i ∧ i ≤ xs.length ∧ Pv i H, ⟨_, rfl, Nat.zero_le _, P0⟩, ?_⟩
  rintro i m H ⟨rfl, hle, ac, si, ego, ri⟩
  have rk := ri.perm kfront
  have rkl : Rl C.toGt (kp ++ ((Fr.it (.ref D0) (ac.1 + 1) (.dct false ac.2.1 ac.2.2) :: (st ++ fr)) ++ slF (wipe σ vs) si)) H := by
    rw [← List.append_assoc]
    exact rk.rl
  by_cases hlt : i < xs.length
  · have hx : xs[i]? = some xs[i] := List.getElem?_eq_getElem hlt
    obtain ⟨go, yl⟩ := ok1.go _ H i _ rkl hx
    refine .inr ⟨go, Pv (i + 1), fun H' p' => ⟨_, by omega, rfl, hlt, p'⟩, fun v H' y => ?_⟩
    have ry : R C (wipe σ vs) si (.it v (xs[i]).1 (xs[i]).2 :: (.it (.ref D0) (ac.1 + 1) (.dct false ac.2.1 ac.2.2) :: (st ++ (kp ++ fr)))) H' := by
      refine ⟨rk.sl, ?_, fun f hf => ?_, rk.pn, rk.ln⟩
      · refine Rl.perm (List.Perm.cons _ ?_) (yl v H' y)
        rw [← List.append_assoc]
        exact kfront.symm.append_right _
      · rcases List.mem_cons.mp hf with e | hf
        · subst e; exact ok1.sz _ (List.getElem_mem hlt)
        · exact ri.sz f hf
    rw [List.drop_eq_getElem_cons hlt] at ego
    unfold dcGo at ego
    split at ego
    · cases ego
    · rename_i s2 eg
      refine ⟨si, _, xs[i], s2, ry.nox, eg, fun σ2 hw2 r2 => ?_⟩
      have wv : wipe σ2 vs = wipe (wipe σ vs) vs := hw2 vs fun j hj => by
        have := List.all_eq_true.mp htg j hj
        simpa using this
      have wv' : wipe σ2 vs = wipe σ vs := wv.trans (wipe_twice σ vs)
      refine ⟨wv', s2, _, r2, ?_⟩
      cases eft : ft s2 with
      | bad => rw [eft] at ego; cases ego
      | exc c fs s1 => rw [eft] at ego; cases ego
      | ok bt s3 =>
        rw [eft] at ego
        cases bt with
        | false =>
          intro H2 r3
          rw [if_neg Bool.false_ne_true]
          have r4 := R.wiped hw r3.yox
          rw [wv'] at r4
          exact ⟨ac, _, ego, r4⟩
        | true =>
          intro H2 r3
          rw [if_pos rfl]
          refine ⟨s3, _, r3, ?_⟩
          dsimp only at ego
          cases efk : fk s3 with
          | bad => rw [efk] at ego; cases ego
          | exc c fs s1 => rw [efk] at ego; cases ego
          | ok k s4 =>
            rw [efk] at ego
            dsimp only at ego
            intro kv H3 r4
            refine ⟨s4, _, r4, ?_⟩
            cases efe : fe s4 with
            | bad => rw [efe] at ego; cases ego
            | exc c fs s1 => rw [efe] at ego; cases ego
            | ok y s5 =>
              rw [efe] at ego
              dsimp only at ego
              split at ego
              · rename_i cnd
                obtain ⟨c1, c2⟩ := bool_and cnd
                intro w H4 r5
                have r6 := R.wiped hw r5.yox
                rw [wv'] at r6
                obtain ⟨k', ek⟩ := Option.isSome_iff_exists.mp (show (keyO k.2).isSome = true from c1)
                have ekd := keyO_of ek
                have r7 : R C (wipe σ vs) (wipeS s5 vs) (.it kv k.1 k.2 :: .it w y.1 y.2 :: .it (.ref D0) (ac.1 + 1) (.dct false ac.2.1 ac.2.2) :: (st ++ (kp ++ fr))) H4 := r6.perm (.swap _ _ _)
                have ekv : kv = kV k' := See.key (ekd ▸ r7.see)
                have r8 := r7.tail
                have zd := r8.tail.szd
                have nd : ac.2.1.Nodup := zd.2.2.2
                obtain ⟨kvs, hp, hlen, _⟩ := Rl.putD (k' := k') nd r8.rl
                refine ⟨kvs, k', ekv, hp, by rw [hlen]; exact of_decide_eq_true c2, _, _, ego, ?_⟩
                dsimp only
                rw [ekd]
                refine R.reframe (fr := .it w y.1 y.2 :: .it (.ref D0) (ac.1 + 1) (.dct false ac.2.1 ac.2.2) :: (st ++ (kp ++ fr))) r8 (fun l rl => ?_) fun f hf => ?_
                · obtain ⟨kvs', hp', _, rl'⟩ := Rl.putD (k' := k') nd rl
                  rw [hp] at hp'
                  cases hp'
                  exact rl'
                · rcases List.mem_cons.mp hf with e | hf
                  · subst e
                    refine storeD_sz (n := ac.1) (m := y.1) (n' := min ac.1 y.1) (d := .dct false ac.2.1 ac.2.2) (i := kD k') (y := y.2) zd (by cases k' <;> trivial) r8.szd ?_
                    show (if okKey false (kD k') && decide (ac.2.2.length < sizeLine) then _ else none) = _
                    rw [if_pos (by rw [← ekd]; exact cnd)]
                  · exact r8.sz f (List.mem_append_left _ (List.mem_cons_of_mem _ (List.mem_cons_of_mem _ hf)))
              · cases ego
  · have e : i = xs.length := by omega
    subst e
    refine .inl ⟨ok1.stop _ H rkl, ?_⟩
    rw [List.drop_length] at ego
    unfold dcGo at ego
    cases ego
    have r3 : R C (wipe σ vs) S2 (st ++ (.it (.ref D0) (A.1 + 1) (.dct false A.2.1 A.2.2) :: (kp ++ fr))) H := ri.perm List.perm_middle.symm
    exact q1 _ H (R.lower (Nat.min_le_right _ _) (back r3))
theorem dcM_imp {vs tgs : List Nat} {fi : S → Res (List It)} {g : It → S → Option S} {ft : S → Res Bool} {fk fe : S → Res It} {Q : VK} (hw : okOwn C.n C.L vs = true) (htg : tgs.all (fun i => vs.contains i) = true) (q : tE C (dcM vs fi g ft fk fe) σ H Q) :
    tDc (tI C fi) (tG C.nox tgs g) (tT C.nox ft) (tE C.nox fk) (tE C.nox fe) vs σ H Q := by
  obtain ⟨s, fr, r, q⟩ := q
  have q0 : postE C σ fr (bindK .exc .bad (fi s) _) Q := q
  refine ⟨s, fr, r, ?_⟩
  cases ef : fi s with
  | bad => rw [ef] at q0; exact q0.elim
  | exc c fs s1 => rw [ef] at q0; exact q0
  | ok xs s1 =>
    rw [ef] at q0
    have q1 : postE C σ fr (match dcGo vs g ft fk fe xs (B, [], []) (wipeS s1 vs) with
      | .ok a s2 => .ok (min B (a.1 + 1), .dct false a.2.1 a.2.2) (restore s2 s1 vs)
      | _ => .bad) Q := q0
    cases et : dcGo vs g ft fk fe xs (B, [], []) (wipeS s1 vs) with
    | bad => rw [et] at q1; exact q1.elim
    | exc c fs s1 => rw [et] at q1; exact q1.elim
    | ok A S2 =>
      rw [et] at q1
      exact fun J kp H1 ok1 r1 => dc_run hw htg ok1 r1 et fun v H' r2 => q1 v H' (r2.drop ((List.sublist_append_right _ _).cons_cons _))
theorem pm_dc {kx vx iter : Expr} {ifs : List Expr} {scope : Scope} {own : List (Str × Nat)} {tgs : List Nat} {fi : S → Res (List It)} {g : It → S → Option S} {ft : S → Res Bool} {fk fe : S → Res It} (hc : X.calm = true) (hN : X.N.Nodup) (hi : PI X tg iter (tI C fi)) (ok : BlkOk X.N X.env.scope scope own)
    (hg : ∀ (s : Shared) (H : Hp) (D : Addr) (cl : List (Str × Addr)) (fp : List Addr), PG (X.blk s H scope (compEnvC scope cl D X.env) fp) tg (tG C.nox tgs g)) (ht : ∀ (s : Shared) (H : Hp) (D : Addr) (cl : List (Str × Addr)) (fp : List Addr), PTs (X.blk s H scope (compEnvC scope cl D X.env) fp) ifs (tT C.nox ft))
    (hk : ∀ (s : Shared) (H : Hp) (D : Addr) (cl : List (Str × Addr)) (fp : List Addr), PE (X.blk s H scope (compEnvC scope cl D X.env) fp) kx (tE C.nox fk)) (he : ∀ (s : Shared) (H : Hp) (D : Addr) (cl : List (Str × Addr)) (fp : List Addr), PE (X.blk s H scope (compEnvC scope cl D X.env) fp) vx (tE C.nox fe)) (hw : okOwn C.n C.L (own.map (·.2)) = true) (htg : tgs.all (fun i => (own.map (·.2)).contains i) = true) (hs : ∀ x, foldedSetIterable iter X.env x = pure x := by intro _; rfl) :
    PE X (.DictComp kx vx [⟨tg, iter, ifs, 0⟩] scope pos) (tE C (dcM (own.map (·.2)) fi g ft fk fe)) := PE.imp (pe_dc hc hN hi ok hg ht hk he hs) fun _ _ _ => dcM_imp hw htg
/-! ### two items stored -/
def stO (r : Nat) (i : D) (x : It) (s : S) : Option S := match s[r]? with
  | some (some (n + 1, d)) => match storeD n d i x.1 x.2 with
    | some (n', d') => some (s.set r (some (n' + 1, d')))
    | none => none
  | _ => none
def gS2 (r1 : Nat) (f1 : S → Option D) (r2 : Nat) (f2 : S → Option D) : It → S → Option S := fun x s => match x.2 with
  | .tup [a, b] => match f1 s with
    | some i => match stO r1 i (x.1, a) s with
      | some s1 => match f2 s1 with
        | some j => stO r2 j (x.1, b) s1
        | none => none
      | none => none
    | none => none
  | _ => none
theorem gSub_run {r : Nat} {f : S → Option D} {x : It} {v : V} {i : D} {s2 : S} {Q : L2.St → Hp → Prop} (rr : R C σ s (.it v x.1 x.2 :: fr) H) (ei : f s = some i) (eo : stO r i x s = some s2) (k : ∀ H', R C σ s2 fr H' → Q σ H') :
    gSub (tVar r) (tSee C f) (fun o i v H Q => ∃ H', rPut o i v H H' ∧ Q H') v σ H Q := by
  have em : stM r i x s = .nx s2 := by
    unfold stO at eo
    split at eo
    · rename_i n d es
      show stM r i x s = .nx s2
      unfold stM
      rw [es]
      dsimp only
      cases es2 : storeD n d i x.1 x.2 with
      | none => rw [es2] at eo; cases eo
      | some z =>
        rw [es2] at eo
        cases eo
        rfl
    · cases eo
  have hr : ∃ y, s[r]? = some (some y) := by
    unfold stO at eo
    split at eo
    · rename_i n d es; exact ⟨_, es⟩
    · cases eo
  obtain ⟨y, ey⟩ := hr
  obtain ⟨o, ev⟩ := rr.sl.ok r y ey
  refine ⟨o, ev, s, _, i, rr, ei, fun iv H2 u2 s2' z2 => ?_⟩
  let D₀ : Ends := { nx := fun σ' H' => σ' = σ → Q σ' H', rt := fun _ _ => False }
  obtain ⟨o', ev', H', h, k'⟩ := stM_run (C := C) (D₀ := D₀) (fr := fr) (rr.mono u2) s2' z2 (show postS C D₀ fr (stM r i x s) from em ▸ fun σ' H' r' e => by subst e; exact k H' r')
  rw [ev] at ev'
  cases ev'
  exact ⟨H', h, k' rfl⟩
theorem R.open2 {v : V} {n : Nat} {x y : D} (r : R C σ s (.it v n (.tup [x, y]) :: fr) H) : ∃ q v1 v2, v = .ref q ∧ H q = some (.tup [v1, v2]) ∧ R C σ s (.it v1 n x :: .it v2 n y :: fr) H := by
  obtain ⟨q, vs, rfl, hp, hl, r'⟩ := Rl.openTup r.rl
  obtain ⟨v1, v2, rfl⟩ : ∃ v1 v2, vs = [v1, v2] := by
    match vs, hl with
    | [v1, v2], _ => exact ⟨v1, v2, rfl⟩
  refine ⟨q, v1, v2, rfl, hp, r.reframe (fr := [.it (.ref q) n (.tup [x, y])] ++ fr) (fun l rl => by
    obtain ⟨q', vs', e', hp', hl', r2⟩ := Rl.openTup rl
    cases e'; rw [hp] at hp'; cases hp'
    exact r2) fun f hf => ?_⟩
  have z := r.szd.2
  rcases List.mem_cons.mp hf with e | hf
  · subst e; exact z.1
  · rcases List.mem_cons.mp hf with e | hf
    · subst e; exact z.2.1
    · exact r.sz f (List.mem_cons_of_mem _ (List.mem_append_left _ hf))
/-- a[i], b[j] = x, y -/
theorem ps_s2 {o1 i1 o2 i2 : Expr} {r1 r2 : Nat} {f1 f2 : S → Option D} {fe : S → Res It} {p1 p2 : Pos} {kk : Nat} (hK : X.K = C.K) (hc : X.calm = true) (hu : X.A.units + 64 < cLine) (ho1 : PE X o1 (tVar r1)) (hi1 : PE X i1 (tSee C f1)) (ho2 : PE X o2 (tVar r2)) (hi2 : PE X i2 (tSee C f2)) (he : PE X e (tE C fe))
    (hs : swapsWithSole [.Tuple [.Subscript o1 i1 p1, .Subscript o2 i2 p2] kk tpos] e pos.line X.env = pure false := by rfl) (hw : swappedStores [.Tuple [.Subscript o1 i1 p1, .Subscript o2 i2 p2] kk tpos] e X.env = pure none := by rfl)
    (h1 : (assignEach [.Tuple [.Subscript o1 i1 p1, .Subscript o2 i2 p2] kk tpos] X.env).map (·.2) = [assign (.Tuple [.Subscript o1 i1 p1, .Subscript o2 i2 p2] kk tpos) X.env] := by rfl)
    (ha1 : ∀ v, assign (.Subscript o1 i1 p1) X.env v = (do let ov ← holding [v] (eval o1 X.env); let iv ← holding [v, ov] (eval i1 X.env); standAt p1; holding [v, ov, iv] (setItem ov iv v); release [v, ov, iv] []) := by intro _; rfl)
    (ha2 : ∀ v, assign (.Subscript o2 i2 p2) X.env v = (do let ov ← holding [v] (eval o2 X.env); let iv ← holding [v, ov] (eval i2 X.env); standAt p2; holding [v, ov, iv] (setItem ov iv v); release [v, ov, iv] []) := by intro _; rfl)
    (hg1 : (assignEach [Expr.Subscript o1 i1 p1, .Subscript o2 i2 p2] X.env).map (·.2) = assign (.Subscript o1 i1 p1) X.env :: (assignEach [Expr.Subscript o2 i2 p2] X.env).map (·.2) := by rfl)
    (hg2 : (assignEach [Expr.Subscript o2 i2 p2] X.env).map (·.2) = assign (.Subscript o2 i2 p2) X.env :: (assignEach [] X.env).map (·.2) := by rfl)
    (hn : (assignEach [Expr.Subscript o1 i1 p1, .Subscript o2 i2 p2] X.env).length = 2 := by rfl) (hst : (assignEach [Expr.Subscript o1 i1 p1, .Subscript o2 i2 p2] X.env).findIdx? (·.1) = none := by rfl) :
    PS X (.Assign [.Tuple [.Subscript o1 i1 p1, .Subscript o2 i2 p2] kk tpos] e pos) (tS C (asS fe (gS2 r1 f1 r2 f2))) :=
  PS.imp (ps_asg he (pg_tup hc (pgs_cons (pg_sub ho1 hi1 (set_any (by omega)) ha1) (pgs_cons (pg_sub ho2 hi2 (set_any (by omega)) ha2) pgs_nil hg2) hg1) hn hst) hs hw h1) fun D σ H ⟨s, fr, rr, q⟩ => by
    refine tE_K P_S rr q fun x s1 v H1 r1 q1 => ?_
    obtain ⟨n, d⟩ := x
    cases eg : gS2 _ f1 _ f2 (n, d) s1 with
    | none => rw [eg] at q1; exact q1.elim
    | some s2 =>
      rw [eg] at q1
      unfold gS2 at eg
      split at eg
      · rename_i a b ed
        have ed' : d = .tup [a, b] := ed
        subst ed'
        obtain ⟨q, v1, v2, rfl, hp, r2⟩ := r1.open2
        split at eg
        · rename_i i ei
          split at eg
          · rename_i s3 eo
            split at eg
            · rename_i j ej
              refine ⟨q, [v1, v2], rfl, .of hp, rfl, v1, [v2], rfl, gSub_run (x := (n, a)) r2 ei eo fun H' r3 => ?_⟩
              exact ⟨v2, [], rfl, gSub_run (x := (n, b)) r3 ej eg fun H'' r4 => ⟨rfl, q1 σ H'' r4⟩⟩
            · cases eg
          · cases eg
        · cases eg
      · cases eg
end
end Pv
namespace Pv
open PySem PySem.Spec PyProof.Rows L2
/-! Pv6: dicts whose keys are tuples of tuples of ints, all values True -/
def kN (k : List (List Int)) : NestedKey := .tup (k.map fun l => .tup (l.map .num))
theorem num_inj : ∀ {a b : List Int}, a.map NestedKey.num = b.map NestedKey.num → a = b
  | [], [], _ => rfl
  | [], _ :: _, h => by cases h
  | _ :: _, [], h => by cases h
  | x :: a, y :: b, h => by
    rw [List.map_cons, List.map_cons] at h
    injection h with h1 h2
    injection h1 with h1
    rw [h1, num_inj h2]
theorem tup_inj : ∀ {a b : List (List Int)}, a.map (fun l => NestedKey.tup (l.map .num)) = b.map (fun l => NestedKey.tup (l.map .num)) → a = b
  | [], [], _ => rfl
  | [], _ :: _, h => by cases h
  | _ :: _, [], h => by cases h
  | x :: a, y :: b, h => by
    rw [List.map_cons, List.map_cons] at h
    injection h with h1 h2
    injection h1 with h1
    rw [num_inj h1, tup_inj h2]
theorem kN_inj {a b : List (List Int)} (h : kN a = kN b) : a = b := by
  unfold kN at h
  injection h with h
  exact tup_inj h
theorem hashes_num (w : World) : ∀ l : List Int, NestedKey.hashes w (l.map .num) = l.map hashInt
  | [] => rfl
  | x :: l => by rw [List.map_cons, List.map_cons, NestedKey.hashes, NestedKey.hash, hashes_num w l]
theorem kN_hash (w : World) (k : List (List Int)) : (kN k).hash w = nhash k := by
  have h : ∀ k : List (List Int), NestedKey.hashes w (k.map fun l => NestedKey.tup (l.map .num)) = k.map fun l => reduceHash (Builtin.Tuple.tupleHashOf (l.map hashInt)) := fun k => by
    induction k with
    | nil => rfl
    | cons x k ih => rw [List.map_cons, List.map_cons, NestedKey.hashes, ih, NestedKey.hash, hashes_num]
  unfold kN nhash
  rw [NestedKey.hash, h]
theorem depth_num : ∀ l : List Int, NestedKey.depthAll (l.map .num) = 0
  | [] => rfl
  | x :: l => by rw [List.map_cons, NestedKey.depthAll, depth_num l, NestedKey.depth]; rfl
theorem kN_depth (k : List (List Int)) : (kN k).depth ≤ 8 := by
  have h : ∀ k : List (List Int), NestedKey.depthAll (k.map fun l => NestedKey.tup (l.map .num)) ≤ 1 := fun k => by
    induction k with
    | nil => exact Nat.zero_le _
    | cons x k ih =>
      rw [List.map_cons, NestedKey.depthAll, NestedKey.depth, depth_num]
      omega
  have := h k
  unfold kN
  rw [NestedKey.depth]
  omega
section
variable {P : Program} {w : World} {H : Hp} {h : Heap} {a b : Addr}
theorem all_num : ∀ {l : List Int} {its : List Value}, Vals (l.map V.int) its → NestedAll h (l.map .num) its
  | [], _, r => by cases r; exact .nil
  | x :: l, _, r => by
    cases r with
    | cons q t =>
      obtain ⟨tk, rfl⟩ := (show ∃ t, _ = Value.int x t from q)
      exact .cons (.int x tk) (all_num t)
theorem tup_num (ok : HOk P w H h) {l : List Int} (e : H a = some (.tup (l.map V.int))) : NestedIs h (.tup (l.map .num)) (.ref a) := by
  obtain ⟨_, its, r, o, h1, h2, n, h3⟩ := (show ObjOk P w H h a (.tup (l.map V.int)) from ok a _ e)
  exact .tup h1 h2 h3 (by simpa using all_num r)
theorem all_tup (ok : HOk P w H h) : ∀ {k : List (List Int)} {qs : List Addr} {its : List Value}, Paired (fun (l : List Int) (q : Addr) => H q = some (.tup (l.map V.int))) k qs → Vals (qs.map V.ref) its → NestedAll h (k.map fun l => NestedKey.tup (l.map .num)) its
  | _, _, _, .nil, r => by cases r; exact .nil
  | _, _, _, .cons e p, r => by
    rw [List.map_cons] at r
    cases r with
    | cons q t =>
      cases q
      exact .cons (tup_num ok e) (all_tup ok p t)
theorem key_is (ok : HOk P w H h) {k : List (List Int)} (e : KeyAt H k b) : (nestedKind P w).is h (kN k) b := by
  obtain ⟨qs, e, p⟩ := e
  obtain ⟨_, its, r, o, h1, h2, n, h3⟩ := (show ObjOk P w H h b (.tup (qs.map V.ref)) from ok b _ e)
  exact ⟨.tup h1 h2 h3 (by simpa using all_tup ok p r), kN_depth k⟩
def xsN (ks : List (List (List Int))) (bs : List Addr) : List (NestedKey × Addr × Value) := (ks.zip bs).map fun p => (kN p.1, p.2, .bool true)
theorem xsN_len {ks : List (List (List Int))} {bs : List Addr} (e : KeysAt H ks bs) : (xsN ks bs).length = ks.length := by
  have := Paired.length e
  unfold xsN
  rw [List.length_map, List.length_zip]
  omega
theorem xsN_entry (ks : List (List (List Int))) (bs : List Addr) : (xsN ks bs).map (entryOfKey (nestedKind P w)) = (ks.zip bs).map fun p => (⟨nhash p.1, .ref p.2, .bool true⟩ : DictEntry) := by
  unfold xsN
  rw [List.map_map]
  refine List.map_congr_left fun p _ => ?_
  show (⟨(kN p.1).hash w, .ref p.2, .bool true⟩ : DictEntry) = _
  rw [kN_hash]
theorem xsN_fst {ks : List (List (List Int))} {bs : List Addr} (e : KeysAt H ks bs) : (xsN ks bs).map (·.1) = ks.map kN := by
  induction e with
  | nil => rfl
  | cons _ _ ih => exact congrArg _ ih
theorem xsN_is (ok : HOk P w H h) {ks : List (List (List Int))} {bs : List Addr} (e : KeysAt H ks bs) : ∀ x ∈ xsN ks bs, (nestedKind P w).is h x.1 x.2.1 := by
  induction e with
  | nil => intro x hx; cases hx
  | cons q _ ih =>
    intro x hx
    rcases List.mem_cons.mp hx with rfl | hx
    · exact key_is ok q
    · exact ih x hx
theorem kN_nodup {ks : List (List (List Int))} (nd : ks.Nodup) : (ks.map kN).Nodup := by
  refine List.pairwise_map.mpr (nd.imp fun ne q => ne (kN_inj q))
theorem n_of (ok : HOk P w H h) {ks : List (List (List Int))} {bs : List Addr} (e : KeysAt H ks bs) (ha : H a = some (nO a ks bs)) (nd : ks.Nodup) : (a == sysModules) = false ∧ h.DictOfH (nestedKind P w) a (xsN ks bs) := by
  obtain ⟨⟨hs, o, es, ep, h1, h2, h3, h4⟩, _⟩ := (show ObjOk P w H h a (nO a ks bs) from ok a _ ha)
  exact ⟨hs, o, es, ep, h1, h2, h3, by rw [h4, xsN_entry], xsN_is ok e, by rw [xsN_fst e]; exact kN_nodup nd⟩
theorem atN {ks : List (List (List Int))} {bs : List Addr} (e : KeysAt H ks bs) (k : List (List Int)) : (atKey (xsN ks bs) (kN k)).isSome = decide (k ∈ ks) := by
  induction e with
  | nil => rfl
  | @cons c b' cs bs' _ _ ih =>
    show (((xsN (c :: cs) (b' :: bs')).find? fun x => decide (x.1 = kN k)).map (·.2)).isSome = _
    have e1 : xsN (c :: cs) (b' :: bs') = (kN c, b', .bool true) :: xsN cs bs' := rfl
    rw [e1, List.find?_cons]
    by_cases q : c = k
    · subst q
      simp
    · have q2 : ¬ kN c = kN k := fun z => q (kN_inj z)
      have q3 : ¬ k = c := fun z => q z.symm
      have ih' : (((xsN cs bs').find? fun x => decide (x.1 = kN k)).map (·.2)).isSome = decide (k ∈ cs) := ih
      simp only [decide_eq_false q2, List.mem_cons, q3, false_or]
      exact ih'
theorem n_new {H' : Hp} {ks : List (List (List Int))} {bs : List Addr} (hs : (a == sysModules) = false) (d : h.DictOfH (nestedKind P w) a (xsN ks bs)) : ObjOk P w H' h a (nO a ks bs) := by
  obtain ⟨o, es, ep, h1, h2, h3, h4, _, _⟩ := d
  exact ⟨⟨hs, o, es, ep, h1, h2, h3, by rw [h4, xsN_entry]⟩, ⟨o, h1⟩, fun g1 g2 ⟨q, o', es', ep', z1, z2⟩ k => ⟨q, o', es', ep', k _ z1, z2⟩⟩
end
/-- the key that a value is -/
def nkD : D → Option (List (List Int))
  | .tup ds => allO intsT ds
  | _ => none
theorem allO_tups : ∀ {ds : List D} {k : List (List Int)}, allO intsT ds = some k → ds = k.map fun l => D.tup (l.map .int)
  | [], k, h => by cases h; rfl
  | d :: ds, k, h => by
    unfold allO at h
    cases e1 : intsT d with
    | none => rw [e1] at h; cases h
    | some l =>
      cases e2 : allO intsT ds with
      | none => rw [e1, e2] at h; cases h
      | some ls =>
        rw [e1, e2] at h
        cases h
        have e3 : d = .tup (l.map .int) := by
          cases d with
          | tup es => rw [allO_int (show allO intO es = some l from e1)]
          | _ => cases e1
        rw [e3, allO_tups e2]
        rfl
theorem nkD_of {d : D} {k : List (List Int)} (h : nkD d = some k) : d = .tup (k.map fun l => D.tup (l.map .int)) := by
  cases d with
  | tup ds => rw [allO_tups (show allO intsT ds = some k from h)]
  | _ => cases h
theorem see_tups {G : Gt} {H : Hp} : ∀ {k : List (List Int)} {vs : List V}, SeeL G H (k.map fun l => D.tup (l.map .int)) vs → ∃ qs : List Addr, vs = qs.map V.ref ∧ Paired (fun (l : List Int) (q : Addr) => H q = some (.tup (l.map V.int))) k qs
  | [], _, h => by cases h; exact ⟨[], rfl, .nil⟩
  | x :: k, _, ⟨v, r, e, ⟨q, ws, ev, hq, t⟩, t2⟩ => by
    obtain ⟨qs, rfl, p⟩ := see_tups t2
    rw [ints_see t] at hq
    subst e ev
    exact ⟨q :: qs, rfl, .cons hq p⟩
theorem see_key {G : Gt} {H : Hp} {d : D} {v : V} {k : List (List Int)} (h : nkD d = some k) (s : See G H d v) : ∃ b, v = .ref b ∧ KeyAt H k b := by
  rw [nkD_of h] at s
  obtain ⟨b, vs, rfl, hb, t⟩ := s
  obtain ⟨qs, rfl, p⟩ := see_tups t
  exact ⟨b, rfl, qs, hb, p⟩
/-! ### in -/
def inND : D → D → Option D := fun x y => match y with
  | .nst ks => match nkD x with
    | some k => some (.bl (decide (k ∈ ks)))
    | none => none
  | _ => none
theorem inND_of {x y z : D} (h : inND x y = some z) : ∃ ks k, y = .nst ks ∧ nkD x = some k ∧ z = .bl (decide (k ∈ ks)) := by
  unfold inND at h
  split at h
  · split at h
    · rename_i k e
      cases h
      exact ⟨_, k, rfl, e, rfl⟩
    · cases h
  · cases h
section
variable {X : Cx} {G : Gt}
theorem o_inN (hu : X.A.units + 64 < cLine) : OpR X (compareOp .In) (rD G inND) := by
  rintro pins s σ H x y v u Q I rx ry ⟨dx, dy, z, s1, s2, z1, z2, e, k⟩
  obtain ⟨ks, kk, rfl, ek, rfl⟩ := inND_of e
  obtain ⟨b, rfl, hb⟩ := see_key ek s1
  obtain ⟨a, bs, rfl, hks, ha⟩ := s2
  cases rx
  cases ry
  obtain ⟨hs, d⟩ := n_of I.hok hks ha z2.2
  have room : (nestedKind X.prog X.w).room X.A.in1 := by show X.A.units + 1 + 8 < cLine; omega
  refine wpAny_in_heap room (key_is I.hok hb) hs d ?_
  rw [atN hks]
  exact ⟨.bl _, H, I.tok _, rfl, k _ _ (.refl _) trivial fun l r => Rl.imm rfl rfl r⟩
end
/-! ### d[k] = True -/
def putN (ks : List (List (List Int))) (k : List (List Int)) : List (List (List Int)) := if k ∈ ks then ks else ks ++ [k]
def rPutN : V → V → V → Hp → (Hp → Prop) → Prop := fun o i v H Q => ∃ (a b : Addr) (ks : List (List (List Int))) (bs : List Addr) (k : List (List Int)), o = .ref a ∧ i = .ref b ∧ v = .bl true ∧ KeysAt H ks bs ∧ H a = some (nO a ks bs) ∧ ks.Nodup ∧ ks.length < sizeLine ∧ KeyAt H k b ∧
  (k ∈ ks → Q (upd H a (nO a ks bs))) ∧ (k ∉ ks → Q (upd H a (nO a (ks ++ [k]) (bs ++ [b]))))
theorem putAt_true {ks : List (List (List Int))} {bs : List Addr} {k : NestedKey} : (xsN ks bs).map (putAt k (.bool true)) = xsN ks bs := by
  have h : ∀ x ∈ xsN ks bs, putAt k (.bool true) x = x := fun x hx => by
    obtain ⟨p, _, rfl⟩ := List.mem_map.mp hx
    unfold putAt
    split <;> rfl
  exact (List.map_congr_left h).trans (List.map_id' _)
theorem set_nst {X : Cx} (hu : X.A.units + 64 < cLine) : PSet X rPutN := by
  rintro pins s σ H o i v ov iv u Q I ro ri rv ⟨a, b, ks, bs, k, rfl, rfl, rfl, hks, ha, nd, hl, hk, q1, q2⟩
  cases ro
  cases ri
  cases rv
  obtain ⟨hs, d⟩ := n_of I.hok hks ha nd
  have room : (nestedKind X.prog X.w).room X.A.in1 := by show X.A.units + 1 + 8 < cLine; omega
  have hz : (xsN ks bs).length ≤ sizeLine := by rw [xsN_len hks]; omega
  refine wpAny_setItem_heap (hsz := hz) room (key_is I.hok hk) d fun h' d' hb => ?_
  have he : ∃ q, h'.get? a = some q := let ⟨q, _, _, hq, _⟩ := d'; ⟨q, hq⟩
  by_cases c : k ∈ ks
  · have e : storedH (xsN ks bs) (kN k) b (.bool true) = xsN ks bs := by
      have : (atKey (xsN ks bs) (kN k)).isSome = true := by rw [atN hks]; exact decide_eq_true c
      unfold storedH
      rw [if_pos this, putAt_true]
    rw [e] at d'
    exact ⟨_, d_write I (by rw [ha]; exact True.intro) hb he (n_new hs d'), q1 c⟩
  · have e : storedH (xsN ks bs) (kN k) b (.bool true) = xsN (ks ++ [k]) (bs ++ [b]) := by
      have : ¬ (atKey (xsN ks bs) (kN k)).isSome = true := by rw [atN hks, decide_eq_false c]; exact Bool.false_ne_true
      unfold storedH
      rw [if_neg this]
      unfold xsN
      rw [List.zip_append (Paired.length hks), List.map_append]
      rfl
    rw [e] at d'
    exact ⟨_, d_write I (by rw [ha]; exact True.intro) hb he (n_new hs d'), q2 c⟩
section
variable {C : Cn} {X : Cx} {o i e : Expr} {pos tpos : Pos} {σ : L2.St} {H : Hp} {s : S} {fr : List Fr} {r : Nat}
/-- name[i] = True, name a dict of such keys -/
def sbN (r : Nat) (fi : S → Option D) (fe : S → Res It) : S → SRes := fun s => (fe s).sbind fun x s1 => match x.2 with
  | .bl true => match fi s1 with
    | some i => match nkD i, s1[r]? with
      | some k, some (some (n + 1, .nst ks)) => if decide (ks.length < sizeLine) then .nx (s1.set r (some (n + 1, .nst (putN ks k)))) else .bad
      | _, _ => .bad
    | none => .bad
  | _ => .bad
theorem ps_sbN {fi : S → Option D} {fe : S → Res It} (hu : X.A.units + 64 < cLine) (ho : PE X o (tVar r)) (hi : PE X i (tSee C fi)) (he : PE X e (tE C fe)) (hs : swapsWithSole [.Subscript o i tpos] e pos.line X.env = pure false := by rfl) (hw : swappedStores [.Subscript o i tpos] e X.env = pure none := by rfl)
    (h1 : (assignEach [.Subscript o i tpos] X.env).map (·.2) = [assign (.Subscript o i tpos) X.env] := by rfl)
    (ha : ∀ v, assign (.Subscript o i tpos) X.env v = (do let ov ← holding [v] (eval o X.env); let iv ← holding [v, ov] (eval i X.env); standAt tpos; holding [v, ov, iv] (setItem ov iv v); release [v, ov, iv] []) := by intro _; rfl) :
    PS X (.Assign [.Subscript o i tpos] e pos) (tS C (sbN r fi fe)) := PS.imp (ps_asg he (pg_sub ho hi (set_nst hu) ha) hs hw h1) fun D σ H ⟨s, fr, rr, q⟩ => by
  refine tE_K P_S rr q fun x s1 v H1 r1 q1 => ?_
  obtain ⟨n, d⟩ := x
  cases d with
  | bl t =>
    cases t with
    | false => exact q1.elim
    | true =>
      cases ei : fi s1 with
      | none => rw [ei] at q1; exact q1.elim
      | some i =>
        rw [ei] at q1
        dsimp only at q1
        cases ek : nkD i with
        | none => rw [ek] at q1; exact q1.elim
        | some k =>
          rw [ek] at q1
          split at q1
          · rename_i _ _ k' n' ks ek' es
            cases ek'
            split at q1
            · rename_i cl
              obtain ⟨ov, ev⟩ := r1.sl.ok r _ es
              refine ⟨ov, ev, s1, _, i, r1, ei, fun iv H2 u2 s2 z2 => ?_⟩
              obtain ⟨o', ev', r2⟩ := (r1.mono u2).take es
              rw [ev] at ev'
              cases ev'
              obtain ⟨b, rfl, hb⟩ := see_key ek s2
              obtain ⟨a, bs, rfl, hks, hha⟩ := r2.see
              have nd : ks.Nodup := r2.szd.2
              have hv : v = .bl true := r1.see
              subst hv
              refine ⟨a, b, ks, bs, k, rfl, rfl, rfl, hks, hha, nd, of_decide_eq_true cl, hb, fun c => ?_, fun c => ?_⟩
              · have e : upd H2 a (nO a ks bs) = H2 := by
                  funext x
                  by_cases e : x = a
                  · subst e; rw [upd_same, hha]
                  · rw [upd_ne e]
                rw [e]
                have r3 := r2.put (x := (n' + 1, .nst ks)) ev
                rw [List.set_set] at r3
                have ep : putN ks k = ks := if_pos c
                rw [ep] at q1
                exact q1 σ H2 (R.tail r3)
              · have r3 : R C σ (s1.set r none) (.it (.ref a) (n' + 1) (.nst (ks ++ [k])) :: (.it (.bl true) n (.bl true) :: fr)) (upd H2 a (nO a (ks ++ [k]) (bs ++ [b]))) :=
                  r2.reframe (fun l rl => Rl.nstPut hha hks hb rl) fun f hf => by
                    rcases List.mem_cons.mp hf with e | hf
                    · subst e
                      refine ⟨?_, ?_⟩
                      · rw [List.length_append, List.length_singleton]
                        have := of_decide_eq_true cl
                        omega
                      · refine List.nodup_append.mpr ⟨nd, by simp, fun x hx y hy q => ?_⟩
                        rw [List.mem_singleton.mp hy] at q
                        exact c (q ▸ hx)
                    · exact r2.sz f (List.mem_append_left _ (List.mem_cons_of_mem _ hf))
                have r4 := r3.put (x := (n' + 1, .nst (ks ++ [k]))) ev
                rw [List.set_set] at r4
                have ep : putN ks k = ks ++ [k] := if_neg c
                rw [ep] at q1
                exact q1 σ _ (R.tail r4)
            · exact q1.elim
          · exact q1.elim
  | _ => exact q1.elim
/-! ### {} -/
theorem n_empty {P : Program} {w : World} {H : Hp} (h : Heap) (hb : sysModules < h.objs.size) : ObjOk P w H (h.push { cls := .type "dict", data := .dict #[] }) h.objs.size (nO h.objs.size [] []) :=
  n_new (ks := []) (bs := []) (beq_eq_false_iff_ne.mpr (Ne.symm (Nat.ne_of_lt hb))) (Heap.DictOfH.new h)
def tDNewN : TE := fun _ H Q => ∀ p, H p = none → Q (.ref p) (upd H p (nO p [] []))
theorem pe_dnewN : PE X (.Dict [] [] pos) tDNewN := ⟨fun pins s σ H Q I h =>
  wpAny_Dict_empty ⟨.ref s.heap.objs.size, _, I.laid (a := s.heap.objs.size) (o := nO s.heap.objs.size [] []) (t' := s.toks) (fun _ _ q => Heap.get?_push_of_some _ q) (Nat.le_refl _) (n_empty s.heap I.big), rfl, h _ (I.hok.fresh (Nat.le_refl _))⟩⟩
def newN : S → Res It := fun s => .ok (B, .nst []) s
theorem pm_newN : PE X (.Dict [] [] pos) (tE C newN) := PE.imp pe_dnewN fun σ H Q ⟨s, fr, r, k⟩ p hp => by
  refine k _ _ ?_
  have r1 : R C σ s (.it (.ref p) (B + 1) (.nst []) :: fr) (upd H p (nO p [] [])) := r.reframe (fr' := .it (.ref p) (B + 1) (.nst []) :: fr) (fun l rl => Rl.newNst (n := B) rl hp) fun f hf => by
    rcases List.mem_cons.mp hf with e | hf
    · subst e; exact ⟨Nat.zero_le _, List.nodup_nil⟩
    · exact r.sz f (List.mem_append_left _ hf)
  exact R.lower (Nat.le_succ _) r1
end
end Pv
namespace Pv
open PySem PySem.Spec PyProof.Rows L2
/-! Pv7: an item of a name at an index that is computed; the name stays whole -/
section
variable {C : Cn} {X : Cx} {a b : Expr} {pos : Pos} {r : Nat}
def mIxB (r : Nat) (g : S → Res It) : S → Res It := fun s => match s[r]? with
  | some (some _) => bindK .exc .bad (g s) fun i s2 => match s2[r]? with
    | some (some x) => match seqIx x.2 i.2 with
      | some j => match (kids x.2)[j]? with
        | some k => if isImm k then .ok (B, k) s2 else .bad
        | none => .bad
      | none => .bad
    | _ => .bad
  | _ => .bad
theorem pm_ixB (hK : X.K = C.K) {g : S → Res It} (ha : PE X a (tVar r)) (hb : PE X b (tE C g)) (hs : PlainIx b) : PE X (.Subscript a b pos) (tE C (mIxB r g)) := PE.imp (pe_ix ix_seq ha hb hs) fun σ H Q ⟨s, fr, rr, h⟩ => by
  have h' : postE C σ fr (mIxB r g s) Q := h
  unfold mIxB at h'
  split at h'
  · rename_i x0 es0
    obtain ⟨v, ev⟩ := rr.sl.ok r x0 es0
    refine ⟨v, ev, ?_⟩
    refine tE_K P_E rr h' fun i s2 w H2 r2 h2 => ?_
    split at h2
    · rename_i x es2
      obtain ⟨o, ev2, r3⟩ := (R.tail r2).take es2
      rw [ev] at ev2
      cases ev2
      have si := r2.see
      have sd := r3.see
      have zd := r3.szd
      obtain ⟨n, d⟩ := x
      obtain ⟨m, i⟩ := i
      dsimp only at h2 si sd zd
      cases q2 : seqIx d i with
      | none => rw [q2] at h2; exact h2.elim
      | some j =>
        rw [q2] at h2
        dsimp only at h2
        cases q3 : (kids d)[j]? with
        | none => rw [q3] at h2; exact h2.elim
        | some k =>
          rw [q3] at h2
          dsimp only at h2
          split at h2
          · rename_i ik
            cases d with
            | lst ds =>
              cases i with
              | int i =>
                cases si
                obtain ⟨q, vs, rfl, hp, sl⟩ := sd
                obtain ⟨w, hw, sw⟩ := SeeL.get sl q3
                exact .inl ⟨q, vs, i, w, rfl, rfl, .of hp, atI_mk (by rw [sl.length]; exact q2) hw, h2 w H2 ((R.tail r2).imm ik sw (sz_kid zd q3))⟩
              | _ => cases q2
            | tup ds =>
              cases i with
              | int i =>
                cases si
                obtain ⟨q, vs, rfl, hp, sl⟩ := sd
                obtain ⟨w, hw, sw⟩ := SeeL.get sl q3
                exact .inr (.inl ⟨q, vs, i, w, rfl, rfl, .of hp, atI_mk (by rw [sl.length]; exact q2) hw, h2 w H2 ((R.tail r2).imm ik sw (sz_kid zd q3))⟩)
              | _ => cases q2
            | scr ns =>
              cases i with
              | int i =>
                cases si
                obtain ⟨q, rfl, hp⟩ := sd
                have e4' : (ns.map D.int)[j]? = some k := q3
                rw [List.getElem?_map] at e4'
                cases q4 : ns[j]? with
                | none => rw [q4] at e4'; cases e4'
                | some z =>
                  rw [q4] at e4'
                  cases e4'
                  refine .inl ⟨q, _, i, .int z, rfl, rfl, hK ▸ hp, atI_mk (by rw [List.length_map]; exact q2) (by rw [List.getElem?_map, q4]; rfl), h2 (.int z) H2 ((R.tail r2).imm rfl rfl trivial)⟩
              | _ => cases q2
            | _ => cases q2
          · exact h2.elim
    · exact h2.elim
  · exact h'.elim
/-- a, b, c = x, y, z -/
def parS3 (i j l : Nat) (f : S → Res (List It)) : S → SRes := fun s => (f s).sbind fun xs s1 => match xs with
  | [x, y, z] => .nx (((s1.set i (some x)).set j (some y)).set l (some z))
  | _ => .bad
theorem ps_parS3 {c : Expr} {i j l : Nat} {x y z : Str} {f : S → Res (List It)} {px py pz pt pos : Pos} {kt k2 pt2} (hc : X.calm = true) (hN : X.N.Nodup) (hi : X.N[i]? = some x) (hj : X.N[j]? = some y) (hl : X.N[l]? = some z) (hij : i ≠ j) (hil : i ≠ l) (hjl : j ≠ l)
    (hx : X.env.scope.names.lookup x = some .local) (hy : X.env.scope.names.lookup y = some .local) (hz : X.env.scope.names.lookup z = some .local) (ha : PA X [a, b, c] (tA C f))
    (hw : swappedStores [.Tuple [.Name x px, .Name y py, .Name z pz] kt pt] (.Tuple [a, b, c] k2 pt2) X.env = pure (some [x, y, z])) (hn : (decide (i < C.n) && nin i C.L && decide (j < C.n) && nin j C.L && decide (l < C.n) && nin l C.L) = true)
    (hs : swapsWithSole [.Tuple [.Name x px, .Name y py, .Name z pz] kt pt] (.Tuple [a, b, c] k2 pt2) pos.line X.env = pure false := by rfl) : PS X (.Assign [.Tuple [.Name x px, .Name y py, .Name z pz] kt pt] (.Tuple [a, b, c] k2 pt2) pos) (tS C (parS3 i j l f)) := PS.imp (ps_par3 hc hN hi hj hl hij hil hjl hx hy hz ha hw hs) fun D σ H ⟨s, fr, r, q⟩ => by
  refine tA_K P_S r q fun xs s1 vs H1 e r1 q1 => ?_
  match xs, vs, e, q1, r1 with
  | [x, y, z], [v, w, u], _, q1, r1 =>
    have g1 := bool_and hn
    have g2 := bool_and g1.1
    have h1 := bool_and g2.1
    have h2 := bool_and h1.1
    have h3 := bool_and h2.1
    have r2 : R C (σ.set i (some v)) (s1.set i (some x)) (.it w y.1 y.2 :: .it u z.1 z.2 :: fr) H1 := R.store (x := x) r1 (by rw [r1.ln]; exact of_decide_eq_true h3.1) (of_nin h3.2)
    have r3 := R.store (i := j) (x := y) r2 (by rw [r2.ln]; exact of_decide_eq_true h2.2) (of_nin h1.2)
    have r4 := R.store (i := l) (x := z) r3 (by rw [r3.ln]; exact of_decide_eq_true g2.2) (of_nin g1.2)
    exact ⟨v, w, u, rfl, q1 _ H1 r4⟩
  | [], _, _, q1, _ => exact q1.elim
  | [_], _, _, q1, _ => exact q1.elim
  | [_, _], _, _, q1, _ => exact q1.elim
  | _ :: _ :: _ :: _ :: _, _, _, q1, _ => exact q1.elim
end
end Pv
namespace Pv
open PySem PySem.Spec PyProof.Rows L2
/-! Pv8: is True, is False; len(set(list)); slices and sums of lists of any things -/
def isB2 : D → D → Option D := fun x y => match x, y with
  | .bl a, .bl b => some (.bl (decide (a = b)))
  | _, _ => none
section
variable {X : Cx} {G : Gt}
theorem bool_beq (a b : Bool) : (Value.bool a == Value.bool b) = decide (a = b) := by
  cases a <;> cases b <;> first | rfl | decide
theorem o_isB : OpR X (compareOp .Is) (rD G isB2) := by
  rintro pins s σ H x y v u Q I rx ry ⟨dx, dy, z, s1, s2, z1, z2, e, k⟩
  cases dx with
  | bl a =>
    cases dy with
    | bl b =>
      cases e
      cases s1
      cases s2
      cases rx
      cases ry
      exact wpAny_is_plain rfl ⟨.bl (decide (a = b)), H, I, by rw [bool_beq]; rfl, k _ _ (.refl _) trivial fun l r => Rl.imm rfl rfl r⟩
    | _ => cases e
  | _ => cases e
theorem o_isnotB : OpR X (compareOp .IsNot) (rD G fun x y => notD (isB2 x y)) := by
  rintro pins s σ H x y v u Q I rx ry ⟨dx, dy, z, s1, s2, z1, z2, e, k⟩
  cases dx with
  | bl a =>
    cases dy with
    | bl b =>
      cases e
      cases s1
      cases s2
      cases rx
      cases ry
      exact wpAny_isNot_plain rfl ⟨.bl (!decide (a = b)), H, I, by rw [bool_beq]; rfl, k _ _ (.refl _) trivial fun l r => Rl.imm rfl rfl r⟩
    | _ => cases e
  | _ => cases e
end
section
variable {C : Cn} {X : Cx} {a b e : Expr} {pos p p1 p2 q1 : Pos} {σ : L2.St} {H : Hp} {s : S} {fr : List Fr} {G : Gt}
/-! ### len(set(list)) -/
theorem dedup_nd : ∀ (val : Nat → Int) (i : Nat), (firstMet val i).Nodup
  | _, 0 => List.nodup_nil
  | val, i + 1 => by
    rw [firstMet_succ]
    have ih := dedup_nd val i
    unfold step_dedup
    split
    · exact ih
    · rename_i h
      refine List.nodup_append.mpr ⟨ih, by simp, fun x hx y hy e => ?_⟩
      rw [List.mem_singleton.mp hy] at e
      subst e
      exact h (by simpa using hx)
theorem met_len (ns : List Int) : (firstMet (fun i => ns.getD i 0) ns.length).length = (dd ns).length := by
  have hm : ∀ k, k ∈ firstMet (fun i => ns.getD i 0) ns.length ↔ k ∈ ns := fun k => by
    have h := firstMet_any (fun i => ns.getD i 0) ns.length k
    rw [Bool.eq_iff_iff] at h
    simp only [List.any_eq_true, beq_iff_eq, exists_eq_right] at h
    rw [h, List.mem_map]
    constructor
    · rintro ⟨i, hi, rfl⟩
      have := List.mem_range.mp hi
      simp [List.getD, List.getElem?_eq_getElem this]
    · intro hk
      obtain ⟨i, hi⟩ := List.getElem?_of_mem hk
      obtain ⟨h1, h2⟩ := List.getElem?_eq_some_iff.mp hi
      exact ⟨i, List.mem_range.mpr h1, by simp [List.getD, hi]⟩
  exact ((List.perm_ext_iff_of_nodup (dedup_nd _ _) (asc_nd (dd_asc ns))).mpr fun k => by rw [hm, mem_dd]).length_eq
def rSetL (K : PySem.W.Frag) : List V → Hp → VK → Prop := fun xs H Q => ∃ q ns, xs = [V.ref q] ∧ SqL K H q (ns.map V.int) ∧ ns.length < 4000 ∧ ∀ p S, H p = none → Q (.ref p) (upd H p (.set S (dd ns).length))
theorem cr_setL (hc : X.calm = true) : CallR X (.type "set") (rSetL X.K) := by
  intro pins s σ H xs us Q I r h
  obtain ⟨q, ns, rfl, hq, hl, k⟩ := h
  obtain ⟨u, rfl, rx⟩ := r.one
  cases rx
  obtain ⟨its, rv, pl, hz⟩ := I.list hq
  have hi : IntsAre its ns := by simpa using intsAre_of rv
  have hlen : its.length = ns.length := IntsAre.length hi
  refine call_set_list (I.ok.hd hc) pl.isList (by simpa using hi) (by simp only [List.size_toArray]; unfold scanBound; omega) fun h' tk R kp => ?_
  simp only [List.size_toArray, hlen] at R
  rw [met_len] at R
  have I2 := I.laid (a := s.heap.objs.size) (o := .set _ (dd ns).length) (h' := h') (t' := tk) (fun b u e => kp b u (Heap.lt_size e) e) (Nat.le_refl _) R
  exact ⟨.ref s.heap.objs.size, _, I2, rfl, k _ _ (I.hok.fresh (Nat.le_refl _))⟩
def rLenK : List V → Hp → VK → Prop := fun xs H Q => ∃ (a : Addr) (S : Int → Bool) (n : Nat), xs = [V.ref a] ∧ H a = some (.set S n) ∧ n < 4000 ∧ Q (.int n) H
theorem cr_lenK : CallR X (.builtin "len") rLenK := by
  intro pins s σ H xs us Q I r h
  obtain ⟨a, S, n, rfl, ha, hl, q⟩ := h
  rw [Vals.ref1 r]
  obtain ⟨o, es, ep, t, ho, hex, hd, _, _, _, hf, hn⟩ := (show ObjOk X.prog X.w H s.heap a (.set S n) from I.hok a _ ha)
  exact call_len_set ho hex hd hf (by rw [hn]; omega) ⟨.int n, H, I.tok _, ⟨_, by rw [hn]⟩, q⟩
theorem pm_lenSL {f : S → Res It} (hK : X.K = C.K) (hc : X.calm = true) (hg : Gl X "len") (hm : X.mg "len" = none) (hg2 : Gl X "set") (hm2 : X.mg "set" = none) (ha : PE X a (tE C f))
    (h1 : starEach [.Call (.Name "set" p2) [a] [] q1] X.env = (false, eval (.Call (.Name "set" p2) [a] [] q1) X.env) :: starEach [] X.env := by rfl) (h2 : starEach [a] X.env = (false, eval a X.env) :: starEach [] X.env := by rfl) :
    PE X (.Call (.Name "len" p1) [.Call (.Name "set" p2) [a] [] q1] [] pos) (tE C (lenS intsL f)) :=
  PE.imp (pe_callB cr_lenK hg hm PySem.boot_len (pa_cons (pe_callTy (cr_setL hc) hg2 hm2 PyProof.Rows.boot_set (pa_cons ha pa_nil h2) (by decide) (by decide) h2 rfl) pa_nil h1) (by decide) (by decide) h1 rfl) fun σ H Q ⟨s, fr, r, q⟩ => by
    refine tE_K P_E r q fun x s1 v H1 r1 h1 => ?_
    obtain ⟨n, d⟩ := x
    have h2 : postE C σ fr (match intsL d with
      | some ns => if decide (ns.length < 4000) then .ok (B, .int (dd ns).length) s1 else .bad
      | none => .bad) Q := h1
    cases d with
    | lst ds =>
      cases e : intsL (.lst ds) with
      | none => rw [e] at h2; exact h2.elim
      | some ns =>
        rw [e] at h2
        dsimp only at h2
        split at h2
        · rename_i cnd
          have ed := allO_int e
          subst ed
          obtain ⟨pp, vs, ev, hp, sl⟩ := r1.see
          have evs := ints_see sl
          subst evs
          have hlt := of_decide_eq_true cnd
          refine ⟨pp, ns, by rw [ev], hK ▸ .of hp, hlt, fun D0 S0 hD => ⟨D0, _, _, rfl, upd_same, by have := dd_len ns; omega, ?_⟩⟩
          exact h2 _ _ ((r1.tail.mono (upd_sub hD)).imm rfl rfl trivial)
        · exact h2.elim
    | _ => exact h2.elim
/-! ### slices of lists of any things -/
theorem its_drop {n : Nat} : ∀ (k : Nat) (vs : List V) (ds : List D), (its n (vs.drop k) (ds.drop k)).Sublist (its n vs ds)
  | 0, vs, ds => List.Sublist.refl _
  | k + 1, [], ds => by cases ds <;> exact List.nil_sublist _
  | k + 1, v :: vs, [] => by
    show (its n (vs.drop k) []).Sublist _
    cases vs.drop k <;> exact List.nil_sublist _
  | k + 1, v :: vs, d :: ds => (its_drop k vs ds).trans (List.sublist_cons_self _ _)
theorem its_take {n : Nat} : ∀ (k : Nat) (vs : List V) (ds : List D), (its n (vs.take k) (ds.take k)).Sublist (its n vs ds)
  | 0, vs, ds => List.nil_sublist _
  | k + 1, [], ds => by cases ds <;> exact List.nil_sublist _
  | k + 1, v :: vs, [] => List.nil_sublist _
  | k + 1, v :: vs, d :: ds => (its_take k vs ds).cons_cons _
theorem its_cut {n : Nat} {l h : Option Int} {vs : List V} {ds : List D} (e : vs.length = ds.length) : (its n (cutL vs l h) (cutL ds l h)).Sublist (its n vs ds) := by
  unfold cutL
  rw [e]
  exact (its_take _ _ _).trans (its_drop _ _ _)
theorem cutL_length {α β : Type} {l h : Option Int} {vs : List α} {ds : List β} (e : vs.length = ds.length) : (cutL vs l h).length = (cutL ds l h).length := by
  unfold cutL
  rw [List.length_take, List.length_take, List.length_drop, List.length_drop, e]
def cutF (d : D) (l h : Option Int) : Option D := match d with
  | .lst ds => some (.lst (cutL ds l h))
  | _ => none
def slG (f : S → Res It) (lo hi : S → Option (Option Int)) : S → Res It := fun s => bindK .exc .bad (f s) fun x s1 => match lo s1, hi s1 with
  | some l, some h => match cutF x.2 l h with
    | some z => .ok (1, z) s1
    | none => .bad
  | _, _ => .bad
theorem pm_sliceF {f : S → Res It} {lo hi : Option Expr} {fl fh : S → Option (Option Int)} (ha : PE X a (tE C f)) (hl : PO X lo (tO C fl)) (hh : PO X hi (tO C fh)) : PE X (.Subscript a (.Slice lo hi none p2) pos) (tE C (slG f fl fh)) :=
  PE.imp (pe_slice sl_list ha hl hh) fun σ H Q ⟨s, fr, r, q⟩ => by
    refine tE_K P_E r q fun x s1 v H1 r1 h1 => ?_
    obtain ⟨n, d⟩ := x
    have h2 : postE C σ fr (match fl s1, fh s1 with
      | some l, some h => match cutF d l h with
        | some z => .ok (1, z) s1
        | none => .bad
      | _, _ => .bad) Q := h1
    split at h2
    · rename_i l h e2 e3
      cases ec : cutF d l h with
      | none => rw [ec] at h2; exact h2.elim
      | some z =>
        rw [ec] at h2
        cases d with
        | lst ds =>
          cases ec
          have k : ∀ v H2, R C σ s1 (.it v 1 (.lst (cutL ds l h)) :: fr) H2 → Q v H2 := h2
          refine ⟨s1, _, l, r1, e2, fun H2 u2 => ⟨s1, _, h, r1.mono u2, e3, fun H3 u3 => ?_⟩⟩
          have rr := ((r1.mono u2).mono u3).lower (Nat.zero_le n)
          obtain ⟨q, vs, rfl, hp, sl⟩ := rr.see
          have z1 := rr.szd
          refine ⟨q, vs, rfl, .of hp, fun t ht => k _ _ ?_⟩
          refine rr.reframe (fr' := .it (.ref t) 1 (.lst (cutL ds l h)) :: fr) (fun l' rl => ?_) fun g hg => ?_
          · obtain ⟨q', vs', e', hp', hle, rl2⟩ := Rl.openLst0 rl
            cases e'
            rw [hp] at hp'
            cases hp'
            exact Rl.newLst (n := 0) (cutL_length hle) (rl2.sublist ((its_cut hle).append_right _)) ht
          · rcases List.mem_cons.mp hg with e | hg
            · subst e
              exact ⟨Nat.le_trans (cutL_len _ _ _) z1.1, szL_mem.mpr fun x hx => szL_mem.mp z1.2 x (cutL_sub ds l h x hx)⟩
            · exact rr.sz g (List.mem_append_left _ (List.mem_cons_of_mem _ hg))
        | _ => cases ec
    · exact h2.elim
/-! ### sums of lists of any things -/
def catF (f g : S → Res It) : S → Res It := fun s => bindK .exc .bad (f s) fun x s1 => bindK .exc .bad (g s1) fun y s2 => match x.2, y.2 with
  | .lst ds, .lst es => if decide (ds.length + es.length ≤ 1000) then .ok (1, .lst (ds ++ es)) s2 else .bad
  | _, _ => .bad
theorem pm_catF {f g : S → Res It} (ha : PE X a (tE C f)) (hb : PE X b (tE C g)) : PE X (.BinOp a .Add b pos) (tE C (catF f g)) := PE.imp (pe_op op_cat ha hb) fun σ H Q ⟨s, fr, r, q⟩ => by
  refine tE_K P_E r q fun x s1 v H1 r1 h1 => ?_
  refine tE_K (P_E.more (List.sublist_cons_self _ _)) r1 h1 fun y s2 w H2 r2 h2 => ?_
  obtain ⟨n, d⟩ := x
  obtain ⟨m, c⟩ := y
  cases d with
  | lst ds =>
    cases c with
    | lst es =>
      have h3 : postE C σ fr (if decide (ds.length + es.length ≤ 1000) then .ok (1, .lst (ds ++ es)) s2 else .bad) Q := h2
      split at h3
      · rename_i cn
        have k : ∀ v H2, R C σ s2 (.it v 1 (.lst (ds ++ es)) :: fr) H2 → Q v H2 := h3
        have rw1 : R C σ s2 (.it w 0 (.lst es) :: .it v n (.lst ds) :: fr) H2 := r2.lower (Nat.zero_le m)
        have rr : R C σ s2 (.it v 0 (.lst ds) :: .it w 0 (.lst es) :: fr) H2 := (rw1.perm (.swap _ _ _)).lower (Nat.zero_le n)
        obtain ⟨p, vs, rfl, hp, sl⟩ := rr.see
        obtain ⟨q, ws, rfl, hq, sl2⟩ := rr.tail.see
        have z1 := rr.szd
        have z2 := rr.tail.szd
        have cn' := of_decide_eq_true cn
        refine ⟨p, q, vs, ws, rfl, rfl, hp, hq, by rw [sl.length, sl2.length]; unfold sizeLine; omega, fun t ht => k _ _ ?_⟩
        refine rr.reframe (fr' := .it (.ref t) 1 (.lst (ds ++ es)) :: fr) (fun l' rl => ?_) fun g hg => ?_
        · obtain ⟨p', vs', e', hp', hle, rl2⟩ := Rl.openLst0 rl
          cases e'
          rw [hp] at hp'
          cases hp'
          have rl3 : Rl C.toGt (.it (.ref q) 0 (.lst es) :: (its 0 vs ds ++ (fr ++ l'))) H2 := rl2.perm List.perm_middle
          obtain ⟨q', ws', e2', hq', hle2, rl4⟩ := Rl.openLst0 rl3
          cases e2'
          rw [hq] at hq'
          cases hq'
          have rl5 : Rl C.toGt (its 0 (vs ++ ws) (ds ++ es) ++ (fr ++ l')) H2 := by
            rw [its_app hle, List.append_assoc]
            exact rl4.perm (List.perm_append_comm_assoc _ _ _)
          exact Rl.newLst (n := 0) (by rw [List.length_append, List.length_append, hle, hle2]) rl5 ht
        · rcases List.mem_cons.mp hg with e | hg
          · subst e
            refine ⟨by rw [List.length_append]; unfold sizeLine; omega, szL_mem.mpr fun x hx => ?_⟩
            rcases List.mem_append.mp hx with hx | hx
            · exact szL_mem.mp z1.2 x hx
            · exact szL_mem.mp z2.2 x hx
          · exact rr.sz g (List.mem_append_left _ (List.mem_cons_of_mem _ (List.mem_cons_of_mem _ hg)))
      · exact h3.elim
    | _ => exact h2.elim
  | _ => exact h2.elim
end
end Pv
namespace Pv
open PySem PySem.Spec PyProof.Rows L2
/-! Pv9: list(range(a, b)) -/
section
variable {C : Cn} {X : Cx} {e a b c : Expr} {es : List Expr} {pos p tpos px : Pos} {l : List Fr} {H : Hp} {σ : L2.St} {s : S} {fr : List Fr}
def lrg2 (f g : S → Option D) : S → Option D := fun s => match f s, g s with
  | some (.int i), some (.int j) => if rgOk i j then some (.lst (rgD i j)) else none
  | _, _ => none
theorem pv_lrg2 {f g : S → Option D} {pr : Pos} (hc : X.calm = true) (hg : Gl X "list") (hm : X.mg "list" = none) (hg2 : Gl X "range") (hm2 : X.mg "range" = none) (ha : PE X a (tSee C f)) (hb : PE X b (tSee C g))
    (na : starEach [a, b] X.env = (false, eval a X.env) :: starEach [b] X.env := by rfl) (na2 : starEach [b] X.env = (false, eval b X.env) :: starEach [] X.env := by rfl) (hp : (backTo px (starEach [b] X.env)).any (·.1) = false := by rfl)
    (nb : starEach [Expr.Call (.Name "range" pr) [a, b] [] px] X.env = (false, eval (Expr.Call (.Name "range" pr) [a, b] [] px) X.env) :: starEach [] X.env := by rfl) : PE X (.Call (.Name "list" p) [Expr.Call (.Name "range" pr) [a, b] [] px] [] pos) (tV C (lrg2 f g)) :=
  PE.imp (pe_listRg hc hg hm (prg_2 hg2 hm2 ha hb na na2 hp) nb) fun σ H Q ⟨s, fr, z, r, e, k⟩ => by
    unfold lrg2 at e
    split at e
    · rename_i i j e1 e2
      split at e
      · rename_i c
        cases e
        refine ⟨s, fr, _, r, e1, fun v H1 u1 s1 z1 => ⟨s, fr, _, r.mono u1, e2, fun w H2 u2 s2 z2 => ?_⟩⟩
        cases s1
        cases s2
        have c' : RgOk i j := by
          have := of_decide_eq_true c
          exact ⟨by omega, by omega, by omega, by omega, this.2.2⟩
        exact ⟨i, j, rfl, rfl, c', fun q hq => k _ _ ((u1.trans u2).trans (upd_sub hq)) (R.res ((r.mono u1).mono u2) (rgD_sz c) fun l rl => Rl.freshLst (rgD_imm i j) (rgD_see i j) hq rl)⟩
      · cases e
    · cases e
/-! ### sorted(set(list)), tuples of ints of one length -/
theorem code_eqv {B : Int} : ∀ {a b : List Int}, a.length = b.length → TS.Bd B a → TS.Bd B b → TS.code B a = TS.code B b → a = b
  | [], [], _, _, _, _ => rfl
  | [], _ :: _, h, _, _, _ => by simp at h
  | _ :: _, [], h, _, _, _ => by simp at h
  | x :: a, y :: b, h, ha, hb, e => by
    have hl : a.length = b.length := by simpa using h
    have exy : x = y := by
      rcases Int.lt_trichotomy x y with z | z | z
      · have := TS.code_lt hl ha.tail hb.tail z
        omega
      · exact z
      · have := TS.code_lt hl.symm hb.tail ha.tail z
        omega
    subst exy
    have e2 : TS.code B a = TS.code B b := by
      have h1 : ¬ TS.code B a < TS.code B b := fun q => by
        have := (TS.code_same (d := x) hl).mpr q
        omega
      have h2 : ¬ TS.code B b < TS.code B a := fun q => by
        have := (TS.code_same (d := x) hl.symm).mpr q
        omega
      omega
    rw [code_eqv hl ha.tail hb.tail e2]
def insC (x : List Int) : List (List Int) → List (List Int)
  | [] => [x]
  | y :: r => if TS.code 64 x < TS.code 64 y then x :: y :: r else if x = y then y :: r else y :: insC x r
/-- the rows, each once, by their code -/
def ddC (ls : List (List Int)) : List (List Int) := ls.foldr insC []
theorem mem_insC {x z : List Int} : ∀ {l : List (List Int)}, z ∈ insC x l ↔ z = x ∨ z ∈ l
  | [] => by simp [insC]
  | y :: r => by
    unfold insC
    split
    · simp
    · split
      · rename_i h
        subst h
        simp
      · rw [List.mem_cons, mem_insC, List.mem_cons]
        exact ⟨fun h => h.elim (fun h => .inr (.inl h)) (fun h => h.elim .inl fun h => .inr (.inr h)), fun h => h.elim (fun h => .inr (.inl h)) fun h => h.elim .inl fun h => .inr (.inr h)⟩
theorem mem_ddC {z : List Int} : ∀ {ls : List (List Int)}, z ∈ ddC ls ↔ z ∈ ls
  | [] => Iff.rfl
  | x :: ls => by
    show z ∈ insC x (ddC ls) ↔ _
    rw [mem_insC, mem_ddC, List.mem_cons]
/-- rows of one length, small -/
def OkT (d : Nat) (ls : List (List Int)) : Prop := ∀ l ∈ ls, l.length = d ∧ TS.Bd 64 l
theorem OkT.inj {d : Nat} {ls : List (List Int)} (h : OkT d ls) {a b : List Int} (ha : a ∈ ls) (hb : b ∈ ls) (e : TS.code 64 a = TS.code 64 b) : a = b := code_eqv ((h a ha).1.trans (h b hb).1.symm) (h a ha).2 (h b hb).2 e
theorem insC_asc {x : List Int} : ∀ {l : List (List Int)}, (∀ a ∈ x :: l, ∀ b ∈ x :: l, TS.code 64 a = TS.code 64 b → a = b) → l.Pairwise (fun a b => TS.code 64 a < TS.code 64 b) → (insC x l).Pairwise (fun a b => TS.code 64 a < TS.code 64 b)
  | [], _, _ => List.pairwise_singleton _ _
  | y :: r, inj, h => by
    have h' := List.pairwise_cons.mp h
    unfold insC
    split
    · rename_i c
      exact List.pairwise_cons.mpr ⟨fun z hz => (List.mem_cons.mp hz).elim (fun e => e ▸ c) fun hz => by have := h'.1 z hz; omega, h⟩
    · rename_i c
      split
      · exact h
      · rename_i c2
        refine List.pairwise_cons.mpr ⟨fun z hz => ?_, insC_asc (fun a ha b hb => inj a ?_ b ?_) h'.2⟩
        · rcases mem_insC.mp hz with e | hz
          · subst e
            have : TS.code 64 z ≠ TS.code 64 y := fun e => c2 (inj z List.mem_cons_self y (List.mem_cons_of_mem _ List.mem_cons_self) e)
            omega
          · exact h'.1 z hz
        · exact (List.mem_cons.mp ha).elim (fun e => e ▸ List.mem_cons_self) fun h => List.mem_cons_of_mem _ (List.mem_cons_of_mem _ h)
        · exact (List.mem_cons.mp hb).elim (fun e => e ▸ List.mem_cons_self) fun h => List.mem_cons_of_mem _ (List.mem_cons_of_mem _ h)
theorem ddC_asc {d : Nat} : ∀ {ls : List (List Int)}, OkT d ls → (ddC ls).Pairwise (fun a b => TS.code 64 a < TS.code 64 b)
  | [], _ => List.Pairwise.nil
  | x :: ls, h => insC_asc (fun a ha b hb => h.inj ((List.mem_cons.mp ha).elim (fun e => e ▸ List.mem_cons_self) fun h => List.mem_cons_of_mem _ (mem_ddC.mp h)) ((List.mem_cons.mp hb).elim (fun e => e ▸ List.mem_cons_self) fun h => List.mem_cons_of_mem _ (mem_ddC.mp h))) (ddC_asc fun l hl => h l (List.mem_cons_of_mem _ hl))
theorem codes_one : ∀ {a b : List (List Int)}, (∀ x ∈ a, ∀ y ∈ a, TS.code 64 x = TS.code 64 y → x = y) → a.Pairwise (fun x y => TS.code 64 x < TS.code 64 y) → b.Pairwise (fun x y => TS.code 64 x < TS.code 64 y) → (∀ k, k ∈ a ↔ k ∈ b) → a = b
  | a, b, inj, ha, hb, h => by
    have e : a.map (TS.code 64) = b.map (TS.code 64) := asc_one (List.pairwise_map.mpr ha) (List.pairwise_map.mpr hb) fun k => by
      simp only [List.mem_map]
      exact ⟨fun ⟨x, hx, e⟩ => ⟨x, (h x).mp hx, e⟩, fun ⟨x, hx, e⟩ => ⟨x, (h x).mpr hx, e⟩⟩
    have hl : a.length = b.length := by simpa using congrArg List.length e
    refine List.ext_getElem hl fun i h1 h2 => ?_
    refine inj _ (List.getElem_mem h1) _ ((h _).mpr (List.getElem_mem h2)) ?_
    have := congrArg (fun l => l[i]?) e
    simpa [List.getElem?_map, List.getElem?_eq_getElem h1, List.getElem?_eq_getElem h2] using this
def allT : List D → Option (List (List Int))
  | [] => some []
  | d :: ds => match intsT d, allT ds with
    | some l, some ls => some (l :: ls)
    | _, _ => none
theorem allT_sx {ds : List D} {ls : List (List Int)} (h : allT ds = some ls) : ds = ls.map fun l => .tup (l.map .int) := by
  induction ds generalizing ls with
  | nil => cases h; rfl
  | cons d ds ih =>
    unfold allT at h
    split at h
    · rename_i l k e1 e2
      cases h
      rw [List.map_cons, ← ih e2]
      cases d with
      | tup es => rw [allO_int (show allO intO es = some l from e1)]
      | _ => cases e1
    · cases h
def okU (ls : List (List Int)) : Bool := decide (ls.length < 64) && ls.all fun l => decide (l.length = (ls.headD [0]).length) && decide (1 ≤ l.length) && l.all fun v => decide (0 ≤ v ∧ v < 64)
theorem okU_tr {ls : List (List Int)} (h : okU ls = true) : ls.length < 64 ∧ 1 ≤ (ls.headD [0]).length ∧ OkT (ls.headD [0]).length ls := by
  obtain ⟨h1, h2⟩ := bool_and h
  have h3 := List.all_eq_true.mp h2
  refine ⟨of_decide_eq_true h1, ?_, fun l hl => ?_⟩
  · cases ls with
    | nil => decide
    | cons l ls => exact of_decide_eq_true (bool_and (bool_and (h3 l List.mem_cons_self)).1).2
  · obtain ⟨h4, h5⟩ := bool_and (h3 l hl)
    exact ⟨of_decide_eq_true (bool_and h4).1, fun m hm => of_decide_eq_true (List.all_eq_true.mp h5 m hm)⟩
def lstT : D → Option (List (List Int))
  | .lst ds => allT ds
  | _ => none
def srtT (f : S → Res It) : S → Res It := fun s => bindK .exc .bad (f s) fun x s1 => match lstT x.2 with
  | some ls => if okU ls then .ok (B, .lst ((ddC ls).map fun l => .tup (l.map .int))) s1 else .bad
  | none => .bad
theorem tups_at {G : Gt} {H : Hp} : ∀ {ls : List (List Int)} {vs : List V}, SeeL G H (ls.map fun l => .tup (l.map .int)) vs → ∃ ks : List (Addr × List Int), vs = ks.map (fun p => V.ref p.1) ∧ ls = ks.map (·.2) ∧ ∀ p ∈ ks, H p.1 = some (.tup (p.2.map V.int))
  | [], _, q => by cases q; exact ⟨[], rfl, rfl, fun _ h => nomatch h⟩
  | l :: ls, _, ⟨v, r, e, ⟨a, us, ev, ha, sl⟩, t⟩ => by
    obtain ⟨ks, e1, e2, h⟩ := tups_at t
    have := ints_see sl
    subst this
    subst e ev
    refine ⟨(a, l) :: ks, by rw [e1]; rfl, by rw [e2]; rfl, fun p hp => ?_⟩
    rcases List.mem_cons.mp hp with rfl | hp
    · exact ha
    · exact h p hp
theorem see_tupK {G : Gt} {H : Hp} : ∀ {ks : List (Addr × List Int)}, (∀ p ∈ ks, H p.1 = some (.tup (p.2.map V.int))) → SeeL G H ((ks.map (·.2)).map fun l => .tup (l.map .int)) (ks.map fun p => V.ref p.1)
  | [], _ => rfl
  | p :: ks, h => ⟨_, _, rfl, ⟨p.1, _, rfl, h p List.mem_cons_self, see_ints _⟩, see_tupK fun q hq => h q (List.mem_cons_of_mem _ hq)⟩
theorem pm_sortST {f : S → Res It} {p1 p2 q1 : Pos} (hK : X.K = C.K) (hc : X.calm = true) (hu : X.A.units + 64 < cLine) (hg : Gl X "sorted") (hm : X.mg "sorted" = none) (hg2 : Gl X "set") (hm2 : X.mg "set" = none) (ha : PE X a (tE C f))
    (h1 : starEach [.Call (.Name "set" p2) [a] [] q1] X.env = (false, eval (.Call (.Name "set" p2) [a] [] q1) X.env) :: starEach [] X.env := by rfl) (h2 : starEach [a] X.env = (false, eval a X.env) :: starEach [] X.env := by rfl) :
    PE X (.Call (.Name "sorted" p1) [.Call (.Name "set" p2) [a] [] q1] [] pos) (tE C (srtT f)) :=
  PE.imp (pe_callB (cr_sortedT hc) hg hm PyProof.Rows.boot_sorted (pa_cons (pe_callTy (cr_setOfT hc hu) hg2 hm2 PyProof.Rows.boot_set (pa_cons ha pa_nil h2) (by decide) (by decide) h2 rfl) pa_nil h1) (by decide) (by decide) h1 rfl) fun σ H Q ⟨s, fr, r, q⟩ => by
    refine tE_K P_E r q fun x s1 v H1 r1 h1 => ?_
    obtain ⟨n, d⟩ := x
    have h2 : postE C σ fr (match lstT d with
      | some ls => if okU ls then .ok (B, .lst ((ddC ls).map fun l => .tup (l.map .int))) s1 else .bad
      | none => .bad) Q := h1
    cases d with
    | lst ds =>
      cases e0 : lstT (.lst ds) with
      | none => rw [e0] at h2; exact h2.elim
      | some ls =>
        have e : allT ds = some ls := e0
        rw [e0] at h2
        dsimp only at h2
        split at h2
        · rename_i cnd
          obtain ⟨c1, c2, c3⟩ := okU_tr cnd
          have ed := allT_sx e
          subst ed
          obtain ⟨pp, vs, ev, hp, sl⟩ := r1.see
          obtain ⟨ks, e1, e2, hk⟩ := tups_at sl
          subst e1
          have hlen : ks.length < 64 := by rw [e2, List.length_map] at c1; exact c1
          refine ⟨pp, ks, by rw [ev], hK ▸ .of hp, fun p hp => .of (hk p hp), hlen, fun D0 L hD sub all => ?_⟩
          have hsub := upd_sub (o := SetTO X.prog X.w D0 L) hD
          refine ⟨D0, L, (ls.headD [0]).length, 64, rfl, upd_same, fun p hp => .of (hsub _ _ (hk p (sub p hp))), c2, fun p hp => ?_, fun L' p pm nd hl' pw hn => ?_⟩
          · exact c3 p.2 (by rw [e2]; exact List.mem_map.mpr ⟨p, sub p hp, rfl⟩)
          · have hmem : ∀ k, k ∈ L'.map (·.2) ↔ k ∈ ddC ls := fun k => by
              rw [mem_ddC, e2]
              constructor
              · intro hk'
                obtain ⟨p, hp, rfl⟩ := List.mem_map.mp hk'
                exact List.mem_map.mpr ⟨p, sub p (pm.mem_iff.mp hp), rfl⟩
              · intro hk'
                obtain ⟨p, hp, rfl⟩ := List.mem_map.mp hk'
                exact (pm.map _).mem_iff.mpr (all p hp)
            have inj : ∀ x ∈ L'.map (·.2), ∀ y ∈ L'.map (·.2), TS.code 64 x = TS.code 64 y → x = y := fun x hx y hy => c3.inj (mem_ddC.mp ((hmem x).mp hx)) (mem_ddC.mp ((hmem y).mp hy))
            have pw1 : (L'.map (·.2)).Pairwise (fun x y => TS.code 64 x ≤ TS.code 64 y) := List.pairwise_map.mpr pw
            have pw2 : (L'.map (·.2)).Pairwise (fun x y => TS.code 64 x < TS.code 64 y) := by
              have := (List.pairwise_and_iff.mpr ⟨pw1, nd⟩)
              exact List.Pairwise.imp_of_mem (fun {x y} hx hy ⟨h1, h2⟩ => by
                have : TS.code 64 x ≠ TS.code 64 y := fun e => h2 (inj x hx y hy e)
                omega) this
            have eL : L'.map (·.2) = ddC ls := codes_one inj pw2 (ddC_asc c3) hmem
            rw [← eL] at h2
            have r2 := r1.tail.mono hsub
            refine h2 _ _ (R.res r2 ⟨by rw [List.length_map, List.length_map]; unfold sizeLine; omega, szL_mem.mpr fun d hd => ?_⟩ fun l' rl => Rl.freshLst (isImmL_mem.mpr fun d hd => ?_) (see_tupK fun p hp => ?_) hn rl)
            · obtain ⟨l, hl, rfl⟩ := List.mem_map.mp hd
              have hz := szL_mem.mp r1.szd.2 (.tup (l.map .int)) (List.mem_map.mpr ⟨l, mem_ddC.mp ((hmem l).mp hl), rfl⟩)
              exact hz
            · obtain ⟨l, hl, rfl⟩ := List.mem_map.mp hd
              exact imm_ints _
            · exact hsub _ _ (hk p (sub p (pm.mem_iff.mp hp)))
        · exact h2.elim
    | _ => exact h2.elim
end
end Pv
namespace Pv
open PySem PySem.Spec PyProof.Rows L2
/-! Pva: *range(n) in a display -/
section
variable {C : Cn} {X : Cx} {e a b c : Expr} {es : List Expr} {pos p tpos px : Pos} {l : List Fr} {H : Hp} {σ : L2.St} {s : S} {fr : List Fr}
theorem pa_starRg {te : L2.St → Hp → (Int → Int → Hp → Prop) → Prop} {t : TA} {p : Pos} (hc : X.calm = true) (he : PRg X e te) (hr : PA X es t) (hs : starEach (.Starred e p :: es) X.env = (true, eval e X.env) :: starEach es X.env := by rfl) :
    PA X (.Starred e p :: es) (fun σ H Q => te σ H fun a b H1 => RgOk a b ∧ t σ H1 fun ys H2 => Q (rgV a b ++ ys) H2) := by
  refine ⟨fun pos pins s σ H Q I h => ?_⟩
  refine PySem.W.items_star (thn (he pins s σ H _ I h) fun v s1 ⟨r, a, b, t, u, w, H1, ex, hrg, I1, ok, q⟩ => ?_) hs
  subst ex
  obtain ⟨b1, b2, b3, b4, b5⟩ := ok
  have hT : s1.TypeIs (.ref r) "range" := ⟨_, hrg, rfl⟩
  unfold PySem.W.StarOf notIterableAtAll
  refine wpAny_bind (wpAny_specialOf hT PySem.F.slot_range_iter.lookup (wpAny_pure ⟨rfl, ?_⟩))
  refine collect_range (n := (b - a).toNat) (I1.ok.hd hc) hrg (small_one b1 b2 b3 b4) (rangeSize_nat a b) b5 fun h' tk acc hk hi => ?_
  have I2 : Inv X pins σ H1 { s1 with heap := h', toks := tk } := I1.kept hk
  exact thn (hr.run pos pins _ σ H1 _ I2 q) fun ws s3 ⟨vs, H3, I3, r3, q3⟩ => ⟨rgV a b ++ vs, H3, I3, (vals_rg hi).append r3, q3⟩
def starR (f : S → Option D) (g : S → Res (List It)) : S → Res (List It) := fun s => match f s with
  | some (.int n) => if rgOk 0 n then bindK .exc .bad (g s) fun xs s2 => .ok ((rgD 0 n).map (fun d => (B, d)) ++ xs) s2 else .bad
  | _ => .bad
theorem pa_starR {f : S → Option D} {g : S → Res (List It)} {pr p1 sp_ : Pos} (hc : X.calm = true) (hg : Gl X "range") (hm : X.mg "range" = none) (ha : PE X a (tSee C f)) (k : PA X es (tA C g)) (na : starEach [a] X.env = (false, eval a X.env) :: starEach [] X.env := by rfl)
    (hs : starEach (.Starred (.Call (.Name "range" pr) [a] [] p1) sp_ :: es) X.env = (true, eval (.Call (.Name "range" pr) [a] [] p1) X.env) :: starEach es X.env := by rfl) : PA X (.Starred (.Call (.Name "range" pr) [a] [] p1) sp_ :: es) (tA C (starR f g)) := PA.imp (pa_starRg hc (prg_1 hg hm ha na) k hs) fun σ H Q ⟨s, fr, r, q⟩ => by
  have q' : postA C σ fr (match f s with
    | some (.int n) => if rgOk 0 n then bindK .exc .bad (g s) fun xs s2 => .ok ((rgD 0 n).map (fun d => (B, d)) ++ xs) s2 else .bad
    | _ => .bad) Q := q
  split at q'
  · rename_i n e1
    split at q'
    · rename_i c0
      refine ⟨s, fr, _, r, e1, fun v H1 u1 s1 z1 => ?_⟩
      cases s1
      have c' : RgOk 0 n := by
        have := of_decide_eq_true c0
        exact ⟨by omega, by omega, by omega, by omega, this.2.2⟩
      refine ⟨n, rfl, c', ?_⟩
      have sl : SeeL C.toGt H1 (rgD 0 n) (rgV 0 n) := rgD_see 0 n
      have r2 := R.immsN (vs := rgV 0 n) (rgD_imm 0 n) sl (rgD_sz c0).2 (r.mono u1)
      refine tA_K (P_A.more (List.sublist_append_right _ _)) r2 q' fun xs s2 vs H2 e2 r3 q3 => ?_
      refine q3 (rgV 0 n ++ vs) H2 (by simp [e2, sl.length]) ?_
      rw [itsN_app (by simp [sl.length])]
      refine r3.perm ?_
      rw [← List.append_assoc]
      exact List.perm_append_comm.append_right _
    · exact q'.elim
  · exact q'.elim
end
end Pv
namespace Pv
open PySem PySem.Spec PyProof.Rows L2
/-! ## plain facts of data: rows of whole numbers -/
def sx (l : List Int) : D := .tup (l.map .int)
theorem map_int_inj : ∀ {a b : List Int}, a.map D.int = b.map D.int → a = b
  | [], [], _ => rfl
  | [], _ :: _, h => by cases h
  | _ :: _, [], h => by cases h
  | x :: a, y :: b, h => by
    have h1 := List.cons.inj h
    have h2 : x = y := D.int.inj h1.1
    rw [h2, map_int_inj h1.2]
theorem sx_inj {a b : List Int} : sx a = sx b ↔ a = b := ⟨fun h => map_int_inj (D.tup.inj h), fun h => h ▸ rfl⟩
/-! immutable -/
theorem immL_of {ds : List D} (h : ∀ d ∈ ds, isImm d = true) : isImmL ds = true := isImmL_mem.mpr h
@[simp] theorem immL_ints (l : List Int) : isImmL (l.map D.int) = true := immL_of fun d hd => by
  obtain ⟨i, _, rfl⟩ := List.mem_map.mp hd; rfl
@[simp] theorem imm_sx (l : List Int) : isImm (sx l) = true := by
  show isImm (.tup _) = true
  simp only [isImm, immL_ints]
@[simp] theorem immL_sxs (l : List (List Int)) : isImmL (l.map sx) = true := immL_of fun d hd => by
  obtain ⟨i, _, rfl⟩ := List.mem_map.mp hd; exact imm_sx i
@[simp] theorem imm_int (i : Int) : isImm (.int i) = true := rfl
@[simp] theorem immL_nil : isImmL [] = true := rfl
@[simp] theorem immL_cons (d : D) (ds : List D) : isImmL (d :: ds) = (isImm d && isImmL ds) := by simp only [isImmL]
@[simp] theorem imm_non : isImm .non = true := rfl
@[simp] theorem imm_str (x : Str) : isImm (.str x) = true := rfl
@[simp] theorem imm_bl (i : Bool) : isImm (.bl i) = true := rfl
@[simp] theorem imm_tup (l : List D) : isImm (.tup l) = isImmL l := by simp only [isImm]
@[simp] theorem imm_lst (l : List D) : isImm (.lst l) = false := by simp only [isImm]
@[simp] theorem imm_dct (t : Bool) (k l : List D) : isImm (.dct t k l) = false := by simp only [isImm]
@[simp] theorem imm_scr (l : List Int) : isImm (.scr l) = false := by simp only [isImm]
@[simp] theorem imm_obj (n : Nat) (l : List D) : isImm (.obj n l) = false := by simp only [isImm]
theorem line_of {n : Nat} (h : n ≤ 16777216) : line n = true := decide_eq_true h
/-! comparable -/
def okN (n : Nat) (d : D) : Bool := plain d && (py d).canLay0 && decide ((py d).depth ≤ n)
theorem okN_iff {n : Nat} {d : D} : okN n d = true ↔ plain d = true ∧ (py d).canLay0 = true ∧ (py d).depth ≤ n := by
  unfold okN
  rw [Bool.and_eq_true, Bool.and_eq_true, decide_eq_true_eq, and_assoc]
theorem okD_of {n : Nat} {d : D} (h : okN n d = true) (hn : n ≤ 64 := by omega) : okD d = true := by
  obtain ⟨h1, h2, h3⟩ := okN_iff.mp h
  unfold okD SeqAt.shaped
  rw [h1, h2, decide_eq_true (Nat.le_trans h3 hn)]
  rfl
theorem okN_mono {n m : Nat} {d : D} (h : okN n d = true) (hn : n ≤ m) : okN m d = true := by
  obtain ⟨h1, h2, h3⟩ := okN_iff.mp h
  exact okN_iff.mpr ⟨h1, h2, Nat.le_trans h3 hn⟩
theorem okN_L {n : Nat} : ∀ {ds : List D}, (∀ d ∈ ds, okN n d = true) → plainL ds = true ∧ PyData.canLayAll0 (pyL ds) = true ∧ PyData.depthAll (pyL ds) ≤ n
  | [], _ => ⟨rfl, rfl, Nat.zero_le _⟩
  | d :: ds, h => by
    obtain ⟨a1, a2, a3⟩ := okN_iff.mp (h d List.mem_cons_self)
    obtain ⟨b1, b2, b3⟩ := okN_L (ds := ds) fun x hx => h x (List.mem_cons_of_mem _ hx)
    refine ⟨?_, ?_, ?_⟩
    · simp only [plainL, a1, b1, Bool.and_self]
    · simp only [pyL, PyData.canLayAll0, a2, b2, Bool.and_self]
    · simp only [pyL, PyData.depthAll]
      omega
theorem okN_lst {n : Nat} {ds : List D} (h : ∀ d ∈ ds, okN n d = true) : okN (n + 1) (.lst ds) = true := by
  obtain ⟨a1, a2, a3⟩ := okN_L h
  refine okN_iff.mpr ⟨?_, ?_, ?_⟩
  · simp only [plain, a1]
  · simp only [py, PyData.canLay0, a2]
  · simp only [py, PyData.depth]; omega
theorem okN_tup {n : Nat} {ds : List D} (h : ∀ d ∈ ds, okN n d = true) : okN (n + 1) (.tup ds) = true := by
  obtain ⟨a1, a2, a3⟩ := okN_L h
  refine okN_iff.mpr ⟨?_, ?_, ?_⟩
  · simp only [plain, a1]
  · simp only [py, PyData.canLay0, a2]
  · simp only [py, PyData.depth]; omega
theorem okN_int (i : Int) : okN 0 (.int i) = true := rfl
theorem okN_bl (i : Bool) : okN 0 (.bl i) = true := rfl
theorem okN_ints (l : List Int) : ∀ d ∈ l.map D.int, okN 0 d = true := fun d hd => by
  obtain ⟨i, _, rfl⟩ := List.mem_map.mp hd; rfl
theorem okN_sx (l : List Int) : okN 1 (sx l) = true := okN_tup (okN_ints l)
theorem okN_sxs (l : List (List Int)) : ∀ d ∈ l.map sx, okN 1 d = true := fun d hd => by
  obtain ⟨i, _, rfl⟩ := List.mem_map.mp hd; exact okN_sx i
@[simp] theorem okD_int (i : Int) : okD (.int i) = true := rfl
@[simp] theorem okD_bl (i : Bool) : okD (.bl i) = true := rfl
@[simp] theorem okD_non : okD .non = true := rfl
@[simp] theorem okD_sx (l : List Int) : okD (sx l) = true := okD_of (okN_sx l)
@[simp] theorem okD_lsx (l : List (List Int)) : okD (.lst (l.map sx)) = true := okD_of (okN_lst (okN_sxs l))
@[simp] theorem okD_tsx (l : List (List Int)) : okD (.tup (l.map sx)) = true := okD_of (okN_tup (okN_sxs l))
@[simp] theorem okD_lint (l : List Int) : okD (.lst (l.map .int)) = true := okD_of (okN_lst (okN_ints l))
@[simp] theorem okD_tint (l : List Int) : okD (.tup (l.map .int)) = true := okD_sx l
@[simp] theorem okD_nil : okD (.lst []) = true := rfl
@[simp] theorem okD_tnil : okD (.tup []) = true := rfl
/-! equal -/
@[simp] theorem eqB_int (i j : Int) : eqB (.int i) (.int j) = decide (i = j) := by
  show PyData.eqv (.int i) (.int j) = _
  simp only [PyData.eqv]
  by_cases h : i = j <;> simp [h]
@[simp] theorem eqB_bl (i j : Bool) : eqB (.bl i) (.bl j) = decide (i = j) := by
  show PyData.eqv (.bool i) (.bool j) = _
  simp only [PyData.eqv]
  by_cases h : i = j <;> simp [h]
theorem eqvL_map {α : Type} (f : α → D) (h : ∀ a b : α, eqB (f a) (f b) = true ↔ a = b) : ∀ a b : List α, PyData.eqvAll (pyL (a.map f)) (pyL (b.map f)) = true ↔ a = b
  | [], [] => by simp [pyL, PyData.eqvAll]
  | [], _ :: _ => by simp [pyL, PyData.eqvAll]
  | _ :: _, [] => by simp [pyL, PyData.eqvAll]
  | x :: a, y :: b => by
    simp only [List.map_cons, pyL, PyData.eqvAll, Bool.and_eq_true, List.cons.injEq]
    rw [eqvL_map f h a b, show PyData.eqv (py (f x)) (py (f y)) = true ↔ x = y from h x y]
theorem dec_of_iff {b : Bool} {p : Prop} [Decidable p] (h : b = true ↔ p) : b = decide p := by
  by_cases q : p
  · rw [decide_eq_true q, h.mpr q]
  · rw [decide_eq_false q]
    cases b with
    | true => exact absurd (h.mp rfl) q
    | false => rfl
@[simp] theorem eqB_sx (a b : List Int) : eqB (sx a) (sx b) = decide (a = b) := dec_of_iff (by
  show PyData.eqv (py (sx a)) (py (sx b)) = true ↔ _
  show PyData.eqv (.tuple _) (.tuple _) = true ↔ _
  simp only [PyData.eqv]
  exact eqvL_map .int (fun a b => by simp) a b)
@[simp] theorem eqB_tint (a b : List Int) : eqB (.tup (a.map .int)) (.tup (b.map .int)) = decide (a = b) := eqB_sx a b
@[simp] theorem eqB_lint (a b : List Int) : eqB (.lst (a.map .int)) (.lst (b.map .int)) = decide (a = b) := dec_of_iff (by
  show PyData.eqv (.list _) (.list _) = true ↔ _
  simp only [PyData.eqv]
  exact eqvL_map .int (fun a b => by simp) a b)
@[simp] theorem eqB_tsx (a b : List (List Int)) : eqB (.tup (a.map sx)) (.tup (b.map sx)) = decide (a = b) := dec_of_iff (by
  show PyData.eqv (.tuple _) (.tuple _) = true ↔ _
  simp only [PyData.eqv]
  exact eqvL_map sx (fun a b => by simp) a b)
@[simp] theorem eqB_lsx (a b : List (List Int)) : eqB (.lst (a.map sx)) (.lst (b.map sx)) = decide (a = b) := dec_of_iff (by
  show PyData.eqv (.list _) (.list _) = true ↔ _
  simp only [PyData.eqv]
  exact eqvL_map sx (fun a b => by simp) a b)
theorem eqB_lst_nil (a : List D) : eqB (.lst a) (.lst []) = a.isEmpty := by
  show PyData.eqv (.list _) (.list _) = _
  simp only [PyData.eqv]
  cases a <;> simp [pyL, PyData.eqvAll]
/-! in -/
theorem any_sx (a : List (List Int)) (x : List Int) : ((a.map sx).any fun z => eqB z (sx x)) = decide (x ∈ a) := dec_of_iff (by
  simp only [List.any_map, List.any_eq_true, Function.comp, eqB_sx, decide_eq_true_eq]
  constructor
  · rintro ⟨y, h, rfl⟩; exact h
  · intro h; exact ⟨x, h, rfl⟩)
theorem any_int (a : List Int) (x : Int) : ((a.map D.int).any fun z => eqB z (.int x)) = decide (x ∈ a) := dec_of_iff (by
  simp only [List.any_map, List.any_eq_true, Function.comp, eqB_int, decide_eq_true_eq]
  constructor
  · rintro ⟨y, h, rfl⟩; exact h
  · intro h; exact ⟨x, h, rfl⟩)
@[simp] theorem inD_lsx (a : List (List Int)) (x : List Int) : inD (sx x) (.lst (a.map sx)) = some (.bl (decide (x ∈ a))) := by
  simp only [inD, okD_sx, okD_lsx, any_sx, Bool.and_self, if_true]
@[simp] theorem inD_tsx (a : List (List Int)) (x : List Int) : inD (sx x) (.tup (a.map sx)) = some (.bl (decide (x ∈ a))) := by
  simp only [inD, okD_sx, okD_tsx, any_sx, Bool.and_self, if_true]
@[simp] theorem inD_lint (a : List Int) (x : Int) : inD (.int x) (.lst (a.map .int)) = some (.bl (decide (x ∈ a))) := by
  simp only [inD, okD_int, okD_lint, any_int, Bool.and_self, if_true]
@[simp] theorem inD_sx (a : List Int) (x : Int) : inD (.int x) (sx a) = some (.bl (decide (x ∈ a))) := by
  show inD (.int x) (.tup _) = _
  simp only [inD, okD_int, okD_tint, any_int, Bool.and_self, if_true]
theorem keysO_ints : ∀ l : List Int, keysO (l.map .int) = some (l.map Sum.inl)
  | [] => rfl
  | x :: l => by simp only [List.map_cons, keysO, keyO, keysO_ints l]
@[simp] theorem okKey_sx (l : List Int) : okKey true (sx l) = true := by
  show (keysO _).isSome = true
  rw [keysO_ints]; rfl
theorem map_inl_inj : ∀ {a b : List Int}, (a.map Sum.inl : List Key) = b.map Sum.inl ↔ a = b
  | [], [] => by simp
  | [], _ :: _ => by simp
  | _ :: _, [] => by simp
  | x :: a, y :: b => by simp only [List.map_cons, List.cons.injEq, map_inl_inj, Sum.inl.injEq]
@[simp] theorem sameK_sx (a b : List Int) : sameK (sx a) (sx b) = decide (a = b) := by
  show (match keysO (a.map .int), keysO (b.map .int) with
    | some k, some l => decide (k = l)
    | _, _ => false) = _
  rw [keysO_ints, keysO_ints]
  by_cases h : a = b
  · subst h; simp
  · simp only [map_inl_inj]
@[simp] theorem hasK_sx (ks : List (List Int)) (x : List Int) : hasK (ks.map sx) (sx x) = decide (x ∈ ks) := dec_of_iff (by
  unfold hasK
  simp only [List.any_map, List.any_eq_true, Function.comp, sameK_sx, decide_eq_true_eq]
  constructor
  · rintro ⟨y, h, rfl⟩; exact h
  · intro h; exact ⟨x, h, rfl⟩)
@[simp] theorem inD_dsx (a : List (List Int)) (x : List Int) (vs : List D) : inD (sx x) (.dct true (a.map sx) vs) = some (.bl (decide (x ∈ a))) := by
  simp only [inD, okKey_sx, hasK_sx, if_true]
theorem idxK_none {ks : List (List Int)} {x : List Int} : idxK (ks.map sx) (sx x) = none ↔ x ∉ ks := by
  induction ks with
  | nil => simp [idxK]
  | cons k ks ih =>
    simp only [List.map_cons, idxK, sameK_sx, decide_eq_true_eq, List.mem_cons, not_or]
    by_cases h : k = x
    · simp [h]
    · rw [if_neg h, Option.map_eq_none_iff, ih]
      exact ⟨fun q => ⟨fun e => h e.symm, q⟩, fun q => q.2⟩
/-- the keys of a dict after one more -/
def putS (ks : List (List Int)) (x : List Int) : List (List Int) := if x ∈ ks then ks else ks ++ [x]
theorem putKk_sx (ks : List (List Int)) (x : List Int) : putKk (ks.map sx) (sx x) = (putS ks x).map sx := by
  unfold putKk putS
  split
  · rename_i j h
    rw [if_pos]
    apply Classical.byContradiction
    intro q
    rw [idxK_none.mpr q] at h
    cases h
  · rename_i h
    rw [if_neg (idxK_none.mp h), List.map_append]
    rfl
theorem set_replicate {α : Type} (n j : Nat) (a : α) : (List.replicate n a).set j a = List.replicate n a := by
  apply List.ext_getElem (by simp)
  intro i h1 h2
  simp [List.getElem_set]
def tru (n : Nat) : List D := List.replicate n (.bl true)
theorem putKv_sx (ks : List (List Int)) (x : List Int) : putKv (ks.map sx) (tru ks.length) (sx x) (.bl true) = tru (putS ks x).length := by
  unfold putKv putS tru
  split
  · rename_i j h
    rw [set_replicate, if_pos]
    apply Classical.byContradiction
    intro q
    rw [idxK_none.mpr q] at h
    cases h
  · rename_i h
    rw [if_neg (idxK_none.mp h), List.length_append, List.length_singleton, List.replicate_succ']
/-- a dict of simplices, all True -/
def dsx (ks : List (List Int)) : D := .dct true (ks.map sx) (tru ks.length)
/-! less -/
def tk (d : D) : List (Int ⊕ List Nat) := PySem.W.keyToks (py d)
theorem leB_iff {x y : D} : leB x y = true ↔ lexLt PyProof.Rows.itemOrd (tk y) (tk x) = false := by
  unfold leB ltB PySem.W.dataLt tk
  cases lexLt PyProof.Rows.itemOrd (PySem.W.keyToks (py y)) (PySem.W.keyToks (py x)) <;> simp
theorem leB_trans (x y z : D) (h1 : leB x y = true) (h2 : leB y z = true) : leB x z = true := by
  rw [leB_iff] at *
  cases q : lexLt PyProof.Rows.itemOrd (tk z) (tk x) with
  | false => rfl
  | true =>
    rcases lex_negTrans _ (tk y) _ q with h | h
    · rw [h] at h2; cases h2
    · rw [h] at h1; cases h1
theorem leB_total (x y : D) : (leB x y || leB y x) = true := by
  cases q : leB x y with
  | true => rfl
  | false =>
    have q' : lexLt PyProof.Rows.itemOrd (tk y) (tk x) = true := by
      cases q2 : lexLt PyProof.Rows.itemOrd (tk y) (tk x) with
      | true => rfl
      | false => rw [leB_iff.mpr q2] at q; cases q
    show leB y x = true
    rw [leB_iff]
    cases q3 : lexLt PyProof.Rows.itemOrd (tk x) (tk y) with
    | false => rfl
    | true =>
      have := lex_trans _ _ _ q3 q'
      rw [lex_irrefl] at this
      cases this
theorem leB_anti {x y : D} (h1 : leB x y = true) (h2 : leB y x = true) : tk x = tk y := lex_total _ _ (leB_iff.mp h2) (leB_iff.mp h1)
theorem sorted_leB (ds : List D) : (ds.mergeSort leB).Pairwise fun a b => leB a b = true := List.pairwise_mergeSort leB_trans leB_total ds
theorem sort_unique {a b : List D} (p : a.Perm b) (inj : ∀ x ∈ a, ∀ y ∈ a, tk x = tk y → x = y) (ha : a.Pairwise fun a b => leB a b = true) (hb : b.Pairwise fun a b => leB a b = true) : a = b :=
  p.eq_of_pairwise (le := fun a b => leB a b = true) (fun x y hx hy h1 h2 => inj x hx y (p.mem_iff.mpr hy) (leB_anti h1 h2)) ha hb
theorem sort_perm {a b : List D} (p : a.Perm b) (inj : ∀ x ∈ a, ∀ y ∈ a, tk x = tk y → x = y) : a.mergeSort leB = b.mergeSort leB :=
  sort_unique ((List.mergeSort_perm a leB).trans (p.trans (List.mergeSort_perm b leB).symm)) (fun x hx y hy => inj x ((List.mergeSort_perm a leB).mem_iff.mp hx) y ((List.mergeSort_perm a leB).mem_iff.mp hy)) (sorted_leB a) (sorted_leB b)
end Pv
namespace Pv
open PySem PySem.Spec PyProof.Rows L2
/-! ## order and sorting of rows of whole numbers -/
theorem toks_ints_inj : ∀ {a b : List Int}, PySem.W.keyToksAll (pyL (a.map D.int)) = PySem.W.keyToksAll (pyL (b.map D.int)) → a = b
  | [], [], _ => rfl
  | [], y :: b, h => by simp [pyL, py, PySem.W.keyToksAll] at h
  | x :: a, [], h => by simp [pyL, py, PySem.W.keyToksAll] at h
  | x :: a, y :: b, h => by
    simp only [List.map_cons, pyL, py, PySem.W.keyToksAll, PySem.W.keyToks, List.cons_append, List.nil_append, List.cons.injEq, Sum.inl.injEq, true_and] at h
    rw [h.1, toks_ints_inj h.2]
theorem tk_sx {a b : List Int} (h : tk (sx a) = tk (sx b)) : a = b := toks_ints_inj (by
  have h' : PySem.W.keyToks (.tuple (pyL (a.map D.int))) = PySem.W.keyToks (.tuple (pyL (b.map D.int))) := h
  simpa only [PySem.W.keyToks] using h')
theorem tk_int {a b : Int} (h : tk (.int a) = tk (.int b)) : a = b := by
  have h' : PySem.W.keyToks (.int a) = PySem.W.keyToks (.int b) := h
  simpa [PySem.W.keyToks] using h'
/-- a simplex with its length ahead -/
def lx (l : List Int) : D := .tup [.int l.length, sx l]
theorem lx_inj {a b : List Int} (h : lx a = lx b) : a = b := by
  have h1 := D.tup.inj h
  simp only [List.cons.injEq] at h1
  exact sx_inj.mp h1.2.1
theorem tk_lx {a b : List Int} (h : tk (lx a) = tk (lx b)) : a = b := by
  have h' : PySem.W.keyToks (.tuple [.int a.length, .tuple (pyL (a.map D.int))]) = PySem.W.keyToks (.tuple [.int b.length, .tuple (pyL (b.map D.int))]) := h
  simp only [PySem.W.keyToks, PySem.W.keyToksAll, List.cons_append, List.nil_append, List.cons.injEq, Sum.inl.injEq, true_and] at h'
  exact toks_ints_inj (List.append_cancel_right h'.2)
@[simp] theorem ltB_int (a b : Int) : ltB (.int a) (.int b) = decide (a < b) := by
  show PySem.W.dataLt (.int a) (.int b) = _
  rw [PySem.W.dataLt_int]
@[simp] theorem leB_int (a b : Int) : leB (.int a) (.int b) = decide (a ≤ b) := by
  unfold leB
  rw [ltB_int, PySem.W.cmp_not_lt]
theorem okN_lx (l : List Int) : okN 2 (lx l) = true := okN_tup fun d hd => by
  simp only [List.mem_cons, List.not_mem_nil, or_false] at hd
  rcases hd with rfl | rfl
  · rfl
  · exact okN_sx l
@[simp] theorem okD_lx (l : List Int) : okD (lx l) = true := okD_of (okN_lx l)
@[simp] theorem imm_lx (l : List Int) : isImm (lx l) = true := by
  show isImm (.tup _) = true
  simp [isImm, isImmL]
@[simp] theorem immL_lxs (l : List (List Int)) : isImmL (l.map lx) = true := immL_of fun d hd => by
  obtain ⟨i, _, rfl⟩ := List.mem_map.mp hd; exact imm_lx i
theorem alike_sx (a b : List Int) : PySem.W.alike (py (sx a)) (py (sx b)) = true := by
  show PySem.W.alike (.tuple _) (.tuple _) = true
  simp only [PySem.W.alike]
  have e : ∀ l : List Int, pyL (l.map D.int) = l.map PyData.int := fun l => by
    induction l with
    | nil => rfl
    | cons x l ih => simp only [List.map_cons, pyL, py, ih]
  rw [e, e]
  exact PySem.W.alike_ints a b
theorem alike_lx (a b : List Int) : PySem.W.alike (py (lx a)) (py (lx b)) = true := by
  show PySem.W.alike (.tuple [.int _, py (sx a)]) (.tuple [.int _, py (sx b)]) = true
  simp only [PySem.W.alike, PySem.W.alikeAll, alike_sx, Bool.and_self]
theorem alike_int (a b : Int) : PySem.W.alike (py (.int a)) (py (.int b)) = true := by
  show PySem.W.alike (.int _) (.int _) = true
  simp only [PySem.W.alike]
@[simp] theorem alk_int (a b : Int) : alk (.int a) (.int b) = true := by
  simp only [alk, okD_int, alike_int, Bool.and_self]
theorem sortOk_map {α : Type} {f : α → D} {l : List α} (h1 : ∀ a, isImm (f a) = true) (h2 : ∀ a, okD (f a) = true) (h3 : ∀ a b, PySem.W.alike (py (f a)) (py (f b)) = true) (h4 : (∀ a ∈ l, tupNe (f a) = true) ∨ ∀ a ∈ l, noTup (f a) = true) : sortOk (l.map f) = true := by
  unfold sortOk
  rw [immL_of (by simpa using fun a _ => h1 a)]
  simp only [List.all_map, Bool.true_and, Bool.and_eq_true, Bool.or_eq_true, List.all_eq_true, Function.comp]
  exact ⟨⟨fun a _ => h2 a, fun a _ b _ => h3 a b⟩, .inl h4⟩
theorem sortOk_ints (l : List Int) : sortOk (l.map .int) = true := sortOk_map imm_int okD_int alike_int (.inr fun _ _ => rfl)
theorem sortOk_lxs (l : List (List Int)) : sortOk (l.map lx) = true := sortOk_map imm_lx okD_lx alike_lx (.inl fun _ _ => rfl)
theorem sortOk_sxs {l : List (List Int)} (h : ∀ a ∈ l, a ≠ []) : sortOk (l.map sx) = true := sortOk_map imm_sx okD_sx alike_sx (.inl fun a ha => by
  cases a with
  | nil => exact absurd rfl (h _ ha)
  | cons x a => rfl)
/-! sorted rows, as rows -/
def srtI (l : List Int) : List Int := l.mergeSort fun a b => decide (a ≤ b)
def srtS (l : List (List Int)) : List (List Int) := l.mergeSort fun a b => leB (sx a) (sx b)
def srtL (l : List (List Int)) : List (List Int) := l.mergeSort fun a b => leB (lx a) (lx b)
theorem sort_map {α : Type} (f : α → D) (l : List α) : (l.map f).mergeSort leB = (l.mergeSort fun a b => leB (f a) (f b)).map f := (List.map_mergeSort (r := fun a b => leB (f a) (f b)) (s := leB) (f := f) (l := l) fun _ _ _ _ => rfl).symm
theorem sort_ints (l : List Int) : (l.map D.int).mergeSort leB = (srtI l).map .int := by
  rw [sort_map]
  unfold srtI
  simp only [leB_int]
theorem sortedD_ints (l : List Int) : sortedD [.lst (l.map .int)] = some (.lst ((srtI l).map .int)) := by
  show (if sortOk _ = true then _ else _) = _
  rw [if_pos (sortOk_ints l), sort_ints]
theorem sortedD_sxs {l : List (List Int)} (h : ∀ a ∈ l, a ≠ []) : sortedD [.lst (l.map sx)] = some (.lst ((srtS l).map sx)) := by
  show (if sortOk _ = true then _ else _) = _
  rw [if_pos (sortOk_sxs h), sort_map]
  rfl
theorem sortedD_lxs (l : List (List Int)) : sortedD [.lst (l.map lx)] = some (.lst ((srtL l).map lx)) := by
  show (if sortOk _ = true then _ else _) = _
  rw [if_pos (sortOk_lxs l), sort_map]
  rfl
theorem srtI_perm (l : List Int) : (srtI l).Perm l := List.mergeSort_perm _ _
theorem srtS_perm (l : List (List Int)) : (srtS l).Perm l := List.mergeSort_perm _ _
theorem srtL_perm (l : List (List Int)) : (srtL l).Perm l := List.mergeSort_perm _ _
theorem srtI_le (l : List Int) : (srtI l).Pairwise (· ≤ ·) := (List.pairwise_mergeSort (le := fun a b : Int => decide (a ≤ b)) (fun a b c h1 h2 => by simp only [decide_eq_true_eq] at *; omega) (fun a b => by simp only [Bool.or_eq_true, decide_eq_true_eq]; omega) l).imp fun h => of_decide_eq_true h
theorem srtI_lt {l : List Int} (h : l.Nodup) : (srtI l).Pairwise (· < ·) := by
  have h1 := srtI_le l
  have h2 : (srtI l).Pairwise (· ≠ ·) := (srtI_perm l).nodup_iff.mpr h
  exact (h1.and h2).imp fun ⟨a, b⟩ => by omega
theorem perm_sorted {α : Type} {f : α → D} {a b : List α} (inj : ∀ x y, tk (f x) = tk (f y) → x = y) (p : a.Perm b) : (a.mergeSort fun x y => leB (f x) (f y)) = b.mergeSort fun x y => leB (f x) (f y) := by
  have so : ∀ l : List α, (l.mergeSort fun x y => leB (f x) (f y)).Pairwise fun x y => leB (f x) (f y) = true := fun l =>
    List.pairwise_mergeSort (le := fun x y => leB (f x) (f y)) (fun x y z => leB_trans (f x) (f y) (f z)) (fun x y => leB_total (f x) (f y)) l
  exact ((List.mergeSort_perm a _).trans (p.trans (List.mergeSort_perm b _).symm)).eq_of_pairwise (le := fun x y => leB (f x) (f y) = true) (fun x y _ _ h1 h2 => inj x y (leB_anti h1 h2)) (so a) (so b)
theorem srtS_congr {a b : List (List Int)} (p : a.Perm b) : srtS a = srtS b := perm_sorted (fun _ _ => tk_sx) p
theorem srtL_congr {a b : List (List Int)} (p : a.Perm b) : srtL a = srtL b := perm_sorted (fun _ _ => tk_lx) p
theorem srtI_congr {a b : List Int} (p : a.Perm b) : srtI a = srtI b :=
  ((srtI_perm a).trans (p.trans (srtI_perm b).symm)).eq_of_pairwise (le := (· ≤ ·)) (fun x y _ _ h1 h2 => by omega) (srtI_le a) (srtI_le b)
/-- two strictly ascending rows with the same members are one -/
theorem asc_ext {a b : List Int} (ha : a.Pairwise (· < ·)) (hb : b.Pairwise (· < ·)) (h : ∀ x, x ∈ a ↔ x ∈ b) : a = b := by
  have na : a.Nodup := ha.imp fun h => by omega
  have nb : b.Nodup := hb.imp fun h => by omega
  have p : a.Perm b := (List.perm_ext_iff_of_nodup na nb).mpr h
  exact p.eq_of_pairwise (le := (· < ·)) (fun x y _ _ h1 h2 => by omega) ha hb
end Pv
namespace Pv
/-! ## complexes as rows of rows: plain mathematics, no program in sight -/
abbrev Asc (l : List Int) : Prop := l.Pairwise (· < ·)
theorem Asc.nd {l : List Int} (h : Asc l) : l.Nodup := h.imp fun h => by omega
theorem asc_sub {a b : List Int} (ha : Asc a) (hb : Asc b) (h : ∀ x ∈ a, x ∈ b) : a.Sublist b := by
  have e : a = b.filter (· ∈ a) := asc_ext ha (hb.sublist List.filter_sublist) fun x => by
    simp only [List.mem_filter, decide_eq_true_eq]
    exact ⟨fun q => ⟨h x q, q⟩, fun q => q.2⟩
  rw [e]
  exact List.filter_sublist
/-- all part rows -/
def pw (l : List Int) : List (List Int) := l.foldl (fun acc v => acc ++ acc.map (· ++ [v])) [[]]
def parts (l : List Int) : List (List Int) := (pw l).tail
theorem pw_snoc (l : List Int) (v : Int) : pw (l ++ [v]) = pw l ++ (pw l).map (· ++ [v]) := by simp [pw]
theorem sub_snoc {x l : List Int} {v : Int} : x.Sublist (l ++ [v]) ↔ x.Sublist l ∨ ∃ y, y.Sublist l ∧ y ++ [v] = x := by
  rw [List.sublist_append_iff]
  constructor
  · rintro ⟨a, b, rfl, h1, h2⟩
    rcases b with _ | ⟨c, b⟩
    · exact .inl (by simpa using h1)
    · right
      have h3 : c :: b = [v] := h2.eq_of_length_le (by simp)
      exact ⟨a, h1, by rw [h3]⟩
  · rintro (h | ⟨y, h, rfl⟩)
    · exact ⟨x, [], by simp, h, by simp⟩
    · exact ⟨y, [v], rfl, h, List.Sublist.refl _⟩
theorem snoc_ind {α : Type} {P : List α → Prop} (h0 : P []) (h1 : ∀ l a, P l → P (l ++ [a])) (l : List α) : P l := by
  have : ∀ l : List α, P l.reverse := fun l => by
    induction l with
    | nil => exact h0
    | cons a l ih => rw [List.reverse_cons]; exact h1 _ _ ih
  rw [← List.reverse_reverse l]
  exact this _
theorem mem_pw {l x : List Int} : x ∈ pw l ↔ x.Sublist l := by
  induction l using snoc_ind generalizing x with
  | h0 => simp [pw]
  | h1 l v ih =>
    rw [pw_snoc, List.mem_append, List.mem_map, sub_snoc, ih]
    constructor
    · rintro (h | ⟨y, h, e⟩)
      · exact .inl h
      · exact .inr ⟨y, ih.mp h, e⟩
    · rintro (h | ⟨y, h, e⟩)
      · exact .inl h
      · exact .inr ⟨y, ih.mpr h, e⟩
theorem pw_shape (l : List Int) : ∃ r, pw l = [] :: r ∧ ∀ x ∈ r, x ≠ [] := by
  induction l using snoc_ind with
  | h0 => exact ⟨[], rfl, by simp⟩
  | h1 l v ih =>
    obtain ⟨r, e, h⟩ := ih
    refine ⟨r ++ (pw l).map (· ++ [v]), by rw [pw_snoc, e]; rfl, fun x hx => ?_⟩
    rcases List.mem_append.mp hx with hx | hx
    · exact h x hx
    · obtain ⟨y, _, rfl⟩ := List.mem_map.mp hx
      simp
theorem mem_parts {l x : List Int} : x ∈ parts l ↔ x ≠ [] ∧ x.Sublist l := by
  obtain ⟨r, e, h⟩ := pw_shape l
  have er : parts l = r := by unfold parts; rw [e]; rfl
  have em : x ∈ pw l ↔ x = [] ∨ x ∈ r := by rw [e, List.mem_cons]
  rw [er, ← mem_pw, em]
  constructor
  · exact fun q => ⟨h x q, .inr q⟩
  · rintro ⟨q, q' | q'⟩
    · exact absurd q' q
    · exact q'
theorem pw_len (l : List Int) : (pw l).length = 2 ^ l.length := by
  induction l using snoc_ind with
  | h0 => rfl
  | h1 l v ih => rw [pw_snoc, List.length_append, List.length_map, ih, List.length_append, List.length_singleton]; omega
theorem parts_len (l : List Int) : (parts l).length = 2 ^ l.length - 1 := by
  unfold parts
  rw [List.length_tail, pw_len]
/-! dict keys -/
def putAll (acc xs : List (List Int)) : List (List Int) := xs.foldl putS acc
theorem mem_putS {ks : List (List Int)} {x y : List Int} : y ∈ putS ks x ↔ y ∈ ks ∨ y = x := by
  unfold putS
  split
  · rename_i h
    exact ⟨.inl, fun q => q.elim id fun e => e ▸ h⟩
  · simp
theorem nd_putS {ks : List (List Int)} {x : List Int} (h : ks.Nodup) : (putS ks x).Nodup := by
  unfold putS
  split
  · exact h
  · rename_i q
    rw [List.nodup_append]
    refine ⟨h, by simp, fun a ha b hb e => ?_⟩
    simp only [List.mem_singleton] at hb
    subst hb
    subst e
    exact q ha
theorem len_putS (ks : List (List Int)) (x : List Int) : (putS ks x).length ≤ ks.length + 1 ∧ ks.length ≤ (putS ks x).length := by
  unfold putS
  split
  · omega
  · simp
theorem mem_putAll {xs : List (List Int)} : ∀ {acc : List (List Int)} {y : List Int}, y ∈ putAll acc xs ↔ y ∈ acc ∨ y ∈ xs := by
  induction xs with
  | nil => intro acc y; simp [putAll]
  | cons x xs ih =>
    intro acc y
    show y ∈ putAll (putS acc x) xs ↔ _
    rw [ih, mem_putS, List.mem_cons, or_assoc]
theorem nd_putAll {xs : List (List Int)} : ∀ {acc : List (List Int)}, acc.Nodup → (putAll acc xs).Nodup := by
  induction xs with
  | nil => intro acc h; exact h
  | cons x xs ih => intro acc h; exact ih (nd_putS h)
theorem len_putAll {xs : List (List Int)} : ∀ {acc : List (List Int)}, (putAll acc xs).length ≤ acc.length + xs.length := by
  induction xs with
  | nil => intro acc; exact Nat.le_refl _
  | cons x xs ih =>
    intro acc
    have h1 := (len_putS acc x).1
    have h2 := ih (acc := putS acc x)
    show (putAll (putS acc x) xs).length ≤ _
    rw [List.length_cons]
    omega
/-- the faces, by the program and by the law -/
def genS (acc : List (List Int)) (l : List Int) : List (List Int) := if l ∈ acc then acc else putAll acc (parts l)
def gen (ls : List (List Int)) : List (List Int) := ls.foldl genS []
def genW (ls : List (List Int)) : List (List Int) := ls.foldl (fun acc l => putAll acc (parts l)) []
/-- fs holds the parts of ls, each once -/
structure Faces (fs ls : List (List Int)) : Prop where
  nd : fs.Nodup
  mem : ∀ x, x ∈ fs ↔ x ≠ [] ∧ ∃ l ∈ ls, x.Sublist l
theorem Faces.nil : Faces [] [] := ⟨List.nodup_nil, fun x => by simp⟩
theorem Faces.put {fs ls : List (List Int)} {l : List Int} (h : Faces fs ls) : Faces (putAll fs (parts l)) (ls ++ [l]) := by
  refine ⟨nd_putAll h.nd, fun x => ?_⟩
  rw [mem_putAll, mem_parts, h.mem]
  constructor
  · rintro (⟨a, k, b, c⟩ | ⟨a, b⟩)
    · exact ⟨a, k, List.mem_append_left _ b, c⟩
    · exact ⟨a, l, by simp, b⟩
  · rintro ⟨a, k, b, c⟩
    rcases List.mem_append.mp b with b | b
    · exact .inl ⟨a, k, b, c⟩
    · simp only [List.mem_singleton] at b
      subst b
      exact .inr ⟨a, c⟩
theorem Faces.step {fs ls : List (List Int)} {l : List Int} (h : Faces fs ls) : Faces (genS fs l) (ls ++ [l]) := by
  unfold genS
  split
  · rename_i q
    obtain ⟨_, k, hk, s⟩ := (h.mem l).mp q
    refine ⟨h.nd, fun x => ?_⟩
    rw [h.mem]
    constructor
    · rintro ⟨a, k, b, c⟩
      exact ⟨a, k, List.mem_append_left _ b, c⟩
    · rintro ⟨a, k', b, c⟩
      rcases List.mem_append.mp b with b | b
      · exact ⟨a, k', b, c⟩
      · simp only [List.mem_singleton] at b
        subst b
        exact ⟨a, k, hk, c.trans s⟩
  · exact h.put
theorem gen_snoc (ls : List (List Int)) (l : List Int) : gen (ls ++ [l]) = genS (gen ls) l := by simp [gen]
theorem genW_snoc (ls : List (List Int)) (l : List Int) : genW (ls ++ [l]) = putAll (genW ls) (parts l) := by simp [genW]
theorem gen_faces (ls : List (List Int)) : Faces (gen ls) ls := by
  induction ls using snoc_ind with
  | h0 => exact .nil
  | h1 ls l ih => rw [gen_snoc]; exact ih.step
theorem genW_faces (ls : List (List Int)) : Faces (genW ls) ls := by
  induction ls using snoc_ind with
  | h0 => exact .nil
  | h1 ls l ih => rw [genW_snoc]; exact ih.put
def wt (ls : List (List Int)) : Nat := (ls.map fun l => 2 ^ l.length - 1).sum
theorem genW_len (ls : List (List Int)) : (genW ls).length ≤ wt ls := by
  induction ls using snoc_ind with
  | h0 => exact Nat.le_refl _
  | h1 ls l ih =>
    rw [genW_snoc]
    have h := len_putAll (acc := genW ls) (xs := parts l)
    rw [parts_len] at h
    unfold wt at *
    simp only [List.map_append, List.map_cons, List.map_nil, List.sum_append, List.sum_cons, List.sum_nil]
    omega
theorem Faces.len {fs ls : List (List Int)} (h : Faces fs ls) : fs.length ≤ wt ls :=
  Nat.le_trans (List.Nodup.length_le_of_subset h.nd fun x hx => ((genW_faces ls).mem x).mpr ((h.mem x).mp hx)) (genW_len ls)
theorem Faces.perm {fs gs ls : List (List Int)} (h : Faces fs ls) (g : Faces gs ls) : fs.Perm gs := (List.perm_ext_iff_of_nodup h.nd g.nd).mpr fun x => (h.mem x).trans (g.mem x).symm

/-! the members of a complex -/
structure FS (fs : List (List Int)) : Prop where
  nd : fs.Nodup
  asc : ∀ x ∈ fs, Asc x
  ne : ∀ x ∈ fs, x ≠ []
  dn : ∀ x ∈ fs, ∀ y, y ≠ [] → y.Sublist x → y ∈ fs
  ln : ∀ x ∈ fs, x.length ≤ 8
theorem Faces.fs {fs ls : List (List Int)} (h : Faces fs ls) (ha : ∀ l ∈ ls, Asc l) (hl : ∀ l ∈ ls, l.length ≤ 8) : FS fs where
  nd := h.nd
  asc x hx := by
    obtain ⟨_, l, m, s⟩ := (h.mem x).mp hx
    exact (ha l m).sublist s
  ne x hx := ((h.mem x).mp hx).1
  dn x hx y hy s := by
    obtain ⟨_, l, m, t⟩ := (h.mem x).mp hx
    exact (h.mem y).mpr ⟨hy, l, m, s.trans t⟩
  ln x hx := by
    obtain ⟨_, l, m, s⟩ := (h.mem x).mp hx
    exact Nat.le_trans s.length_le (hl l m)
theorem sub_erase {s t : List Int} (h : s.Sublist t) : t.length = s.length + 1 → ∃ i < t.length, s = t.eraseIdx i := by
  induction h with
  | slnil => intro e; cases e
  | @cons s t a h ih =>
    intro e
    have : s = t := h.eq_of_length_le (by simp only [List.length_cons] at e; omega)
    exact ⟨0, by simp, by rw [this]; rfl⟩
  | @cons_cons s t a h ih =>
    intro e
    obtain ⟨i, hi, q⟩ := ih (by simpa using e)
    exact ⟨i + 1, by simpa using hi, by rw [q]; rfl⟩
/-- what is inside another simplex -/
def inn (fs : List (List Int)) : List (List Int) := putAll [] (fs.flatMap fun t => (List.range t.length).map fun i => t.eraseIdx i)
theorem mem_inn {fs : List (List Int)} {x : List Int} : x ∈ inn fs ↔ ∃ t ∈ fs, ∃ i < t.length, x = t.eraseIdx i := by
  unfold inn
  rw [mem_putAll]
  simp only [List.not_mem_nil, false_or, List.mem_flatMap, List.mem_map, List.mem_range]
  constructor
  · rintro ⟨t, h, i, hi, rfl⟩; exact ⟨t, h, i, hi, rfl⟩
  · rintro ⟨t, h, i, hi, rfl⟩; exact ⟨t, h, i, hi, rfl⟩
def tops (fs : List (List Int)) : List (List Int) := srtS (fs.filter fun x => !decide (x ∈ inn fs))
theorem mem_tops {fs : List (List Int)} {x : List Int} : x ∈ tops fs ↔ x ∈ fs ∧ x ∉ inn fs := by
  unfold tops
  rw [(srtS_perm _).mem_iff]
  simp
theorem inn_congr {a b : List (List Int)} (h : ∀ x, x ∈ a ↔ x ∈ b) (x : List Int) : x ∈ inn a ↔ x ∈ inn b := by
  rw [mem_inn, mem_inn]
  simp only [h]
theorem tops_congr {a b : List (List Int)} (ha : a.Nodup) (hb : b.Nodup) (h : ∀ x, x ∈ a ↔ x ∈ b) : tops a = tops b := by
  unfold tops
  refine srtS_congr ((List.perm_ext_iff_of_nodup (ha.filter _) (hb.filter _)).mpr fun x => ?_)
  simp only [List.mem_filter, h, inn_congr h]
/-- a face with one more in the complex is no facet -/
theorem mem_inn_iff {fs : List (List Int)} (F : FS fs) {x : List Int} (hx : x ∈ fs) : x ∈ inn fs ↔ ∃ t ∈ fs, t.length = x.length + 1 ∧ ∀ v ∈ x, v ∈ t := by
  rw [mem_inn]
  constructor
  · rintro ⟨t, h, i, hi, rfl⟩
    refine ⟨t, h, ?_, fun v hv => (List.eraseIdx_sublist t i).subset hv⟩
    rw [List.length_eraseIdx_of_lt hi]
    omega
  · rintro ⟨t, h, e, q⟩
    obtain ⟨i, hi, e⟩ := sub_erase (asc_sub (F.asc x hx) (F.asc t h) q) e
    exact ⟨t, h, i, hi, e⟩
/-- each face lies in a facet -/
theorem under {fs : List (List Int)} (F : FS fs) : ∀ (n : Nat) (x : List Int), x ∈ fs → 8 - x.length ≤ n → ∃ t ∈ tops fs, x.Sublist t := by
  intro n
  induction n with
  | zero =>
    intro x hx hn
    by_cases q : x ∈ inn fs
    · obtain ⟨t, ht, e, _⟩ := (mem_inn_iff F hx).mp q
      have := F.ln t ht
      omega
    · exact ⟨x, mem_tops.mpr ⟨hx, q⟩, List.Sublist.refl _⟩
  | succ n ih =>
    intro x hx hn
    by_cases q : x ∈ inn fs
    · obtain ⟨t, ht, e, s⟩ := (mem_inn_iff F hx).mp q
      obtain ⟨u, hu, s'⟩ := ih t ht (by omega)
      exact ⟨u, hu, (asc_sub (F.asc x hx) (F.asc t ht) s).trans s'⟩
    · exact ⟨x, mem_tops.mpr ⟨hx, q⟩, List.Sublist.refl _⟩
theorem mem_of_tops {fs : List (List Int)} (F : FS fs) {x : List Int} : x ∈ fs ↔ x ≠ [] ∧ ∃ t ∈ tops fs, x.Sublist t := by
  constructor
  · intro h
    exact ⟨F.ne x h, under F _ x h (Nat.le_refl _)⟩
  · rintro ⟨h, t, ht, s⟩
    exact F.dn t (mem_tops.mp ht).1 x h s
theorem tops_faces {fs : List (List Int)} (F : FS fs) : Faces fs (tops fs) := ⟨F.nd, fun _ => mem_of_tops F⟩
theorem tops_inj {a b : List (List Int)} (A : FS a) (B : FS b) (h : tops a = tops b) (x : List Int) : x ∈ a ↔ x ∈ b := by
  rw [mem_of_tops A, mem_of_tops B, h]
theorem tops_iff {a b : List (List Int)} (A : FS a) (B : FS b) : tops a = tops b ↔ ∀ x, x ∈ a ↔ x ∈ b := ⟨tops_inj A B, tops_congr A.nd B.nd⟩
theorem Faces.app {fs ls ms : List (List Int)} (h : Faces fs ls) (hm : ∀ m ∈ ms, m ∈ fs) : Faces fs (ls ++ ms) := ⟨h.nd, fun x => by
  rw [h.mem]
  constructor
  · rintro ⟨a, k, b, c⟩
    exact ⟨a, k, List.mem_append_left _ b, c⟩
  · rintro ⟨a, k, b, c⟩
    rcases List.mem_append.mp b with b | b
    · exact ⟨a, k, b, c⟩
    · obtain ⟨_, l, hl, s⟩ := (h.mem k).mp (hm k b)
      exact ⟨a, l, hl, c.trans s⟩⟩
theorem Faces.congr {fs ls ms : List (List Int)} (h : Faces fs ls) (hm : ∀ x, x ∈ ls ↔ x ∈ ms) : Faces fs ms := ⟨h.nd, fun x => by
  rw [h.mem]
  simp only [hm]⟩
end Pv
namespace Pv
open PySem PySem.Spec PyProof.Rows L2
/-! ## running denotations on written states -/
theorem forGo_ind {g : It → S → Option S} {fb : S → SRes} (I : List It → S → Prop) : ∀ (xs pre : List It) (s : S), I pre s →
    (∀ pre' x s, (∃ r, pre ++ xs = pre' ++ x :: r) → I pre' s → ∃ s1 s2, g x s = some s1 ∧ fb s1 = .nx s2 ∧ I (pre' ++ [x]) s2) →
    ∃ s', forGo g fb xs s = .nx s' ∧ I (pre ++ xs) s'
  | [], pre, s, h0, _ => ⟨s, rfl, by rwa [List.append_nil]⟩
  | x :: xs, pre, s, h0, h => by
    obtain ⟨s1, s2, e1, e2, h1⟩ := h pre x s ⟨xs, rfl⟩ h0
    obtain ⟨s', e, h'⟩ := forGo_ind I xs (pre ++ [x]) s2 h1 fun pre' y t ⟨r, hr⟩ => h pre' y t ⟨r, by rw [← hr]; simp⟩
    refine ⟨s', ?_, by rw [← List.append_cons] at h'; exact h'⟩
    show (match g x s with
      | none => SRes.bad
      | some s1 => match fb s1 with
        | .nx s2 => forGo g fb xs s2
        | .ct s2 => forGo g fb xs s2
        | .bk s2 => .nx s2
        | r => r) = _
    rw [e1]
    dsimp only
    rw [e2]
    exact e
/-- a loop, by what holds behind each prefix -/
theorem forGo_pre {g : It → S → Option S} {fb : S → SRes} (I : List It → S → Prop) {xs : List It} {s : S} (h0 : I [] s)
    (h : ∀ pre x s, (∃ r, xs = pre ++ x :: r) → I pre s → ∃ s1 s2, g x s = some s1 ∧ fb s1 = .nx s2 ∧ I (pre ++ [x]) s2) :
    ∃ s', forGo g fb xs s = .nx s' ∧ I xs s' := forGo_ind I xs [] s h0 fun pre' x t q => h pre' x t q
/-- a loop over the images of rows -/
theorem forGo_map {α : Type} {g : It → S → Option S} {fb : S → SRes} (m : α → It) (I : List α → S → Prop) : ∀ (xs pre : List α) (s : S), I pre s →
    (∀ pre' x s, (∃ r, pre ++ xs = pre' ++ x :: r) → I pre' s → ∃ s1 s2, g (m x) s = some s1 ∧ fb s1 = .nx s2 ∧ I (pre' ++ [x]) s2) →
    ∃ s', forGo g fb (xs.map m) s = .nx s' ∧ I (pre ++ xs) s'
  | [], pre, s, h0, _ => ⟨s, rfl, by rwa [List.append_nil]⟩
  | x :: xs, pre, s, h0, h => by
    obtain ⟨s1, s2, e1, e2, h1⟩ := h pre x s ⟨xs, rfl⟩ h0
    obtain ⟨s', e, h'⟩ := forGo_map m I xs (pre ++ [x]) s2 h1 fun pre' y t ⟨r, hr⟩ => h pre' y t ⟨r, by rw [← hr]; simp⟩
    refine ⟨s', ?_, by rw [← List.append_cons] at h'; exact h'⟩
    show (match g (m x) s with
      | none => SRes.bad
      | some s1 => match fb s1 with
        | .nx s2 => forGo g fb (xs.map m) s2
        | .ct s2 => forGo g fb (xs.map m) s2
        | .bk s2 => .nx s2
        | r => r) = _
    rw [e1]
    dsimp only
    rw [e2]
    exact e
theorem forGo_of {α : Type} {g : It → S → Option S} {fb : S → SRes} (m : α → It) (I : List α → S → Prop) {xs : List α} {s : S} (h0 : I [] s)
    (h : ∀ pre x s, (∃ r, xs = pre ++ x :: r) → I pre s → ∃ s1 s2, g (m x) s = some s1 ∧ fb s1 = .nx s2 ∧ I (pre ++ [x]) s2) :
    ∃ s', forGo g fb (xs.map m) s = .nx s' ∧ I xs s' := forGo_map m I xs [] s h0 fun pre' x t q => h pre' x t q
/-- a comprehension whose block leaves the state as it was -/
theorem lcGo_map {α : Type} {vs : List Nat} {g : It → S → Option S} {ft : S → Res Bool} {fe : S → Res It} (m : α → It) (p : α → Bool) (k : α → It) {s0 : S} : ∀ (xs : List α),
    (∀ x ∈ xs, ∃ s1, g (m x) s0 = some s1 ∧ ft s1 = .ok (p x) s1 ∧ wipeS s1 vs = s0 ∧ (p x = true → fe s1 = .ok (k x) s1)) →
    lcGo vs g ft fe (xs.map m) s0 = .ok ((xs.filter p).map k) s0
  | [], _ => rfl
  | x :: xs, h => by
    obtain ⟨s1, e1, e2, e3, e4⟩ := h x List.mem_cons_self
    have ih := lcGo_map m p k xs fun y hy => h y (List.mem_cons_of_mem _ hy)
    show (match g (m x) s0 with
      | none => Res.bad
      | some s1 => match ft s1 with
        | .ok true s2 => match fe s2 with
          | .ok y s3 => match lcGo vs g ft fe (xs.map m) (wipeS s3 vs) with
            | .ok ys s4 => .ok (y :: ys) s4
            | _ => .bad
          | _ => .bad
        | .ok false s2 => lcGo vs g ft fe (xs.map m) (wipeS s2 vs)
        | _ => .bad) = _
    rw [e1]
    dsimp only
    rw [e2]
    cases q : p x with
    | false =>
      dsimp only
      rw [e3, ih]
      simp [q]
    | true =>
      dsimp only
      rw [e4 q]
      dsimp only
      rw [e3, ih]
      simp [q]
theorem lcGo_all {α : Type} {vs : List Nat} {g : It → S → Option S} {ft : S → Res Bool} {fe : S → Res It} (m : α → It) (k : α → It) {s0 : S} (xs : List α)
    (h : ∀ x ∈ xs, ∃ s1, g (m x) s0 = some s1 ∧ ft s1 = .ok true s1 ∧ wipeS s1 vs = s0 ∧ fe s1 = .ok (k x) s1) :
    lcGo vs g ft fe (xs.map m) s0 = .ok (xs.map k) s0 := by
  have := lcGo_map (ft := ft) (fe := fe) m (fun _ => true) k xs fun x hx => by
    obtain ⟨s1, a, b, c, d⟩ := h x hx
    exact ⟨s1, a, b, c, fun _ => d⟩
  rwa [List.filter_eq_self.mpr fun _ _ => rfl] at this
/-- depths of fresh things -/
@[simp] theorem minDep_nil : minDep [] = B := rfl
@[simp] theorem minDep_cons (x : It) (xs : List It) : minDep (x :: xs) = min x.1 (minDep xs) := rfl
theorem minDep_B {α : Type} (k : α → It) : ∀ (xs : List α), (∀ x ∈ xs, (k x).1 = B) → minDep (xs.map k) = B
  | [], _ => rfl
  | x :: xs, h => by
    rw [List.map_cons, minDep_cons, h x List.mem_cons_self, minDep_B k xs fun y hy => h y (List.mem_cons_of_mem _ hy)]
    omega
theorem lcM_val {vs : List Nat} {fi : S → Res (List It)} {g : It → S → Option S} {ft : S → Res Bool} {fe : S → Res It} {s s1 s2 : S} {xs ys : List It} (h1 : fi s = .ok xs s1) (h2 : lcGo vs g ft fe xs (wipeS s1 vs) = .ok ys s2) :
    lcM vs fi g ft fe s = .ok (min B (minDep ys + 1), .lst (ys.map (·.2))) (restore s2 s1 vs) := by
  unfold lcM
  rw [h1]
  show (match lcGo vs g ft fe xs (wipeS s1 vs) with
    | .ok ys s2 => Res.ok (min B (minDep ys + 1), D.lst (ys.map fun y : It => y.2)) (restore s2 s1 vs)
    | _ => .bad) = _
  rw [h2]
/-- a comprehension over rows, its block pure, what it makes immutable -/
theorem lcM_map {α : Type} {vs : List Nat} {fi : S → Res (List It)} {g : It → S → Option S} {ft : S → Res Bool} {fe : S → Res It} {s s1 : S} (m : α → It) (p : α → Bool) (k : α → D) {xs : List α} (h1 : fi s = .ok (xs.map m) s1)
    (h : ∀ x ∈ xs, ∃ s2, g (m x) (wipeS s1 vs) = some s2 ∧ ft s2 = .ok (p x) s2 ∧ wipeS s2 vs = wipeS s1 vs ∧ (p x = true → fe s2 = .ok (B, k x) s2)) :
    lcM vs fi g ft fe s = .ok (B, .lst ((xs.filter p).map k)) (restore (wipeS s1 vs) s1 vs) := by
  have e := lcM_val (vs := vs) (ft := ft) (fe := fe) h1 (lcGo_map m p (fun x => (B, k x)) xs h)
  rw [e, minDep_B _ _ fun _ _ => rfl]
  simp
theorem lcM_all {α : Type} {vs : List Nat} {fi : S → Res (List It)} {g : It → S → Option S} {ft : S → Res Bool} {fe : S → Res It} {s s1 : S} (m : α → It) (k : α → D) {xs : List α} (h1 : fi s = .ok (xs.map m) s1)
    (h : ∀ x ∈ xs, ∃ s2, g (m x) (wipeS s1 vs) = some s2 ∧ ft s2 = .ok true s2 ∧ wipeS s2 vs = wipeS s1 vs ∧ fe s2 = .ok (B, k x) s2) :
    lcM vs fi g ft fe s = .ok (B, .lst (xs.map k)) (restore (wipeS s1 vs) s1 vs) := by
  have := lcM_map (vs := vs) (ft := ft) (fe := fe) m (fun _ => true) k h1 fun x hx => by
    obtain ⟨s2, a, b, c, d⟩ := h x hx
    exact ⟨s2, a, b, c, fun _ => d⟩
  rwa [List.filter_eq_self.mpr fun _ _ => rfl] at this
/-! data that stay folded -/
@[simp] theorem lenD_lst (ds : List D) : lenD [.lst ds] = some (.int ds.length) := rfl
@[simp] theorem lenD_tup (ds : List D) : lenD [.tup ds] = some (.int ds.length) := rfl
@[simp] theorem lenD_scr (ds : List Int) : lenD [.scr ds] = some (.int ds.length) := rfl
@[simp] theorem storeD_lst (n m : Nat) (ds : List D) (k : Int) (y : D) : storeD n (.lst ds) (.int k) m y = match ixN ds.length k with | some j => some (min n m, .lst (ds.set j y)) | none => none := rfl
@[simp] theorem kidIx_lst (ds : List D) (i : Int) : kidIx (.lst ds) (.int i) = ixN ds.length i := rfl
@[simp] theorem kidIx_tup (ds : List D) (i : Int) : kidIx (.tup ds) (.int i) = ixN ds.length i := rfl
@[simp] theorem kidIx_scr (ds : List Int) (i : Int) : kidIx (.scr ds) (.int i) = ixN ds.length i := rfl
@[simp] theorem kidIx_sx (ds : List Int) (i : Int) : kidIx (sx ds) (.int i) = ixN ds.length i := by
  show ixN (ds.map D.int).length i = _
  rw [List.length_map]
@[simp] theorem kids_lst (ds : List D) : kids (.lst ds) = ds := rfl
@[simp] theorem kids_tup (ds : List D) : kids (.tup ds) = ds := rfl
@[simp] theorem kids_scr (ds : List Int) : kids (.scr ds) = ds.map .int := rfl
@[simp] theorem kids_obj (c : Nat) (ds : List D) : kids (.obj c ds) = ds := rfl
@[simp] theorem mutD_obj (c : Nat) (ds : List D) : mutD (.obj c ds) = true := rfl
@[simp] theorem mutD_lst (ds : List D) : mutD (.lst ds) = true := rfl
@[simp] theorem mutD_tup (ds : List D) : mutD (.tup ds) = false := rfl
@[simp] theorem kids_sx (ds : List Int) : kids (sx ds) = ds.map .int := rfl
@[simp] theorem tupleD_lst (ds : List D) : tupleD [.lst ds] = if isImmL ds then some (.tup ds) else none := rfl
@[simp] theorem tupleD_tup (ds : List D) : tupleD [.tup ds] = if isImmL ds then some (.tup ds) else none := rfl
@[simp] theorem listD_lst (ds : List D) : listD [.lst ds] = if isImmL ds then some (.lst ds) else none := rfl
@[simp] theorem listD_tup (ds : List D) : listD [.tup ds] = if isImmL ds then some (.lst ds) else none := rfl
@[simp] theorem listD_sx (ds : List Int) : listD [sx ds] = some (.lst (ds.map .int)) := by
  show (if isImmL _ = true then _ else _) = _
  rw [immL_ints]
  rfl
@[simp] theorem listD_dsx (ds : List (List Int)) : listD [dsx ds] = some (.lst (ds.map sx)) := rfl
@[simp] theorem isaTy_int (cs : List Nat) (bs : List String) (i : Int) : isaTy cs bs (.int i) = some (bs.any fun b => isaS "int" b) := rfl
@[simp] theorem isaTy_bl (cs : List Nat) (bs : List String) (i : Bool) : isaTy cs bs (.bl i) = some (bs.any fun b => isaS "bool" b) := rfl
@[simp] theorem isaTy_non (cs : List Nat) (bs : List String) : isaTy cs bs .non = some (bs.any fun b => isaS "NoneType" b) := rfl
@[simp] theorem isaTy_str (cs : List Nat) (bs : List String) (x : Str) : isaTy cs bs (.str x) = some (bs.any fun b => isaS "str" b) := rfl
@[simp] theorem isaTy_tup (cs : List Nat) (bs : List String) (ds : List D) : isaTy cs bs (.tup ds) = some (bs.any fun b => isaS "tuple" b) := rfl
@[simp] theorem isaTy_lst (cs : List Nat) (bs : List String) (ds : List D) : isaTy cs bs (.lst ds) = some (bs.any fun b => isaS "list" b) := rfl
@[simp] theorem isaTy_sx (cs : List Nat) (bs : List String) (ds : List Int) : isaTy cs bs (sx ds) = some (bs.any fun b => isaS "tuple" b) := rfl
@[simp] theorem isaTy_obj (cs : List Nat) (bs : List String) (c : Nat) (ds : List D) : isaTy cs bs (.obj c ds) = if c ∈ cs then some false else none := rfl
@[simp] theorem addD_int (i j : Int) : addD (.int i) (.int j) = some (.int (i + j)) := rfl
@[simp] theorem addD_lst (a b : List D) : addD (.lst a) (.lst b) = if isImmL a && isImmL b && line (a.length + b.length) then some (.lst (a ++ b)) else none := rfl
@[simp] theorem addD_tup (a b : List D) : addD (.tup a) (.tup b) = if isImmL a && isImmL b && line (a.length + b.length) then some (.tup (a ++ b)) else none := rfl
@[simp] theorem notD_bl (b : Bool) : notD (some (.bl b)) = some (.bl (!b)) := rfl
def itD : D → S → Res (List It)
  | .lst ds, s1 => .ok (ds.map fz) s1
  | .tup ds, s1 => .ok (ds.map fz) s1
  | .dct _ ks _, s1 => .ok (ks.map fun d => (B, d)) s1
  | _, _ => .bad
theorem itM_eq (f : S → Res It) (s : S) : itM f s = bindK .exc .bad (f s) fun x s1 => itD x.2 s1 := by
  unfold itM
  cases f s with
  | ok x s1 => obtain ⟨n, d⟩ := x; cases d <;> rfl
  | exc c fs s1 => rfl
  | bad => rfl
theorem fz_int (i : Int) : fz (.int i) = (B, .int i) := rfl
theorem fz_sx (l : List Int) : fz (sx l) = (B, sx l) := by simp [fz]
theorem fz_lx (l : List Int) : fz (lx l) = (B, lx l) := by simp [fz]
theorem map_fz_ints (l : List Int) : (l.map D.int).map fz = l.map fun i => (B, .int i) := by simp [fz_int]
theorem map_fz_sxs (l : List (List Int)) : (l.map sx).map fz = l.map fun i => (B, sx i) := by simp [fz_sx]
@[simp] theorem itD_sx (l : List Int) (s : S) : itD (sx l) s = .ok (l.map fun i => (B, .int i)) s := congrArg (Res.ok · s) (map_fz_ints l)
@[simp] theorem itD_lsx (l : List (List Int)) (s : S) : itD (.lst (l.map sx)) s = .ok (l.map fun i => (B, sx i)) s := congrArg (Res.ok · s) (map_fz_sxs l)
@[simp] theorem itD_tsx (l : List (List Int)) (s : S) : itD (.tup (l.map sx)) s = .ok (l.map fun i => (B, sx i)) s := congrArg (Res.ok · s) (map_fz_sxs l)
@[simp] theorem itD_llx (l : List (List Int)) (s : S) : itD (.lst (l.map lx)) s = .ok (l.map fun i => (B, lx i)) s := by
  show Res.ok ((l.map lx).map fz) s = _
  simp [fz_lx]
@[simp] theorem itD_lint (l : List Int) (s : S) : itD (.lst (l.map .int)) s = .ok (l.map fun i => (B, .int i)) s := congrArg (Res.ok · s) (map_fz_ints l)
@[simp] theorem itD_dsx (l : List (List Int)) (s : S) : itD (dsx l) s = .ok (l.map fun i => (B, sx i)) s := by
  show Res.ok ((l.map sx).map fun d => (B, d)) s = _
  simp
@[simp] theorem lenD_sx (l : List Int) : lenD [sx l] = some (.int l.length) := by
  show some (D.int _) = _
  simp
@[simp] theorem lenD_dsx (l : List (List Int)) : lenD [dsx l] = some (.int l.length) := by
  show some (D.int _) = _
  simp
@[simp] theorem inD_dsx' (a : List (List Int)) (x : List Int) : inD (sx x) (dsx a) = some (.bl (decide (x ∈ a))) := inD_dsx a x _
theorem storeD_dsx {n m : Nat} {ks : List (List Int)} {x : List Int} (h : ks.length < 16777216) : storeD n (dsx ks) (sx x) m (.bl true) = some (min n m, dsx (putS ks x)) := by
  show (if (okKey true (sx x) && decide ((tru ks.length).length < PySem.sizeLine)) = true then some (min n m, D.dct true (putKk (ks.map sx) (sx x)) (putKv (ks.map sx) (tru ks.length) (sx x) (.bl true))) else none) = _
  rw [okKey_sx, putKk_sx, putKv_sx, decide_eq_true (show (tru ks.length).length < PySem.sizeLine by rw [tru, List.length_replicate]; exact h)]
  rfl
theorem smI_of {i : Int} (h : -1000000 ≤ i ∧ i ≤ 1000000) : smI i = true := decide_eq_true (Nat.lt_of_le_of_lt (show i.natAbs ≤ 1000000 by omega) (by decide))
theorem itR1_of {f : S → Option D} {s : S} {n : Nat} (h : f s = some (.int n)) (hn : n ≤ 1000000) : itR1 f s = .ok (rgI 0 n) s := by
  unfold itR1
  rw [h]
  have e1 : smI (n : Int) = true := smI_of (by omega)
  have e2 : line (n : Int).toNat = true := line_of (by omega)
  dsimp only
  rw [e1, e2]
  rfl
theorem forS_ok {fi : S → Res (List It)} {g : It → S → Option S} {fb : S → SRes} {s s1 : S} {xs : List It} (h : fi s = .ok xs s1) : forS fi g fb s = forGo g fb xs s1 := by
  unfold forS
  rw [h]
  rfl
theorem small_of {i : Int} (h : -1000000 ≤ i ∧ i ≤ 1000000) : small i = true := decide_eq_true (Nat.lt_of_le_of_lt (show i.natAbs ≤ 1000000 by omega) (by decide))
theorem mulD_int {i j : Int} (h : small i = true ∨ small j = true) : mulD (.int i) (.int j) = some (.int (i * j)) := by
  show (if (small i || small j) = true then _ else _) = _
  rw [if_pos (by simpa using h)]
theorem mulD_zero {m : Nat} (h : m ≤ 1000000) : mulD (.lst [.int 0]) (.int m) = some (.lst (List.replicate m (.int 0))) := by
  have e1 : (m : Int).natAbs < 2 ^ 63 := Nat.lt_of_le_of_lt (show (m : Int).natAbs ≤ 1000000 by omega) (by decide)
  have e2 : line ([D.int 0].length * m) = true := line_of (by simp; omega)
  unfold mulD
  simp only [decide_eq_true e1, e2, immL_cons, imm_int, immL_nil, Bool.and_self, if_true, Int.toNat_natCast, List.flatten_replicate_singleton]
theorem ixN_of {n j : Nat} (h : j < n) : ixN n (j : Int) = some j := by
  unfold ixN
  rw [if_pos (by omega), if_pos (by omega)]
  simp
theorem ixN_sub {n j : Nat} (h1 : 1 ≤ j) (h : j ≤ n) : ixN n ((j : Int) - 1) = some (j - 1) := by
  rw [show (j : Int) - 1 = ((j - 1 : Nat) : Int) by omega]
  exact ixN_of (by omega)
theorem seq_nx {f g : S → SRes} {s s1 : S} {r : SRes} (h : f s = .nx s1) (k : g s1 = r) : seqS f g s = r := by
  unfold seqS
  rw [h]
  exact k
theorem fn_rt {n : Nat} {lm : List Bool} {d : S → SRes} {xs ys : List It} {x : It} {s : S} (h : d (xs.map some ++ List.replicate (n - xs.length) none) = .rt x s) (r : retL lm s = some ys) : fnD n lm d xs = some (x, ys) := by
  unfold fnD
  rw [h]
  dsimp only
  rw [r]
  rfl
theorem mOp_ok {g : D → D → Option D} {fa fb : S → Res It} {s s1 s2 : S} {n m : Nat} {x y z : D} (h1 : fa s = .ok (n, x) s1) (h2 : fb s1 = .ok (m, y) s2) (h3 : g x y = some z) : mOp g fa fb s = .ok (B, z) s2 := by
  unfold mOp
  rw [h1]
  show bindK _ _ (fb s1) _ = _
  rw [h2]
  show okV (g x y) s2 = _
  rw [h3]
theorem asS_nm {f : S → Res It} {s s1 : S} {x : It} {i : Nat} (h : f s = .ok x s1) : asS f (gNm i) s = .nx (s1.set i (some x)) := by
  unfold asS
  rw [h]
  rfl
theorem poM_ok {r m n : Nat} {f : S → Res It} {s s1 : S} {ds : List D} {i : Int} {j : Nat} {d : D} (h0 : isL r s = true) (hf : f s = .ok (m, .int i) s1) (h : s1[r]? = some (some (n + 1, .lst ds))) (hi : ixN ds.length i = some j) (hd : ds[j]? = some d) (hs : smI i = true) :
    poM r f s = .ok (if isImm d then B else n, d) (s1.set r (some (n + 1, .lst (ds.eraseIdx j)))) := by
  unfold poM
  rw [if_pos h0, hf]
  show poG r (m, .int i) s1 = _
  unfold poG
  rw [h]
  dsimp only
  rw [hi]
  dsimp only
  rw [hd]
  dsimp only
  rw [if_pos hs]
theorem apM_ok {r m n : Nat} {f : S → Res It} {s s1 : S} {ds : List D} {d : D} (h0 : isL r s = true) (hf : f s = .ok (m, d) s1) (h : s1[r]? = some (some (n + 1, .lst ds))) (hs : ds.length < 16777216) :
    apM r f s = .ok (B, .non) (s1.set r (some (min n m + 1, .lst (ds ++ [d])))) := by
  unfold apM
  rw [if_pos h0, hf]
  show (match s1[r]? with
    | some (some (n + 1, .lst ds)) => if decide (ds.length < PySem.sizeLine) then Res.ok (B, D.non) (s1.set r (some (min n m + 1, .lst (ds ++ [d])))) else .bad
    | _ => .bad) = _
  rw [h]
  dsimp only
  rw [if_pos (decide_eq_true (show ds.length < PySem.sizeLine from hs))]
theorem exS_ok {f : S → Res It} {s s1 : S} {x : It} (h : f s = .ok x s1) : exS f s = .nx s1 := by
  unfold exS
  rw [h]
  rfl
theorem dsx_nil : (D.dct true [] [] : D) = dsx [] := rfl
@[simp] theorem imm_dsx (l : List (List Int)) : isImm (dsx l) = false := imm_dct _ _ _
@[simp] theorem line0 : line 0 = true := rfl
@[simp] theorem line1 : line 1 = true := rfl
@[simp] theorem line2 : line 2 = true := rfl
@[simp] theorem line3 : line 3 = true := rfl
@[simp] theorem line4 : line 4 = true := rfl
@[simp] theorem line10 : line 10 = true := rfl
theorem cutL_from1 {α : Type} (xs : List α) : cutL xs (some 1) none = xs.tail := by
  unfold cutL
  rcases xs with _ | ⟨x, xs⟩
  · rfl
  · simp [HT.sIx]
@[simp] theorem cutD_sx1 (l : List Int) : cutD (sx l) (some 1) none = some (sx l.tail) := by
  show (if isImmL _ = true then _ else _) = _
  rw [if_pos (immL_ints l), cutL_from1]
  simp [sx, List.map_tail]
@[simp] theorem cutD_lsx1 (l : List (List Int)) : cutD (.lst (l.map sx)) (some 1) none = some (.lst (l.tail.map sx)) := by
  show (if isImmL _ = true then _ else _) = _
  rw [if_pos (immL_sxs l), cutL_from1]
  simp [List.map_tail]
/-! the simp set that runs written states -/
local macro_rules
  | `(tactic| simp_arith) => `(tactic| simp_arith [bindK])
  | `(tactic| simp_arith [$ts,*]) => `(tactic| simp (config := { decide := false }) [-List.map_map, bindK, Res.sbind, okV, okT, mOp, nilM, consM, callM, tupM, lstM, truD, truV, truM, isB, tstV, tstM, mAndT, mOrT, mNotT, mAndV, mOrV, mNotV, mIf, seqIx, mIx, seeP, ofP, pName, pIx, pFld, low, lev, toV, ofV, opV, negV, chV, nilA, consA, callV, intD, min2D, max2D, subD, isiD, isaOwn, isaS, itM_eq, slV, nilS, seqS, badS, exS, rtS, rtN, ifS, asS, parS, gNm, gTp, stL, newD, mvM, mixI, bkS, consL, callG, callF, fnD, retL, partO, noO, notD_bl, leD, ltD, gtD, geD, eqD, neD, forS, exG, sbS, stM, fdS, fdG, mkM, mkG, prM, inM, ninM, eqM, $ts,*])
/-! ## a statement at a time: what holds of a block's outcome -/
def W (r : SRes) (Q : SRes → Prop) : Prop := Q r
theorem W_tail {f : S → SRes} {s : S} {Q : SRes → Prop} (h : W (seqS f nilS s) Q) : W (f s) Q := by
  unfold W seqS nilS at *
  cases e : f s <;> rw [e] at h <;> exact h
theorem fn_W {n : Nat} {lm : List Bool} {d : S → SRes} {xs ys : List It} {x : It} (h : W (seqS d nilS (xs.map some ++ List.replicate (n - xs.length) none)) fun r => ∃ s, r = .rt x s ∧ retL lm s = some ys) : fnD n lm d xs = some (x, ys) := by
  obtain ⟨s, e, r⟩ := W_tail h
  exact fn_rt e r
/-- a def without a return -/
theorem fn_Wn {n : Nat} {lm : List Bool} {d : S → SRes} {xs ys : List It} (h : W (seqS d nilS (xs.map some ++ List.replicate (n - xs.length) none)) fun r => ∃ s, r = .nx s ∧ retL lm s = some ys) : fnD n lm d xs = some ((B, .non), ys) := by
  obtain ⟨s, e, r⟩ := W_tail h
  unfold fnD
  rw [e]
  dsimp only
  rw [r]
  rfl
/-- a def whose answer is drawn -/
theorem fn_Wx {n : Nat} {lm : List Bool} {d : S → SRes} {xs : List It} {P : It → List It → Prop} (h : W (seqS d nilS (xs.map some ++ List.replicate (n - xs.length) none)) fun r => ∃ x s ys, r = .rt x s ∧ retL lm s = some ys ∧ P x ys) : ∃ x ys, fnD n lm d xs = some (x, ys) ∧ P x ys := by
  obtain ⟨x, s, ys, e, r, p⟩ := W_tail h
  exact ⟨x, ys, fn_rt e r, p⟩
theorem W_assoc {f g k : S → SRes} {s : S} {Q : SRes → Prop} (h : W (seqS f (seqS g k) s) Q) : W (seqS (seqS f g) k s) Q := by
  have e : seqS (seqS f g) k s = seqS f (seqS g k) s := by
    unfold seqS
    cases f s <;> rfl
  rw [e]
  exact h
theorem W_seq {f k : S → SRes} {s s1 : S} {Q : SRes → Prop} (h : f s = .nx s1) (hk : W (k s1) Q) : W (seqS f k s) Q := by
  rw [seq_nx h rfl]
  exact hk
theorem W_nil {k : S → SRes} {s : S} {Q : SRes → Prop} (hk : W (k s) Q) : W (seqS nilS k s) Q := hk
theorem W_nx {s : S} {Q : SRes → Prop} (h : Q (.nx s)) : W (nilS s) Q := h
theorem W_rt {f : S → Res It} {k : S → SRes} {s s1 : S} {x : It} {Q : SRes → Prop} (h : f s = .ok x s1) (hk : Q (.rt x s1)) : W (seqS (rtS f) k s) Q := by
  have e : seqS (rtS f) k s = .rt x s1 := by
    unfold seqS rtS
    rw [h]
    rfl
  rw [e]
  exact hk
theorem W_ifT {c : S → Res Bool} {f g k : S → SRes} {s s1 : S} {Q : SRes → Prop} (h : c s = .ok true s1) (hk : W (seqS f k s1) Q) : W (seqS (ifS c f g) k s) Q := by
  have e : seqS (ifS c f g) k s = seqS f k s1 := by
    unfold seqS ifS
    rw [h]
    rfl
  rw [e]
  exact hk
theorem W_ifF {c : S → Res Bool} {f g k : S → SRes} {s s1 : S} {Q : SRes → Prop} (h : c s = .ok false s1) (hk : W (seqS g k s1) Q) : W (seqS (ifS c f g) k s) Q := by
  have e : seqS (ifS c f g) k s = seqS g k s1 := by
    unfold seqS ifS
    rw [h]
    rfl
  rw [e]
  exact hk
theorem W_if {c : S → Res Bool} {f g k : S → SRes} {s s1 : S} {b : Bool} {Q : SRes → Prop} (h : c s = .ok b s1) (h1 : b = true → W (seqS f k s1) Q) (h2 : b = false → W (seqS g k s1) Q) : W (seqS (ifS c f g) k s) Q := by
  cases b with
  | true => exact W_ifT h (h1 rfl)
  | false => exact W_ifF h (h2 rfl)
/-- a loop: what holds behind each prefix; no early way out -/
theorem W_for {α : Type} (m : α → It) (I : List α → S → Prop) {fi : S → Res (List It)} {g : It → S → Option S} {fb k : S → SRes} {xs : List α} {s s0 : S} {Q : SRes → Prop} (hi : fi s = .ok (xs.map m) s0) (h0 : I [] s0)
    (hb : ∀ pre x s, (∃ r, xs = pre ++ x :: r) → I pre s → ∃ s1, g (m x) s = some s1 ∧ W (seqS fb nilS s1) fun r => ∃ s2, r = .nx s2 ∧ I (pre ++ [x]) s2)
    (hk : ∀ s', I xs s' → W (k s') Q) : W (seqS (forS fi g fb) k s) Q := by
  obtain ⟨s', e, h⟩ := forGo_of (g := g) (fb := fb) m I (xs := xs) h0 fun pre x s hp h => by
    obtain ⟨s1, e1, w⟩ := hb pre x s hp h
    obtain ⟨s2, e2, h2⟩ := W_tail w
    exact ⟨s1, s2, e1, e2, h2⟩
  exact W_seq ((forS_ok hi).trans e) (hk s' h)
theorem forGo_exit {α : Type} {g : It → S → Option S} {fb : S → SRes} {Q : SRes → Prop} (m : α → It) (I : List α → S → Prop) : ∀ (xs pre : List α) (s : S), I pre s →
    (∀ pre' x s, (∃ r, pre ++ xs = pre' ++ x :: r) → I pre' s → ∃ s1, g (m x) s = some s1 ∧ ((∃ s2, (fb s1 = .nx s2 ∨ fb s1 = .ct s2) ∧ I (pre' ++ [x]) s2) ∨ (∃ y s2, fb s1 = .rt y s2 ∧ Q (.rt y s2)) ∨ ∃ s2, fb s1 = .bk s2 ∧ Q (.bk s2))) →
    (∃ s', forGo g fb (xs.map m) s = .nx s' ∧ (I (pre ++ xs) s' ∨ Q (.bk s'))) ∨ ∃ y s2, forGo g fb (xs.map m) s = .rt y s2 ∧ Q (.rt y s2)
  | [], pre, s, h0, _ => .inl ⟨s, rfl, .inl (by rwa [List.append_nil])⟩
  | x :: xs, pre, s, h0, h => by
    have un : forGo g fb ((x :: xs).map m) s = (match g (m x) s with
        | none => SRes.bad
        | some s1 => match fb s1 with
          | .nx s2 => forGo g fb (xs.map m) s2
          | .ct s2 => forGo g fb (xs.map m) s2
          | .bk s2 => .nx s2
          | r => r) := rfl
    obtain ⟨s1, e1, ⟨s2, e2, h1⟩ | ⟨y, s2, e2, q⟩ | ⟨s2, e2, q⟩⟩ := h pre x s ⟨xs, rfl⟩ h0
    · have ih := forGo_exit m I xs (pre ++ [x]) s2 h1 fun pre' y t ⟨r, hr⟩ => h pre' y t ⟨r, by rw [← hr]; simp⟩
      rw [← List.append_cons] at ih
      have un2 : forGo g fb ((x :: xs).map m) s = forGo g fb (xs.map m) s2 := by
        rw [un, e1]
        dsimp only
        rcases e2 with e2 | e2 <;> rw [e2]
      rw [un2]
      exact ih
    · right
      refine ⟨y, s2, ?_, q⟩
      rw [un, e1]
      dsimp only
      rw [e2]
    · left
      refine ⟨s2, ?_, .inr q⟩
      rw [un, e1]
      dsimp only
      rw [e2]
/-- a loop with ways out: a return, a break, a continue -/
theorem W_forx {α : Type} (m : α → It) (I : List α → S → Prop) (K : S → Prop) {fi : S → Res (List It)} {g : It → S → Option S} {fb k : S → SRes} {xs : List α} {s s0 : S} {Q : SRes → Prop} (hi : fi s = .ok (xs.map m) s0) (h0 : I [] s0)
    (hb : ∀ pre x s, (∃ r, xs = pre ++ x :: r) → I pre s → ∃ s1, g (m x) s = some s1 ∧ W (seqS fb nilS s1) fun r => (∃ s2, (r = .nx s2 ∨ r = .ct s2) ∧ I (pre ++ [x]) s2) ∨ (∃ y s2, r = .rt y s2 ∧ Q (.rt y s2)) ∨ ∃ s2, r = .bk s2 ∧ K s2)
    (hk : ∀ s', I xs s' ∨ K s' → W (k s') Q) : W (seqS (forS fi g fb) k s) Q := by
  let Q' : SRes → Prop := fun r => match r with
    | .rt y s2 => Q (.rt y s2)
    | .bk s2 => K s2
    | _ => False
  rcases forGo_exit (g := g) (fb := fb) (Q := Q') m I xs [] s0 h0 fun pre x s hp h => by
    obtain ⟨s1, e1, w⟩ := hb pre x s hp h
    refine ⟨s1, e1, ?_⟩
    rcases W_tail w with ⟨s2, e2, h2⟩ | ⟨y, s2, e2, q⟩ | ⟨s2, e2, q⟩
    · exact .inl ⟨s2, e2, h2⟩
    · exact .inr (.inl ⟨y, s2, e2, q⟩)
    · exact .inr (.inr ⟨s2, e2, q⟩) with ⟨s', e, h⟩ | ⟨y, s2, e, q⟩
  · exact W_seq ((forS_ok hi).trans e) (hk s' (by simpa [Q'] using h))
  · have : seqS (forS fi g fb) k s = .rt y s2 := by
      unfold seqS
      rw [forS_ok hi, e]
    rw [this]
    exact q
theorem mAndT_ok {f g : S → Res Bool} {s : S} {p q : Prop} [Decidable p] [Decidable q] (hf : f s = .ok (decide p) s) (hg : g s = .ok (decide q) s) : mAndT f g s = .ok (decide (p ∧ q)) s := by
  unfold mAndT
  rw [hf]
  by_cases h : p
  · simp [bindK, h, hg]
  · simp [bindK, h]
theorem mOrT_ok {f g : S → Res Bool} {s : S} {p q : Prop} [Decidable p] [Decidable q] (hf : f s = .ok (decide p) s) (hg : g s = .ok (decide q) s) : mOrT f g s = .ok (decide (p ∨ q)) s := by
  unfold mOrT
  rw [hf]
  by_cases h : p
  · simp [bindK, h]
  · simp [bindK, h, hg]
theorem W_ifD {c : S → Res Bool} {f g k : S → SRes} {s s1 : S} {p : Prop} [Decidable p] {Q : SRes → Prop} (h : c s = .ok (decide p) s1) (h1 : p → W (seqS f k s1) Q) (h2 : ¬ p → W (seqS g k s1) Q) : W (seqS (ifS c f g) k s) Q :=
  W_if h (fun q => h1 (of_decide_eq_true q)) fun q => h2 (of_decide_eq_false q)
/-- a comprehension whose test draws -/
theorem lcGo_sub {α : Type} {vs : List Nat} {g : It → S → Option S} {ft : S → Res Bool} {fe : S → Res It} (m k : α → It) (I : S → Prop)
    (h : ∀ x s, I s → ∃ s1 b s2, g (m x) s = some s1 ∧ ft s1 = .ok b s2 ∧ (b = true → ∃ s3, fe s2 = .ok (k x) s3 ∧ I (wipeS s3 vs)) ∧ (b = false → I (wipeS s2 vs))) : ∀ (xs : List α) (s : S), I s →
    ∃ (zs : List α) (s' : S), zs.Sublist xs ∧ lcGo vs g ft fe (xs.map m) s = .ok (zs.map k) s' ∧ I s'
  | [], s, i => ⟨[], s, List.Sublist.refl _, rfl, i⟩
  | x :: xs, s, i => by
    obtain ⟨s1, b, s2, e1, e2, h1, h2⟩ := h x s i
    have un : lcGo vs g ft fe ((x :: xs).map m) s = (match g (m x) s with
        | none => Res.bad
        | some s1 => match ft s1 with
          | .ok true s2 => match fe s2 with
            | .ok y s3 => match lcGo vs g ft fe (xs.map m) (wipeS s3 vs) with
              | .ok ys s4 => .ok (y :: ys) s4
              | _ => .bad
            | _ => .bad
          | .ok false s2 => lcGo vs g ft fe (xs.map m) (wipeS s2 vs)
          | _ => .bad) := rfl
    cases b with
    | true =>
      obtain ⟨s3, e3, i3⟩ := h1 rfl
      obtain ⟨zs, s', sb, e4, i4⟩ := lcGo_sub m k I h xs _ i3
      refine ⟨x :: zs, s', sb.cons_cons _, ?_, i4⟩
      rw [un, e1]
      dsimp only
      rw [e2]
      dsimp only
      rw [e3]
      dsimp only
      rw [e4]
      rfl
    | false =>
      obtain ⟨zs, s', sb, e4, i4⟩ := lcGo_sub m k I h xs _ (h2 rfl)
      refine ⟨zs, s', sb.cons _, ?_, i4⟩
      rw [un, e1]
      dsimp only
      rw [e2]
      dsimp only
      rw [e4]
local macro_rules
  | `(tactic| simp_arith!) => `(tactic| simp_arith! [bindK])
  | `(tactic| simp_arith! [$ts,*]) => `(tactic| (repeat with_reducible (first | refine W_assoc ?_ | refine W_nil ?_)); apply W_seq; (simp_arith [$ts,*]; first | done | rfl | exact ⟨rfl, rfl⟩ | exact Iff.rfl))
local macro_rules
  | `(tactic| simp_all_arith) => `(tactic| simp_all_arith [bindK])
  | `(tactic| simp_all_arith [$ts,*]) => `(tactic| (repeat with_reducible (first | refine W_assoc ?_ | refine W_nil ?_)); apply W_ifT; (simp_arith [$ts,*]; first | done | rfl | exact ⟨rfl, rfl⟩ | exact Iff.rfl))
local macro_rules
  | `(tactic| simp_all_arith!) => `(tactic| simp_all_arith! [bindK])
  | `(tactic| simp_all_arith! [$ts,*]) => `(tactic| (repeat with_reducible (first | refine W_assoc ?_ | refine W_nil ?_)); apply W_ifF; (simp_arith [$ts,*]; first | done | rfl | exact ⟨rfl, rfl⟩ | exact Iff.rfl))
local macro_rules
  | `(tactic| simp_all!) => `(tactic| simp_all! [bindK])
  | `(tactic| simp_all! [$ts,*]) => `(tactic| (repeat with_reducible (first | refine W_assoc ?_ | refine W_nil ?_)); apply W_rt; ((simp_arith [$ts,*]; first | done | rfl | exact ⟨rfl, rfl⟩ | exact Iff.rfl)))
/-! ## more of rows -/
@[simp] theorem seqE_tup (ds : List D) : seqE (.tup ds) = some ds := rfl
@[simp] theorem seqE_lst (ds : List D) : seqE (.lst ds) = some ds := rfl
@[simp] theorem seqE_sx (l : List Int) : seqE (sx l) = some (l.map .int) := rfl
@[simp] theorem seqD_tup (ds : List D) : seqD (.tup ds) = some ds := rfl
@[simp] theorem seqD_lst (ds : List D) : seqD (.lst ds) = some ds := rfl
@[simp] theorem seqD_sx (l : List Int) : seqD (sx l) = some (l.map .int) := rfl
@[simp] theorem immL_app (a b : List D) : isImmL (a ++ b) = (isImmL a && isImmL b) := by
  rw [Bool.eq_iff_iff, Bool.and_eq_true, isImmL_mem, isImmL_mem, isImmL_mem]
  constructor
  · exact fun h => ⟨fun d q => h d (List.mem_append_left _ q), fun d q => h d (List.mem_append_right _ q)⟩
  · exact fun h d q => (List.mem_append.mp q).elim (h.1 d) (h.2 d)
theorem callF1_ok {f : S → Res It} {s s1 : S} {x y : It} {F : Fd} (hf : f s = .ok x s1) (hF : F [x] = some (y, [])) : callF [none] F (consM f nilM) s = .ok y s1 := by
  simp_arith [hf, hF]
theorem tstM_ok {f : S → Res It} {s s1 : S} {n : Nat} {b : Bool} (h : f s = .ok (n, .bl b) s1) : tstM f s = .ok b s1 := by
  unfold tstM
  rw [h]
  rfl
theorem mOr_ff {f g : S → Res Bool} {s s1 s2 : S} (h : f s = .ok false s1) (h2 : g s1 = .ok false s2) : mOrT f g s = .ok false s2 := by
  unfold mOrT
  rw [h]
  exact h2
theorem mOr_t {f g : S → Res Bool} {s s1 : S} (h : f s = .ok true s1) : mOrT f g s = .ok true s1 := by
  unfold mOrT
  rw [h]
  rfl
theorem mAnd_f {f g : S → Res Bool} {s s1 : S} (h : f s = .ok false s1) : mAndT f g s = .ok false s1 := by
  unfold mAndT
  rw [h]
  rfl
theorem mAnd_tt {f g : S → Res Bool} {s s1 s2 : S} {b : Bool} (h : f s = .ok true s1) (h2 : g s1 = .ok b s2) : mAndT f g s = .ok b s2 := by
  unfold mAndT
  rw [h]
  exact h2
@[simp] theorem cutD_lint1 (l : List Int) : cutD (.lst (l.map .int)) (some 1) none = some (.lst (l.tail.map .int)) := by
  show (if isImmL (l.map D.int) = true then some (D.lst (cutL (l.map D.int) (some 1) none)) else none) = _
  rw [if_pos (immL_ints l), cutL_from1]
  simp
theorem nd_map {α β : Type} {f : α → β} (hf : ∀ a b, f a = f b → a = b) {l : List α} (h : l.Nodup) : (l.map f).Nodup :=
  List.pairwise_map.mpr (h.imp fun ne q => ne (hf _ _ q))
theorem exM_ok {r m n : Nat} {f : S → Res It} {s s1 : S} {ds es : List D} (h0 : isL r s = true) (hf : f s = .ok (m + 1, .lst es) s1) (h : s1[r]? = some (some (n + 1, .lst ds))) (hs : ds.length + es.length < 16777216) :
    exM r f s = .ok (B, .non) (s1.set r (some (min n m + 1, .lst (ds ++ es)))) := by
  unfold exM
  rw [if_pos h0, hf]
  show exG r (m + 1, .lst es) s1 = _
  unfold exG
  rw [h]
  dsimp only
  rw [if_pos (line_of (by omega))]
theorem srtI_asc {l : List Int} (h : Asc l) : srtI l = l :=
  (srtI_perm l).eq_of_pairwise (le := fun a b : Int => a ≤ b) (fun x y _ _ h1 h2 => by omega) (srtI_le l) (h.imp fun q => by omega)
theorem asc_app {a b : List Int} {k : Int} (ha : Asc a) (hb : Asc b) (la : ∀ x ∈ a, x < k) (lb : ∀ x ∈ b, k ≤ x) : Asc (a ++ b) :=
  List.pairwise_append.mpr ⟨ha, hb, fun x hx y hy => by have := la x hx; have := lb y hy; omega⟩
theorem minDep_Bs (xs ys : List D) : minDep (xs.map (fun d => (B, d)) ++ ys.map fun d => (B, d)) = B := by
  rw [← List.map_append]
  exact minDep_B _ _ fun _ _ => rfl
theorem starM_ok {f : S → Res It} {g : S → Res (List It)} {s s1 s2 : S} {n : Nat} {x : D} {xs : List D} {ys : List It} (hf : f s = .ok (n, x) s1) (hg : g s1 = .ok ys s2) (ex : seqE x = some xs) (ix : isImmL xs = true) :
    starM f g s = .ok (xs.map (fun d => (B, d)) ++ ys) s2 := by
  unfold starM
  rw [hf]
  simp only [bindK, ex, ix, if_true, hg]
/-- [*f, *g] -/
theorem stars2 {f g : S → Res It} {s s1 s2 : S} {n m : Nat} {x y : D} {xs ys : List D} (hf : f s = .ok (n, x) s1) (hg : g s1 = .ok (m, y) s2) (ex : seqE x = some xs) (ey : seqE y = some ys) (ix : isImmL xs = true) (iy : isImmL ys = true) (hl : xs.length + ys.length < 16777216) :
    lstM (starM f (starM g nilM)) s = .ok (B, .lst (xs ++ ys)) s2 := by
  have e : starM f (starM g nilM) s = .ok (xs.map (fun d => (B, d)) ++ ys.map fun d => (B, d)) s2 := by
    have := starM_ok hf (starM_ok (g := nilM) hg rfl ey iy) ex ix
    rwa [List.append_nil] at this
  unfold lstM
  rw [e]
  simp only [bindK]
  rw [minDep_Bs, if_pos (line_of (by simp; omega))]
  simp [Function.comp_def]
theorem allO_ii : ∀ (l : List Int), allO intO (l.map D.int) = some l
  | [] => rfl
  | x :: l => by simp only [List.map_cons, allO, intO, allO_ii l]
theorem srtM_ok {f : S → Res It} {s s1 : S} {n : Nat} {ns : List Int} (hf : f s = .ok (n, .tup (ns.map .int)) s1) (h : ns.length < 64) : srtM intsT f s = .ok (B, .lst ((dd ns).map .int)) s1 := by
  have h2 := dd_len ns
  unfold srtM
  rw [hf]
  simp only [bindK, intsT, allO_ii, decide_eq_true (show ns.length < 4000 by omega), decide_eq_true (show (dd ns).length < 64 by omega), Bool.and_self, if_true]
theorem srtC_ok {f : S → Res It} {s s1 : S} {n : Nat} {ns : List Int} (hf : f s = .ok (n, .lst (ns.map .int)) s1) (h : ns.length < 4000) (h2 : (dd ns).length < 64) : srtM intsL f s = .ok (B, .lst ((dd ns).map .int)) s1 := by
  unfold srtM
  rw [hf]
  simp only [bindK, intsL, allO_ii, decide_eq_true h, decide_eq_true h2, Bool.and_self, if_true]
theorem lenS_ok {f : S → Res It} {s s1 : S} {n : Nat} {ns : List Int} (hf : f s = .ok (n, .lst (ns.map .int)) s1) (h : ns.length < 4000) : lenS intsL f s = .ok (B, .int (dd ns).length) s1 := by
  unfold lenS
  rw [hf]
  simp only [bindK, intsL, allO_ii, decide_eq_true h, if_true]
theorem rgM_ok {g : List D → D} {f : S → Res It} {s s1 : S} {n m : Nat} (hf : f s = .ok (n, .int m) s1) (hm : m ≤ 1000) : rgM g f s = .ok (B, g (((List.range m).map fun i : Nat => (i : Int)).map .int)) s1 := by
  have e : rgOk 0 (m : Int) = true := decide_eq_true ⟨by decide, Nat.lt_of_le_of_lt (show (m : Int).natAbs ≤ 1000 by omega) (by decide), Nat.le_trans (show ((m : Int) - 0).toNat ≤ 1000 by omega) (by decide)⟩
  unfold rgM
  rw [hf]
  simp only [bindK, e, if_true]
  simp [rgD, Function.comp_def]
theorem slM_ok {f : S → Res It} {fl fh : S → Option (Option Int)} {s s1 : S} {n : Nat} {x z : D} {l h : Option Int} (hf : f s = .ok (n, x) s1) (hl : fl s1 = some l) (hh : fh s1 = some h) (hz : cutD x l h = some z) : slM f fl fh s = .ok (B, z) s1 := by
  unfold slM
  rw [hf]
  simp only [bindK, hl, hh, hz]
theorem cntM_ok {f g : S → Res It} {s s1 s2 : S} {n m : Nat} {ns : List Int} {k : Int} (hf : f s = .ok (n, .lst (ns.map .int)) s1) (hg : g s1 = .ok (m, .int k) s2) : cntM f g s = .ok (B, .int (ns.count k : Nat)) s2 := by
  unfold cntM
  rw [hf]
  simp only [bindK, intsL, allO_ii, hg]
def top (i : Nat) : Stmt := PySem.Challenge.pw_shapeholes_k48_whole_cascades.main.body.getD i (.Pass ⟨0, 0, 0, 0⟩)
abbrev isaCs : List Nat := []
/-- what is known of the globals, the built-ins, the classes -/
structure Tx (K : PySem.W.Frag) (mg : Str → Option Value) (G : Gt) : Prop where
  hK : K = G.K
  isa : IsaG K G isaCs
  g_MOST_LENGTH : ∃ t, mg "MOST_LENGTH" = some (.int 8 t)
  g_MOST_NUMBER : ∃ t, mg "MOST_NUMBER" = some (.int 10000 t)
  b_bool : mg "bool" = none
  b_int : mg "int" = none
  b_isinstance : mg "isinstance" = none
  b_len : mg "len" = none
  b_list : mg "list" = none
  b_min : mg "min" = none
  b_range : mg "range" = none
  b_set : mg "set" = none
  b_sorted : mg "sorted" = none
  b_str : mg "str" = none
  b_sum : mg "sum" = none
  b_tuple : mg "tuple" = none

/-! ### is_integer -/
abbrev s_is_integer : Stmt := top 1
def d_is_integer : S → SRes :=
  (rtS (mAndV (ofV (isiD (isaTy isaCs ["int"]) (seeP (pName 0)))) (mNotV (ofV (isiD (isaTy isaCs ["bool"]) (seeP (pName 0)))))))
def F_is_integer : Fd := fnD 1 [false] d_is_integer
theorem S_is_integer : FnScope ["value"] ["value"] (defScope s_is_integer) := ⟨rfl, rfl, rfl, by decide +kernel, rfl, by decide +kernel, by decide +kernel⟩

/-! ### is_in -/
abbrev s_is_in : Stmt := top 2
def d_is_in : S → SRes :=
  (rtS (mAndV (callF [none] F_is_integer (consM (ofP 0 (pName 0)) nilM)) (ofV (chV leD leD (seeP (pName 1)) (seeP (pName 0)) (seeP (pName 2))))))
def F_is_in : Fd := fnD 3 [false, false, false] d_is_in
theorem S_is_in : FnScope ["value", "least", "most"] ["value", "least", "most"] (defScope s_is_in) := ⟨rfl, rfl, rfl, by decide +kernel, rfl, by decide +kernel, by decide +kernel⟩

/-! ### choose -/
abbrev s_choose : Stmt := top 9
abbrev b_choose_1 : S → SRes := (asS (ofV (opV fdivD (opV mulD (seeP (pName 2)) (opV subD (seeP (pName 0)) (seeP (pName 3)))) (opV addD (seeP (pName 3)) (fun _ => some (.int 1))))) (gNm 2))
def d_choose : S → SRes :=
  (seqS (asS (ofV (fun _ => some (.int 1))) (gNm 2))
    (seqS (forS (itR1 (seeP (pName 1))) (gNm 3) b_choose_1)
    (rtS (mvM 2))))
def F_choose : Fd := fnD 4 [false, false] d_choose
theorem S_choose : FnScope ["upper", "lower", "found", "at"] ["upper", "lower"] (defScope s_choose) := ⟨rfl, rfl, rfl, by decide +kernel, rfl, by decide +kernel, by decide +kernel⟩

/-! ### need_number -/
abbrev s_need_number : Stmt := top 10
def d_need_number : S → SRes :=
  (ifS (mNotT (truM (callF [none, none, none] F_is_in (consM (ofP 0 (pName 0)) (consM (ofP 1 (pName 1)) (consM (ofV (fun _ => some (.int 10000))) nilM)))))) badS nilS)
def F_need_number : Fd := fnD 2 [false, false] d_need_number
theorem S_need_number : FnScope ["value", "least"] ["value", "least"] (defScope s_need_number) := ⟨rfl, rfl, rfl, by decide +kernel, rfl, by decide +kernel, by decide +kernel⟩

/-! ### cascade_in -/
abbrev s_cascade_in : Stmt := top 11
abbrev b_cascade_in_1 : S → SRes := (agS 3 addI (ofV (fun _ => some (.int 1))))
abbrev b_cascade_in_2 : S → SRes := (seqS (asS (ofP 1 (pName 1)) (gNm 3))
    (seqS (whGo (tstM (mOp leD (callF [none, none] F_choose (consM (ofV (opV addD (seeP (pName 3)) (fun _ => some (.int 1)))) (consM (ofP 1 (pName 1)) nilM))) (ofP 0 (pName 0)))) b_cascade_in_1 100000)
    (seqS (exS (apM 2 (tupM (consM (ofP 3 (pName 3)) (consM (ofP 1 (pName 1)) nilM)))))
    (seqS (agS 0 subD (callF [none, none] F_choose (consM (ofP 3 (pName 3)) (consM (ofP 1 (pName 1)) nilM))))
    (agS 1 subD (ofV (fun _ => some (.int 1))))))))
def d_cascade_in : S → SRes :=
  (seqS (asS (lstM nilM) (gNm 2))
    (seqS (whGo (tstV (opV gtD (seeP (pName 0)) (fun _ => some (.int 0)))) b_cascade_in_2 100000)
    (rtS (mvM 2))))
def F_cascade_in : Fd := fnD 4 [false, false] d_cascade_in
theorem S_cascade_in : FnScope ["number", "size", "found", "upper"] ["number", "size"] (defScope s_cascade_in) := ⟨rfl, rfl, rfl, by decide +kernel, rfl, by decide +kernel, by decide +kernel⟩

/-! ### cascade -/
abbrev s_cascade : Stmt := top 12
def d_cascade : S → SRes :=
  (seqS (exS (callF [none, none] F_need_number (consM (ofP 0 (pName 0)) (consM (ofV (fun _ => some (.int 0))) nilM))))
    (seqS (ifS (mNotT (truM (callF [none, none, none] F_is_in (consM (ofP 1 (pName 1)) (consM (ofV (fun _ => some (.int 1))) (consM (ofV (fun _ => some (.int 8))) nilM)))))) badS nilS)
    (rtS (callM tupleD (consM (callF [none, none] F_cascade_in (consM (ofP 0 (pName 0)) (consM (ofP 1 (pName 1)) nilM))) nilM)))))
def F_cascade : Fd := fnD 2 [false, false] d_cascade
theorem S_cascade : FnScope ["number", "size"] ["number", "size"] (defScope s_cascade) := ⟨rfl, rfl, rfl, by decide +kernel, rfl, by decide +kernel, by decide +kernel⟩

/-! ### least_shadow -/
abbrev s_least_shadow : Stmt := top 13
abbrev c_least_shadow_1 : S → Res It := (lcM [2, 3] (itM (callF [none, none] F_cascade_in (consM (ofP 0 (pName 0)) (consM (ofP 1 (pName 1)) nilM)))) (gTp [2, 3]) (fun s => .ok true s) (callF [none, none] F_choose (consM (ofP 2 (pName 2)) (consM (ofV (opV subD (seeP (pName 3)) (fun _ => some (.int 1)))) nilM))))
def d_least_shadow : S → SRes :=
  (seqS (exS (callF [none, none] F_need_number (consM (ofP 0 (pName 0)) (consM (ofV (fun _ => some (.int 0))) nilM))))
    (seqS (ifS (mNotT (truM (callF [none, none, none] F_is_in (consM (ofP 1 (pName 1)) (consM (ofV (fun _ => some (.int 1))) (consM (ofV (fun _ => some (.int 8))) nilM)))))) badS nilS)
    (rtS (callM sumD (consM c_least_shadow_1 nilM)))))
def F_least_shadow : Fd := fnD 4 [false, false] d_least_shadow
theorem S_least_shadow : FnScope ["number", "size", "upper", "lower"] ["number", "size"] (defScope s_least_shadow) := ⟨rfl, rfl, rfl, by decide +kernel, rfl, by decide +kernel, by decide +kernel⟩

/-! ### _law_taken -/
abbrev s__law_taken : Stmt := top 15
def d__law_taken : S → SRes :=
  (seqS (ifS (tstV (opV gtD (seeP (pIx (pName 0) (fun _ => some (.int 3)))) (fun _ => some (.int 0)))) (seqS (asS (ofV (opV modD (callV intD (consA (seeP (pIx (pName 0) (fun _ => some (.int 3)))) nilA)) (seeP (pName 1)))) (gNm 3))
    (seqS (sbS 0 (fun _ => some (.int 3)) (ofV (opV fdivD (seeP (pIx (pName 0) (fun _ => some (.int 3)))) (seeP (pName 1)))))
    (rtS (mvM 3)))) nilS)
    (seqS (sbS 0 (fun _ => some (.int 1)) (ofV (opV addD (seeP (pIx (pName 0) (fun _ => some (.int 1)))) (fun _ => some (.int 1)))))
    (seqS (ifS (tstV (opV gtD (seeP (pIx (pName 0) (fun _ => some (.int 1)))) (callV lenD (consA (seeP (pIx (pName 0) (fun _ => some (.int 0)))) nilA)))) (seqS (sbS 0 (fun _ => some (.int 2)) (ofV (opV modD (callV intD (consA (opV addD (opV mulD (seeP (pIx (pName 0) (fun _ => some (.int 2)))) (fun _ => some (.int 48271))) (fun _ => some (.int 11))) nilA)) (fun _ => some (.int 2147483647)))))
    (rtS (ofV (opV modD (callV intD (consA (opV fdivD (seeP (pIx (pName 0) (fun _ => some (.int 2)))) (fun _ => some (.int 7))) nilA)) (seeP (pName 1)))))) nilS)
    (seqS (asS (ofP 0 (pIx (pIx (pName 0) (fun _ => some (.int 0))) (opV subD (seeP (pIx (pName 0) (fun _ => some (.int 1)))) (fun _ => some (.int 1))))) (gNm 2))
    (seqS (sbS 0 (fun _ => some (.int 2)) (ofV (opV modD (callV intD (consA (opV addD (opV addD (opV mulD (seeP (pIx (pName 0) (fun _ => some (.int 2)))) (fun _ => some (.int 48271))) (seeP (pName 2))) (fun _ => some (.int 11))) nilA)) (fun _ => some (.int 2147483647)))))
    (seqS (ifS (tstV (opV geD (seeP (pName 2)) (opV powD (fun _ => some (.int 10)) (fun _ => some (.int 18))))) (sbS 0 (fun _ => some (.int 3)) (ofV (opV fdivD (seeP (pName 2)) (seeP (pName 1))))) nilS)
    (rtS (ofV (opV modD (callV intD (consA (seeP (pName 2)) nilA)) (seeP (pName 1)))))))))))
def F__law_taken : Fd := fnD 4 [true, false] d__law_taken
theorem S__law_taken : FnScope ["_law_row", "_law_many", "_law_cell", "_law_found"] ["_law_row", "_law_many"] (defScope s__law_taken) := ⟨rfl, rfl, rfl, by decide +kernel, rfl, by decide +kernel, by decide +kernel⟩

/-! ### _law_pick -/
abbrev s__law_pick : Stmt := top 16
def d__law_pick : S → SRes :=
  (rtS (mIxB 1 (callF [some 0, none] F__law_taken (consL 0 (consM (ofV (callV lenD (consA (seeP (pName 1)) nilA))) nilM)))))
def F__law_pick : Fd := fnD 2 [true, false] d__law_pick
theorem S__law_pick : FnScope ["_law_row", "_law_things"] ["_law_row", "_law_things"] (defScope s__law_pick) := ⟨rfl, rfl, rfl, by decide +kernel, rfl, by decide +kernel, by decide +kernel⟩

/-! ### _law_alike -/
abbrev s__law_alike : Stmt := top 17
abbrev c__law_alike_1 (fr : Fd) : S → Res It := (lcM [2] (itR1 (callV lenD (consA (seeP (pName 1)) nilA))) (gNm 2) (mNotT (truM (callF [none, none] fr (consM (ofP 0 (pIx (pName 0) (seeP (pName 2)))) (consM (ofP 1 (pIx (pName 1) (seeP (pName 2)))) nilM))))) (ofP 2 (pName 2)))
def d__law_alike (fr : Fd) : S → SRes :=
  (seqS (ifS (truV (isiD (isaTy isaCs ["tuple", "list"]) (seeP (pName 1)))) (seqS (ifS (mOrT (mNotT (truV (isiD (isaTy isaCs ["tuple", "list"]) (seeP (pName 0))))) (tstV (opV neD (isiD (isaTy isaCs ["list"]) (seeP (pName 0))) (isiD (isaTy isaCs ["list"]) (seeP (pName 1)))))) (rtS (ofV (fun _ => some (.bl false)))) nilS)
    (seqS (ifS (tstV (opV neD (callV lenD (consA (seeP (pName 0)) nilA)) (callV lenD (consA (seeP (pName 1)) nilA)))) (rtS (ofV (fun _ => some (.bl false)))) nilS)
    (rtS (mOp eqD (c__law_alike_1 fr) (lstM nilM))))) nilS)
    (seqS (ifS (mOrT (tstV (opV isN (seeP (pName 1)) (fun _ => some .non))) (truV (isiD (isaTy isaCs ["str"]) (seeP (pName 1))))) (rtS (mAndV (ofV (opV eqD (seeP (pName 0)) (seeP (pName 1)))) (ofV (opV eqD (isiD (isaTy isaCs ["str"]) (seeP (pName 0))) (isiD (isaTy isaCs ["str"]) (seeP (pName 1))))))) nilS)
    (rtS (mAndV (ofV (isiD (isaTy isaCs ["int"]) (seeP (pName 0)))) (mAndV (ofV (opV eqD (isiD (isaTy isaCs ["bool"]) (seeP (pName 0))) (isiD (isaTy isaCs ["bool"]) (seeP (pName 1))))) (ofV (opV eqD (seeP (pName 0)) (seeP (pName 1)))))))))
def F__law_alike : Nat → Fd
  | 0 => fun _ => none
  | n + 1 => fnD 3 [false, false] (d__law_alike (F__law_alike n))
theorem S__law_alike : FnScope ["_law_found", "_law_due", "_law_k"] ["_law_found", "_law_due"] (defScope s__law_alike) := ⟨rfl, rfl, rfl, by decide +kernel, rfl, by decide +kernel, by decide +kernel⟩

/-! ### _law_simplex -/
abbrev s__law_simplex : Stmt := top 18
abbrev b__law_simplex_1 : S → SRes := (exS (apM 4 (poM 3 (callF [some 0, none] F__law_taken (consL 0 (consM (ofV (callV lenD (consA (seeP (pName 3)) nilA))) nilM))))))
def d__law_simplex : S → SRes :=
  (seqS (parS 3 4 (consM (ofV (lrg1 (seeP (pName 1)))) (consM (lstM nilM) nilM)))
    (seqS (forS (itR1M (callM min2D (consM (ofP 1 (pName 1)) (consM (mOp addD (ofV (fun _ => some (.int 1))) (callF [some 0, none] F__law_taken (consL 0 (consM (ofP 2 (pName 2)) nilM)))) nilM)))) (gNm 5) b__law_simplex_1)
    (rtS (ofV (callV tupleD (consA (callV sortedD (consA (seeP (pName 4)) nilA)) nilA))))))
def F__law_simplex : Fd := fnD 6 [true, false, false] d__law_simplex
theorem S__law_simplex : FnScope ["_law_row", "_law_most", "_law_size", "_law_left", "_law_found", "_law_turn"] ["_law_row", "_law_most", "_law_size"] (defScope s__law_simplex) := ⟨rfl, rfl, rfl, by decide +kernel, rfl, by decide +kernel, by decide +kernel⟩

/-! ### _law_simplices -/
abbrev s__law_simplices : Stmt := top 19
abbrev c__law_simplices_1 : S → Res It := (lcM [8] (itR1 (seeP (pName 4))) (gNm 8) (tstV (opV neD (seeP (pName 8)) (seeP (pName 6)))) (ofP 8 (pName 8)))
abbrev c__law_simplices_2 : S → Res It := (lcM [6] (itR1 (seeP (pName 4))) (gNm 6) (fun s => .ok true s) (callM tupleD (consM c__law_simplices_1 nilM)))
abbrev b__law_simplices_3 : S → SRes := (seqS (exS (apM 5 (callM tupleD (consM (callM sortedD (consM (lstM (consM (ofP 6 (pName 6)) (consM (ofV (opV modD (callV intD (consA (opV addD (seeP (pName 6)) (fun _ => some (.int 1))) nilA)) (fun _ => some (.int 7)))) (consM (ofV (opV modD (callV intD (consA (opV addD (seeP (pName 6)) (fun _ => some (.int 3))) nilA)) (fun _ => some (.int 7)))) nilM)))) nilM)) nilM))))
    (exS (apM 5 (callM tupleD (consM (callM sortedD (consM (lstM (consM (ofP 6 (pName 6)) (consM (ofV (opV modD (callV intD (consA (opV addD (seeP (pName 6)) (fun _ => some (.int 2))) nilA)) (fun _ => some (.int 7)))) (consM (ofV (opV modD (callV intD (consA (opV addD (seeP (pName 6)) (fun _ => some (.int 3))) nilA)) (fun _ => some (.int 7)))) nilM)))) nilM)) nilM)))))
abbrev c__law_simplices_4 : S → Res It := (lcM [6] (itR1 (seeP (pName 4))) (gNm 6) (fun s => .ok true s) (callM tupleD (consM (callM sortedD (consM (lstM (consM (ofP 6 (pName 6)) (consM (ofV (opV modD (callV intD (consA (opV addD (seeP (pName 6)) (fun _ => some (.int 1))) nilA)) (seeP (pName 4)))) nilM))) nilM)) nilM)))
abbrev c__law_simplices_5 : S → Res It := (lcM [7] (itR1M (callF [some 0, none] F__law_taken (consL 0 (consM (ofV (fun _ => some (.int 8))) nilM)))) (gNm 7) (fun s => .ok true s) (callF [some 0, none, none] F__law_simplex (consL 0 (consM (ofP 1 (pName 1)) (consM (ofP 2 (pName 2)) nilM)))))
def d__law_simplices : S → SRes :=
  (seqS (asS (callF [some 0, none] F__law_taken (consL 0 (consM (ofV (fun _ => some (.int 9))) nilM))) (gNm 3))
    (seqS (ifS (tstV (opV eqD (seeP (pName 3)) (fun _ => some (.int 0)))) (seqS (asS (mOp addD (ofV (fun _ => some (.int 2))) (callF [some 0, none] F__law_taken (consL 0 (consM (ofV (callV min2D (consA (opV subD (seeP (pName 1)) (fun _ => some (.int 1))) (consA (seeP (pName 2)) nilA)))) nilM)))) (gNm 4))
    (rtS (callM tupleD (consM c__law_simplices_2 nilM)))) nilS)
    (seqS (ifS (mAndT (tstV (opV eqD (seeP (pName 3)) (fun _ => some (.int 1)))) (mAndT (tstV (opV gtD (seeP (pName 1)) (fun _ => some (.int 5)))) (tstV (opV gtD (seeP (pName 2)) (fun _ => some (.int 2)))))) (rtS (tupM (consM (tupM (consM (ofV (fun _ => some (.int 0))) (consM (ofV (fun _ => some (.int 1))) (consM (ofV (fun _ => some (.int 2))) nilM)))) (consM (tupM (consM (ofV (fun _ => some (.int 0))) (consM (ofV (fun _ => some (.int 1))) (consM (ofV (fun _ => some (.int 3))) nilM)))) (consM (tupM (consM (ofV (fun _ => some (.int 0))) (consM (ofV (fun _ => some (.int 2))) (consM (ofV (fun _ => some (.int 4))) nilM)))) (consM (tupM (consM (ofV (fun _ => some (.int 0))) (consM (ofV (fun _ => some (.int 3))) (consM (ofV (fun _ => some (.int 5))) nilM)))) (consM (tupM (consM (ofV (fun _ => some (.int 0))) (consM (ofV (fun _ => some (.int 4))) (consM (ofV (fun _ => some (.int 5))) nilM)))) (consM (tupM (consM (ofV (fun _ => some (.int 1))) (consM (ofV (fun _ => some (.int 2))) (consM (ofV (fun _ => some (.int 5))) nilM)))) (consM (tupM (consM (ofV (fun _ => some (.int 1))) (consM (ofV (fun _ => some (.int 3))) (consM (ofV (fun _ => some (.int 4))) nilM)))) (consM (tupM (consM (ofV (fun _ => some (.int 1))) (consM (ofV (fun _ => some (.int 4))) (consM (ofV (fun _ => some (.int 5))) nilM)))) (consM (tupM (consM (ofV (fun _ => some (.int 2))) (consM (ofV (fun _ => some (.int 3))) (consM (ofV (fun _ => some (.int 4))) nilM)))) (consM (tupM (consM (ofV (fun _ => some (.int 2))) (consM (ofV (fun _ => some (.int 3))) (consM (ofV (fun _ => some (.int 5))) nilM)))) nilM)))))))))))) nilS)
    (seqS (ifS (mAndT (tstV (opV eqD (seeP (pName 3)) (fun _ => some (.int 2)))) (mAndT (tstV (opV gtD (seeP (pName 1)) (fun _ => some (.int 6)))) (tstV (opV gtD (seeP (pName 2)) (fun _ => some (.int 2)))))) (seqS (asS (lstM nilM) (gNm 5))
    (seqS (forS (itR1 (fun _ => some (.int 7))) (gNm 6) b__law_simplices_3)
    (rtS (ofV (callV tupleD (consA (seeP (pName 5)) nilA)))))) nilS)
    (seqS (ifS (mAndT (tstV (opV eqD (seeP (pName 3)) (fun _ => some (.int 3)))) (mAndT (tstV (opV gtD (seeP (pName 1)) (fun _ => some (.int 2)))) (tstV (opV gtD (seeP (pName 2)) (fun _ => some (.int 1)))))) (seqS (asS (mOp addD (ofV (fun _ => some (.int 3))) (callF [some 0, none] F__law_taken (consL 0 (consM (ofV (opV subD (seeP (pName 1)) (fun _ => some (.int 2)))) nilM)))) (gNm 4))
    (rtS (callM tupleD (consM c__law_simplices_4 nilM)))) nilS)
    (rtS (callM tupleD (consM c__law_simplices_5 nilM))))))))
def F__law_simplices : Fd := fnD 9 [true, false, false] d__law_simplices
theorem S__law_simplices : FnScope ["_law_row", "_law_most", "_law_size", "_law_way", "_law_many", "_law_found", "_law_at_here", "_law_turn", "_law_vertex"] ["_law_row", "_law_most", "_law_size"] (defScope s__law_simplices) := ⟨rfl, rfl, rfl, by decide +kernel, rfl, by decide +kernel, by decide +kernel⟩

/-! ### _law_faces -/
abbrev s__law_faces : Stmt := top 20
abbrev c__law_faces_1 : S → Res It := (lcM [5] (itM (ofP 3 (pName 3))) (gNm 5) (fun s => .ok true s) (mOp addD (ofP 5 (pName 5)) (tupM (consM (ofP 4 (pName 4)) nilM))))
abbrev b__law_faces_2 : S → SRes := (asS (mOp addD (ofP 3 (pName 3)) c__law_faces_1) (gNm 3))
abbrev b__law_faces_3 : S → SRes := (sbS 1 (seeP (pName 5)) (ofV (fun _ => some (.bl true))))
abbrev b__law_faces_4 : S → SRes := (seqS (asS (lstM (consM (tupM nilM) nilM)) (gNm 3))
    (seqS (forS (itM (ofP 2 (pName 2))) (gNm 4) b__law_faces_2)
    (forS (itM (ofV (slV (seeP (pName 3)) (partO (fun _ => some (.int 1))) noO))) (gNm 5) b__law_faces_3)))
abbrev c__law_faces_5 : S → Res It := (lcM [5] (itM (ofV (callV listD (consA (seeP (pName 1)) nilA)))) (gNm 5) (fun s => .ok true s) (tupM (consM (ofV (callV lenD (consA (seeP (pName 5)) nilA))) (consM (ofP 5 (pName 5)) nilM))))
abbrev c__law_faces_6 : S → Res It := (lcM [6] (itM (callM sortedD (consM c__law_faces_5 nilM))) (gNm 6) (fun s => .ok true s) (ofP 6 (pIx (pName 6) (fun _ => some (.int 1)))))
def d__law_faces : S → SRes :=
  (seqS (asS (newD true) (gNm 1))
    (seqS (forS (itM (ofP 0 (pName 0))) (gNm 2) b__law_faces_4)
    (rtS c__law_faces_6)))
def F__law_faces : Fd := fnD 7 [false] d__law_faces
theorem S__law_faces : FnScope ["_law_simplices_here", "_law_met", "_law_simplex_here", "_law_some", "_law_vertex", "_law_part", "_law_pair"] ["_law_simplices_here"] (defScope s__law_faces) := ⟨rfl, rfl, rfl, by decide +kernel, rfl, by decide +kernel, by decide +kernel⟩

/-! ### _law_at -/
abbrev s__law_at : Stmt := top 21
abbrev c__law_at_1 : S → Res It := (lcM [2] (itM (ofP 0 (pName 0))) (gNm 2) (tstV (opV eqD (callV lenD (consA (seeP (pName 2)) nilA)) (opV addD (seeP (pName 1)) (fun _ => some (.int 1))))) (ofP 2 (pName 2)))
def d__law_at : S → SRes :=
  (rtS (mIf (tstV (opV eqD (seeP (pName 1)) (negV (fun _ => some (.int 1))))) (lstM (consM (tupM nilM) nilM)) c__law_at_1))
def F__law_at : Fd := fnD 3 [false, false] d__law_at
theorem S__law_at : FnScope ["_law_faces_here", "_law_degree", "_law_face"] ["_law_faces_here", "_law_degree"] (defScope s__law_at) := ⟨rfl, rfl, rfl, by decide +kernel, rfl, by decide +kernel, by decide +kernel⟩

/-! ### _law_choose -/
abbrev s__law_choose : Stmt := top 22
abbrev b__law_choose_1 : S → SRes := (asS (ofV (opV fdivD (opV mulD (seeP (pName 2)) (opV subD (seeP (pName 0)) (seeP (pName 3)))) (opV addD (seeP (pName 3)) (fun _ => some (.int 1))))) (gNm 2))
def d__law_choose : S → SRes :=
  (seqS (asS (ofV (fun _ => some (.int 1))) (gNm 2))
    (seqS (forS (itR1 (seeP (pName 1))) (gNm 3) b__law_choose_1)
    (rtS (mvM 2))))
def F__law_choose : Fd := fnD 4 [false, false] d__law_choose
theorem S__law_choose : FnScope ["_law_upper", "_law_lower", "_law_found", "_law_at_here"] ["_law_upper", "_law_lower"] (defScope s__law_choose) := ⟨rfl, rfl, rfl, by decide +kernel, rfl, by decide +kernel, by decide +kernel⟩

/-! ### _law_cascade -/
abbrev s__law_cascade : Stmt := top 23
abbrev b__law_cascade_1 : S → SRes := (seqS (ifS (tstM (mOp gtD (callF [none, none] F__law_choose (consM (ofV (opV addD (seeP (pName 4)) (fun _ => some (.int 1)))) (consM (ofP 3 (pName 3)) nilM))) (ofP 0 (pName 0)))) (fun s => .bk s) nilS)
    (asS (ofV (opV addD (seeP (pName 4)) (fun _ => some (.int 1)))) (gNm 4)))
abbrev b__law_cascade_2 : S → SRes := (ifS (tstV (opV gtD (seeP (pName 0)) (fun _ => some (.int 0)))) (seqS (asS (ofP 3 (pName 3)) (gNm 4))
    (seqS (forS (itR1 (fun _ => some (.int 10001))) (gNm 5) b__law_cascade_1)
    (seqS (exS (apM 2 (tupM (consM (ofP 4 (pName 4)) (consM (ofP 3 (pName 3)) nilM)))))
    (asS (mOp subD (ofP 0 (pName 0)) (callF [none, none] F__law_choose (consM (ofP 4 (pName 4)) (consM (ofP 3 (pName 3)) nilM)))) (gNm 0))))) nilS)
def d__law_cascade : S → SRes :=
  (seqS (asS (lstM nilM) (gNm 2))
    (seqS (forS (itM (ofV (sl3V (lrg2 (fun _ => some (.int 1)) (opV addD (seeP (pName 1)) (fun _ => some (.int 1)))) noO noO (partO (negV (fun _ => some (.int 1))))))) (gNm 3) b__law_cascade_2)
    (rtS (mvM 2))))
def F__law_cascade : Fd := fnD 6 [false, false] d__law_cascade
theorem S__law_cascade : FnScope ["_law_number", "_law_size", "_law_found", "_law_lower", "_law_upper", "_law_turn"] ["_law_number", "_law_size"] (defScope s__law_cascade) := ⟨rfl, rfl, rfl, by decide +kernel, rfl, by decide +kernel, by decide +kernel⟩

/-! ### _law_shadow -/
abbrev s__law_shadow : Stmt := top 24
abbrev c__law_shadow_1 : S → Res It := (lcM [2, 3] (itM (callF [none, none] F__law_cascade (consM (ofP 0 (pName 0)) (consM (ofP 1 (pName 1)) nilM)))) (gTp [2, 3]) (fun s => .ok true s) (callF [none, none] F__law_choose (consM (ofP 2 (pName 2)) (consM (ofV (opV subD (seeP (pName 3)) (fun _ => some (.int 1)))) nilM))))
def d__law_shadow : S → SRes :=
  (rtS (callM sumD (consM c__law_shadow_1 nilM)))
def F__law_shadow : Fd := fnD 4 [false, false] d__law_shadow
theorem S__law_shadow : FnScope ["_law_number", "_law_size", "_law_upper", "_law_lower"] ["_law_number", "_law_size"] (defScope s__law_shadow) := ⟨rfl, rfl, rfl, by decide +kernel, rfl, by decide +kernel, by decide +kernel⟩

/-! ### law -/
abbrev s_law : Stmt := top 25
abbrev c_law_1 : S → Res It := (lcM [12, 13] (itM (ofP 10 (pName 10))) (gTp [12, 13]) (fun s => .ok true s) (callF [none, none] F__law_choose (consM (ofP 12 (pName 12)) (consM (ofP 13 (pName 13)) nilM))))
abbrev b_law_2 : S → SRes := (seqS (parS 8 9 (consM (callF [some 1, none] F__law_taken (consL 1 (consM (callF [some 1, none] F__law_pick (consL 1 (consM (lstM (consM (ofV (fun _ => some (.int 5))) (consM (ofV (fun _ => some (.int 60))) (consM (ofV (fun _ => some (.int 10001))) nilM)))) nilM))) nilM))) (consM (mOp addD (ofV (fun _ => some (.int 1))) (callF [some 1, none] F__law_taken (consL 1 (consM (ofV (fun _ => some (.int 8))) nilM)))) nilM)))
    (seqS (asS (callF [none, none] F_cascade (consM (ofP 8 (pName 8)) (consM (ofP 9 (pName 9)) nilM))) (gNm 10))
    (seqS (ifS (mNotT (truM (callF [none, none] (F__law_alike 4) (consM (ofP 10 (pName 10)) (consM (callM tupleD (consM (callF [none, none] F__law_cascade (consM (ofP 8 (pName 8)) (consM (ofP 9 (pName 9)) nilM))) nilM)) nilM))))) (rtS (ofV (fun _ => some (.bl false)))) nilS)
    (seqS (ifS (tstM (mOp neD (callM sumD (consM c_law_1 nilM)) (ofP 8 (pName 8)))) (rtS (ofV (fun _ => some (.bl false)))) nilS)
    (ifS (mNotT (truM (callF [none, none] (F__law_alike 4) (consM (callF [none, none] F_least_shadow (consM (ofP 8 (pName 8)) (consM (ofP 9 (pName 9)) nilM))) (consM (callF [none, none] F__law_shadow (consM (ofP 8 (pName 8)) (consM (ofP 9 (pName 9)) nilM))) nilM))))) (rtS (ofV (fun _ => some (.bl false)))) nilS)))))
abbrev c_law_3 : S → Res It := (lcM [6] (itM (callF [some 1, none, none] F__law_simplices (consL 1 (consM (ofV (fun _ => some (.int 7))) (consM (ofV (fun _ => some (.int 5))) nilM))))) (gNm 6) (tstV (opV eqD (callV lenD (consA (seeP (pName 6)) nilA)) (seeP (pName 3)))) (ofP 6 (pName 6)))
abbrev c_law_4 : S → Res It := (lcM [2] (itR1M (callF [some 1, none] F__law_taken (consL 1 (consM (ofV (fun _ => some (.int 12))) nilM)))) (gNm 2) (fun s => .ok true s) (callF [some 1, none] F__law_pick (consL 1 (consM (callF [none, none] F__law_at (consM (callF [none] F__law_faces (consM (tupM (consM (rgM .tup (ofV (fun _ => some (.int 7)))) nilM)) nilM)) (consM (ofV (opV subD (seeP (pName 3)) (fun _ => some (.int 1)))) nilM))) nilM))))
abbrev b_law_5 : S → SRes := (sbS 5 (opV addD (slV (seeP (pName 6)) noO (partO (seeP (pName 11)))) (slV (seeP (pName 6)) (partO (opV addD (seeP (pName 11)) (fun _ => some (.int 1)))) noO)) (ofV (fun _ => some (.bl true))))
abbrev b_law_6 : S → SRes := (forS (itR1 (seeP (pName 3))) (gNm 11) b_law_5)
def d_law : S → SRes :=
  (seqS (asS (lstM (consM (ofP 0 (pName 0)) (consM (ofV (fun _ => some (.int 0))) (consM (ofV (fun _ => some (.int 3348))) (consM (ofV (fun _ => some (.int 0))) nilM))))) (gNm 1))
    (seqS (forS (itR1 (fun _ => some (.int 4))) (gNm 2) b_law_2)
    (seqS (asS (mOp addD (ofV (fun _ => some (.int 1))) (callF [some 1, none] F__law_taken (consL 1 (consM (ofV (fun _ => some (.int 4))) nilM)))) (gNm 3))
    (seqS (asS (srtT c_law_3) (gNm 4))
    (seqS (asS (srtT (mOp addD (ofP 4 (pName 4)) c_law_4)) (gNm 4))
    (seqS (asS (newD true) (gNm 5))
    (seqS (forS (itM (ofP 4 (pName 4))) (gNm 6) b_law_6)
    (seqS (ifS (tstM (mOp ltD (ofV (callV lenD (consA (seeP (pName 5)) nilA))) (callF [none, none] F_least_shadow (consM (ofV (callV lenD (consA (seeP (pName 4)) nilA))) (consM (ofP 3 (pName 3)) nilM))))) (rtS (ofV (fun _ => some (.bl false)))) nilS)
    (seqS (asS (mOp addD (ofP 3 (pName 3)) (callF [some 1, none] F__law_taken (consL 1 (consM (ofV (fun _ => some (.int 4))) nilM)))) (gNm 7))
    (rtS (mOp eqD (callF [none, none] F_least_shadow (consM (callF [none, none] F__law_choose (consM (ofP 7 (pName 7)) (consM (ofP 3 (pName 3)) nilM))) (consM (ofP 3 (pName 3)) nilM))) (callF [none, none] F__law_choose (consM (ofP 7 (pName 7)) (consM (ofV (opV subD (seeP (pName 3)) (fun _ => some (.int 1)))) nilM))))))))))))))
def F_law : Fd := fnD 14 [false] d_law
theorem S_law : FnScope ["_law_script", "_law_row", "_law_turn", "_law_length", "_law_some", "_law_shadow_here", "_law_face", "_law_top", "_law_number", "_law_size", "_law_found", "_law_at_here", "_law_upper", "_law_lower"] ["_law_script"] (defScope s_law) := ⟨rfl, rfl, rfl, by decide +kernel, rfl, by decide +kernel, by decide +kernel⟩

section
variable {P : Program} {w : World} {K : PySem.W.Frag} {mg : Str → Option Value} {base : Heap} {G : Gt}
theorem ok_is_integer (T : Tx K mg G) {f : Addr} {fd : FuncData} (F : Fun K "is_integer" "is_integer" s_is_integer f fd) : FnOk P w K mg base CX0 1 f fd ["value"] (spF G [false] 1 F_is_integer) :=
  fn_ok (k := 0) (n := 1) (lm := [false]) (fb := d_is_integer) F S_is_integer rfl (by decide) (by decide) (fun _ _ h => h) fun cdv A outer s H vs E hr =>
    ((pss1 (ps_rt (pm_and (pe_ofV (pv_isi (by rfl) T.b_isinstance (pp_see (pp_name (pv 0))) (pe_tyN (by rfl) T.b_int PyProof.Rows.boot_int) (ClsV.ty "int") (isOk_ty (bs := ["int"]) T.hK.symm T.isa (by decide)))) (pm_one (pm_not (pe_ofV (pv_isi (by rfl) T.b_isinstance (pp_see (pp_name (pv 0))) (pe_tyN (by rfl) T.b_bool PyProof.Rows.boot_bool) (ClsV.ty "bool") (isOk_ty (bs := ["bool"]) T.hK.symm T.isa (by decide))))))))) : PSs (cxOf CX0 P w K mg base ["value"] "is_integer" (defScope s_is_integer) f cdv A outer s H E).nox (defBody s_is_integer) (tS (cnOf G 1 [false] vs) d_is_integer))

theorem ok_is_in (T : Tx K mg G) (g_is_integer : GF P w K mg base G "is_integer" 1 ["value"] [false] F_is_integer) {f : Addr} {fd : FuncData} (F : Fun K "is_in" "is_in" s_is_in f fd) : FnOk P w K mg base CX0 2 f fd ["value", "least", "most"] (spF G [false, false, false] 3 F_is_in) :=
  fn_ok (k := 1) (n := 3) (lm := [false, false, false]) (fb := d_is_in) F S_is_in rfl (by decide) (by decide) (fun _ _ h => h) fun cdv A outer s H vs E hr =>
    ((pss1 (ps_rt (pm_and (pm_fnG (ml := [none]) g_is_integer (hr.mono (by first | decide | omega)) rfl (by rfl) rfl (al (pe_ofP (pp_name (pv 0))) al0)) (pm_one (pe_ofV (pv_chain (o_le T.hK hr.units) (o_le T.hK hr.units) (pp_see (pp_name (pv 1))) (pp_see (pp_name (pv 0))) (pp_see (pp_name (pv 2))))))))) : PSs (cxOf CX0 P w K mg base ["value", "least", "most"] "is_in" (defScope s_is_in) f cdv A outer s H E).nox (defBody s_is_in) (tS (cnOf G 3 [false, false, false] vs) d_is_in))

theorem ok_choose (T : Tx K mg G) {f : Addr} {fd : FuncData} (F : Fun K "choose" "choose" s_choose f fd) : FnOk P w K mg base CX0 1 f fd ["upper", "lower"] (spF G [false, false] 2 F_choose) :=
  fn_ok (k := 0) (n := 4) (lm := [false, false]) (fb := d_choose) F S_choose rfl (by decide) (by decide) (fun _ _ h => h) fun cdv A outer s H vs E hr =>
    ((pss (ps_nm (i := 2) S_choose.nd rfl (by first | exact Or.inl rfl | exact Or.inr rfl) (pe_ofV (pv_C pe_int rfl)) rfl rfl)
    (pss (ps_fr (tgs := [3]) PassesOwn.never rfl (pi_r1 (by rfl) T.b_range (pp_see (pp_name (pv 1)))) (pg_nm (pg_name (i := 3) S_choose.nd rfl (by first | exact Or.inl rfl | exact Or.inr rfl)) rfl rfl) (pss1 (ps_nm (i := 2) S_choose.nd rfl (by first | exact Or.inl rfl | exact Or.inr rfl) (pe_ofV (pv_op o_fdiv (pv_see (pv_op (o_mul T.hK) (pp_see (pp_name (pv 2))) (pv_see (pv_op o_sub (pp_see (pp_name (pv 0))) (pp_see (pp_name (pv 3))))))) (pv_see (pv_op (o_add T.hK) (pp_see (pp_name (pv 3))) (pv_see (pv_C pe_int rfl)))))) rfl rfl)))
    (pss1 (ps_rt (pm_mv (pv 2)))))) : PSs (cxOf CX0 P w K mg base ["upper", "lower", "found", "at"] "choose" (defScope s_choose) f cdv A outer s H E).nox (defBody s_choose) (tS (cnOf G 4 [false, false] vs) d_choose))

theorem ok_need_number (T : Tx K mg G) (g_is_in : GF P w K mg base G "is_in" 2 ["value", "least", "most"] [false, false, false] F_is_in) {f : Addr} {fd : FuncData} (F : Fun K "need_number" "need_number" s_need_number f fd) : FnOk P w K mg base CX0 3 f fd ["value", "least"] (spF G [false, false] 2 F_need_number) :=
  fn_ok (k := 2) (n := 2) (lm := [false, false]) (fb := d_need_number) F S_need_number rfl (by decide) (by decide) (fun _ _ h => h) fun cdv A outer s H vs E hr =>
    ((pss1 (ps_ifS (pt_notM (pt_truM (pm_fnG (ml := [none, none, none]) g_is_in (hr.mono (by first | decide | omega)) rfl (by rfl) rfl (al (pe_ofP (pp_name (pv 0))) (al (pe_ofP (pp_name (pv 1))) (al (pe_ofV (pv_C (pe_gint (by rfl) T.g_MOST_NUMBER) rfl)) al0)))))) (pss1 ps_bad) pss0)) : PSs (cxOf CX0 P w K mg base ["value", "least"] "need_number" (defScope s_need_number) f cdv A outer s H E).nox (defBody s_need_number) (tS (cnOf G 2 [false, false] vs) d_need_number))

theorem ok_cascade_in (T : Tx K mg G) (g_choose : GF P w K mg base G "choose" 1 ["upper", "lower"] [false, false] F_choose) {f : Addr} {fd : FuncData} (F : Fun K "cascade_in" "cascade_in" s_cascade_in f fd) : FnOk P w K mg base CX0 2 f fd ["number", "size"] (spF G [false, false] 2 F_cascade_in) :=
  fn_ok (k := 1) (n := 4) (lm := [false, false]) (fb := d_cascade_in) F S_cascade_in rfl (by decide) (by decide) (fun _ _ h => h) fun cdv A outer s H vs E hr =>
    ((pss (ps_nm (i := 2) S_cascade_in.nd rfl (by first | exact Or.inl rfl | exact Or.inr rfl) (pm_lst pa_m0) rfl rfl)
    (pss (ps_wh 100000 PassesOwn.never (pt_cmpV (o_gt T.hK hr.units) (pp_see (pp_name (pv 0))) (pv_see (pv_C pe_int rfl)) (by first | exact nomark _ | rfl)) (pss (ps_nm (i := 3) S_cascade_in.nd rfl (by first | exact Or.inl rfl | exact Or.inr rfl) (pe_ofP (pp_name (pv 1))) rfl rfl)
    (pss (ps_wh 100000 PassesOwn.never (pt_cmpM (o_le T.hK hr.units) (pm_fnG (ml := [none, none]) g_choose (hr.mono (by first | decide | omega)) rfl (by rfl) rfl (al (pe_ofV (pv_op (o_add T.hK) (pp_see (pp_name (pv 3))) (pv_see (pv_C pe_int rfl)))) (al (pe_ofP (pp_name (pv 1))) al0))) (pe_ofP (pp_name (pv 0))) (by first | exact nomark _ | rfl)) (pss1 (ps_ag (i := 3) S_cascade_in.nd rfl (by first | exact Or.inl rfl | exact Or.inr rfl) (pe_ofV (pv_C pe_int rfl)) io_add rfl rfl)))
    (pss (ps_ex (pm_ap (pv 2) (pm_tup (pa_m (pe_ofP (pp_name (pv 3))) (pa_m (pe_ofP (pp_name (pv 1))) pa_m0)))))
    (pss (ps_ag (i := 0) S_cascade_in.nd rfl (by first | exact Or.inl rfl | exact Or.inr rfl) (pm_fnG (ml := [none, none]) g_choose (hr.mono (by first | decide | omega)) rfl (by rfl) rfl (al (pe_ofP (pp_name (pv 3))) (al (pe_ofP (pp_name (pv 1))) al0))) io_sub rfl rfl)
    (pss1 (ps_ag (i := 1) S_cascade_in.nd rfl (by first | exact Or.inl rfl | exact Or.inr rfl) (pe_ofV (pv_C pe_int rfl)) io_sub rfl rfl)))))))
    (pss1 (ps_rt (pm_mv (pv 2)))))) : PSs (cxOf CX0 P w K mg base ["number", "size", "found", "upper"] "cascade_in" (defScope s_cascade_in) f cdv A outer s H E).nox (defBody s_cascade_in) (tS (cnOf G 4 [false, false] vs) d_cascade_in))

theorem ok_cascade (T : Tx K mg G) (g_need_number : GF P w K mg base G "need_number" 3 ["value", "least"] [false, false] F_need_number) (g_is_in : GF P w K mg base G "is_in" 2 ["value", "least", "most"] [false, false, false] F_is_in) (g_cascade_in : GF P w K mg base G "cascade_in" 2 ["number", "size"] [false, false] F_cascade_in) {f : Addr} {fd : FuncData} (F : Fun K "cascade" "cascade" s_cascade f fd) : FnOk P w K mg base CX0 4 f fd ["number", "size"] (spF G [false, false] 2 F_cascade) :=
  fn_ok (k := 3) (n := 2) (lm := [false, false]) (fb := d_cascade) F S_cascade rfl (by decide) (by decide) (fun _ _ h => h) fun cdv A outer s H vs E hr =>
    ((pss (ps_ex (pm_fnG (ml := [none, none]) g_need_number (hr.mono (by first | decide | omega)) rfl (by rfl) rfl (al (pe_ofP (pp_name (pv 0))) (al (pe_ofV (pv_C pe_int rfl)) al0))))
    (pss (ps_ifS (pt_notM (pt_truM (pm_fnG (ml := [none, none, none]) g_is_in (hr.mono (by first | decide | omega)) rfl (by rfl) rfl (al (pe_ofP (pp_name (pv 1))) (al (pe_ofV (pv_C pe_int rfl)) (al (pe_ofV (pv_C (pe_gint (by rfl) T.g_MOST_LENGTH) rfl)) al0)))))) (pss1 ps_bad) pss0)
    (pss1 (ps_rt (pm_callTy c_tuple (by rfl) T.b_tuple PyProof.Rows.boot_tuple (pa_m (pm_fnG (ml := [none, none]) g_cascade_in (hr.mono (by first | decide | omega)) rfl (by rfl) rfl (al (pe_ofP (pp_name (pv 0))) (al (pe_ofP (pp_name (pv 1))) al0))) pa_m0)))))) : PSs (cxOf CX0 P w K mg base ["number", "size"] "cascade" (defScope s_cascade) f cdv A outer s H E).nox (defBody s_cascade) (tS (cnOf G 2 [false, false] vs) d_cascade))

theorem ok_least_shadow (T : Tx K mg G) (g_need_number : GF P w K mg base G "need_number" 3 ["value", "least"] [false, false] F_need_number) (g_is_in : GF P w K mg base G "is_in" 2 ["value", "least", "most"] [false, false, false] F_is_in) (g_cascade_in : GF P w K mg base G "cascade_in" 2 ["number", "size"] [false, false] F_cascade_in) (g_choose : GF P w K mg base G "choose" 1 ["upper", "lower"] [false, false] F_choose) {f : Addr} {fd : FuncData} (F : Fun K "least_shadow" "least_shadow" s_least_shadow f fd) : FnOk P w K mg base CX0 4 f fd ["number", "size"] (spF G [false, false] 2 F_least_shadow) :=
  fn_ok (k := 3) (n := 4) (lm := [false, false]) (fb := d_least_shadow) F S_least_shadow rfl (by decide) (by decide) (fun _ _ h => h) fun cdv A outer s H vs E hr =>
    ((pss (ps_ex (pm_fnG (ml := [none, none]) g_need_number (hr.mono (by first | decide | omega)) rfl (by rfl) rfl (al (pe_ofP (pp_name (pv 0))) (al (pe_ofV (pv_C pe_int rfl)) al0))))
    (pss (ps_ifS (pt_notM (pt_truM (pm_fnG (ml := [none, none, none]) g_is_in (hr.mono (by first | decide | omega)) rfl (by rfl) rfl (al (pe_ofP (pp_name (pv 1))) (al (pe_ofV (pv_C pe_int rfl)) (al (pe_ofV (pv_C (pe_gint (by rfl) T.g_MOST_LENGTH) rfl)) al0)))))) (pss1 ps_bad) pss0)
    (pss1 (ps_rt (pm_callB (c_sum rfl) (by rfl) T.b_sum PyProof.Rows.boot_sum (pa_m (pm_lc (own := [("upper", 2), ("lower", 3)]) (tgs := [2, 3]) rfl S_least_shadow.nd (pi_m T.hK (pm_fnG (ml := [none, none]) g_cascade_in (hr.mono (by first | decide | omega)) rfl (by rfl) rfl (al (pe_ofP (pp_name (pv 0))) (al (pe_ofP (pp_name (pv 1))) al0)))) (blkOk_by (own := [("upper", 2), ("lower", 3)]) (by first | (change blkC (["number", "size", "upper", "lower"] : List Str) (defScope s_least_shadow) _ _ = true; decide +kernel) | with_unfolding_all rfl)) (fun _ _ _ _ _ => (pg_tp (is := [2, 3]) (pg_tup rfl (pgs_cons (pg_name (i := 2) S_least_shadow.nd rfl (by first | exact Or.inl rfl | exact Or.inr rfl)) (pgs_cons (pg_name (i := 3) S_least_shadow.nd rfl (by first | exact Or.inl rfl | exact Or.inr rfl)) pgs_nil))) rfl)) (fun _ _ _ _ _ => (tYes_T pts_nil)) (fun _ _ _ _ _ => (pm_fnG (ml := [none, none]) g_choose (hr.mono (by first | decide | omega)) rfl (by rfl) rfl (al (pe_ofP (pp_name (pv 2))) (al (pe_ofV (pv_op o_sub (pp_see (pp_name (pv 3))) (pv_see (pv_C pe_int rfl)))) al0)))) rfl rfl) pa_m0)))))) : PSs (cxOf CX0 P w K mg base ["number", "size", "upper", "lower"] "least_shadow" (defScope s_least_shadow) f cdv A outer s H E).nox (defBody s_least_shadow) (tS (cnOf G 4 [false, false] vs) d_least_shadow))

theorem ok__law_taken (T : Tx K mg G) {f : Addr} {fd : FuncData} (F : Fun K "_law_taken" "_law_taken" s__law_taken f fd) : FnOk P w K mg base CX0 1 f fd ["_law_row", "_law_many"] (spF G [true, false] 2 F__law_taken) :=
  fn_ok (k := 0) (n := 4) (lm := [true, false]) (fb := d__law_taken) F S__law_taken rfl (by decide) (by decide) (fun _ _ h => h) fun cdv A outer s H vs E hr =>
    ((pss (ps_ifS (pt_cmpV (o_gt T.hK hr.units) (pp_see (pp_ix T.hK hr.units (pp_name (pv 0)) (pv_see (pv_C pe_int rfl)) (fun _ _ => rfl))) (pv_see (pv_C pe_int rfl)) (by first | exact nomark _ | rfl)) (pss (ps_nm (i := 3) S__law_taken.nd rfl (by first | exact Or.inl rfl | exact Or.inr rfl) (pe_ofV (pv_op o_mod (pv_see (pv_callTy c_int (by rfl) T.b_int PyProof.Rows.boot_int (pa_see (pp_see (pp_ix T.hK hr.units (pp_name (pv 0)) (pv_see (pv_C pe_int rfl)) (fun _ _ => rfl))) pa_see0))) (pp_see (pp_name (pv 1))))) rfl rfl)
    (pss (ps_sb hr.units (pv 0) (pv_see (pv_C pe_int rfl)) (pe_ofV (pv_op o_fdiv (pp_see (pp_ix T.hK hr.units (pp_name (pv 0)) (pv_see (pv_C pe_int rfl)) (fun _ _ => rfl))) (pp_see (pp_name (pv 1))))))
    (pss1 (ps_rt (pm_mv (pv 3)))))) pss0)
    (pss (ps_sb hr.units (pv 0) (pv_see (pv_C pe_int rfl)) (pe_ofV (pv_op (o_add T.hK) (pp_see (pp_ix T.hK hr.units (pp_name (pv 0)) (pv_see (pv_C pe_int rfl)) (fun _ _ => rfl))) (pv_see (pv_C pe_int rfl)))))
    (pss (ps_ifS (pt_cmpV (o_gt T.hK hr.units) (pp_see (pp_ix T.hK hr.units (pp_name (pv 0)) (pv_see (pv_C pe_int rfl)) (fun _ _ => rfl))) (pv_see (pv_callB (c_len T.hK) (by rfl) T.b_len PySem.boot_len (pa_see (pp_see (pp_ix T.hK hr.units (pp_name (pv 0)) (pv_see (pv_C pe_int rfl)) (fun _ _ => rfl))) pa_see0))) (by first | exact nomark _ | rfl)) (pss (ps_sb hr.units (pv 0) (pv_see (pv_C pe_int rfl)) (pe_ofV (pv_op o_mod (pv_see (pv_callTy c_int (by rfl) T.b_int PyProof.Rows.boot_int (pa_see (pv_see (pv_op (o_add T.hK) (pv_see (pv_op (o_mul T.hK) (pp_see (pp_ix T.hK hr.units (pp_name (pv 0)) (pv_see (pv_C pe_int rfl)) (fun _ _ => rfl))) (pv_see (pv_C pe_int rfl)))) (pv_see (pv_C pe_int rfl)))) pa_see0))) (pv_see (pv_C pe_int rfl)))))
    (pss1 (ps_rt (pe_ofV (pv_op o_mod (pv_see (pv_callTy c_int (by rfl) T.b_int PyProof.Rows.boot_int (pa_see (pv_see (pv_op o_fdiv (pp_see (pp_ix T.hK hr.units (pp_name (pv 0)) (pv_see (pv_C pe_int rfl)) (fun _ _ => rfl))) (pv_see (pv_C pe_int rfl)))) pa_see0))) (pp_see (pp_name (pv 1)))))))) pss0)
    (pss (ps_nm (i := 2) S__law_taken.nd rfl (by first | exact Or.inl rfl | exact Or.inr rfl) (pe_ofP (pp_ix T.hK hr.units (pp_ix T.hK hr.units (pp_name (pv 0)) (pv_see (pv_C pe_int rfl)) (fun _ _ => rfl)) (pv_see (pv_op o_sub (pp_see (pp_ix T.hK hr.units (pp_name (pv 0)) (pv_see (pv_C pe_int rfl)) (fun _ _ => rfl))) (pv_see (pv_C pe_int rfl)))) (fun _ _ => rfl))) rfl rfl)
    (pss (ps_sb hr.units (pv 0) (pv_see (pv_C pe_int rfl)) (pe_ofV (pv_op o_mod (pv_see (pv_callTy c_int (by rfl) T.b_int PyProof.Rows.boot_int (pa_see (pv_see (pv_op (o_add T.hK) (pv_see (pv_op (o_add T.hK) (pv_see (pv_op (o_mul T.hK) (pp_see (pp_ix T.hK hr.units (pp_name (pv 0)) (pv_see (pv_C pe_int rfl)) (fun _ _ => rfl))) (pv_see (pv_C pe_int rfl)))) (pp_see (pp_name (pv 2))))) (pv_see (pv_C pe_int rfl)))) pa_see0))) (pv_see (pv_C pe_int rfl)))))
    (pss (ps_ifS (pt_cmpV (o_ge T.hK hr.units) (pp_see (pp_name (pv 2))) (pv_see (pv_op o_pow (pv_see (pv_C pe_int rfl)) (pv_see (pv_C pe_int rfl)))) (by first | exact nomark _ | rfl)) (pss1 (ps_sb hr.units (pv 0) (pv_see (pv_C pe_int rfl)) (pe_ofV (pv_op o_fdiv (pp_see (pp_name (pv 2))) (pp_see (pp_name (pv 1))))))) pss0)
    (pss1 (ps_rt (pe_ofV (pv_op o_mod (pv_see (pv_callTy c_int (by rfl) T.b_int PyProof.Rows.boot_int (pa_see (pp_see (pp_name (pv 2))) pa_see0))) (pp_see (pp_name (pv 1))))))))))))) : PSs (cxOf CX0 P w K mg base ["_law_row", "_law_many", "_law_cell", "_law_found"] "_law_taken" (defScope s__law_taken) f cdv A outer s H E).nox (defBody s__law_taken) (tS (cnOf G 4 [true, false] vs) d__law_taken))

theorem ok__law_pick (T : Tx K mg G) (g__law_taken : GF P w K mg base G "_law_taken" 1 ["_law_row", "_law_many"] [true, false] F__law_taken) {f : Addr} {fd : FuncData} (F : Fun K "_law_pick" "_law_pick" s__law_pick f fd) : FnOk P w K mg base CX0 2 f fd ["_law_row", "_law_things"] (spF G [true, false] 2 F__law_pick) :=
  fn_ok (k := 1) (n := 2) (lm := [true, false]) (fb := d__law_pick) F S__law_pick rfl (by decide) (by decide) (fun _ _ h => h) fun cdv A outer s H vs E hr =>
    ((pss1 (ps_rt (pm_ixB T.hK (pv 1) (pm_fnG (ml := [some 0, none]) g__law_taken (hr.mono (by first | decide | omega)) rfl (by rfl) rfl (almv (pv 0) (al (pe_ofV (pv_callB (c_len T.hK) (by rfl) T.b_len PySem.boot_len (pa_see (pp_see (pp_name (pv 1))) pa_see0))) al0))) (fun _ _ => rfl)))) : PSs (cxOf CX0 P w K mg base ["_law_row", "_law_things"] "_law_pick" (defScope s__law_pick) f cdv A outer s H E).nox (defBody s__law_pick) (tS (cnOf G 2 [true, false] vs) d__law_pick))

theorem ok__law_alike (T : Tx K mg G) {f : Addr} {fd : FuncData} (F : Fun K "_law_alike" "_law_alike" s__law_alike f fd) (hm : mg "_law_alike" = some (.ref f)) (hb : Binds K fd ["_law_found", "_law_due"] []) : ∀ n : Nat, FnOk P w K mg base CX0 (n + 1) f fd ["_law_found", "_law_due"] (spF G [false, false] 2 (F__law_alike n))
  | 0 => fn_zero
  | m + 1 =>
    have g__law_alike : GF P w K mg base G "_law_alike" (m + 1) ["_law_found", "_law_due"] [false, false] (F__law_alike m) := ⟨⟨f, fd, ok__law_alike T F hm hb m, hm, F.kp, hb⟩⟩
    fn_ok (k := m + 1) (n := 3) (lm := [false, false]) (fb := d__law_alike (F__law_alike m)) F S__law_alike rfl (by decide) (by decide) (fun _ _ h => h) fun cdv A outer s H vs E hr =>
      ((pss (ps_ifS (pt_truV (pv_see (pv_isiT (cs := [.ty "tuple", .ty "list"]) (by rfl) T.b_isinstance (pp_see (pp_name (pv 1))) (pa_cons (pe_tyN (by rfl) T.b_tuple PyProof.Rows.boot_tuple) (pa_cons (pe_tyN (by rfl) T.b_list PyProof.Rows.boot_list) pa_nil)) (Paired.cons (ClsV.ty "tuple") (Paired.cons (ClsV.ty "list") Paired.nil)) (isOk_ty T.hK.symm T.isa (by decide)) (by decide)))) (pss (ps_ifS (PW.pt (pw_orM (pt_notM (pt_truV (pv_see (pv_isiT (cs := [.ty "tuple", .ty "list"]) (by rfl) T.b_isinstance (pp_see (pp_name (pv 0))) (pa_cons (pe_tyN (by rfl) T.b_tuple PyProof.Rows.boot_tuple) (pa_cons (pe_tyN (by rfl) T.b_list PyProof.Rows.boot_list) pa_nil)) (Paired.cons (ClsV.ty "tuple") (Paired.cons (ClsV.ty "list") Paired.nil)) (isOk_ty T.hK.symm T.isa (by decide)) (by decide))))) (pw_or1M (pt_cmpV (o_ne T.hK hr.units) (pv_see (pv_isi (by rfl) T.b_isinstance (pp_see (pp_name (pv 0))) (pe_tyN (by rfl) T.b_list PyProof.Rows.boot_list) (ClsV.ty "list") (isOk_ty (bs := ["list"]) T.hK.symm T.isa (by decide)))) (pv_see (pv_isi (by rfl) T.b_isinstance (pp_see (pp_name (pv 1))) (pe_tyN (by rfl) T.b_list PyProof.Rows.boot_list) (ClsV.ty "list") (isOk_ty (bs := ["list"]) T.hK.symm T.isa (by decide)))) (by first | exact nomark _ | rfl))))) (pss1 (ps_rt (pe_ofV (pv_C pe_bl rfl)))) pss0)
    (pss (ps_ifS (pt_cmpV (o_ne T.hK hr.units) (pv_see (pv_callB (c_len T.hK) (by rfl) T.b_len PySem.boot_len (pa_see (pp_see (pp_name (pv 0))) pa_see0))) (pv_see (pv_callB (c_len T.hK) (by rfl) T.b_len PySem.boot_len (pa_see (pp_see (pp_name (pv 1))) pa_see0))) (by first | exact nomark _ | rfl)) (pss1 (ps_rt (pe_ofV (pv_C pe_bl rfl)))) pss0)
    (pss1 (ps_rt (pm_cmp (o_eq T.hK hr.units) (pm_lc (own := [("_law_k", 2)]) (tgs := [2]) rfl S__law_alike.nd (pi_r1 (by rfl) T.b_range (pv_see (pv_callB (c_len T.hK) (by rfl) T.b_len PySem.boot_len (pa_see (pp_see (pp_name (pv 1))) pa_see0)))) (blkOk_by (own := [("_law_k", 2)]) (by first | (change blkC (["_law_found", "_law_due", "_law_k"] : List Str) (defScope s__law_alike) _ _ = true; decide +kernel) | with_unfolding_all rfl)) (fun _ _ _ _ _ => (pg_nm (pg_name (i := 2) S__law_alike.nd rfl (by first | exact Or.inl rfl | exact Or.inr rfl)) rfl rfl)) (fun _ _ _ _ _ => (pts_one (pt_notM (pt_truM (pm_fnG (ml := [none, none]) g__law_alike (hr.mono (by first | decide | omega)) rfl (by rfl) rfl (al (pe_ofP (pp_ix T.hK hr.units (pp_name (pv 0)) (pp_see (pp_name (pv 2))) (fun _ _ => rfl))) (al (pe_ofP (pp_ix T.hK hr.units (pp_name (pv 1)) (pp_see (pp_name (pv 2))) (fun _ _ => rfl))) al0))))))) (fun _ _ _ _ _ => (pe_ofP (pp_name (pv 2)))) rfl rfl) (pm_lst pa_m0) (by first | exact nomark _ | rfl)))))) pss0)
    (pss (ps_ifS (PW.pt (pw_orM (pt_cmpV o_is (pp_see (pp_name (pv 1))) (pv_see (pv_C pe_non rfl)) (by first | exact nomark _ | rfl)) (pw_or1M (pt_truV (pv_see (pv_isi (by rfl) T.b_isinstance (pp_see (pp_name (pv 1))) (pe_tyN (by rfl) T.b_str PyProof.Rows.boot_str) (ClsV.ty "str") (isOk_ty (bs := ["str"]) T.hK.symm T.isa (by decide)))))))) (pss1 (ps_rt (pm_and (pe_ofV (pv_cmp (o_eq T.hK hr.units) (pp_see (pp_name (pv 0))) (pp_see (pp_name (pv 1))) (by first | exact nomark _ | rfl))) (pm_one (pe_ofV (pv_cmp (o_eq T.hK hr.units) (pv_see (pv_isi (by rfl) T.b_isinstance (pp_see (pp_name (pv 0))) (pe_tyN (by rfl) T.b_str PyProof.Rows.boot_str) (ClsV.ty "str") (isOk_ty (bs := ["str"]) T.hK.symm T.isa (by decide)))) (pv_see (pv_isi (by rfl) T.b_isinstance (pp_see (pp_name (pv 1))) (pe_tyN (by rfl) T.b_str PyProof.Rows.boot_str) (ClsV.ty "str") (isOk_ty (bs := ["str"]) T.hK.symm T.isa (by decide)))) (by first | exact nomark _ | rfl))))))) pss0)
    (pss1 (ps_rt (pm_and (pe_ofV (pv_isi (by rfl) T.b_isinstance (pp_see (pp_name (pv 0))) (pe_tyN (by rfl) T.b_int PyProof.Rows.boot_int) (ClsV.ty "int") (isOk_ty (bs := ["int"]) T.hK.symm T.isa (by decide)))) (pm_and (pe_ofV (pv_cmp (o_eq T.hK hr.units) (pv_see (pv_isi (by rfl) T.b_isinstance (pp_see (pp_name (pv 0))) (pe_tyN (by rfl) T.b_bool PyProof.Rows.boot_bool) (ClsV.ty "bool") (isOk_ty (bs := ["bool"]) T.hK.symm T.isa (by decide)))) (pv_see (pv_isi (by rfl) T.b_isinstance (pp_see (pp_name (pv 1))) (pe_tyN (by rfl) T.b_bool PyProof.Rows.boot_bool) (ClsV.ty "bool") (isOk_ty (bs := ["bool"]) T.hK.symm T.isa (by decide)))) (by first | exact nomark _ | rfl))) (pm_one (pe_ofV (pv_cmp (o_eq T.hK hr.units) (pp_see (pp_name (pv 0))) (pp_see (pp_name (pv 1))) (by first | exact nomark _ | rfl)))))))))) : PSs (cxOf CX0 P w K mg base ["_law_found", "_law_due", "_law_k"] "_law_alike" (defScope s__law_alike) f cdv A outer s H E).nox (defBody s__law_alike) (tS (cnOf G 3 [false, false] vs) (d__law_alike (F__law_alike m))))

theorem ok__law_simplex (T : Tx K mg G) (g__law_taken : GF P w K mg base G "_law_taken" 1 ["_law_row", "_law_many"] [true, false] F__law_taken) {f : Addr} {fd : FuncData} (F : Fun K "_law_simplex" "_law_simplex" s__law_simplex f fd) : FnOk P w K mg base CX0 2 f fd ["_law_row", "_law_most", "_law_size"] (spF G [true, false, false] 3 F__law_simplex) :=
  fn_ok (k := 1) (n := 6) (lm := [true, false, false]) (fb := d__law_simplex) F S__law_simplex rfl (by decide) (by decide) (fun _ _ h => h) fun cdv A outer s H vs E hr =>
    ((pss (ps_parS (i := 3) (j := 4) rfl S__law_simplex.nd rfl rfl (by decide) (by rfl) (by rfl) (pa_m (pe_ofV (pv_lrg1 rfl (by rfl) T.b_list (by rfl) T.b_range (pp_see (pp_name (pv 1))))) (pa_m (pm_lst pa_m0) pa_m0)) (by rfl) rfl)
    (pss (ps_fr (tgs := [5]) PassesOwn.never rfl (pi_r1M (by rfl) T.b_range (pm_callB (c_min2 rfl) (by rfl) T.b_min PyProof.Rows.boot_min (pa_m (pe_ofP (pp_name (pv 1))) (pa_m (pm_op (o_add T.hK) (pe_ofV (pv_C pe_int rfl)) (pm_fnG (ml := [some 0, none]) g__law_taken (hr.mono (by first | decide | omega)) rfl (by rfl) rfl (almv (pv 0) (al (pe_ofP (pp_name (pv 2))) al0)))) pa_m0)))) (pg_nm (pg_name (i := 5) S__law_simplex.nd rfl (by first | exact Or.inl rfl | exact Or.inr rfl)) rfl rfl) (pss1 (ps_ex (pm_ap (pv 4) (pm_po (pv 3) (pm_fnG (ml := [some 0, none]) g__law_taken (hr.mono (by first | decide | omega)) rfl (by rfl) rfl (almv (pv 0) (al (pe_ofV (pv_callB (c_len T.hK) (by rfl) T.b_len PySem.boot_len (pa_see (pp_see (pp_name (pv 3))) pa_see0))) al0))))))))
    (pss1 (ps_rt (pe_ofV (pv_callTy c_tuple (by rfl) T.b_tuple PyProof.Rows.boot_tuple (pa_see (pv_see (pv_callB (c_sorted T.hK (room100 hr)) (by rfl) T.b_sorted PyProof.Rows.boot_sorted (pa_see (pp_see (pp_name (pv 4))) pa_see0))) pa_see0))))))) : PSs (cxOf CX0 P w K mg base ["_law_row", "_law_most", "_law_size", "_law_left", "_law_found", "_law_turn"] "_law_simplex" (defScope s__law_simplex) f cdv A outer s H E).nox (defBody s__law_simplex) (tS (cnOf G 6 [true, false, false] vs) d__law_simplex))

theorem ok__law_simplices (T : Tx K mg G) (g__law_taken : GF P w K mg base G "_law_taken" 1 ["_law_row", "_law_many"] [true, false] F__law_taken) (g__law_simplex : GF P w K mg base G "_law_simplex" 2 ["_law_row", "_law_most", "_law_size"] [true, false, false] F__law_simplex) {f : Addr} {fd : FuncData} (F : Fun K "_law_simplices" "_law_simplices" s__law_simplices f fd) : FnOk P w K mg base CX0 3 f fd ["_law_row", "_law_most", "_law_size"] (spF G [true, false, false] 3 F__law_simplices) :=
  fn_ok (k := 2) (n := 9) (lm := [true, false, false]) (fb := d__law_simplices) F S__law_simplices rfl (by decide) (by decide) (fun _ _ h => h) fun cdv A outer s H vs E hr =>
    ((pss (ps_nm (i := 3) S__law_simplices.nd rfl (by first | exact Or.inl rfl | exact Or.inr rfl) (pm_fnG (ml := [some 0, none]) g__law_taken (hr.mono (by first | decide | omega)) rfl (by rfl) rfl (almv (pv 0) (al (pe_ofV (pv_C pe_int rfl)) al0))) rfl rfl)
    (pss (ps_ifS (pt_cmpV (o_eq T.hK hr.units) (pp_see (pp_name (pv 3))) (pv_see (pv_C pe_int rfl)) (by first | exact nomark _ | rfl)) (pss (ps_nm (i := 4) S__law_simplices.nd rfl (by first | exact Or.inl rfl | exact Or.inr rfl) (pm_op (o_add T.hK) (pe_ofV (pv_C pe_int rfl)) (pm_fnG (ml := [some 0, none]) g__law_taken (hr.mono (by first | decide | omega)) rfl (by rfl) rfl (almv (pv 0) (al (pe_ofV (pv_callB (c_min2 rfl) (by rfl) T.b_min PyProof.Rows.boot_min (pa_see (pv_see (pv_op o_sub (pp_see (pp_name (pv 1))) (pv_see (pv_C pe_int rfl)))) (pa_see (pp_see (pp_name (pv 2))) pa_see0)))) al0)))) rfl rfl)
    (pss1 (ps_rt (pm_callTy c_tuple (by rfl) T.b_tuple PyProof.Rows.boot_tuple (pa_m (pm_lc (own := [("_law_at_here", 6)]) (tgs := [6]) rfl S__law_simplices.nd (pi_r1 (by rfl) T.b_range (pp_see (pp_name (pv 4)))) (blkOk_by (own := [("_law_at_here", 6)]) (by first | (change blkC (["_law_row", "_law_most", "_law_size", "_law_way", "_law_many", "_law_found", "_law_at_here", "_law_turn", "_law_vertex"] : List Str) (defScope s__law_simplices) _ _ = true; decide +kernel) | with_unfolding_all rfl)) (fun _ _ _ _ _ => (pg_nm (pg_name (i := 6) S__law_simplices.nd rfl (by first | exact Or.inl rfl | exact Or.inr rfl)) rfl rfl)) (fun _ _ _ _ _ => (tYes_T pts_nil)) (fun _ _ _ _ _ => (pm_callTy c_tuple (by rfl) T.b_tuple PyProof.Rows.boot_tuple (pa_m (pm_lc (own := [("_law_vertex", 8)]) (tgs := [8]) rfl S__law_simplices.nd (pi_r1 (by rfl) T.b_range (pp_see (pp_name (pv 4)))) (blkOk_by (own := [("_law_vertex", 8)]) (by first | (change blkC (["_law_row", "_law_most", "_law_size", "_law_way", "_law_many", "_law_found", "_law_at_here", "_law_turn", "_law_vertex"] : List Str) (defScope s__law_simplices) _ _ = true; decide +kernel) | with_unfolding_all rfl)) (fun _ _ _ _ _ => (pg_nm (pg_name (i := 8) S__law_simplices.nd rfl (by first | exact Or.inl rfl | exact Or.inr rfl)) rfl rfl)) (fun _ _ _ _ _ => (pts_one (pt_cmpV (o_ne T.hK hr.units) (pp_see (pp_name (pv 8))) (pp_see (pp_name (pv 6))) (by first | exact nomark _ | rfl)))) (fun _ _ _ _ _ => (pe_ofP (pp_name (pv 8)))) rfl rfl) pa_m0))) rfl rfl) pa_m0))))) pss0)
    (pss (ps_ifS (PW.pt (pw_andM (pt_cmpV (o_eq T.hK hr.units) (pp_see (pp_name (pv 3))) (pv_see (pv_C pe_int rfl)) (by first | exact nomark _ | rfl)) (pw_andM (pt_cmpV (o_gt T.hK hr.units) (pp_see (pp_name (pv 1))) (pv_see (pv_C pe_int rfl)) (by first | exact nomark _ | rfl)) (pw_and1M (pt_cmpV (o_gt T.hK hr.units) (pp_see (pp_name (pv 2))) (pv_see (pv_C pe_int rfl)) (by first | exact nomark _ | rfl)))))) (pss1 (ps_rt (pm_tup (pa_m (pm_tup (pa_m (pe_ofV (pv_C pe_int rfl)) (pa_m (pe_ofV (pv_C pe_int rfl)) (pa_m (pe_ofV (pv_C pe_int rfl)) pa_m0)))) (pa_m (pm_tup (pa_m (pe_ofV (pv_C pe_int rfl)) (pa_m (pe_ofV (pv_C pe_int rfl)) (pa_m (pe_ofV (pv_C pe_int rfl)) pa_m0)))) (pa_m (pm_tup (pa_m (pe_ofV (pv_C pe_int rfl)) (pa_m (pe_ofV (pv_C pe_int rfl)) (pa_m (pe_ofV (pv_C pe_int rfl)) pa_m0)))) (pa_m (pm_tup (pa_m (pe_ofV (pv_C pe_int rfl)) (pa_m (pe_ofV (pv_C pe_int rfl)) (pa_m (pe_ofV (pv_C pe_int rfl)) pa_m0)))) (pa_m (pm_tup (pa_m (pe_ofV (pv_C pe_int rfl)) (pa_m (pe_ofV (pv_C pe_int rfl)) (pa_m (pe_ofV (pv_C pe_int rfl)) pa_m0)))) (pa_m (pm_tup (pa_m (pe_ofV (pv_C pe_int rfl)) (pa_m (pe_ofV (pv_C pe_int rfl)) (pa_m (pe_ofV (pv_C pe_int rfl)) pa_m0)))) (pa_m (pm_tup (pa_m (pe_ofV (pv_C pe_int rfl)) (pa_m (pe_ofV (pv_C pe_int rfl)) (pa_m (pe_ofV (pv_C pe_int rfl)) pa_m0)))) (pa_m (pm_tup (pa_m (pe_ofV (pv_C pe_int rfl)) (pa_m (pe_ofV (pv_C pe_int rfl)) (pa_m (pe_ofV (pv_C pe_int rfl)) pa_m0)))) (pa_m (pm_tup (pa_m (pe_ofV (pv_C pe_int rfl)) (pa_m (pe_ofV (pv_C pe_int rfl)) (pa_m (pe_ofV (pv_C pe_int rfl)) pa_m0)))) (pa_m (pm_tup (pa_m (pe_ofV (pv_C pe_int rfl)) (pa_m (pe_ofV (pv_C pe_int rfl)) (pa_m (pe_ofV (pv_C pe_int rfl)) pa_m0)))) pa_m0))))))))))))) pss0)
    (pss (ps_ifS (PW.pt (pw_andM (pt_cmpV (o_eq T.hK hr.units) (pp_see (pp_name (pv 3))) (pv_see (pv_C pe_int rfl)) (by first | exact nomark _ | rfl)) (pw_andM (pt_cmpV (o_gt T.hK hr.units) (pp_see (pp_name (pv 1))) (pv_see (pv_C pe_int rfl)) (by first | exact nomark _ | rfl)) (pw_and1M (pt_cmpV (o_gt T.hK hr.units) (pp_see (pp_name (pv 2))) (pv_see (pv_C pe_int rfl)) (by first | exact nomark _ | rfl)))))) (pss (ps_nm (i := 5) S__law_simplices.nd rfl (by first | exact Or.inl rfl | exact Or.inr rfl) (pm_lst pa_m0) rfl rfl)
    (pss (ps_fr (tgs := [6]) PassesOwn.never rfl (pi_r1 (by rfl) T.b_range (pv_see (pv_C pe_int rfl))) (pg_nm (pg_name (i := 6) S__law_simplices.nd rfl (by first | exact Or.inl rfl | exact Or.inr rfl)) rfl rfl) (pss (ps_ex (pm_ap (pv 5) (pm_callTy c_tuple (by rfl) T.b_tuple PyProof.Rows.boot_tuple (pa_m (pm_callB (c_sorted T.hK (room100 hr)) (by rfl) T.b_sorted PyProof.Rows.boot_sorted (pa_m (pm_lst (pa_m (pe_ofP (pp_name (pv 6))) (pa_m (pe_ofV (pv_op o_mod (pv_see (pv_callTy c_int (by rfl) T.b_int PyProof.Rows.boot_int (pa_see (pv_see (pv_op (o_add T.hK) (pp_see (pp_name (pv 6))) (pv_see (pv_C pe_int rfl)))) pa_see0))) (pv_see (pv_C pe_int rfl)))) (pa_m (pe_ofV (pv_op o_mod (pv_see (pv_callTy c_int (by rfl) T.b_int PyProof.Rows.boot_int (pa_see (pv_see (pv_op (o_add T.hK) (pp_see (pp_name (pv 6))) (pv_see (pv_C pe_int rfl)))) pa_see0))) (pv_see (pv_C pe_int rfl)))) pa_m0)))) pa_m0)) pa_m0))))
    (pss1 (ps_ex (pm_ap (pv 5) (pm_callTy c_tuple (by rfl) T.b_tuple PyProof.Rows.boot_tuple (pa_m (pm_callB (c_sorted T.hK (room100 hr)) (by rfl) T.b_sorted PyProof.Rows.boot_sorted (pa_m (pm_lst (pa_m (pe_ofP (pp_name (pv 6))) (pa_m (pe_ofV (pv_op o_mod (pv_see (pv_callTy c_int (by rfl) T.b_int PyProof.Rows.boot_int (pa_see (pv_see (pv_op (o_add T.hK) (pp_see (pp_name (pv 6))) (pv_see (pv_C pe_int rfl)))) pa_see0))) (pv_see (pv_C pe_int rfl)))) (pa_m (pe_ofV (pv_op o_mod (pv_see (pv_callTy c_int (by rfl) T.b_int PyProof.Rows.boot_int (pa_see (pv_see (pv_op (o_add T.hK) (pp_see (pp_name (pv 6))) (pv_see (pv_C pe_int rfl)))) pa_see0))) (pv_see (pv_C pe_int rfl)))) pa_m0)))) pa_m0)) pa_m0)))))))
    (pss1 (ps_rt (pe_ofV (pv_callTy c_tuple (by rfl) T.b_tuple PyProof.Rows.boot_tuple (pa_see (pp_see (pp_name (pv 5))) pa_see0))))))) pss0)
    (pss (ps_ifS (PW.pt (pw_andM (pt_cmpV (o_eq T.hK hr.units) (pp_see (pp_name (pv 3))) (pv_see (pv_C pe_int rfl)) (by first | exact nomark _ | rfl)) (pw_andM (pt_cmpV (o_gt T.hK hr.units) (pp_see (pp_name (pv 1))) (pv_see (pv_C pe_int rfl)) (by first | exact nomark _ | rfl)) (pw_and1M (pt_cmpV (o_gt T.hK hr.units) (pp_see (pp_name (pv 2))) (pv_see (pv_C pe_int rfl)) (by first | exact nomark _ | rfl)))))) (pss (ps_nm (i := 4) S__law_simplices.nd rfl (by first | exact Or.inl rfl | exact Or.inr rfl) (pm_op (o_add T.hK) (pe_ofV (pv_C pe_int rfl)) (pm_fnG (ml := [some 0, none]) g__law_taken (hr.mono (by first | decide | omega)) rfl (by rfl) rfl (almv (pv 0) (al (pe_ofV (pv_op o_sub (pp_see (pp_name (pv 1))) (pv_see (pv_C pe_int rfl)))) al0)))) rfl rfl)
    (pss1 (ps_rt (pm_callTy c_tuple (by rfl) T.b_tuple PyProof.Rows.boot_tuple (pa_m (pm_lc (own := [("_law_at_here", 6)]) (tgs := [6]) rfl S__law_simplices.nd (pi_r1 (by rfl) T.b_range (pp_see (pp_name (pv 4)))) (blkOk_by (own := [("_law_at_here", 6)]) (by first | (change blkC (["_law_row", "_law_most", "_law_size", "_law_way", "_law_many", "_law_found", "_law_at_here", "_law_turn", "_law_vertex"] : List Str) (defScope s__law_simplices) _ _ = true; decide +kernel) | with_unfolding_all rfl)) (fun _ _ _ _ _ => (pg_nm (pg_name (i := 6) S__law_simplices.nd rfl (by first | exact Or.inl rfl | exact Or.inr rfl)) rfl rfl)) (fun _ _ _ _ _ => (tYes_T pts_nil)) (fun _ _ _ _ _ => (pm_callTy c_tuple (by rfl) T.b_tuple PyProof.Rows.boot_tuple (pa_m (pm_callB (c_sorted T.hK (room100 hr)) (by rfl) T.b_sorted PyProof.Rows.boot_sorted (pa_m (pm_lst (pa_m (pe_ofP (pp_name (pv 6))) (pa_m (pe_ofV (pv_op o_mod (pv_see (pv_callTy c_int (by rfl) T.b_int PyProof.Rows.boot_int (pa_see (pv_see (pv_op (o_add T.hK) (pp_see (pp_name (pv 6))) (pv_see (pv_C pe_int rfl)))) pa_see0))) (pp_see (pp_name (pv 4))))) pa_m0))) pa_m0)) pa_m0))) rfl rfl) pa_m0))))) pss0)
    (pss1 (ps_rt (pm_callTy c_tuple (by rfl) T.b_tuple PyProof.Rows.boot_tuple (pa_m (pm_lc (own := [("_law_turn", 7)]) (tgs := [7]) rfl S__law_simplices.nd (pi_r1M (by rfl) T.b_range (pm_fnG (ml := [some 0, none]) g__law_taken (hr.mono (by first | decide | omega)) rfl (by rfl) rfl (almv (pv 0) (al (pe_ofV (pv_C pe_int rfl)) al0)))) (blkOk_by (own := [("_law_turn", 7)]) (by first | (change blkC (["_law_row", "_law_most", "_law_size", "_law_way", "_law_many", "_law_found", "_law_at_here", "_law_turn", "_law_vertex"] : List Str) (defScope s__law_simplices) _ _ = true; decide +kernel) | with_unfolding_all rfl)) (fun _ _ _ _ _ => (pg_nm (pg_name (i := 7) S__law_simplices.nd rfl (by first | exact Or.inl rfl | exact Or.inr rfl)) rfl rfl)) (fun _ _ _ _ _ => (tYes_T pts_nil)) (fun _ _ _ _ _ => (pm_fnG (ml := [some 0, none, none]) g__law_simplex (hr.mono (by first | decide | omega)) rfl (by rfl) rfl (almv (pv 0) (al (pe_ofP (pp_name (pv 1))) (al (pe_ofP (pp_name (pv 2))) al0))))) rfl rfl) pa_m0))))))))) : PSs (cxOf CX0 P w K mg base ["_law_row", "_law_most", "_law_size", "_law_way", "_law_many", "_law_found", "_law_at_here", "_law_turn", "_law_vertex"] "_law_simplices" (defScope s__law_simplices) f cdv A outer s H E).nox (defBody s__law_simplices) (tS (cnOf G 9 [true, false, false] vs) d__law_simplices))

theorem ok__law_faces (T : Tx K mg G) {f : Addr} {fd : FuncData} (F : Fun K "_law_faces" "_law_faces" s__law_faces f fd) : FnOk P w K mg base CX0 1 f fd ["_law_simplices_here"] (spF G [false] 1 F__law_faces) :=
  fn_ok (k := 0) (n := 7) (lm := [false]) (fb := d__law_faces) F S__law_faces rfl (by decide) (by decide) (fun _ _ h => h) fun cdv A outer s H vs E hr =>
    ((pss (ps_nm (i := 1) S__law_faces.nd rfl (by first | exact Or.inl rfl | exact Or.inr rfl) pm_newT rfl rfl)
    (pss (ps_fr (tgs := [2]) PassesOwn.never rfl (pi_m T.hK (pe_ofP (pp_name (pv 0)))) (pg_nm (pg_name (i := 2) S__law_faces.nd rfl (by first | exact Or.inl rfl | exact Or.inr rfl)) rfl rfl) (pss (ps_nm (i := 3) S__law_faces.nd rfl (by first | exact Or.inl rfl | exact Or.inr rfl) (pm_lst (pa_m (pm_tup pa_m0) pa_m0)) rfl rfl)
    (pss (ps_fr (tgs := [4]) PassesOwn.never rfl (pi_m T.hK (pe_ofP (pp_name (pv 2)))) (pg_nm (pg_name (i := 4) S__law_faces.nd rfl (by first | exact Or.inl rfl | exact Or.inr rfl)) rfl rfl) (pss1 (ps_nm (i := 3) S__law_faces.nd rfl (by first | exact Or.inl rfl | exact Or.inr rfl) (pm_op (o_add T.hK) (pe_ofP (pp_name (pv 3))) (pm_lc (own := [("_law_part", 5)]) (tgs := [5]) rfl S__law_faces.nd (pi_m T.hK (pe_ofP (pp_name (pv 3)))) (blkOk_by (own := [("_law_part", 5)]) (by first | (change blkC (["_law_simplices_here", "_law_met", "_law_simplex_here", "_law_some", "_law_vertex", "_law_part", "_law_pair"] : List Str) (defScope s__law_faces) _ _ = true; decide +kernel) | with_unfolding_all rfl)) (fun _ _ _ _ _ => (pg_nm (pg_name (i := 5) S__law_faces.nd rfl (by first | exact Or.inl rfl | exact Or.inr rfl)) rfl rfl)) (fun _ _ _ _ _ => (tYes_T pts_nil)) (fun _ _ _ _ _ => (pm_op (o_add T.hK) (pe_ofP (pp_name (pv 5))) (pm_tup (pa_m (pe_ofP (pp_name (pv 4))) pa_m0)))) rfl rfl)) rfl rfl)))
    (pss1 (ps_fr (tgs := [5]) PassesOwn.never rfl (pi_m T.hK (pe_ofV (pv_slice (pp_see (pp_name (pv 3))) (po_see (pv_see (pv_C pe_int rfl))) po_no))) (pg_nm (pg_name (i := 5) S__law_faces.nd rfl (by first | exact Or.inl rfl | exact Or.inr rfl)) rfl rfl) (pss1 (ps_sb hr.units (pv 1) (pp_see (pp_name (pv 5))) (pe_ofV (pv_C pe_bl rfl)))))))))
    (pss1 (ps_rt (pm_lc (own := [("_law_pair", 6)]) (tgs := [6]) rfl S__law_faces.nd (pi_m T.hK (pm_callB (c_sorted T.hK (room100 hr)) (by rfl) T.b_sorted PyProof.Rows.boot_sorted (pa_m (pm_lc (own := [("_law_part", 5)]) (tgs := [5]) rfl S__law_faces.nd (pi_m T.hK (pe_ofV (pv_callTy (c_list T.hK rfl) (by rfl) T.b_list PyProof.Rows.boot_list (pa_see (pp_see (pp_name (pv 1))) pa_see0)))) (blkOk_by (own := [("_law_part", 5)]) (by first | (change blkC (["_law_simplices_here", "_law_met", "_law_simplex_here", "_law_some", "_law_vertex", "_law_part", "_law_pair"] : List Str) (defScope s__law_faces) _ _ = true; decide +kernel) | with_unfolding_all rfl)) (fun _ _ _ _ _ => (pg_nm (pg_name (i := 5) S__law_faces.nd rfl (by first | exact Or.inl rfl | exact Or.inr rfl)) rfl rfl)) (fun _ _ _ _ _ => (tYes_T pts_nil)) (fun _ _ _ _ _ => (pm_tup (pa_m (pe_ofV (pv_callB (c_len T.hK) (by rfl) T.b_len PySem.boot_len (pa_see (pp_see (pp_name (pv 5))) pa_see0))) (pa_m (pe_ofP (pp_name (pv 5))) pa_m0)))) rfl rfl) pa_m0))) (blkOk_by (own := [("_law_pair", 6)]) (by first | (change blkC (["_law_simplices_here", "_law_met", "_law_simplex_here", "_law_some", "_law_vertex", "_law_part", "_law_pair"] : List Str) (defScope s__law_faces) _ _ = true; decide +kernel) | with_unfolding_all rfl)) (fun _ _ _ _ _ => (pg_nm (pg_name (i := 6) S__law_faces.nd rfl (by first | exact Or.inl rfl | exact Or.inr rfl)) rfl rfl)) (fun _ _ _ _ _ => (tYes_T pts_nil)) (fun _ _ _ _ _ => (pe_ofP (pp_ix T.hK hr.units (pp_name (pv 6)) (pv_see (pv_C pe_int rfl)) (fun _ _ => rfl)))) rfl rfl))))) : PSs (cxOf CX0 P w K mg base ["_law_simplices_here", "_law_met", "_law_simplex_here", "_law_some", "_law_vertex", "_law_part", "_law_pair"] "_law_faces" (defScope s__law_faces) f cdv A outer s H E).nox (defBody s__law_faces) (tS (cnOf G 7 [false] vs) d__law_faces))

theorem ok__law_at (T : Tx K mg G) {f : Addr} {fd : FuncData} (F : Fun K "_law_at" "_law_at" s__law_at f fd) : FnOk P w K mg base CX0 1 f fd ["_law_faces_here", "_law_degree"] (spF G [false, false] 2 F__law_at) :=
  fn_ok (k := 0) (n := 3) (lm := [false, false]) (fb := d__law_at) F S__law_at rfl (by decide) (by decide) (fun _ _ h => h) fun cdv A outer s H vs E hr =>
    ((pss1 (ps_rt (pm_if (pt_cmpV (o_eq T.hK hr.units) (pp_see (pp_name (pv 1))) (pv_see (pv_neg (pv_see (pv_C pe_int rfl)))) (by first | exact nomark _ | rfl)) (pm_lst (pa_m (pm_tup pa_m0) pa_m0)) (pm_lc (own := [("_law_face", 2)]) (tgs := [2]) rfl S__law_at.nd (pi_m T.hK (pe_ofP (pp_name (pv 0)))) (blkOk_by (own := [("_law_face", 2)]) (by first | (change blkC (["_law_faces_here", "_law_degree", "_law_face"] : List Str) (defScope s__law_at) _ _ = true; decide +kernel) | with_unfolding_all rfl)) (fun _ _ _ _ _ => (pg_nm (pg_name (i := 2) S__law_at.nd rfl (by first | exact Or.inl rfl | exact Or.inr rfl)) rfl rfl)) (fun _ _ _ _ _ => (pts_one (pt_cmpV (o_eq T.hK hr.units) (pv_see (pv_callB (c_len T.hK) (by rfl) T.b_len PySem.boot_len (pa_see (pp_see (pp_name (pv 2))) pa_see0))) (pv_see (pv_op (o_add T.hK) (pp_see (pp_name (pv 1))) (pv_see (pv_C pe_int rfl)))) (by first | exact nomark _ | rfl)))) (fun _ _ _ _ _ => (pe_ofP (pp_name (pv 2)))) rfl rfl)))) : PSs (cxOf CX0 P w K mg base ["_law_faces_here", "_law_degree", "_law_face"] "_law_at" (defScope s__law_at) f cdv A outer s H E).nox (defBody s__law_at) (tS (cnOf G 3 [false, false] vs) d__law_at))

theorem ok__law_choose (T : Tx K mg G) {f : Addr} {fd : FuncData} (F : Fun K "_law_choose" "_law_choose" s__law_choose f fd) : FnOk P w K mg base CX0 1 f fd ["_law_upper", "_law_lower"] (spF G [false, false] 2 F__law_choose) :=
  fn_ok (k := 0) (n := 4) (lm := [false, false]) (fb := d__law_choose) F S__law_choose rfl (by decide) (by decide) (fun _ _ h => h) fun cdv A outer s H vs E hr =>
    ((pss (ps_nm (i := 2) S__law_choose.nd rfl (by first | exact Or.inl rfl | exact Or.inr rfl) (pe_ofV (pv_C pe_int rfl)) rfl rfl)
    (pss (ps_fr (tgs := [3]) PassesOwn.never rfl (pi_r1 (by rfl) T.b_range (pp_see (pp_name (pv 1)))) (pg_nm (pg_name (i := 3) S__law_choose.nd rfl (by first | exact Or.inl rfl | exact Or.inr rfl)) rfl rfl) (pss1 (ps_nm (i := 2) S__law_choose.nd rfl (by first | exact Or.inl rfl | exact Or.inr rfl) (pe_ofV (pv_op o_fdiv (pv_see (pv_op (o_mul T.hK) (pp_see (pp_name (pv 2))) (pv_see (pv_op o_sub (pp_see (pp_name (pv 0))) (pp_see (pp_name (pv 3))))))) (pv_see (pv_op (o_add T.hK) (pp_see (pp_name (pv 3))) (pv_see (pv_C pe_int rfl)))))) rfl rfl)))
    (pss1 (ps_rt (pm_mv (pv 2)))))) : PSs (cxOf CX0 P w K mg base ["_law_upper", "_law_lower", "_law_found", "_law_at_here"] "_law_choose" (defScope s__law_choose) f cdv A outer s H E).nox (defBody s__law_choose) (tS (cnOf G 4 [false, false] vs) d__law_choose))

theorem ok__law_cascade (T : Tx K mg G) (g__law_choose : GF P w K mg base G "_law_choose" 1 ["_law_upper", "_law_lower"] [false, false] F__law_choose) {f : Addr} {fd : FuncData} (F : Fun K "_law_cascade" "_law_cascade" s__law_cascade f fd) : FnOk P w K mg base CX0 2 f fd ["_law_number", "_law_size"] (spF G [false, false] 2 F__law_cascade) :=
  fn_ok (k := 1) (n := 6) (lm := [false, false]) (fb := d__law_cascade) F S__law_cascade rfl (by decide) (by decide) (fun _ _ h => h) fun cdv A outer s H vs E hr =>
    ((pss (ps_nm (i := 2) S__law_cascade.nd rfl (by first | exact Or.inl rfl | exact Or.inr rfl) (pm_lst pa_m0) rfl rfl)
    (pss (ps_fr (tgs := [3]) PassesOwn.never rfl (pi_m T.hK (pe_ofV (pv_slice3 T.hK.symm (pv_see (pv_lrg2 rfl (by rfl) T.b_list (by rfl) T.b_range (pv_see (pv_C pe_int rfl)) (pv_see (pv_op (o_add T.hK) (pp_see (pp_name (pv 1))) (pv_see (pv_C pe_int rfl)))))) po_no po_no (po_see (pv_see (pv_neg (pv_see (pv_C pe_int rfl)))))))) (pg_nm (pg_name (i := 3) S__law_cascade.nd rfl (by first | exact Or.inl rfl | exact Or.inr rfl)) rfl rfl) (pss1 (ps_ifS (pt_cmpV (o_gt T.hK hr.units) (pp_see (pp_name (pv 0))) (pv_see (pv_C pe_int rfl)) (by first | exact nomark _ | rfl)) (pss (ps_nm (i := 4) S__law_cascade.nd rfl (by first | exact Or.inl rfl | exact Or.inr rfl) (pe_ofP (pp_name (pv 3))) rfl rfl)
    (pss (ps_fr (tgs := [5]) PassesOwn.never rfl (pi_r1 (by rfl) T.b_range (pv_see (pv_C pe_int rfl))) (pg_nm (pg_name (i := 5) S__law_cascade.nd rfl (by first | exact Or.inl rfl | exact Or.inr rfl)) rfl rfl) (pss (ps_ifS (pt_cmpM (o_gt T.hK hr.units) (pm_fnG (ml := [none, none]) g__law_choose (hr.mono (by first | decide | omega)) rfl (by rfl) rfl (al (pe_ofV (pv_op (o_add T.hK) (pp_see (pp_name (pv 4))) (pv_see (pv_C pe_int rfl)))) (al (pe_ofP (pp_name (pv 3))) al0))) (pe_ofP (pp_name (pv 0))) (by first | exact nomark _ | rfl)) (pss1 ps_brk) pss0)
    (pss1 (ps_nm (i := 4) S__law_cascade.nd rfl (by first | exact Or.inl rfl | exact Or.inr rfl) (pe_ofV (pv_op (o_add T.hK) (pp_see (pp_name (pv 4))) (pv_see (pv_C pe_int rfl)))) rfl rfl))))
    (pss (ps_ex (pm_ap (pv 2) (pm_tup (pa_m (pe_ofP (pp_name (pv 4))) (pa_m (pe_ofP (pp_name (pv 3))) pa_m0)))))
    (pss1 (ps_nm (i := 0) S__law_cascade.nd rfl (by first | exact Or.inl rfl | exact Or.inr rfl) (pm_op o_sub (pe_ofP (pp_name (pv 0))) (pm_fnG (ml := [none, none]) g__law_choose (hr.mono (by first | decide | omega)) rfl (by rfl) rfl (al (pe_ofP (pp_name (pv 4))) (al (pe_ofP (pp_name (pv 3))) al0)))) rfl rfl))))) pss0)))
    (pss1 (ps_rt (pm_mv (pv 2)))))) : PSs (cxOf CX0 P w K mg base ["_law_number", "_law_size", "_law_found", "_law_lower", "_law_upper", "_law_turn"] "_law_cascade" (defScope s__law_cascade) f cdv A outer s H E).nox (defBody s__law_cascade) (tS (cnOf G 6 [false, false] vs) d__law_cascade))

theorem ok__law_shadow (T : Tx K mg G) (g__law_cascade : GF P w K mg base G "_law_cascade" 2 ["_law_number", "_law_size"] [false, false] F__law_cascade) (g__law_choose : GF P w K mg base G "_law_choose" 1 ["_law_upper", "_law_lower"] [false, false] F__law_choose) {f : Addr} {fd : FuncData} (F : Fun K "_law_shadow" "_law_shadow" s__law_shadow f fd) : FnOk P w K mg base CX0 3 f fd ["_law_number", "_law_size"] (spF G [false, false] 2 F__law_shadow) :=
  fn_ok (k := 2) (n := 4) (lm := [false, false]) (fb := d__law_shadow) F S__law_shadow rfl (by decide) (by decide) (fun _ _ h => h) fun cdv A outer s H vs E hr =>
    ((pss1 (ps_rt (pm_callB (c_sum rfl) (by rfl) T.b_sum PyProof.Rows.boot_sum (pa_m (pm_lc (own := [("_law_upper", 2), ("_law_lower", 3)]) (tgs := [2, 3]) rfl S__law_shadow.nd (pi_m T.hK (pm_fnG (ml := [none, none]) g__law_cascade (hr.mono (by first | decide | omega)) rfl (by rfl) rfl (al (pe_ofP (pp_name (pv 0))) (al (pe_ofP (pp_name (pv 1))) al0)))) (blkOk_by (own := [("_law_upper", 2), ("_law_lower", 3)]) (by first | (change blkC (["_law_number", "_law_size", "_law_upper", "_law_lower"] : List Str) (defScope s__law_shadow) _ _ = true; decide +kernel) | with_unfolding_all rfl)) (fun _ _ _ _ _ => (pg_tp (is := [2, 3]) (pg_tup rfl (pgs_cons (pg_name (i := 2) S__law_shadow.nd rfl (by first | exact Or.inl rfl | exact Or.inr rfl)) (pgs_cons (pg_name (i := 3) S__law_shadow.nd rfl (by first | exact Or.inl rfl | exact Or.inr rfl)) pgs_nil))) rfl)) (fun _ _ _ _ _ => (tYes_T pts_nil)) (fun _ _ _ _ _ => (pm_fnG (ml := [none, none]) g__law_choose (hr.mono (by first | decide | omega)) rfl (by rfl) rfl (al (pe_ofP (pp_name (pv 2))) (al (pe_ofV (pv_op o_sub (pp_see (pp_name (pv 3))) (pv_see (pv_C pe_int rfl)))) al0)))) rfl rfl) pa_m0)))) : PSs (cxOf CX0 P w K mg base ["_law_number", "_law_size", "_law_upper", "_law_lower"] "_law_shadow" (defScope s__law_shadow) f cdv A outer s H E).nox (defBody s__law_shadow) (tS (cnOf G 4 [false, false] vs) d__law_shadow))

theorem ok_law (T : Tx K mg G) (g__law_taken : GF P w K mg base G "_law_taken" 1 ["_law_row", "_law_many"] [true, false] F__law_taken) (g__law_pick : GF P w K mg base G "_law_pick" 2 ["_law_row", "_law_things"] [true, false] F__law_pick) (g_cascade : GF P w K mg base G "cascade" 4 ["number", "size"] [false, false] F_cascade) (g__law_alike : GF P w K mg base G "_law_alike" 5 ["_law_found", "_law_due"] [false, false] (F__law_alike 4)) (g__law_cascade : GF P w K mg base G "_law_cascade" 2 ["_law_number", "_law_size"] [false, false] F__law_cascade) (g__law_choose : GF P w K mg base G "_law_choose" 1 ["_law_upper", "_law_lower"] [false, false] F__law_choose) (g__law_shadow : GF P w K mg base G "_law_shadow" 3 ["_law_number", "_law_size"] [false, false] F__law_shadow) (g_least_shadow : GF P w K mg base G "least_shadow" 4 ["number", "size"] [false, false] F_least_shadow) (g__law_simplices : GF P w K mg base G "_law_simplices" 3 ["_law_row", "_law_most", "_law_size"] [true, false, false] F__law_simplices) (g__law_at : GF P w K mg base G "_law_at" 1 ["_law_faces_here", "_law_degree"] [false, false] F__law_at) (g__law_faces : GF P w K mg base G "_law_faces" 1 ["_law_simplices_here"] [false] F__law_faces) {f : Addr} {fd : FuncData} (F : Fun K "law" "law" s_law f fd) : FnOk P w K mg base CX0 6 f fd ["_law_script"] (spF G [false] 1 F_law) :=
  fn_ok (k := 5) (n := 14) (lm := [false]) (fb := d_law) F S_law rfl (by decide) (by decide) (fun _ _ h => h) fun cdv A outer s H vs E hr =>
    ((pss (ps_nm (i := 1) S_law.nd rfl (by first | exact Or.inl rfl | exact Or.inr rfl) (pm_lst (pa_m (pe_ofP (pp_name (pv 0))) (pa_m (pe_ofV (pv_C pe_int rfl)) (pa_m (pe_ofV (pv_C pe_int rfl)) (pa_m (pe_ofV (pv_C pe_int rfl)) pa_m0))))) rfl rfl)
    (pss (ps_fr (tgs := [2]) PassesOwn.never rfl (pi_r1 (by rfl) T.b_range (pv_see (pv_C pe_int rfl))) (pg_nm (pg_name (i := 2) S_law.nd rfl (by first | exact Or.inl rfl | exact Or.inr rfl)) rfl rfl) (pss (ps_parS (i := 8) (j := 9) rfl S_law.nd rfl rfl (by decide) (by rfl) (by rfl) (pa_m (pm_fnG (ml := [some 1, none]) g__law_taken (hr.mono (by first | decide | omega)) rfl (by rfl) rfl (almv (pv 1) (al (pm_fnG (ml := [some 1, none]) g__law_pick (hr.mono (by first | decide | omega)) rfl (by rfl) rfl (almv (pv 1) (al (pm_lst (pa_m (pe_ofV (pv_C pe_int rfl)) (pa_m (pe_ofV (pv_C pe_int rfl)) (pa_m (pe_ofV (pv_C pe_int rfl)) pa_m0)))) al0))) al0))) (pa_m (pm_op (o_add T.hK) (pe_ofV (pv_C pe_int rfl)) (pm_fnG (ml := [some 1, none]) g__law_taken (hr.mono (by first | decide | omega)) rfl (by rfl) rfl (almv (pv 1) (al (pe_ofV (pv_C pe_int rfl)) al0)))) pa_m0)) (by rfl) rfl)
    (pss (ps_nm (i := 10) S_law.nd rfl (by first | exact Or.inl rfl | exact Or.inr rfl) (pm_fnG (ml := [none, none]) g_cascade (hr.mono (by first | decide | omega)) rfl (by rfl) rfl (al (pe_ofP (pp_name (pv 8))) (al (pe_ofP (pp_name (pv 9))) al0))) rfl rfl)
    (pss (ps_ifS (pt_notM (pt_truM (pm_fnG (ml := [none, none]) g__law_alike (hr.mono (by first | decide | omega)) rfl (by rfl) rfl (al (pe_ofP (pp_name (pv 10))) (al (pm_callTy c_tuple (by rfl) T.b_tuple PyProof.Rows.boot_tuple (pa_m (pm_fnG (ml := [none, none]) g__law_cascade (hr.mono (by first | decide | omega)) rfl (by rfl) rfl (al (pe_ofP (pp_name (pv 8))) (al (pe_ofP (pp_name (pv 9))) al0))) pa_m0)) al0))))) (pss1 (ps_rt (pe_ofV (pv_C pe_bl rfl)))) pss0)
    (pss (ps_ifS (pt_cmpM (o_ne T.hK hr.units) (pm_callB (c_sum rfl) (by rfl) T.b_sum PyProof.Rows.boot_sum (pa_m (pm_lc (own := [("_law_upper", 12), ("_law_lower", 13)]) (tgs := [12, 13]) rfl S_law.nd (pi_m T.hK (pe_ofP (pp_name (pv 10)))) (blkOk_by (own := [("_law_upper", 12), ("_law_lower", 13)]) (by first | (change blkC (["_law_script", "_law_row", "_law_turn", "_law_length", "_law_some", "_law_shadow_here", "_law_face", "_law_top", "_law_number", "_law_size", "_law_found", "_law_at_here", "_law_upper", "_law_lower"] : List Str) (defScope s_law) _ _ = true; decide +kernel) | with_unfolding_all rfl)) (fun _ _ _ _ _ => (pg_tp (is := [12, 13]) (pg_tup rfl (pgs_cons (pg_name (i := 12) S_law.nd rfl (by first | exact Or.inl rfl | exact Or.inr rfl)) (pgs_cons (pg_name (i := 13) S_law.nd rfl (by first | exact Or.inl rfl | exact Or.inr rfl)) pgs_nil))) rfl)) (fun _ _ _ _ _ => (tYes_T pts_nil)) (fun _ _ _ _ _ => (pm_fnG (ml := [none, none]) g__law_choose (hr.mono (by first | decide | omega)) rfl (by rfl) rfl (al (pe_ofP (pp_name (pv 12))) (al (pe_ofP (pp_name (pv 13))) al0)))) rfl rfl) pa_m0)) (pe_ofP (pp_name (pv 8))) (by first | exact nomark _ | rfl)) (pss1 (ps_rt (pe_ofV (pv_C pe_bl rfl)))) pss0)
    (pss1 (ps_ifS (pt_notM (pt_truM (pm_fnG (ml := [none, none]) g__law_alike (hr.mono (by first | decide | omega)) rfl (by rfl) rfl (al (pm_fnG (ml := [none, none]) g_least_shadow (hr.mono (by first | decide | omega)) rfl (by rfl) rfl (al (pe_ofP (pp_name (pv 8))) (al (pe_ofP (pp_name (pv 9))) al0))) (al (pm_fnG (ml := [none, none]) g__law_shadow (hr.mono (by first | decide | omega)) rfl (by rfl) rfl (al (pe_ofP (pp_name (pv 8))) (al (pe_ofP (pp_name (pv 9))) al0))) al0))))) (pss1 (ps_rt (pe_ofV (pv_C pe_bl rfl)))) pss0)))))))
    (pss (ps_nm (i := 3) S_law.nd rfl (by first | exact Or.inl rfl | exact Or.inr rfl) (pm_op (o_add T.hK) (pe_ofV (pv_C pe_int rfl)) (pm_fnG (ml := [some 1, none]) g__law_taken (hr.mono (by first | decide | omega)) rfl (by rfl) rfl (almv (pv 1) (al (pe_ofV (pv_C pe_int rfl)) al0)))) rfl rfl)
    (pss (ps_nm (i := 4) S_law.nd rfl (by first | exact Or.inl rfl | exact Or.inr rfl) (pm_sortST T.hK rfl hr.units (by rfl) T.b_sorted (by rfl) T.b_set (pm_lc (own := [("_law_face", 6)]) (tgs := [6]) rfl S_law.nd (pi_m T.hK (pm_fnG (ml := [some 1, none, none]) g__law_simplices (hr.mono (by first | decide | omega)) rfl (by rfl) rfl (almv (pv 1) (al (pe_ofV (pv_C pe_int rfl)) (al (pe_ofV (pv_C pe_int rfl)) al0))))) (blkOk_by (own := [("_law_face", 6)]) (by first | (change blkC (["_law_script", "_law_row", "_law_turn", "_law_length", "_law_some", "_law_shadow_here", "_law_face", "_law_top", "_law_number", "_law_size", "_law_found", "_law_at_here", "_law_upper", "_law_lower"] : List Str) (defScope s_law) _ _ = true; decide +kernel) | with_unfolding_all rfl)) (fun _ _ _ _ _ => (pg_nm (pg_name (i := 6) S_law.nd rfl (by first | exact Or.inl rfl | exact Or.inr rfl)) rfl rfl)) (fun _ _ _ _ _ => (pts_one (pt_cmpV (o_eq T.hK hr.units) (pv_see (pv_callB (c_len T.hK) (by rfl) T.b_len PySem.boot_len (pa_see (pp_see (pp_name (pv 6))) pa_see0))) (pp_see (pp_name (pv 3))) (by first | exact nomark _ | rfl)))) (fun _ _ _ _ _ => (pe_ofP (pp_name (pv 6)))) rfl rfl)) rfl rfl)
    (pss (ps_nm (i := 4) S_law.nd rfl (by first | exact Or.inl rfl | exact Or.inr rfl) (pm_sortST T.hK rfl hr.units (by rfl) T.b_sorted (by rfl) T.b_set (pm_op (o_add T.hK) (pe_ofP (pp_name (pv 4))) (pm_lc (own := [("_law_turn", 2)]) (tgs := [2]) rfl S_law.nd (pi_r1M (by rfl) T.b_range (pm_fnG (ml := [some 1, none]) g__law_taken (hr.mono (by first | decide | omega)) rfl (by rfl) rfl (almv (pv 1) (al (pe_ofV (pv_C pe_int rfl)) al0)))) (blkOk_by (own := [("_law_turn", 2)]) (by first | (change blkC (["_law_script", "_law_row", "_law_turn", "_law_length", "_law_some", "_law_shadow_here", "_law_face", "_law_top", "_law_number", "_law_size", "_law_found", "_law_at_here", "_law_upper", "_law_lower"] : List Str) (defScope s_law) _ _ = true; decide +kernel) | with_unfolding_all rfl)) (fun _ _ _ _ _ => (pg_nm (pg_name (i := 2) S_law.nd rfl (by first | exact Or.inl rfl | exact Or.inr rfl)) rfl rfl)) (fun _ _ _ _ _ => (tYes_T pts_nil)) (fun _ _ _ _ _ => (pm_fnG (ml := [some 1, none]) g__law_pick (hr.mono (by first | decide | omega)) rfl (by rfl) rfl (almv (pv 1) (al (pm_fnG (ml := [none, none]) g__law_at (hr.mono (by first | decide | omega)) rfl (by rfl) rfl (al (pm_fnG (ml := [none]) g__law_faces (hr.mono (by first | decide | omega)) rfl (by rfl) rfl (al (pm_tup (pa_m (pm_trg rfl (by rfl) T.b_tuple (by rfl) T.b_range (pe_ofV (pv_C pe_int rfl))) pa_m0)) al0)) (al (pe_ofV (pv_op o_sub (pp_see (pp_name (pv 3))) (pv_see (pv_C pe_int rfl)))) al0))) al0)))) rfl rfl))) rfl rfl)
    (pss (ps_nm (i := 5) S_law.nd rfl (by first | exact Or.inl rfl | exact Or.inr rfl) pm_newT rfl rfl)
    (pss (ps_fr (tgs := [6]) PassesOwn.never rfl (pi_m T.hK (pe_ofP (pp_name (pv 4)))) (pg_nm (pg_name (i := 6) S_law.nd rfl (by first | exact Or.inl rfl | exact Or.inr rfl)) rfl rfl) (pss1 (ps_fr (tgs := [11]) PassesOwn.never rfl (pi_r1 (by rfl) T.b_range (pp_see (pp_name (pv 3)))) (pg_nm (pg_name (i := 11) S_law.nd rfl (by first | exact Or.inl rfl | exact Or.inr rfl)) rfl rfl) (pss1 (ps_sb hr.units (pv 5) (pv_see (pv_op (o_add T.hK) (pv_see (pv_slice (pp_see (pp_name (pv 6))) po_no (po_see (pp_see (pp_name (pv 11)))))) (pv_see (pv_slice (pp_see (pp_name (pv 6))) (po_see (pv_see (pv_op (o_add T.hK) (pp_see (pp_name (pv 11))) (pv_see (pv_C pe_int rfl))))) po_no)))) (pe_ofV (pv_C pe_bl rfl)))))))
    (pss (ps_ifS (pt_cmpM (o_lt T.hK hr.units) (pe_ofV (pv_callB (c_len T.hK) (by rfl) T.b_len PySem.boot_len (pa_see (pp_see (pp_name (pv 5))) pa_see0))) (pm_fnG (ml := [none, none]) g_least_shadow (hr.mono (by first | decide | omega)) rfl (by rfl) rfl (al (pe_ofV (pv_callB (c_len T.hK) (by rfl) T.b_len PySem.boot_len (pa_see (pp_see (pp_name (pv 4))) pa_see0))) (al (pe_ofP (pp_name (pv 3))) al0))) (by first | exact nomark _ | rfl)) (pss1 (ps_rt (pe_ofV (pv_C pe_bl rfl)))) pss0)
    (pss (ps_nm (i := 7) S_law.nd rfl (by first | exact Or.inl rfl | exact Or.inr rfl) (pm_op (o_add T.hK) (pe_ofP (pp_name (pv 3))) (pm_fnG (ml := [some 1, none]) g__law_taken (hr.mono (by first | decide | omega)) rfl (by rfl) rfl (almv (pv 1) (al (pe_ofV (pv_C pe_int rfl)) al0)))) rfl rfl)
    (pss1 (ps_rt (pm_cmp (o_eq T.hK hr.units) (pm_fnG (ml := [none, none]) g_least_shadow (hr.mono (by first | decide | omega)) rfl (by rfl) rfl (al (pm_fnG (ml := [none, none]) g__law_choose (hr.mono (by first | decide | omega)) rfl (by rfl) rfl (al (pe_ofP (pp_name (pv 7))) (al (pe_ofP (pp_name (pv 3))) al0))) (al (pe_ofP (pp_name (pv 3))) al0))) (pm_fnG (ml := [none, none]) g__law_choose (hr.mono (by first | decide | omega)) rfl (by rfl) rfl (al (pe_ofP (pp_name (pv 7))) (al (pe_ofV (pv_op o_sub (pp_see (pp_name (pv 3))) (pv_see (pv_C pe_int rfl)))) al0))) (by first | exact nomark _ | rfl))))))))))))) : PSs (cxOf CX0 P w K mg base ["_law_script", "_law_row", "_law_turn", "_law_length", "_law_some", "_law_shadow_here", "_law_face", "_law_top", "_law_number", "_law_size", "_law_found", "_law_at_here", "_law_upper", "_law_lower"] "law" (defScope s_law) f cdv A outer s H E).nox (defBody s_law) (tS (cnOf G 14 [false] vs) d_law))

end

/-! ### what the top has written -/
theorem all_mk {l : PySem.W.OpenLaw} {w : World} {K : PySem.W.Frag} {h : Heap} {mg : Str → Option Value} {fa : Addr} (X : K.In h) (G0 : h.Ns mainGlobals mg) (hfa : mg "law" = some (.ref fa))
    {f_is_integer f_is_in f_choose f_need_number f_cascade_in f_cascade f_least_shadow f__law_taken f__law_pick f__law_alike f__law_simplex f__law_simplices f__law_faces f__law_at f__law_choose f__law_cascade f__law_shadow f_law : Addr}
    {t_MOST_LENGTH t_MOST_NUMBER : Tok}
    {oc_is_integer kV_is_integer dc_is_integer pm_is_integer cd_is_integer ct_is_integer : Value} {od_is_integer an_is_integer : Option Addr} {sl_is_integer : Array (Option Value)}
    {oc_is_in kV_is_in dc_is_in pm_is_in cd_is_in ct_is_in : Value} {od_is_in an_is_in : Option Addr} {sl_is_in : Array (Option Value)}
    {oc_choose kV_choose dc_choose pm_choose cd_choose ct_choose : Value} {od_choose an_choose : Option Addr} {sl_choose : Array (Option Value)}
    {oc_need_number kV_need_number dc_need_number pm_need_number cd_need_number ct_need_number : Value} {od_need_number an_need_number : Option Addr} {sl_need_number : Array (Option Value)}
    {oc_cascade_in kV_cascade_in dc_cascade_in pm_cascade_in cd_cascade_in ct_cascade_in : Value} {od_cascade_in an_cascade_in : Option Addr} {sl_cascade_in : Array (Option Value)}
    {oc_cascade kV_cascade dc_cascade pm_cascade cd_cascade ct_cascade : Value} {od_cascade an_cascade : Option Addr} {sl_cascade : Array (Option Value)}
    {oc_least_shadow kV_least_shadow dc_least_shadow pm_least_shadow cd_least_shadow ct_least_shadow : Value} {od_least_shadow an_least_shadow : Option Addr} {sl_least_shadow : Array (Option Value)}
    {oc__law_taken kV__law_taken dc__law_taken pm__law_taken cd__law_taken ct__law_taken : Value} {od__law_taken an__law_taken : Option Addr} {sl__law_taken : Array (Option Value)}
    {oc__law_pick kV__law_pick dc__law_pick pm__law_pick cd__law_pick ct__law_pick : Value} {od__law_pick an__law_pick : Option Addr} {sl__law_pick : Array (Option Value)}
    {oc__law_alike kV__law_alike dc__law_alike pm__law_alike cd__law_alike ct__law_alike : Value} {od__law_alike an__law_alike : Option Addr} {sl__law_alike : Array (Option Value)}
    {oc__law_simplex kV__law_simplex dc__law_simplex pm__law_simplex cd__law_simplex ct__law_simplex : Value} {od__law_simplex an__law_simplex : Option Addr} {sl__law_simplex : Array (Option Value)}
    {oc__law_simplices kV__law_simplices dc__law_simplices pm__law_simplices cd__law_simplices ct__law_simplices : Value} {od__law_simplices an__law_simplices : Option Addr} {sl__law_simplices : Array (Option Value)}
    {oc__law_faces kV__law_faces dc__law_faces pm__law_faces cd__law_faces ct__law_faces : Value} {od__law_faces an__law_faces : Option Addr} {sl__law_faces : Array (Option Value)}
    {oc__law_at kV__law_at dc__law_at pm__law_at cd__law_at ct__law_at : Value} {od__law_at an__law_at : Option Addr} {sl__law_at : Array (Option Value)}
    {oc__law_choose kV__law_choose dc__law_choose pm__law_choose cd__law_choose ct__law_choose : Value} {od__law_choose an__law_choose : Option Addr} {sl__law_choose : Array (Option Value)}
    {oc__law_cascade kV__law_cascade dc__law_cascade pm__law_cascade cd__law_cascade ct__law_cascade : Value} {od__law_cascade an__law_cascade : Option Addr} {sl__law_cascade : Array (Option Value)}
    {oc__law_shadow kV__law_shadow dc__law_shadow pm__law_shadow cd__law_shadow ct__law_shadow : Value} {od__law_shadow an__law_shadow : Option Addr} {sl__law_shadow : Array (Option Value)}
    {oc_law kV_law dc_law pm_law cd_law ct_law : Value} {od_law an_law : Option Addr} {sl_law : Array (Option Value)}
    (a_is_integer : PySem.W.nsIn K mainGlobals "is_integer" = some (some (.ref f_is_integer)))
    (l_is_integer : K.lookup f_is_integer = some ⟨oc_is_integer, od_is_integer, .func (PySem.W.fnOf "is_integer" "is_integer" (defArgs s_is_integer) (defBody s_is_integer) (defScope s_is_integer) .none kV_is_integer dc_is_integer pm_is_integer an_is_integer cd_is_integer ct_is_integer), sl_is_integer⟩)
    (c_is_integer : PySem.W.codeIn K cd_is_integer "is_integer" = true)
    (k_is_integer : PySem.W.keepIn K (.ref f_is_integer) = true)
    (a_is_in : PySem.W.nsIn K mainGlobals "is_in" = some (some (.ref f_is_in)))
    (l_is_in : K.lookup f_is_in = some ⟨oc_is_in, od_is_in, .func (PySem.W.fnOf "is_in" "is_in" (defArgs s_is_in) (defBody s_is_in) (defScope s_is_in) .none kV_is_in dc_is_in pm_is_in an_is_in cd_is_in ct_is_in), sl_is_in⟩)
    (c_is_in : PySem.W.codeIn K cd_is_in "is_in" = true)
    (k_is_in : PySem.W.keepIn K (.ref f_is_in) = true)
    (a_choose : PySem.W.nsIn K mainGlobals "choose" = some (some (.ref f_choose)))
    (l_choose : K.lookup f_choose = some ⟨oc_choose, od_choose, .func (PySem.W.fnOf "choose" "choose" (defArgs s_choose) (defBody s_choose) (defScope s_choose) .none kV_choose dc_choose pm_choose an_choose cd_choose ct_choose), sl_choose⟩)
    (c_choose : PySem.W.codeIn K cd_choose "choose" = true)
    (k_choose : PySem.W.keepIn K (.ref f_choose) = true)
    (a_need_number : PySem.W.nsIn K mainGlobals "need_number" = some (some (.ref f_need_number)))
    (l_need_number : K.lookup f_need_number = some ⟨oc_need_number, od_need_number, .func (PySem.W.fnOf "need_number" "need_number" (defArgs s_need_number) (defBody s_need_number) (defScope s_need_number) .none kV_need_number dc_need_number pm_need_number an_need_number cd_need_number ct_need_number), sl_need_number⟩)
    (c_need_number : PySem.W.codeIn K cd_need_number "need_number" = true)
    (k_need_number : PySem.W.keepIn K (.ref f_need_number) = true)
    (a_cascade_in : PySem.W.nsIn K mainGlobals "cascade_in" = some (some (.ref f_cascade_in)))
    (l_cascade_in : K.lookup f_cascade_in = some ⟨oc_cascade_in, od_cascade_in, .func (PySem.W.fnOf "cascade_in" "cascade_in" (defArgs s_cascade_in) (defBody s_cascade_in) (defScope s_cascade_in) .none kV_cascade_in dc_cascade_in pm_cascade_in an_cascade_in cd_cascade_in ct_cascade_in), sl_cascade_in⟩)
    (c_cascade_in : PySem.W.codeIn K cd_cascade_in "cascade_in" = true)
    (k_cascade_in : PySem.W.keepIn K (.ref f_cascade_in) = true)
    (a_cascade : PySem.W.nsIn K mainGlobals "cascade" = some (some (.ref f_cascade)))
    (l_cascade : K.lookup f_cascade = some ⟨oc_cascade, od_cascade, .func (PySem.W.fnOf "cascade" "cascade" (defArgs s_cascade) (defBody s_cascade) (defScope s_cascade) .none kV_cascade dc_cascade pm_cascade an_cascade cd_cascade ct_cascade), sl_cascade⟩)
    (c_cascade : PySem.W.codeIn K cd_cascade "cascade" = true)
    (k_cascade : PySem.W.keepIn K (.ref f_cascade) = true)
    (a_least_shadow : PySem.W.nsIn K mainGlobals "least_shadow" = some (some (.ref f_least_shadow)))
    (l_least_shadow : K.lookup f_least_shadow = some ⟨oc_least_shadow, od_least_shadow, .func (PySem.W.fnOf "least_shadow" "least_shadow" (defArgs s_least_shadow) (defBody s_least_shadow) (defScope s_least_shadow) .none kV_least_shadow dc_least_shadow pm_least_shadow an_least_shadow cd_least_shadow ct_least_shadow), sl_least_shadow⟩)
    (c_least_shadow : PySem.W.codeIn K cd_least_shadow "least_shadow" = true)
    (k_least_shadow : PySem.W.keepIn K (.ref f_least_shadow) = true)
    (a__law_taken : PySem.W.nsIn K mainGlobals "_law_taken" = some (some (.ref f__law_taken)))
    (l__law_taken : K.lookup f__law_taken = some ⟨oc__law_taken, od__law_taken, .func (PySem.W.fnOf "_law_taken" "_law_taken" (defArgs s__law_taken) (defBody s__law_taken) (defScope s__law_taken) .none kV__law_taken dc__law_taken pm__law_taken an__law_taken cd__law_taken ct__law_taken), sl__law_taken⟩)
    (c__law_taken : PySem.W.codeIn K cd__law_taken "_law_taken" = true)
    (k__law_taken : PySem.W.keepIn K (.ref f__law_taken) = true)
    (a__law_pick : PySem.W.nsIn K mainGlobals "_law_pick" = some (some (.ref f__law_pick)))
    (l__law_pick : K.lookup f__law_pick = some ⟨oc__law_pick, od__law_pick, .func (PySem.W.fnOf "_law_pick" "_law_pick" (defArgs s__law_pick) (defBody s__law_pick) (defScope s__law_pick) .none kV__law_pick dc__law_pick pm__law_pick an__law_pick cd__law_pick ct__law_pick), sl__law_pick⟩)
    (c__law_pick : PySem.W.codeIn K cd__law_pick "_law_pick" = true)
    (k__law_pick : PySem.W.keepIn K (.ref f__law_pick) = true)
    (a__law_alike : PySem.W.nsIn K mainGlobals "_law_alike" = some (some (.ref f__law_alike)))
    (l__law_alike : K.lookup f__law_alike = some ⟨oc__law_alike, od__law_alike, .func (PySem.W.fnOf "_law_alike" "_law_alike" (defArgs s__law_alike) (defBody s__law_alike) (defScope s__law_alike) .none kV__law_alike dc__law_alike pm__law_alike an__law_alike cd__law_alike ct__law_alike), sl__law_alike⟩)
    (c__law_alike : PySem.W.codeIn K cd__law_alike "_law_alike" = true)
    (k__law_alike : PySem.W.keepIn K (.ref f__law_alike) = true)
    (a__law_simplex : PySem.W.nsIn K mainGlobals "_law_simplex" = some (some (.ref f__law_simplex)))
    (l__law_simplex : K.lookup f__law_simplex = some ⟨oc__law_simplex, od__law_simplex, .func (PySem.W.fnOf "_law_simplex" "_law_simplex" (defArgs s__law_simplex) (defBody s__law_simplex) (defScope s__law_simplex) .none kV__law_simplex dc__law_simplex pm__law_simplex an__law_simplex cd__law_simplex ct__law_simplex), sl__law_simplex⟩)
    (c__law_simplex : PySem.W.codeIn K cd__law_simplex "_law_simplex" = true)
    (k__law_simplex : PySem.W.keepIn K (.ref f__law_simplex) = true)
    (a__law_simplices : PySem.W.nsIn K mainGlobals "_law_simplices" = some (some (.ref f__law_simplices)))
    (l__law_simplices : K.lookup f__law_simplices = some ⟨oc__law_simplices, od__law_simplices, .func (PySem.W.fnOf "_law_simplices" "_law_simplices" (defArgs s__law_simplices) (defBody s__law_simplices) (defScope s__law_simplices) .none kV__law_simplices dc__law_simplices pm__law_simplices an__law_simplices cd__law_simplices ct__law_simplices), sl__law_simplices⟩)
    (c__law_simplices : PySem.W.codeIn K cd__law_simplices "_law_simplices" = true)
    (k__law_simplices : PySem.W.keepIn K (.ref f__law_simplices) = true)
    (a__law_faces : PySem.W.nsIn K mainGlobals "_law_faces" = some (some (.ref f__law_faces)))
    (l__law_faces : K.lookup f__law_faces = some ⟨oc__law_faces, od__law_faces, .func (PySem.W.fnOf "_law_faces" "_law_faces" (defArgs s__law_faces) (defBody s__law_faces) (defScope s__law_faces) .none kV__law_faces dc__law_faces pm__law_faces an__law_faces cd__law_faces ct__law_faces), sl__law_faces⟩)
    (c__law_faces : PySem.W.codeIn K cd__law_faces "_law_faces" = true)
    (k__law_faces : PySem.W.keepIn K (.ref f__law_faces) = true)
    (a__law_at : PySem.W.nsIn K mainGlobals "_law_at" = some (some (.ref f__law_at)))
    (l__law_at : K.lookup f__law_at = some ⟨oc__law_at, od__law_at, .func (PySem.W.fnOf "_law_at" "_law_at" (defArgs s__law_at) (defBody s__law_at) (defScope s__law_at) .none kV__law_at dc__law_at pm__law_at an__law_at cd__law_at ct__law_at), sl__law_at⟩)
    (c__law_at : PySem.W.codeIn K cd__law_at "_law_at" = true)
    (k__law_at : PySem.W.keepIn K (.ref f__law_at) = true)
    (a__law_choose : PySem.W.nsIn K mainGlobals "_law_choose" = some (some (.ref f__law_choose)))
    (l__law_choose : K.lookup f__law_choose = some ⟨oc__law_choose, od__law_choose, .func (PySem.W.fnOf "_law_choose" "_law_choose" (defArgs s__law_choose) (defBody s__law_choose) (defScope s__law_choose) .none kV__law_choose dc__law_choose pm__law_choose an__law_choose cd__law_choose ct__law_choose), sl__law_choose⟩)
    (c__law_choose : PySem.W.codeIn K cd__law_choose "_law_choose" = true)
    (k__law_choose : PySem.W.keepIn K (.ref f__law_choose) = true)
    (a__law_cascade : PySem.W.nsIn K mainGlobals "_law_cascade" = some (some (.ref f__law_cascade)))
    (l__law_cascade : K.lookup f__law_cascade = some ⟨oc__law_cascade, od__law_cascade, .func (PySem.W.fnOf "_law_cascade" "_law_cascade" (defArgs s__law_cascade) (defBody s__law_cascade) (defScope s__law_cascade) .none kV__law_cascade dc__law_cascade pm__law_cascade an__law_cascade cd__law_cascade ct__law_cascade), sl__law_cascade⟩)
    (c__law_cascade : PySem.W.codeIn K cd__law_cascade "_law_cascade" = true)
    (k__law_cascade : PySem.W.keepIn K (.ref f__law_cascade) = true)
    (a__law_shadow : PySem.W.nsIn K mainGlobals "_law_shadow" = some (some (.ref f__law_shadow)))
    (l__law_shadow : K.lookup f__law_shadow = some ⟨oc__law_shadow, od__law_shadow, .func (PySem.W.fnOf "_law_shadow" "_law_shadow" (defArgs s__law_shadow) (defBody s__law_shadow) (defScope s__law_shadow) .none kV__law_shadow dc__law_shadow pm__law_shadow an__law_shadow cd__law_shadow ct__law_shadow), sl__law_shadow⟩)
    (c__law_shadow : PySem.W.codeIn K cd__law_shadow "_law_shadow" = true)
    (k__law_shadow : PySem.W.keepIn K (.ref f__law_shadow) = true)
    (a_law : PySem.W.nsIn K mainGlobals "law" = some (some (.ref f_law)))
    (l_law : K.lookup f_law = some ⟨oc_law, od_law, .func (PySem.W.fnOf "law" "law" (defArgs s_law) (defBody s_law) (defScope s_law) .none kV_law dc_law pm_law an_law cd_law ct_law), sl_law⟩)
    (c_law : PySem.W.codeIn K cd_law "law" = true)
    (k_law : PySem.W.keepIn K (.ref f_law) = true)
    (z_MOST_LENGTH : PySem.W.nsIn K mainGlobals "MOST_LENGTH" = some (some (.int 8 t_MOST_LENGTH)))
    (z_MOST_NUMBER : PySem.W.nsIn K mainGlobals "MOST_NUMBER" = some (some (.int 10000 t_MOST_NUMBER)))
    (z_bool : PySem.W.nsIn K mainGlobals "bool" = some none)
    (z_int : PySem.W.nsIn K mainGlobals "int" = some none)
    (z_isinstance : PySem.W.nsIn K mainGlobals "isinstance" = some none)
    (z_len : PySem.W.nsIn K mainGlobals "len" = some none)
    (z_list : PySem.W.nsIn K mainGlobals "list" = some none)
    (z_min : PySem.W.nsIn K mainGlobals "min" = some none)
    (z_range : PySem.W.nsIn K mainGlobals "range" = some none)
    (z_set : PySem.W.nsIn K mainGlobals "set" = some none)
    (z_sorted : PySem.W.nsIn K mainGlobals "sorted" = some none)
    (z_str : PySem.W.nsIn K mainGlobals "str" = some none)
    (z_sum : PySem.W.nsIn K mainGlobals "sum" = some none)
    (z_tuple : PySem.W.nsIn K mainGlobals "tuple" = some none)
    : ∃ (G : Gt) (fd : FuncData), G.K = K ∧ (∀ (s : Shared) (v : Value), BindsTo s fd ⟨[v], []⟩ [("_law_script", v)]) ∧ ∀ base : Heap, K.In base → base.Ns mainGlobals mg → FnOk l.prog w K mg base CX0 6 fa fd ["_law_script"] (spF G [false] 1 F_law) := by
  have e := hfa.symm.trans (PySem.W.mg_of X G0 a_law)
  cases e
  let G : Gt := ⟨K, fun _ => 0, fun _ => []⟩
  have T : Tx K mg G := {
    hK := rfl
    isa := {
      cl := fun c hc => absurd hc List.not_mem_nil
      no := fun c hc b hb => absurd hc List.not_mem_nil
      on := fun c hc a ha => absurd hc List.not_mem_nil
      oo := fun c hc d hd => absurd hc List.not_mem_nil
    }
    g_MOST_LENGTH := ⟨t_MOST_LENGTH, PySem.W.mg_of X G0 z_MOST_LENGTH⟩
    g_MOST_NUMBER := ⟨t_MOST_NUMBER, PySem.W.mg_of X G0 z_MOST_NUMBER⟩
    b_bool := PySem.W.mg_none_of X G0 z_bool
    b_int := PySem.W.mg_none_of X G0 z_int
    b_isinstance := PySem.W.mg_none_of X G0 z_isinstance
    b_len := PySem.W.mg_none_of X G0 z_len
    b_list := PySem.W.mg_none_of X G0 z_list
    b_min := PySem.W.mg_none_of X G0 z_min
    b_range := PySem.W.mg_none_of X G0 z_range
    b_set := PySem.W.mg_none_of X G0 z_set
    b_sorted := PySem.W.mg_none_of X G0 z_sorted
    b_str := PySem.W.mg_none_of X G0 z_str
    b_sum := PySem.W.mg_none_of X G0 z_sum
    b_tuple := PySem.W.mg_none_of X G0 z_tuple
  }
  have F_is_integer := fun_mk (st := s_is_integer) l_is_integer c_is_integer k_is_integer
  have b_is_integer := F_is_integer.binds (ps := ["value"]) fun _ _ _ _ _ _ us hl => match us, hl with | [_], _ => rfl
  have F_is_in := fun_mk (st := s_is_in) l_is_in c_is_in k_is_in
  have b_is_in := F_is_in.binds (ps := ["value", "least", "most"]) fun _ _ _ _ _ _ us hl => match us, hl with | [_, _, _], _ => rfl
  have F_choose := fun_mk (st := s_choose) l_choose c_choose k_choose
  have b_choose := F_choose.binds (ps := ["upper", "lower"]) fun _ _ _ _ _ _ us hl => match us, hl with | [_, _], _ => rfl
  have F_need_number := fun_mk (st := s_need_number) l_need_number c_need_number k_need_number
  have b_need_number := F_need_number.binds (ps := ["value", "least"]) fun _ _ _ _ _ _ us hl => match us, hl with | [_, _], _ => rfl
  have F_cascade_in := fun_mk (st := s_cascade_in) l_cascade_in c_cascade_in k_cascade_in
  have b_cascade_in := F_cascade_in.binds (ps := ["number", "size"]) fun _ _ _ _ _ _ us hl => match us, hl with | [_, _], _ => rfl
  have F_cascade := fun_mk (st := s_cascade) l_cascade c_cascade k_cascade
  have b_cascade := F_cascade.binds (ps := ["number", "size"]) fun _ _ _ _ _ _ us hl => match us, hl with | [_, _], _ => rfl
  have F_least_shadow := fun_mk (st := s_least_shadow) l_least_shadow c_least_shadow k_least_shadow
  have b_least_shadow := F_least_shadow.binds (ps := ["number", "size"]) fun _ _ _ _ _ _ us hl => match us, hl with | [_, _], _ => rfl
  have F__law_taken := fun_mk (st := s__law_taken) l__law_taken c__law_taken k__law_taken
  have b__law_taken := F__law_taken.binds (ps := ["_law_row", "_law_many"]) fun _ _ _ _ _ _ us hl => match us, hl with | [_, _], _ => rfl
  have F__law_pick := fun_mk (st := s__law_pick) l__law_pick c__law_pick k__law_pick
  have b__law_pick := F__law_pick.binds (ps := ["_law_row", "_law_things"]) fun _ _ _ _ _ _ us hl => match us, hl with | [_, _], _ => rfl
  have F__law_alike := fun_mk (st := s__law_alike) l__law_alike c__law_alike k__law_alike
  have b__law_alike := F__law_alike.binds (ps := ["_law_found", "_law_due"]) fun _ _ _ _ _ _ us hl => match us, hl with | [_, _], _ => rfl
  have F__law_simplex := fun_mk (st := s__law_simplex) l__law_simplex c__law_simplex k__law_simplex
  have b__law_simplex := F__law_simplex.binds (ps := ["_law_row", "_law_most", "_law_size"]) fun _ _ _ _ _ _ us hl => match us, hl with | [_, _, _], _ => rfl
  have F__law_simplices := fun_mk (st := s__law_simplices) l__law_simplices c__law_simplices k__law_simplices
  have b__law_simplices := F__law_simplices.binds (ps := ["_law_row", "_law_most", "_law_size"]) fun _ _ _ _ _ _ us hl => match us, hl with | [_, _, _], _ => rfl
  have F__law_faces := fun_mk (st := s__law_faces) l__law_faces c__law_faces k__law_faces
  have b__law_faces := F__law_faces.binds (ps := ["_law_simplices_here"]) fun _ _ _ _ _ _ us hl => match us, hl with | [_], _ => rfl
  have F__law_at := fun_mk (st := s__law_at) l__law_at c__law_at k__law_at
  have b__law_at := F__law_at.binds (ps := ["_law_faces_here", "_law_degree"]) fun _ _ _ _ _ _ us hl => match us, hl with | [_, _], _ => rfl
  have F__law_choose := fun_mk (st := s__law_choose) l__law_choose c__law_choose k__law_choose
  have b__law_choose := F__law_choose.binds (ps := ["_law_upper", "_law_lower"]) fun _ _ _ _ _ _ us hl => match us, hl with | [_, _], _ => rfl
  have F__law_cascade := fun_mk (st := s__law_cascade) l__law_cascade c__law_cascade k__law_cascade
  have b__law_cascade := F__law_cascade.binds (ps := ["_law_number", "_law_size"]) fun _ _ _ _ _ _ us hl => match us, hl with | [_, _], _ => rfl
  have F__law_shadow := fun_mk (st := s__law_shadow) l__law_shadow c__law_shadow k__law_shadow
  have b__law_shadow := F__law_shadow.binds (ps := ["_law_number", "_law_size"]) fun _ _ _ _ _ _ us hl => match us, hl with | [_, _], _ => rfl
  have F_law := fun_mk (st := s_law) l_law c_law k_law
  have b_law := F_law.binds (ps := ["_law_script"]) fun _ _ _ _ _ _ us hl => match us, hl with | [_], _ => rfl
  refine ⟨G, PySem.W.fnOf "law" "law" (defArgs s_law) (defBody s_law) (defScope s_law) .none kV_law dc_law pm_law an_law cd_law ct_law, rfl, fun s v => .of_eq rfl, fun base _ _ => ?_⟩
  have g__law_taken : GF l.prog w K mg base G "_law_taken" 1 ["_law_row", "_law_many"] [true, false] Pv.F__law_taken := ⟨⟨f__law_taken, _, ok__law_taken T F__law_taken, PySem.W.mg_of X G0 a__law_taken, k__law_taken, b__law_taken⟩⟩
  have g__law_pick : GF l.prog w K mg base G "_law_pick" 2 ["_law_row", "_law_things"] [true, false] Pv.F__law_pick := ⟨⟨f__law_pick, _, ok__law_pick T g__law_taken F__law_pick, PySem.W.mg_of X G0 a__law_pick, k__law_pick, b__law_pick⟩⟩
  have g_is_integer : GF l.prog w K mg base G "is_integer" 1 ["value"] [false] Pv.F_is_integer := ⟨⟨f_is_integer, _, ok_is_integer T F_is_integer, PySem.W.mg_of X G0 a_is_integer, k_is_integer, b_is_integer⟩⟩
  have g_is_in : GF l.prog w K mg base G "is_in" 2 ["value", "least", "most"] [false, false, false] Pv.F_is_in := ⟨⟨f_is_in, _, ok_is_in T g_is_integer F_is_in, PySem.W.mg_of X G0 a_is_in, k_is_in, b_is_in⟩⟩
  have g_need_number : GF l.prog w K mg base G "need_number" 3 ["value", "least"] [false, false] Pv.F_need_number := ⟨⟨f_need_number, _, ok_need_number T g_is_in F_need_number, PySem.W.mg_of X G0 a_need_number, k_need_number, b_need_number⟩⟩
  have g_choose : GF l.prog w K mg base G "choose" 1 ["upper", "lower"] [false, false] Pv.F_choose := ⟨⟨f_choose, _, ok_choose T F_choose, PySem.W.mg_of X G0 a_choose, k_choose, b_choose⟩⟩
  have g_cascade_in : GF l.prog w K mg base G "cascade_in" 2 ["number", "size"] [false, false] Pv.F_cascade_in := ⟨⟨f_cascade_in, _, ok_cascade_in T g_choose F_cascade_in, PySem.W.mg_of X G0 a_cascade_in, k_cascade_in, b_cascade_in⟩⟩
  have g_cascade : GF l.prog w K mg base G "cascade" 4 ["number", "size"] [false, false] Pv.F_cascade := ⟨⟨f_cascade, _, ok_cascade T g_need_number g_is_in g_cascade_in F_cascade, PySem.W.mg_of X G0 a_cascade, k_cascade, b_cascade⟩⟩
  have g__law_alike : GF l.prog w K mg base G "_law_alike" 5 ["_law_found", "_law_due"] [false, false] (Pv.F__law_alike 4) := ⟨⟨f__law_alike, _, ok__law_alike T F__law_alike (PySem.W.mg_of X G0 a__law_alike) b__law_alike 4, PySem.W.mg_of X G0 a__law_alike, k__law_alike, b__law_alike⟩⟩
  have g__law_choose : GF l.prog w K mg base G "_law_choose" 1 ["_law_upper", "_law_lower"] [false, false] Pv.F__law_choose := ⟨⟨f__law_choose, _, ok__law_choose T F__law_choose, PySem.W.mg_of X G0 a__law_choose, k__law_choose, b__law_choose⟩⟩
  have g__law_cascade : GF l.prog w K mg base G "_law_cascade" 2 ["_law_number", "_law_size"] [false, false] Pv.F__law_cascade := ⟨⟨f__law_cascade, _, ok__law_cascade T g__law_choose F__law_cascade, PySem.W.mg_of X G0 a__law_cascade, k__law_cascade, b__law_cascade⟩⟩
  have g__law_shadow : GF l.prog w K mg base G "_law_shadow" 3 ["_law_number", "_law_size"] [false, false] Pv.F__law_shadow := ⟨⟨f__law_shadow, _, ok__law_shadow T g__law_cascade g__law_choose F__law_shadow, PySem.W.mg_of X G0 a__law_shadow, k__law_shadow, b__law_shadow⟩⟩
  have g_least_shadow : GF l.prog w K mg base G "least_shadow" 4 ["number", "size"] [false, false] Pv.F_least_shadow := ⟨⟨f_least_shadow, _, ok_least_shadow T g_need_number g_is_in g_cascade_in g_choose F_least_shadow, PySem.W.mg_of X G0 a_least_shadow, k_least_shadow, b_least_shadow⟩⟩
  have g__law_simplex : GF l.prog w K mg base G "_law_simplex" 2 ["_law_row", "_law_most", "_law_size"] [true, false, false] Pv.F__law_simplex := ⟨⟨f__law_simplex, _, ok__law_simplex T g__law_taken F__law_simplex, PySem.W.mg_of X G0 a__law_simplex, k__law_simplex, b__law_simplex⟩⟩
  have g__law_simplices : GF l.prog w K mg base G "_law_simplices" 3 ["_law_row", "_law_most", "_law_size"] [true, false, false] Pv.F__law_simplices := ⟨⟨f__law_simplices, _, ok__law_simplices T g__law_taken g__law_simplex F__law_simplices, PySem.W.mg_of X G0 a__law_simplices, k__law_simplices, b__law_simplices⟩⟩
  have g__law_at : GF l.prog w K mg base G "_law_at" 1 ["_law_faces_here", "_law_degree"] [false, false] Pv.F__law_at := ⟨⟨f__law_at, _, ok__law_at T F__law_at, PySem.W.mg_of X G0 a__law_at, k__law_at, b__law_at⟩⟩
  have g__law_faces : GF l.prog w K mg base G "_law_faces" 1 ["_law_simplices_here"] [false] Pv.F__law_faces := ⟨⟨f__law_faces, _, ok__law_faces T F__law_faces, PySem.W.mg_of X G0 a__law_faces, k__law_faces, b__law_faces⟩⟩
  exact ok_law T g__law_taken g__law_pick g_cascade g__law_alike g__law_cascade g__law_choose g__law_shadow g_least_shadow g__law_simplices g__law_at g__law_faces F_law
/-- the law, where its denotation is true -/
theorem the_walk (htrue : ∀ ns : List Int, ns.length ≤ 63 → ∃ n, F_law [(0, .scr ns)] = some ((n, .bl true), [])) {l : PySem.W.OpenLaw} {q : Program} {loose : List Str} {XP : (Str → Option Value) → Heap → Prop} {YP : World → Heap → Prop} {d : DefRec} {K : Params → PySem.W.Frag} (hn : l.most = some 63) (hdf : d.params.defaults = [])
    (hY : ∀ (w : World) (h : Heap), YP w h → (K w.params).In h)
    (F : ∀ (w : World) (mg : Str → Option Value) (fa : Addr) (h : Heap), (K w.params).In h → h.Ns mainGlobals mg → mg d.name = some (.ref fa) →
      ∃ (G : Gt) (fd : FuncData), G.K = K w.params ∧ (∀ (s : Shared) (u : Value), BindsTo s fd ⟨[u], []⟩ [("_law_script", u)]) ∧ ∀ base : Heap, (K w.params).In base → base.Ns mainGlobals mg → FnOk l.prog w (K w.params) mg base CX0 6 fa fd ["_law_script"] (spF G [false] 1 F_law)) :
    PySem.W.WalkO q loose XP YP l.row.toRowW d [] (fun f vs => PySem.call f vs) :=
  L2.walk_of (n := 63) (k := 6) (x := "_law_script") (CX := fun _ => CX0) (sp := fun w => spLaw (K w.params)) hn (by decide) hdf ⟨rfl, by decide, by decide⟩ hY
    (fun w mg fa h a b c => by
      obtain ⟨G, fd, hG, h1, h2⟩ := F w mg fa h a b c
      exact ⟨fd, h1, fun base b1 b2 => (h2 base b1 b2).imp fun vs H Q E z => z.to hG htrue⟩)
    (fun _ _ a ns hl _ hS => ⟨a, ns, rfl, hS, hl, fun _ => rfl⟩) fun _ _ _ _ _ z => z
theorem F_is_integer_int (n : Nat) (i : Int) : F_is_integer [(n, .int i)] = some ((B, .bl true), []) := by
  simp_arith [F_is_integer, d_is_integer, isaCs]
theorem F_is_in_int (n1 n2 n3 : Nat) (v a b : Int) : F_is_in [(n1, .int v), (n2, .int a), (n3, .int b)] = some ((B, .bl (decide (a ≤ v ∧ v ≤ b))), []) := by
  simp_arith [F_is_in, d_is_in, F_is_integer_int]
  by_cases h1 : v < a <;> by_cases h2 : b < v <;> simp [h1, h2, retL] <;> omega
theorem allO_blm : ∀ {α : Type} (f : α → Bool) (l : List α), allO blO (l.map fun a => D.bl (f a)) = some (l.map f)
  | _, f, [] => rfl
  | _, f, x :: l => by simp only [List.map_cons, allO, blO, allO_blm f l]
theorem allO_intm : ∀ (l : List Int), allO intO (l.map D.int) = some l
  | [] => rfl
  | x :: l => by simp only [List.map_cons, allO, intO, allO_intm l]
theorem allD_map {α : Type} (f : α → Bool) (l : List α) : allD [.lst (l.map fun a => D.bl (f a))] = some (.bl (l.all f)) := by
  simp only [allD, allO_blm, List.all_map]
  rfl
theorem zip_tail_asc : ∀ l : List Int, ((l.zip l.tail).all fun p => decide (p.1 < p.2)) = true ↔ Asc l
  | [] => by simp
  | [x] => by simp
  | x :: y :: l => by
    have ih := zip_tail_asc (y :: l)
    simp only [List.tail_cons, List.zip_cons_cons, List.all_cons, Bool.and_eq_true, decide_eq_true_eq] at ih ⊢
    rw [ih]
    constructor
    · rintro ⟨h, q⟩
      refine List.pairwise_cons.mpr ⟨fun z hz => ?_, q⟩
      rcases List.mem_cons.mp hz with rfl | hz
      · exact h
      · have := (List.pairwise_cons.mp q).1 z hz
        omega
    · intro q
      have := List.pairwise_cons.mp q
      exact ⟨this.1 y List.mem_cons_self, this.2⟩
theorem zpI_ints : ∀ a b : List Int, zpI (a.map .int) (b.map .int) = (a.zip b).map fun p => (B, D.tup [.int p.1, .int p.2])
  | [], b => by simp [zpI]
  | _ :: _, [] => by simp [zpI]
  | x :: a, y :: b => by
    simp only [List.map_cons, zpI, List.zip_cons_cons, zpI_ints a b]
    rfl
def okv (v : Int) : Bool := decide (0 ≤ v ∧ v ≤ 30)
/-- what the program takes for a simplex -/
def Sim (l : List Int) : Prop := (1 ≤ l.length ∧ l.length ≤ 8) ∧ (∀ v ∈ l, 0 ≤ v ∧ v ≤ 30) ∧ Asc l
theorem pw_pos (l : List Int) : 0 < (pw l).length := by
  rw [pw_len]; exact Nat.two_pow_pos _
theorem sx_snoc (x : List Int) (v : Int) : sx (x ++ [v]) = .tup (x.map .int ++ [.int v]) := by simp [sx]
theorem wt_pre {pre : List (List Int)} {l : List Int} {r : List (List Int)} : wt (pre ++ [l]) ≤ wt (pre ++ l :: r) := by
  simp only [wt, List.map_append, List.map_cons, List.map_nil, List.sum_append, List.sum_cons, List.sum_nil]
  omega
theorem genS_len (fs : List (List Int)) (l : List Int) : fs.length ≤ (genS fs l).length := by
  unfold genS
  split
  · exact Nat.le_refl _
  · rename_i q
    clear q
    generalize parts l = ps
    induction ps generalizing fs with
    | nil => exact Nat.le_refl _
    | cons x ps ih => exact Nat.le_trans (len_putS fs x).2 (ih (putS fs x))
/-- the loop that enters a simplex's parts -/
theorem put_loop {x0 x2 : Option It} {g0 : List (List Int)} (ps : List (List Int)) (hl : g0.length + ps.length < 16777216) (o : Option It) :
    ∃ s', forGo (gNm 3) (sbS 1 (seeP (pName 3)) (ofV (fun _ => some (.bl true)))) (ps.map fun x => (B, sx x)) [x0, some (B, dsx g0), x2, o] = .nx s' ∧ ∃ o', s' = [x0, some (B, dsx (putAll g0 ps)), x2, o'] := by
  refine forGo_of (fun x => (B, sx x)) (fun pre s => ∃ o', s = [x0, some (B, dsx (putAll g0 pre)), x2, o']) ⟨o, rfl⟩ ?_
  rintro pre x s ⟨r, hr⟩ ⟨o', rfl⟩
  have h1 := len_putAll (acc := g0) (xs := pre)
  have h2 : pre.length < ps.length := by
    have := congrArg List.length hr
    simp only [List.length_append, List.length_cons] at this
    omega
  have e := @storeD_dsx 999 B (putAll g0 pre) x (by omega)
  have e2 : putAll g0 (pre ++ [x]) = putS (putAll g0 pre) x := by simp [putAll]
  refine ⟨_, _, rfl, ?_, ⟨some (B, sx x), rfl⟩⟩
  rw [e2]
  simp_arith [e]
  rfl
theorem gen_mono (a b : List (List Int)) : (gen a).length ≤ (gen (a ++ b)).length := by
  induction b using snoc_ind with
  | h0 => rw [List.append_nil]; exact Nat.le_refl _
  | h1 b x ih =>
    rw [← List.append_assoc, gen_snoc]
    exact Nat.le_trans ih (genS_len _ _)
/-- the inner loop of maximal -/
theorem cutD_take (l : List Int) (i : Nat) (h : i ≤ l.length) : cutD (sx l) none (some (i : Int)) = some (sx (l.take i)) := by
  show (if isImmL _ = true then _ else _) = _
  rw [if_pos (immL_ints l)]
  simp only [cutL, HT.sIx_none, List.length_map]
  rw [HT.sIx_nat, Nat.min_eq_left h]
  simp [sx]
theorem cutD_drop (l : List Int) (i : Nat) (h : i + 1 ≤ l.length) : cutD (sx l) (some ((i : Int) + 1)) none = some (sx (l.drop (i + 1))) := by
  show (if isImmL _ = true then _ else _) = _
  rw [if_pos (immL_ints l)]
  simp only [cutL, HT.sIx_none, List.length_map]
  rw [show ((i : Int) + 1) = ((i + 1 : Nat) : Int) by omega, HT.sIx_nat, Nat.min_eq_left h]
  rw [← List.map_drop, ← List.map_take, List.take_of_length_le (by simp)]
  rfl
theorem addD_sx (a b : List Int) (h : a.length + b.length ≤ 16777216) : addD (sx a) (sx b) = some (sx (a ++ b)) := by
  show (if (isImmL _ && isImmL _ && line _) = true then _ else _) = _
  rw [immL_ints, immL_ints, line_of (by simpa using h)]
  simp [sx]
theorem max_loop {x0 : Option It} {l : List Int} {g0 : List (List Int)} (hl : l.length ≤ 8) (hg : g0.length ≤ 1000000) (o : Option It) :
    ∃ s', forGo (gNm 3) (sbS 1 (opV addD (slV (seeP (pName 2)) noO (partO (seeP (pName 3)))) (slV (seeP (pName 2)) (partO (opV addD (seeP (pName 3)) (fun _ => some (.int 1)))) noO)) (ofV (fun _ => some (.bl true)))) (rgI 0 l.length) [x0, some (B, dsx g0), some (B, sx l), o] = .nx s' ∧ ∃ o', s' = [x0, some (B, dsx (putAll g0 ((List.range l.length).map fun i => l.eraseIdx i))), some (B, sx l), o'] := by
  have h := forGo_of (g := gNm 3) (fb := sbS 1 (opV addD (slV (seeP (pName 2)) noO (partO (seeP (pName 3)))) (slV (seeP (pName 2)) (partO (opV addD (seeP (pName 3)) (fun _ => some (.int 1)))) noO)) (ofV (fun _ => some (.bl true)))) (fun i : Nat => (B, D.int (0 + (i : Nat)))) (fun pre s => ∃ o', s = [x0, some (B, dsx (putAll g0 (pre.map fun i => l.eraseIdx i))), some (B, sx l), o']) (xs := List.range l.length) (s := [x0, some (B, dsx g0), some (B, sx l), o]) ⟨o, rfl⟩ (by
    rintro pre i s ⟨r, hr⟩ ⟨o', rfl⟩
    have hi : i < l.length := List.mem_range.mp (by rw [hr]; simp)
    have h1 := len_putAll (acc := g0) (xs := pre.map fun i => l.eraseIdx i)
    have h2 : pre.length ≤ l.length := by
      have := congrArg List.length hr
      simp only [List.length_append, List.length_cons, List.length_range] at this
      omega
    rw [List.length_map] at h1
    have e := @storeD_dsx 999 B (putAll g0 (pre.map fun i => l.eraseIdx i)) (l.take i ++ l.drop (i + 1)) (by omega)
    have e2 : putAll g0 ((pre ++ [i]).map fun i => l.eraseIdx i) = putS (putAll g0 (pre.map fun i => l.eraseIdx i)) (l.take i ++ l.drop (i + 1)) := by
      simp [putAll, List.eraseIdx_eq_take_drop_succ]
    have e3 := cutD_take l i (by omega)
    have e4 := cutD_drop l i (by omega)
    have e5 := addD_sx (l.take i) (l.drop (i + 1)) (by simp; omega)
    refine ⟨_, _, rfl, ?_, ⟨some (B, .int i), by rw [e2]⟩⟩
    simp_arith [e, e3, e4, e5]
    rfl)
  exact h
theorem inn_snoc (fs : List (List Int)) (l : List Int) : inn (fs ++ [l]) = putAll (inn fs) ((List.range l.length).map fun i => l.eraseIdx i) := by
  simp [inn, putAll]
def cx (fs : List (List Int)) : D := .obj 0 [dsx fs, .tup ((tops fs).map sx)]
theorem enI_map : ∀ (ls : List (List Int)) (i : Nat), enI i (ls.map sx) = (ls.zipIdx i).map fun p => (B, D.tup [.int (p.2 : Nat), sx p.1])
  | [], _ => rfl
  | l :: ls, i => by
    simp only [List.map_cons, enI, List.zipIdx_cons, enI_map ls (i + 1)]
    simp [fz]
def hd (l : List Int) : Int := l.headD 0
def vsI (fs : List (List Int)) : List Int := srtI ((fs.filter fun x => decide (x.length = 1)).map hd)
def lens (fs : List (List Int)) : List Int := fs.map fun x => (x.length : Int)
def mx (fs : List (List Int)) : Nat := (maxI (lens fs ++ [0])).toNat
theorem maxI_app (l : List Int) : (∀ y ∈ l, y ≤ maxI (l ++ [0])) ∧ 0 ≤ maxI (l ++ [0]) ∧ (maxI (l ++ [0]) = 0 ∨ maxI (l ++ [0]) ∈ l) := by
  cases l with
  | nil => exact ⟨by simp, by decide, .inl rfl⟩
  | cons a l =>
    have h1 : ∀ y, (y = a ∨ y ∈ l ++ [0]) → y ≤ maxI (a :: l ++ [0]) := fun y h => maxI_up (l ++ [0]) a y h
    refine ⟨fun y hy => h1 y ?_, h1 0 (by simp), ?_⟩
    · rcases List.mem_cons.mp hy with h | h
      · exact .inl h
      · exact .inr (List.mem_append_left _ h)
    · have := maxI_in (l ++ [0]) a
      show (l ++ [0]).foldl max a = 0 ∨ (l ++ [0]).foldl max a ∈ a :: l
      rcases this with h | h
      · right; rw [h]; exact List.mem_cons_self
      · rcases List.mem_append.mp h with h | h
        · exact .inr (List.mem_cons_of_mem _ h)
        · exact .inl (by simpa using h)
theorem mx_eq (fs : List (List Int)) : maxI (lens fs ++ [0]) = (mx fs : Int) := by
  unfold mx
  have := (maxI_app (lens fs)).2.1
  omega
theorem mx_up {fs : List (List Int)} {x : List Int} (h : x ∈ fs) : x.length ≤ mx fs := by
  have := (maxI_app (lens fs)).1 x.length (List.mem_map.mpr ⟨x, h, rfl⟩)
  rw [mx_eq] at this
  omega
theorem mx_in (fs : List (List Int)) : mx fs = 0 ∨ ∃ x ∈ fs, x.length = mx fs := by
  have := (maxI_app (lens fs)).2.2
  rw [mx_eq] at this
  rcases this with h | h
  · left; omega
  · right
    obtain ⟨x, hx, e⟩ := List.mem_map.mp h
    exact ⟨x, hx, by omega⟩
theorem mx_congr {a b : List (List Int)} (h : ∀ x, x ∈ a ↔ x ∈ b) : mx a = mx b := by
  have h1 : ∀ {a b : List (List Int)}, (∀ x, x ∈ a ↔ x ∈ b) → mx a ≤ mx b := fun {a b} h => by
    rcases mx_in a with e | ⟨x, hx, e⟩
    · omega
    · rw [← e]; exact mx_up ((h x).mp hx)
  exact Nat.le_antisymm (h1 h) (h1 fun x => (h x).symm)
theorem mx_le {fs : List (List Int)} {n : Nat} (h : ∀ x ∈ fs, x.length ≤ n) : mx fs ≤ n := by
  rcases mx_in fs with e | ⟨x, hx, e⟩
  · omega
  · rw [← e]; exact h x hx
theorem maxD_ints {l : List Int} : maxD [.lst ((l ++ [0]).map .int)] = some (.int (maxI (l ++ [0]))) := by
  simp only [maxD, allO_intm]
  cases l <;> rfl
def cntAt (fs : List (List Int)) (d : Nat) : Nat := (fs.filter fun x => decide (x.length = d + 1)).length
def cnt (m : Nat) (fs : List (List Int)) : List Int := (List.range m).map fun d => (cntAt fs d : Int)
theorem cntAt_snoc (fs : List (List Int)) (x : List Int) (d : Nat) : cntAt (fs ++ [x]) d = cntAt fs d + if x.length = d + 1 then 1 else 0 := by
  unfold cntAt
  by_cases h : x.length = d + 1 <;> simp [List.filter_append, h]
theorem cnt_snoc {m : Nat} {fs : List (List Int)} {x : List Int} (h : 1 ≤ x.length) (hm : x.length ≤ m) : cnt m (fs ++ [x]) = (cnt m fs).set (x.length - 1) ((cntAt fs (x.length - 1) : Int) + 1) := by
  apply List.ext_getElem (by simp [cnt])
  intro i h1 h2
  simp only [cnt, List.getElem_set, List.getElem_map, List.getElem_range, cntAt_snoc]
  by_cases q : x.length - 1 = i
  · subst q
    rw [if_pos rfl, if_pos (by omega)]
    omega
  · rw [if_neg q, if_neg (by omega)]
    omega
theorem cnt_nil (m : Nat) : cnt m [] = List.replicate m 0 := by
  apply List.ext_getElem (by simp [cnt])
  intro i h1 h2
  simp [cnt, cntAt]
def ev0 (c : List Int) : List Int := pickL c none none (some 2)
def od0 (c : List Int) : List Int := pickL c (some 1) none (some 2)
def eul (c : List Int) : Int := (ev0 c).sum - (od0 c).sum - 1
theorem rev0 : sliceRange (sliceBounds none none (some 2) 0).1 (sliceBounds none none (some 2) 0).2.1 (sliceBounds none none (some 2) 0).2.2 = [] := by decide +kernel
theorem rod0 : sliceRange (sliceBounds (some 1) none (some 2) 0).1 (sliceBounds (some 1) none (some 2) 0).2.1 (sliceBounds (some 1) none (some 2) 0).2.2 = [] := by decide +kernel
theorem rev1 : sliceRange (sliceBounds none none (some 2) 1).1 (sliceBounds none none (some 2) 1).2.1 (sliceBounds none none (some 2) 1).2.2 = [0] := by decide +kernel
theorem rod1 : sliceRange (sliceBounds (some 1) none (some 2) 1).1 (sliceBounds (some 1) none (some 2) 1).2.1 (sliceBounds (some 1) none (some 2) 1).2.2 = [] := by decide +kernel
theorem rev2 : sliceRange (sliceBounds none none (some 2) 2).1 (sliceBounds none none (some 2) 2).2.1 (sliceBounds none none (some 2) 2).2.2 = [0] := by decide +kernel
theorem rod2 : sliceRange (sliceBounds (some 1) none (some 2) 2).1 (sliceBounds (some 1) none (some 2) 2).2.1 (sliceBounds (some 1) none (some 2) 2).2.2 = [1] := by decide +kernel
theorem rev3 : sliceRange (sliceBounds none none (some 2) 3).1 (sliceBounds none none (some 2) 3).2.1 (sliceBounds none none (some 2) 3).2.2 = [0, 2] := by decide +kernel
theorem rod3 : sliceRange (sliceBounds (some 1) none (some 2) 3).1 (sliceBounds (some 1) none (some 2) 3).2.1 (sliceBounds (some 1) none (some 2) 3).2.2 = [1] := by decide +kernel
theorem rev4 : sliceRange (sliceBounds none none (some 2) 4).1 (sliceBounds none none (some 2) 4).2.1 (sliceBounds none none (some 2) 4).2.2 = [0, 2] := by decide +kernel
theorem rod4 : sliceRange (sliceBounds (some 1) none (some 2) 4).1 (sliceBounds (some 1) none (some 2) 4).2.1 (sliceBounds (some 1) none (some 2) 4).2.2 = [1, 3] := by decide +kernel
theorem rev5 : sliceRange (sliceBounds none none (some 2) 5).1 (sliceBounds none none (some 2) 5).2.1 (sliceBounds none none (some 2) 5).2.2 = [0, 2, 4] := by decide +kernel
theorem rod5 : sliceRange (sliceBounds (some 1) none (some 2) 5).1 (sliceBounds (some 1) none (some 2) 5).2.1 (sliceBounds (some 1) none (some 2) 5).2.2 = [1, 3] := by decide +kernel
theorem rev6 : sliceRange (sliceBounds none none (some 2) 6).1 (sliceBounds none none (some 2) 6).2.1 (sliceBounds none none (some 2) 6).2.2 = [0, 2, 4] := by decide +kernel
theorem rod6 : sliceRange (sliceBounds (some 1) none (some 2) 6).1 (sliceBounds (some 1) none (some 2) 6).2.1 (sliceBounds (some 1) none (some 2) 6).2.2 = [1, 3, 5] := by decide +kernel
theorem rev7 : sliceRange (sliceBounds none none (some 2) 7).1 (sliceBounds none none (some 2) 7).2.1 (sliceBounds none none (some 2) 7).2.2 = [0, 2, 4, 6] := by decide +kernel
theorem rod7 : sliceRange (sliceBounds (some 1) none (some 2) 7).1 (sliceBounds (some 1) none (some 2) 7).2.1 (sliceBounds (some 1) none (some 2) 7).2.2 = [1, 3, 5] := by decide +kernel
theorem rev8 : sliceRange (sliceBounds none none (some 2) 8).1 (sliceBounds none none (some 2) 8).2.1 (sliceBounds none none (some 2) 8).2.2 = [0, 2, 4, 6] := by decide +kernel
theorem rod8 : sliceRange (sliceBounds (some 1) none (some 2) 8).1 (sliceBounds (some 1) none (some 2) 8).2.1 (sliceBounds (some 1) none (some 2) 8).2.2 = [1, 3, 5, 7] := by decide +kernel
theorem eul_eq : ∀ c : List Int, c.length ≤ 8 → eul c = ((List.range c.length).map fun i => c.getD i 0 * (1 - 2 * ((i : Int) % 2))).sum - 1
  | [], _ => by
    simp only [eul, ev0, od0, pickL, List.length_cons, List.length_nil, Nat.zero_add, Nat.reduceAdd]
    rw [rev0, rod0]
    simp [List.range_succ]
  | [a], _ => by
    simp only [eul, ev0, od0, pickL, List.length_cons, List.length_nil, Nat.zero_add, Nat.reduceAdd]
    rw [rev1, rod1]
    simp [List.range_succ]
  | [a, b], _ => by
    simp only [eul, ev0, od0, pickL, List.length_cons, List.length_nil, Nat.zero_add, Nat.reduceAdd]
    rw [rev2, rod2]
    simp [List.range_succ]
    omega
  | [a, b, c], _ => by
    simp only [eul, ev0, od0, pickL, List.length_cons, List.length_nil, Nat.zero_add, Nat.reduceAdd]
    rw [rev3, rod3]
    simp [List.range_succ]
    omega
  | [a, b, c, d], _ => by
    simp only [eul, ev0, od0, pickL, List.length_cons, List.length_nil, Nat.zero_add, Nat.reduceAdd]
    rw [rev4, rod4]
    simp [List.range_succ]
    omega
  | [a, b, c, d, e], _ => by
    simp only [eul, ev0, od0, pickL, List.length_cons, List.length_nil, Nat.zero_add, Nat.reduceAdd]
    rw [rev5, rod5]
    simp [List.range_succ]
    omega
  | [a, b, c, d, e, f], _ => by
    simp only [eul, ev0, od0, pickL, List.length_cons, List.length_nil, Nat.zero_add, Nat.reduceAdd]
    rw [rev6, rod6]
    simp [List.range_succ]
    omega
  | [a, b, c, d, e, f, g], _ => by
    simp only [eul, ev0, od0, pickL, List.length_cons, List.length_nil, Nat.zero_add, Nat.reduceAdd]
    rw [rev7, rod7]
    simp [List.range_succ]
    omega
  | [a, b, c, d, e, f, g, h], _ => by
    simp only [eul, ev0, od0, pickL, List.length_cons, List.length_nil, Nat.zero_add, Nat.reduceAdd]
    rw [rev8, rod8]
    simp [List.range_succ]
    omega
  | a :: b :: c :: d :: e :: f :: g :: h :: i :: l, q => by simp only [List.length_cons] at q; omega
theorem sumD_ints (l : List Int) : sumD [.lst (l.map .int)] = some (.int l.sum) := by
  simp only [sumD, allO_intm]
theorem pickL_map {α β : Type} (f : α → β) (l : List α) (lo hi st : Option Int) : pickL (l.map f) lo hi st = (pickL l lo hi st).map f := by
  unfold pickL
  rw [List.length_map, List.map_filterMap]
  congr 1
  funext i
  simp
theorem sl3D_ints (l : List Int) (lo : Option Int) : sl3D (.lst (l.map .int)) lo none (some 2) = some (.lst ((pickL l lo none (some 2)).map .int)) := by
  show (if (isImmL _ && !(some (2 : Int) == some 0)) = true then some (D.lst (pickL _ _ _ _)) else none) = _
  rw [immL_ints, pickL_map]
  rfl
def row (ns : List Int) (a b c : Int) : D := .lst [.scr ns, .int a, .int b, .int c]
theorem modD_int {i j : Int} (h : 0 < j) : modD (.int i) (.int j) = some (.int (i % j)) := by
  show (if decide (0 < j) = true then _ else _) = _
  rw [decide_eq_true h]
  rfl
theorem fdivD_int {i j : Int} (h : 0 < j) (h2 : j < 1073741824) : fdivD (.int i) (.int j) = some (.int (i / j)) := by
  show (if decide (0 < j ∧ j.natAbs < 1073741824) = true then _ else _) = _
  rw [decide_eq_true ⟨h, show j.natAbs < 1073741824 by omega⟩]
  rfl
theorem ix40 : ixN 4 0 = some 0 := rfl
theorem ix41 : ixN 4 1 = some 1 := rfl
theorem ix42 : ixN 4 2 = some 2 := rfl
theorem ix43 : ixN 4 3 = some 3 := rfl
theorem pow18 : powD (.int 10) (.int 18) = some (.int 1000000000000000000) := by rfl
theorem F_taken {ns : List Int} {a b c m : Int} {n : Nat} (hm : 0 < m) (hm2 : m ≤ 100000) (ha : 0 ≤ a) : ∃ r a' b' c', F__law_taken [(1, row ns a b c), (n, .int m)] = some ((B, .int r), [(1, row ns a' b' c')]) ∧ (0 ≤ r ∧ r < m) ∧ 0 ≤ a' := by
  have q1 : ∀ i, modD (.int i) (.int m) = some (.int (i % m)) := fun i => modD_int hm
  have q2 : ∀ i, fdivD (.int i) (.int m) = some (.int (i / m)) := fun i => fdivD_int hm (by omega)
  have q3 : ∀ i : Int, 0 ≤ i % m ∧ i % m < m := fun i => ⟨Int.emod_nonneg _ (by omega), Int.emod_lt_of_pos _ hm⟩
  by_cases h1 : 0 < c
  · refine ⟨c % m, a, b, c / m, ?_, q3 c, ha⟩
    simp only [row]
    simp_arith [F__law_taken, d__law_taken, h1, q1, q2, ixN]
  · have h1' : (c : Int) ≤ 0 := by omega
    have q4 : mulD (.int b) (.int 48271) = some (.int (b * 48271)) := mulD_int (.inr (small_of (by omega)))
    have q5 : ∀ i, modD (.int i) (.int 2147483647) = some (.int (i % 2147483647)) := fun i => modD_int (by omega)
    have q6 : ∀ i, fdivD (.int i) (.int 7) = some (.int (i / 7)) := fun i => fdivD_int (by omega) (by omega)
    by_cases h2 : (ns.length : Int) < a + 1
    · refine ⟨((b * 48271 + 11) % 2147483647 / 7) % m, a + 1, (b * 48271 + 11) % 2147483647, c, ?_, q3 _, by omega⟩
      simp only [row]
      simp_arith [F__law_taken, d__law_taken, h1, h2, q1, q2, q4, q5, q6, ixN]
    · have h3 : a.toNat < ns.length := by omega
      have h4 : ixN ns.length a = some a.toNat := by
        have := ixN_of h3
        rwa [show ((a.toNat : Nat) : Int) = a by omega] at this
      have h6 : ns[a.toNat]? = some ns[a.toNat] := List.getElem?_eq_getElem h3
      generalize ns[a.toNat] = x at h6
      by_cases h5 : (1000000000000000000 : Int) ≤ x
      · refine ⟨x % m, a + 1, (b * 48271 + x + 11) % 2147483647, x / m, ?_, q3 _, by omega⟩
        simp only [row]
        simp_arith [F__law_taken, d__law_taken, h1, h2, h4, q1, q2, q4, q5, q6, h5, h6, pow18, ix40, ix41, ix42, ix43]
      · refine ⟨x % m, a + 1, (b * 48271 + x + 11) % 2147483647, c, ?_, q3 _, by omega⟩
        simp only [row]
        simp_arith [F__law_taken, d__law_taken, h1, h2, h4, q1, q2, q4, q5, q6, h5, h6, pow18, ix40, ix41, ix42, ix43]

theorem ixN_int {n : Nat} {i : Int} (h0 : 0 ≤ i) (h : i < n) : ixN n i = some i.toNat := by
  have := ixN_of (n := n) (j := i.toNat) (by omega)
  rwa [show ((i.toNat : Nat) : Int) = i by omega] at this
theorem F_pick {ns : List Int} {a b c : Int} {n : Nat} {l : List Int} (hl : l ≠ []) (hl2 : l.length ≤ 1000) (ha : 0 ≤ a) : ∃ x a' b' c', F__law_pick [(1, row ns a b c), (n, .lst (l.map .int))] = some ((B, .int x), [(1, row ns a' b' c')]) ∧ x ∈ l ∧ 0 ≤ a' := by
  have hp : 0 < l.length := List.length_pos_iff.mpr hl
  obtain ⟨r, a', b', c', e, hr, ha'⟩ := F_taken (ns := ns) (a := a) (b := b) (c := c) (m := l.length) (n := B) (by omega) (by omega) ha
  have h3 : r.toNat < l.length := by omega
  have h4 := ixN_int (n := l.length) hr.1 hr.2
  have h5 : l[r.toNat]? = some l[r.toNat] := List.getElem?_eq_getElem h3
  refine ⟨l[r.toNat], a', b', c', ?_, List.getElem_mem h3, ha'⟩
  simp only [row] at *
  simp_arith [F__law_pick, d__law_pick, mIxB, e, h4, h5]

def rgL (m : Nat) : List Int := (List.range m).map fun i : Nat => (i : Int)
theorem rgL_nd (m : Nat) : (rgL m).Nodup := by
  unfold rgL
  exact List.pairwise_map.mpr (List.nodup_range.imp fun h q => h (by omega))
theorem mem_rgL {m : Nat} {v : Int} : v ∈ rgL m ↔ 0 ≤ v ∧ v < m := by
  simp only [rgL, List.mem_map, List.mem_range]
  constructor
  · rintro ⟨i, h, rfl⟩; omega
  · intro h; exact ⟨v.toNat, by omega, by omega⟩
theorem erase_perm {α : Type} : ∀ {l : List α} {j : Nat} {x : α}, l[j]? = some x → (x :: l.eraseIdx j).Perm l
  | a :: l, 0, x, h => by
    have : a = x := by simpa using h
    subst this
    exact List.Perm.refl _
  | a :: l, j + 1, x, h => by
    have ih := erase_perm (l := l) (j := j) (x := x) (by simpa using h)
    exact (List.Perm.swap _ _ _).trans (ih.cons a)
  | [], j, x, h => by simp at h
theorem erase_map {α β : Type} (f : α → β) : ∀ (l : List α) (j : Nat), (l.map f).eraseIdx j = (l.eraseIdx j).map f
  | [], _ => by simp
  | _ :: _, 0 => rfl
  | a :: l, j + 1 => congrArg (f a :: ·) (erase_map f l j)
theorem lrg1_of {f : S → Option D} {s : S} {m : Nat} (h : f s = some (.int m)) (hm : m ≤ 1000) : lrg1 f s = some (.lst ((rgL m).map .int)) := by
  unfold lrg1
  rw [h]
  have e : rgOk 0 (m : Int) = true := decide_eq_true ⟨by decide, Nat.lt_of_le_of_lt (show (m : Int).natAbs ≤ 1000 by omega) (by decide), Nat.le_trans (show ((m : Int) - 0).toNat ≤ 1000 by omega) (by decide)⟩
  dsimp only
  rw [e]
  simp [rgD, rgL]
theorem itR1M_of {f : S → Res It} {s s1 : S} {m n : Nat} (h : f s = .ok (m, .int n) s1) (hn : n ≤ 1000000) : itR1M f s = .ok (rgI 0 n) s1 := by
  have e1 : smI (n : Int) = true := smI_of (by omega)
  have e2 : line (n : Int).toNat = true := line_of (by omega)
  rw [Int.toNat_natCast] at e2
  simp only [itR1M, h, bindK, r1G, e1, e2, Bool.and_self, if_true, Int.toNat_natCast]
theorem F_simplex_drawn {ns : List Int} {a b c : Int} {n1 n2 : Nat} {most : Nat} {size : Int} (hm : 1 ≤ most) (hm2 : most ≤ 100) (hs : 0 < size) (hs2 : size ≤ 100) (ha : 0 ≤ a) :
    ∃ l a' b' c', F__law_simplex [(1, row ns a b c), (n1, .int most), (n2, .int size)] = some ((B, sx l), [(1, row ns a' b' c')]) ∧ (Asc l ∧ (∀ v ∈ l, 0 ≤ v ∧ v < most) ∧ 1 ≤ l.length ∧ (l.length : Int) ≤ size) ∧ 0 ≤ a' := by
  obtain ⟨x, ys, e, l, a', b', c', rfl, rfl, h⟩ := fn_Wx (n := 6) (lm := [true, false, false]) (d := d__law_simplex) (xs := [(1, row ns a b c), (n1, .int most), (n2, .int size)]) (P := fun x ys => ∃ l a' b' c', x = (B, sx l) ∧ ys = [(1, row ns a' b' c')] ∧ (Asc l ∧ (∀ v ∈ l, 0 ≤ v ∧ v < most) ∧ 1 ≤ l.length ∧ (l.length : Int) ≤ size) ∧ 0 ≤ a') (by
    obtain ⟨t, a1, b1, c1, e0, ht, ha1⟩ := F_taken (ns := ns) (a := a) (b := b) (c := c) (m := size) (n := B) hs (by omega) ha
    obtain ⟨k, hk⟩ : ∃ k : Nat, (k : Int) = if 1 + t < most then 1 + t else most := ⟨(if 1 + t < most then 1 + t else (most : Int)).toNat, by split <;> omega⟩
    have hk1 : 1 ≤ k ∧ k ≤ most ∧ (k : Int) ≤ size := by split at hk <;> omega
    have e1 := lrg1_of (f := seeP (pName 1)) (s := [some (1, row ns a b c), some (n1, .int most), some (n2, .int size), none, none, none]) (m := most) (by simp_arith) (by omega)
    unfold d__law_simplex
    simp_arith! [e1]
    refine W_assoc (W_for (s0 := [some (1, row ns a1 b1 c1), some (n1, .int most), some (n2, .int size), some (B, .lst ((rgL most).map .int)), some (B, .lst []), none]) (fun i : Nat => (B, D.int (0 + (i : Nat)))) (fun pre s => ∃ a b c left found o, s = [some (1, row ns a b c), some (n1, .int most), some (n2, .int size), some (B, .lst (left.map .int)), some (B, .lst (found.map .int)), o] ∧ 0 ≤ a ∧ (found ++ left).Perm (rgL most) ∧ found.length = pre.length) (xs := List.range k) ?_ ⟨a1, b1, c1, rgL most, [], none, rfl, ha1, List.Perm.refl _, rfl⟩ ?_ ?_)
    · refine itR1M_of (m := B) ?_ (by omega)
      rw [hk]
      simp_arith [e0]
    · rintro pre i s ⟨r, hr⟩ ⟨a, b, c, left, found, o, rfl, ha, hp, hf⟩
      have hpl : pre.length < k := by
        have := congrArg List.length hr
        simp only [List.length_append, List.length_cons, List.length_range] at this
        omega
      have hll := hp.length_eq
      simp only [List.length_append, rgL, List.length_map, List.length_range] at hll
      have hlp : 0 < left.length := by omega
      obtain ⟨j, a', b', c', e, hj, ha'⟩ := F_taken (ns := ns) (a := a) (b := b) (c := c) (m := left.length) (n := B) (by omega) (by omega) ha
      have h3 : j.toNat < left.length := by omega
      have h4 := ixN_int (n := left.length) hj.1 hj.2
      have h5 : left[j.toNat]? = some left[j.toNat] := List.getElem?_eq_getElem h3
      have hpe := erase_perm h5
      generalize left[j.toNat] = x at h5 hpe
      have h6 : smI j = true := smI_of (by omega)
      have h7 : (left.map D.int).eraseIdx j.toNat = (left.eraseIdx j.toNat).map .int := erase_map _ _ _
      refine ⟨_, rfl, W_seq (s1 := [some (1, row ns a' b' c'), some (n1, .int most), some (n2, .int size), some (B, .lst ((left.eraseIdx j.toNat).map .int)), some (B, .lst ((found ++ [x]).map .int)), some (B, .int (0 + (i : Nat)))]) ?_ ⟨_, rfl, a', b', c', _, _, _, rfl, ha', ?_, by simp [hf]⟩⟩
      · rw [← h7, show (found ++ [x]).map D.int = found.map .int ++ [.int x] by simp]
        refine exS_ok (apM_ok (r := 4) (n := 999) (ds := found.map .int) (d := .int x) (m := B) rfl (poM_ok (r := 3) (n := 999) (ds := left.map .int) (j := j.toNat) (d := .int x) (i := j) (m := B) rfl (s1 := [some (1, row ns a' b' c'), some (n1, .int most), some (n2, .int size), some (B, .lst (left.map .int)), some (B, .lst (found.map .int)), some (B, .int (0 + (i : Nat)))]) ?_ rfl (by rw [List.length_map]; exact h4) (by rw [List.getElem?_map, h5]; rfl) h6) rfl (by rw [List.length_map]; omega))
        simp_arith [e]
      · rw [List.append_assoc]
        exact (List.Perm.append_left found hpe).trans hp
    rintro s' ⟨a2, b2, c2, left, found, o, rfl, ha2, hp, hf⟩
    rw [List.length_range] at hf
    have hnd : found.Nodup := ((hp.nodup_iff.mpr (rgL_nd most)).sublist (List.sublist_append_left found left))
    have e3 := sortedD_ints found
    simp_all! [e3]
    refine ⟨_, _, _, rfl, rfl, srtI found, a2, b2, c2, rfl, rfl, ⟨srtI_lt hnd, fun v hv => mem_rgL.mp (hp.mem_iff.mp (List.mem_append_left _ ((srtI_perm found).mem_iff.mp hv))), by rw [(srtI_perm found).length_eq]; omega, by rw [(srtI_perm found).length_eq]; omega⟩, ha2⟩)
  exact ⟨l, a', b', c', e, h⟩

theorem rgI_eq (n : Nat) : rgI 0 n = (rgL n).map fun i => (B, D.int i) := by simp [rgI, rgL]
theorem itR1_rg {f : S → Option D} {s : S} {n : Nat} (h : f s = some (.int n)) (hn : n ≤ 1000000) : itR1 f s = .ok ((rgL n).map fun i => (B, .int i)) s := by
  rw [itR1_of h hn, rgI_eq]
theorem itR1M_rg {f : S → Res It} {s s1 : S} {m n : Nat} (h : f s = .ok (m, .int n) s1) (hn : n ≤ 1000000) : itR1M f s = .ok ((rgL n).map fun i => (B, .int i)) s1 := by
  rw [itR1M_of h hn, rgI_eq]
theorem lcGo_inv {α : Type} {vs : List Nat} {g : It → S → Option S} {ft : S → Res Bool} {fe : S → Res It} (m : α → It) (I : S → Prop) (P : It → Prop)
    (h : ∀ x s, I s → ∃ s1 y s3, g (m x) s = some s1 ∧ ft s1 = .ok true s1 ∧ fe s1 = .ok y s3 ∧ P y ∧ I (wipeS s3 vs)) : ∀ (xs : List α) (s : S), I s →
    ∃ ys s', lcGo vs g ft fe (xs.map m) s = .ok ys s' ∧ ys.length = xs.length ∧ (∀ y ∈ ys, P y) ∧ I s'
  | [], s, i => ⟨[], s, rfl, rfl, by simp, i⟩
  | x :: xs, s, i => by
    obtain ⟨s1, y, s3, e1, e2, e3, p, i1⟩ := h x s i
    obtain ⟨ys, s', e4, l, q, i2⟩ := lcGo_inv m I P h xs _ i1
    refine ⟨y :: ys, s', ?_, by simp [l], ?_, i2⟩
    · show (match g (m x) s with
        | none => Res.bad
        | some s1 => match ft s1 with
          | .ok true s2 => match fe s2 with
            | .ok y s3 => match lcGo vs g ft fe (xs.map m) (wipeS s3 vs) with
              | .ok ys s4 => .ok (y :: ys) s4
              | _ => .bad
            | _ => .bad
          | .ok false s2 => lcGo vs g ft fe (xs.map m) (wipeS s2 vs)
          | _ => .bad) = _
      rw [e1]
      dsimp only
      rw [e2]
      dsimp only
      rw [e3]
      dsimp only
      rw [e4]
    · intro z hz
      rcases List.mem_cons.mp hz with rfl | hz
      · exact p
      · exact q z hz
theorem exists_map {α β : Type} {f : α → β} {p : α → Prop} : ∀ {ys : List β}, (∀ y ∈ ys, ∃ a, y = f a ∧ p a) → ∃ as : List α, ys = as.map f ∧ ∀ a ∈ as, p a
  | [], _ => ⟨[], rfl, by simp⟩
  | y :: ys, h => by
    obtain ⟨a, rfl, pa⟩ := h y List.mem_cons_self
    obtain ⟨as, rfl, q⟩ := exists_map (ys := ys) fun z hz => h z (List.mem_cons_of_mem _ hz)
    exact ⟨a :: as, rfl, fun z hz => by
      rcases List.mem_cons.mp hz with rfl | hz
      · exact pa
      · exact q z hz⟩
/-- what is drawn: ascending rows of numbers below most, of at most size -/
def Drw (most size : Int) (l : List Int) : Prop := Asc l ∧ (∀ v ∈ l, 0 ≤ v ∧ v < most) ∧ 1 ≤ l.length ∧ (l.length : Int) ≤ size
theorem wt_le {p : Nat} : ∀ {ls : List (List Int)}, (∀ l ∈ ls, l.length ≤ p) → wt ls ≤ ls.length * (2 ^ p - 1)
  | [], _ => Nat.zero_le _
  | l :: ls, h => by
    have h1 := wt_le (ls := ls) fun x hx => h x (List.mem_cons_of_mem _ hx)
    have h2 := Nat.pow_le_pow_right (n := 2) (by omega) (h l List.mem_cons_self)
    show 2 ^ l.length - 1 + wt ls ≤ (ls.length + 1) * (2 ^ p - 1)
    rw [Nat.add_mul, Nat.one_mul]
    omega
theorem Drw.sort {most size : Int} {l : List Int} (nd : l.Nodup) (r : ∀ v ∈ l, 0 ≤ v ∧ v < most) (h1 : 1 ≤ l.length) (h2 : (l.length : Int) ≤ size) : Drw most size (srtI l) :=
  ⟨srtI_lt nd, fun v hv => r v ((srtI_perm l).mem_iff.mp hv), by rw [(srtI_perm l).length_eq]; exact h1, by rw [(srtI_perm l).length_eq]; exact h2⟩
theorem rgL_asc (m : Nat) : Asc (rgL m) := by
  unfold rgL
  exact List.pairwise_map.mpr (List.pairwise_lt_range.imp fun h => by omega)
theorem rgL_len (m : Nat) : (rgL m).length = m := by simp [rgL]

def sph (k : Nat) : List (List Int) := (rgL k).map fun i => (rgL k).filter fun v => !decide (v = i)
theorem c_sph_in {x0 x1 x2 x3 x5 x7 x8 : Option It} {k : Nat} {i : Int} (hk : k ≤ 1000) : c__law_simplices_1 [x0, x1, x2, x3, some (B, .int k), x5, some (B, .int i), x7, x8] = .ok (B, .lst (((rgL k).filter fun v => !decide (v = i)).map .int)) [x0, x1, x2, x3, some (B, .int k), x5, some (B, .int i), x7, x8] := by
  rw [c__law_simplices_1, lcM_map (s1 := [x0, x1, x2, x3, some (B, .int k), x5, some (B, .int i), x7, x8]) (fun v : Int => (B, .int v)) (fun v => !decide (v = i)) .int (xs := rgL k) (itR1_rg (by simp_arith) (by omega))]
  · simp [wipeS, restore]
  · intro v _
    refine ⟨_, rfl, ?_, rfl, fun _ => ?_⟩
    · simp_arith [wipeS]
    · simp_arith [wipeS]
theorem c_sph {x0 x1 x2 x3 x5 x6 x7 x8 : Option It} {k : Nat} (hk : k ≤ 1000) : c__law_simplices_2 [x0, x1, x2, x3, some (B, .int k), x5, x6, x7, x8] = .ok (B, .lst ((sph k).map sx)) [x0, x1, x2, x3, some (B, .int k), x5, x6, x7, x8] := by
  rw [c__law_simplices_2, lcM_all (s1 := [x0, x1, x2, x3, some (B, .int k), x5, x6, x7, x8]) (fun v : Int => (B, .int v)) (fun i => sx ((rgL k).filter fun v => !decide (v = i))) (xs := rgL k) (itR1_rg (by simp_arith) (by omega))]
  · simp [wipeS, restore, sph]
  · intro v _
    refine ⟨_, rfl, rfl, rfl, ?_⟩
    have e := @c_sph_in x0 x1 x2 x3 x5 x7 x8 k v hk
    simp_arith [wipeS, e]
    rfl
def cyc (k : Nat) : List (List Int) := (rgL k).map fun i => srtI [i, (i + 1) % k]
theorem c_cyc {x0 x1 x2 x3 x5 x6 x7 x8 : Option It} {k : Nat} (hk : k ≤ 1000) (hp : 0 < k) : c__law_simplices_4 [x0, x1, x2, x3, some (B, .int k), x5, x6, x7, x8] = .ok (B, .lst ((cyc k).map sx)) [x0, x1, x2, x3, some (B, .int k), x5, x6, x7, x8] := by
  rw [c__law_simplices_4, lcM_all (s1 := [x0, x1, x2, x3, some (B, .int k), x5, x6, x7, x8]) (fun v : Int => (B, .int v)) (fun i => sx (srtI [i, (i + 1) % k])) (xs := rgL k) (itR1_rg (by simp_arith) (by omega))]
  · simp [wipeS, restore, cyc]
  · intro v _
    refine ⟨_, rfl, rfl, rfl, ?_⟩
    have e := sortedD_ints [v, (v + 1) % k]
    have e2 : modD (.int (v + 1)) (.int k) = some (.int ((v + 1) % k)) := modD_int (by omega)
    simp only [List.map_cons, List.map_nil] at e
    simp_arith [wipeS, e, e2]
    rfl
def tor (l : List Int) : List (List Int) := l.flatMap fun i => [srtI [i, (i + 1) % 7, (i + 3) % 7], srtI [i, (i + 2) % 7, (i + 3) % 7]]
theorem c_simp {x3 x4 x5 x6 x7 x8 : Option It} {ns : List Int} {a b c : Int} {n1 n2 : Nat} {most : Nat} {size : Int} (hm : 1 ≤ most) (hm2 : most ≤ 100) (hs : 0 < size) (hs2 : size ≤ 100) (ha : 0 ≤ a) :
    ∃ (ls : List (List Int)) (a' b' c' : Int), c__law_simplices_5 [some (1, row ns a b c), some (n1, .int most), some (n2, .int size), x3, x4, x5, x6, x7, x8] = .ok (B, .lst (ls.map sx)) [some (1, row ns a' b' c'), some (n1, .int most), some (n2, .int size), x3, x4, x5, x6, x7, x8] ∧ ls.length ≤ 7 ∧ (∀ l ∈ ls, Drw most size l) ∧ 0 ≤ a' := by
  obtain ⟨t, a1, b1, c1, e0, ht, ha1⟩ := F_taken (ns := ns) (a := a) (b := b) (c := c) (m := 8) (n := B) (by omega) (by omega) ha
  obtain ⟨k, rfl⟩ : ∃ k : Nat, t = k := ⟨t.toNat, by omega⟩
  have e1 : itR1M (callF [some 0, none] F__law_taken (consL 0 (consM (ofV (fun _ => some (.int 8))) nilM))) [some (1, row ns a b c), some (n1, .int most), some (n2, .int size), x3, x4, x5, x6, x7, x8] = .ok ((rgL k).map fun i => (B, .int i)) [some (1, row ns a1 b1 c1), some (n1, .int most), some (n2, .int size), x3, x4, x5, x6, x7, x8] :=
    itR1M_rg (m := B) (by simp_arith [e0]) (by omega)
  obtain ⟨ys, s', e2, hl, hp, a2, b2, c2, rfl, ha2⟩ := lcGo_inv (vs := [7]) (g := gNm 7) (ft := fun s => .ok true s) (fe := callF [some 0, none, none] F__law_simplex (consL 0 (consM (ofP 1 (pName 1)) (consM (ofP 2 (pName 2)) nilM)))) (fun i : Int => (B, D.int i))
    (fun s => ∃ a b c, s = [some (1, row ns a b c), some (n1, .int most), some (n2, .int size), x3, x4, x5, x6, none, x8] ∧ 0 ≤ a) (fun y => ∃ l, y = (B, sx l) ∧ Drw most size l) (by
      rintro i s ⟨a, b, c, rfl, ha⟩
      obtain ⟨l, a', b', c', e, hl, ha'⟩ := F_simplex_drawn (ns := ns) (a := a) (b := b) (c := c) (n1 := B) (n2 := B) hm hm2 hs hs2 ha
      refine ⟨_, (B, sx l), [some (1, row ns a' b' c'), some (n1, .int most), some (n2, .int size), x3, x4, x5, x6, some (B, .int i), x8], rfl, rfl, ?_, ⟨l, rfl, hl⟩, a', b', c', rfl, ha'⟩
      simp_arith [e]) (rgL k) [some (1, row ns a1 b1 c1), some (n1, .int most), some (n2, .int size), x3, x4, x5, x6, none, x8] ⟨a1, b1, c1, rfl, ha1⟩
  obtain ⟨ls, rfl, hd⟩ := exists_map hp
  rw [List.length_map, rgL_len] at hl
  refine ⟨ls, a2, b2, c2, ?_, by omega, hd, ha2⟩
  rw [c__law_simplices_5, lcM_val e1 (show lcGo _ _ _ _ _ (wipeS _ [7]) = _ from e2), minDep_B _ _ fun _ _ => rfl]
  simp [restore]
theorem mem_sph {k : Nat} {l : List Int} (hk : 2 ≤ k) (h : l ∈ sph k) : Drw k (k - 1 : Nat) l := by
  obtain ⟨i, hi, rfl⟩ := List.mem_map.mp h
  have h1 := mem_rgL.mp hi
  refine ⟨(rgL_asc k).sublist List.filter_sublist, fun v hv => mem_rgL.mp (List.mem_filter.mp hv).1, ?_, ?_⟩
  · by_cases h0 : i = 0
    · exact List.length_pos_of_mem (a := 1) (List.mem_filter.mpr ⟨mem_rgL.mpr (by omega), by simp; omega⟩)
    · exact List.length_pos_of_mem (a := 0) (List.mem_filter.mpr ⟨mem_rgL.mpr (by omega), by simp; omega⟩)
  · have : ((rgL k).filter fun v => !decide (v = i)).length < (rgL k).length := by
      rw [List.length_filter_lt_length_iff_exists]
      exact ⟨i, hi, by simp⟩
    rw [rgL_len] at this
    omega
theorem mem_cyc {k : Nat} {l : List Int} (hk : 3 ≤ k) (h : l ∈ cyc k) : Drw k 2 l := by
  obtain ⟨i, hi, rfl⟩ := List.mem_map.mp h
  have h1 := mem_rgL.mp hi
  have h2 : 0 ≤ (i + 1) % k ∧ (i + 1) % k < k := ⟨Int.emod_nonneg _ (by omega), Int.emod_lt_of_pos _ (by omega)⟩
  have h3 : (i + 1) % k ≠ i := by
    by_cases q : i + 1 = k
    · rw [q, Int.emod_self]; omega
    · rw [Int.emod_eq_of_lt (by omega) (by omega)]; omega
  refine Drw.sort (by simp; omega) (fun v hv => ?_) (by simp) (by simp)
  simp only [List.mem_cons, List.not_mem_nil, or_false] at hv
  rcases hv with rfl | rfl <;> omega
theorem mem_tor {l : List Int} (h : l ∈ tor (rgL 7)) : Drw 7 3 l := by
  obtain ⟨i, hi, h⟩ := List.mem_flatMap.mp h
  have h1 := mem_rgL.mp hi
  simp only [List.mem_cons, List.not_mem_nil, or_false] at h
  rcases h with rfl | rfl
  · refine Drw.sort (by simp; omega) (fun v hv => ?_) (by simp) (by simp)
    simp only [List.mem_cons, List.not_mem_nil, or_false] at hv
    rcases hv with rfl | rfl | rfl <;> omega
  · refine Drw.sort (by simp; omega) (fun v hv => ?_) (by simp) (by simp)
    simp only [List.mem_cons, List.not_mem_nil, or_false] at hv
    rcases hv with rfl | rfl | rfl <;> omega

theorem Drw.mono {m s m' s' : Int} {l : List Int} (h : Drw m s l) (h1 : m ≤ m') (h2 : s ≤ s') : Drw m' s' l := ⟨h.1, fun v hv => ⟨(h.2.1 v hv).1, by have := (h.2.1 v hv).2; omega⟩, h.2.2.1, by have := h.2.2.2; omega⟩
/-- what a drawn row of simplices is -/
structure Dls (most size : Int) (ls : List (List Int)) : Prop where
  dr : ∀ l ∈ ls, Drw most size l
  ln : ls.length ≤ 14
  wt : wt ls ≤ 217
def pl6 : List (List Int) := [[0, 1, 2], [0, 1, 3], [0, 2, 4], [0, 3, 5], [0, 4, 5], [1, 2, 5], [1, 3, 4], [1, 4, 5], [2, 3, 4], [2, 3, 5]]
theorem dls_sph {k : Nat} {most size : Int} (hk : 2 ≤ k) (h1 : (k : Int) ≤ most) (h2 : (k : Int) ≤ size + 1) (h3 : size ≤ 5) : Dls most size (sph k) := by
  have hl : (sph k).length = k := by simp [sph, rgL_len]
  refine ⟨fun l hl => (mem_sph hk hl).mono h1 (by omega), by omega, ?_⟩
  have := wt_le (p := k - 1) (ls := sph k) fun l hl => by have := (mem_sph hk hl).2.2.2; omega
  rw [hl] at this
  have hk6 : k = 2 ∨ k = 3 ∨ k = 4 ∨ k = 5 ∨ k = 6 := by omega
  rcases hk6 with rfl | rfl | rfl | rfl | rfl <;> simp at this <;> omega
theorem dls_cyc {k : Nat} {most size : Int} (hk : 3 ≤ k) (h1 : (k : Int) ≤ most) (h2 : 2 ≤ size) (h3 : most ≤ 12) : Dls most size (cyc k) := by
  have hl : (cyc k).length = k := by simp [cyc, rgL_len]
  refine ⟨fun l hl => (mem_cyc hk hl).mono h1 (by omega), by omega, ?_⟩
  have := wt_le (p := 2) (ls := cyc k) fun l hl => by have := (mem_cyc hk hl).2.2.2; omega
  rw [hl] at this
  omega
theorem dls_tor {most size : Int} (h1 : 7 ≤ most) (h2 : 3 ≤ size) : Dls most size (tor (rgL 7)) := by
  have hl : (tor (rgL 7)).length = 14 := by
    simp only [tor, List.length_flatMap, List.length_cons, List.length_nil]
    rfl
  refine ⟨fun l hl => (mem_tor hl).mono h1 (by omega), by omega, ?_⟩
  have := wt_le (p := 3) (ls := tor (rgL 7)) fun l hl => by have := (mem_tor hl).2.2.2; omega
  rw [hl] at this
  omega
theorem dls_pl6 {most size : Int} (h1 : 6 ≤ most) (h2 : 3 ≤ size) : Dls most size pl6 := by
  refine ⟨fun l hl => Drw.mono (m := 6) (s := 3) ?_ h1 h2, by decide, by decide⟩
  revert l hl
  unfold Drw
  decide
theorem dls_simp {most size : Int} {ls : List (List Int)} (h : ∀ l ∈ ls, Drw most size l) (hl : ls.length ≤ 7) (h3 : size ≤ 5) : Dls most size ls := by
  refine ⟨h, by omega, ?_⟩
  have := wt_le (p := 5) (ls := ls) fun l hl => by have := (h l hl).2.2.2; omega
  omega
theorem F_simplices_drawn {ns : List Int} {a b c : Int} {n1 n2 : Nat} {most : Nat} {size : Int} (hm : 2 ≤ most) (hm2 : most ≤ 12) (hs : 2 ≤ size) (hs2 : size ≤ 5) (ha : 0 ≤ a) :
    ∃ (ls : List (List Int)) (a' b' c' : Int), F__law_simplices [(1, row ns a b c), (n1, .int most), (n2, .int size)] = some ((B, .tup (ls.map sx)), [(1, row ns a' b' c')]) ∧ Dls most size ls ∧ 0 ≤ a' := by
  obtain ⟨x, ys, e, l, a', b', c', rfl, rfl, h⟩ := fn_Wx (n := 9) (lm := [true, false, false]) (d := d__law_simplices) (xs := [(1, row ns a b c), (n1, .int most), (n2, .int size)]) (P := fun x ys => ∃ (l : List (List Int)) (a' b' c' : Int), x = (B, .tup (l.map sx)) ∧ ys = [(1, row ns a' b' c')] ∧ Dls most size l ∧ 0 ≤ a') (by
    obtain ⟨w, a1, b1, c1, e0, hw, ha1⟩ := F_taken (ns := ns) (a := a) (b := b) (c := c) (m := 9) (n := B) (by omega) (by omega) ha
    unfold d__law_simplices
    simp_arith! [e0]
    by_cases w0 : w = 0
    · subst w0
      simp_all_arith
      obtain ⟨t, a2, b2, c2, e1, ht, ha2⟩ := F_taken (ns := ns) (a := a1) (b := b1) (c := c1) (m := if size < (most : Int) - 1 then size else (most : Int) - 1) (n := B) (by split <;> omega) (by split <;> omega) ha1
      simp_arith! [e1]
      obtain ⟨k, hk⟩ : ∃ k : Nat, (k : Int) = 2 + t := ⟨(2 + t).toNat, by omega⟩
      rw [← hk]
      have hk2 : (k : Int) ≤ most ∧ (k : Int) ≤ size + 1 := by split at ht <;> omega
      have e2 := fun x0 x1 x2 x3 x5 x6 x7 x8 => @c_sph x0 x1 x2 x3 x5 x6 x7 x8 k (by omega)
      simp_all! [e2]
      exact ⟨_, _, _, rfl, rfl, sph k, a2, b2, c2, rfl, rfl, dls_sph (by omega) hk2.1 hk2.2 hs2, ha2⟩
    simp_all_arith! [w0]
    repeat with_reducible (first | refine W_assoc ?_ | refine W_nil ?_)
    refine W_ifD (mAndT_ok (by simp_arith; exact Iff.rfl) (mAndT_ok (by simp_arith; exact Iff.rfl) (by simp_arith; exact Iff.rfl))) ?_ ?_
    · rintro ⟨rfl, h5, h6⟩
      simp_all!
      exact ⟨_, _, _, rfl, rfl, pl6, a1, b1, c1, rfl, rfl, dls_pl6 (by omega) (by omega), ha1⟩
    intro w1
    repeat with_reducible (first | refine W_assoc ?_ | refine W_nil ?_)
    refine W_ifD (mAndT_ok (by simp_arith; exact Iff.rfl) (mAndT_ok (by simp_arith; exact Iff.rfl) (by simp_arith; exact Iff.rfl))) ?_ ?_
    · rintro ⟨rfl, h5, h6⟩
      simp_arith!
      repeat with_reducible (first | refine W_assoc ?_ | refine W_nil ?_)
      refine W_for (s0 := [some (1, row ns a1 b1 c1), some (n1, .int most), some (n2, .int size), some (B, .int 2), none, some (B, .lst []), none, none, none]) (fun i : Int => (B, D.int i)) (fun pre s => ∃ o, s = [some (1, row ns a1 b1 c1), some (n1, .int most), some (n2, .int size), some (B, .int 2), none, some (B, .lst ((tor pre).map sx)), o, none, none] ∧ (tor pre).length = 2 * pre.length) (xs := rgL 7) (itR1_rg (by simp_arith) (by omega)) ⟨none, rfl, rfl⟩ ?_ ?_
      · rintro pre i s ⟨r, hr⟩ ⟨o, rfl, hl⟩
        have hp : pre.length < 7 := by
          have := congrArg List.length hr
          simp only [List.length_append, List.length_cons, rgL_len] at this
          omega
        have e1 := sortedD_ints [i, (i + 1) % 7, (i + 3) % 7]
        have e2 := sortedD_ints [i, (i + 2) % 7, (i + 3) % 7]
        simp only [List.map_cons, List.map_nil] at e1 e2
        have e3 : ∀ j, modD (.int j) (.int 7) = some (.int (j % 7)) := fun j => modD_int (by omega)
        refine ⟨_, rfl, ?_⟩
        have t1 : (tor pre).length < 16777216 := by omega
        have t2 : (tor pre).length + 1 < 16777216 := by omega
        simp_arith! [apM, isL, e1, e3, t1, PySem.sizeLine]
        simp_arith! [apM, isL, e2, e3, t2, PySem.sizeLine]
        refine ⟨_, rfl, some (B, .int i), ?_, ?_⟩
        · simp [tor, sx]
          rfl
        · simp [tor] at hl ⊢
          omega
      · rintro s ⟨o, rfl, hl⟩
        simp_all!
        exact ⟨_, _, _, rfl, rfl, tor (rgL 7), a1, b1, c1, rfl, rfl, dls_tor (by omega) (by omega), ha1⟩
    intro w2
    repeat with_reducible (first | refine W_assoc ?_ | refine W_nil ?_)
    refine W_ifD (mAndT_ok (by simp_arith; exact Iff.rfl) (mAndT_ok (by simp_arith; exact Iff.rfl) (by simp_arith; exact Iff.rfl))) ?_ ?_
    · rintro ⟨rfl, h5, h6⟩
      obtain ⟨t, a2, b2, c2, e1, ht, ha2⟩ := F_taken (ns := ns) (a := a1) (b := b1) (c := c1) (m := (most : Int) - 2) (n := B) (by omega) (by omega) ha1
      simp_arith! [e1]
      obtain ⟨k, hk⟩ : ∃ k : Nat, (k : Int) = 3 + t := ⟨(3 + t).toNat, by omega⟩
      rw [← hk]
      have e2 := fun x0 x1 x2 x3 x5 x6 x7 x8 => @c_cyc x0 x1 x2 x3 x5 x6 x7 x8 k (by omega) (by omega)
      simp_all! [e2]
      exact ⟨_, _, _, rfl, rfl, cyc k, a2, b2, c2, rfl, rfl, dls_cyc (by omega) (by omega) hs (by omega), ha2⟩
    intro w3
    obtain ⟨ls, a2, b2, c2, e1, hl, hd, ha2⟩ := c_simp (x3 := some (B, .int w)) (x4 := none) (x5 := none) (x6 := none) (x7 := none) (x8 := none) (ns := ns) (a := a1) (b := b1) (c := c1) (n1 := n1) (n2 := n2) (most := most) (size := size) (by omega) (by omega) (by omega) (by omega) ha1
    simp_all! [e1]
    exact ⟨_, _, _, rfl, rfl, ls, a2, b2, c2, rfl, rfl, dls_simp hd hl hs2, ha2⟩)
  exact ⟨l, a', b', c', e, h⟩

def leaf : D → Prop
  | .int _ => True
  | .bl _ => True
  | .non => True
  | _ => False
def shp : Nat → D → Prop
  | 0, d => leaf d
  | k + 1, d => leaf d ∨ ∃ ds, d = .tup ds ∧ ds.length ≤ 1000000 ∧ isImmL ds = true ∧ ∀ x ∈ ds, shp k x
theorem alike_leaf {k n m : Nat} {d : D} (h : leaf d) : F__law_alike (k + 1) [(n, d), (m, d)] = some ((B, .bl true), []) := by
  cases d with
  | int i => simp_arith [F__law_alike, d__law_alike, isN, isaS]
  | bl b => simp_arith [F__law_alike, d__law_alike, isN, isaS]
  | non => simp_arith [F__law_alike, d__law_alike, isN, isaS, eqB]; rfl
  | _ => exact h.elim
theorem imm_mem {ds : List D} {d : D} (h : isImmL ds = true) (hd : d ∈ ds) : isImm d = true := isImmL_mem.mp h d hd
theorem c_alike {fr : Fd} {n m : Nat} {d : D} {ds : List D} (hd : d = .tup ds ∨ d = .lst ds) (hi : isImmL ds = true) (hl : ds.length ≤ 1000000) (h : ∀ x ∈ ds, fr [(B, x), (B, x)] = some ((B, .bl true), [])) : c__law_alike_1 fr [some (n, d), some (m, d), none] = .ok (B, .lst []) [some (n, d), some (m, d), none] := by
  have hk : kids d = ds := by rcases hd with rfl | rfl <;> rfl
  have hx : ∀ i, kidIx d (.int i) = ixN ds.length i := by rcases hd with rfl | rfl <;> exact fun _ => rfl
  have hl2 : lenD [d] = some (.int ds.length) := by rcases hd with rfl | rfl <;> rfl
  rw [c__law_alike_1, lcM_map (s1 := [some (n, d), some (m, d), none]) (fun v : Int => (B, .int v)) (fun _ => false) (fun v => .int v) (xs := rgL ds.length) (itR1_rg (by simp_arith [hl2]) (by omega))]
  · simp [wipeS, restore]
  · intro v hv
    have hv' := mem_rgL.mp hv
    have e1 := ixN_int hv'.1 hv'.2
    have hlt : v.toNat < ds.length := by omega
    have e2 : ds[v.toNat]? = some ds[v.toNat] := List.getElem?_eq_getElem hlt
    have hm : ds[v.toNat] ∈ ds := List.getElem_mem hlt
    generalize ds[v.toNat] = x at e2 hm
    have e3 := imm_mem hi hm
    have e4 := h x hm
    refine ⟨_, rfl, ?_, rfl, fun q => nomatch q⟩
    simp_arith [wipeS, hx, hk, e1, e2, e3, e4]
theorem alike_tup {k n m : Nat} {ds : List D} (hi : isImmL ds = true) (hl : ds.length ≤ 1000000) (h : ∀ x ∈ ds, F__law_alike k [(B, x), (B, x)] = some ((B, .bl true), [])) : F__law_alike (k + 1) [(n, .tup ds), (m, .tup ds)] = some ((B, .bl true), []) := by
  have e := c_alike (n := n) (m := m) (.inl rfl) hi hl h
  refine fn_W ?_
  unfold d__law_alike
  simp_all_arith [isaS]
  simp_all_arith! [isaS]
  simp_all_arith! [isaS]
  simp_all! [e, isaS, eqB_lst_nil]
  exact ⟨_, rfl, rfl⟩
theorem alike_lst {k n m : Nat} {ds : List D} (hi : isImmL ds = true) (hl : ds.length ≤ 1000000) (h : ∀ x ∈ ds, F__law_alike k [(B, x), (B, x)] = some ((B, .bl true), [])) : F__law_alike (k + 1) [(n, .lst ds), (m, .lst ds)] = some ((B, .bl true), []) := by
  have e := c_alike (n := n) (m := m) (.inr rfl) hi hl h
  refine fn_W ?_
  unfold d__law_alike
  simp_all_arith [isaS]
  simp_all_arith! [isaS]
  simp_all_arith! [isaS]
  simp_all! [e, isaS, eqB_lst_nil]
  exact ⟨_, rfl, rfl⟩
theorem alike_shp : ∀ {j k n m : Nat} {d : D}, j < k → shp j d → F__law_alike k [(n, d), (m, d)] = some ((B, .bl true), [])
  | 0, k + 1, n, m, d, _, h => alike_leaf h
  | j + 1, k + 1, n, m, d, hj, h => by
    rcases h with h | ⟨ds, rfl, hl, hi, hs⟩
    · exact alike_leaf h
    · exact alike_tup hi hl fun x hx => alike_shp (by omega) (hs x hx)
theorem shp_int (i : Int) (k : Nat) : shp k (.int i) := by
  cases k with
  | zero => trivial
  | succ k => exact .inl trivial
theorem shp_sx (l : List Int) (h : l.length ≤ 1000000) : shp 1 (sx l) := .inr ⟨_, rfl, by simpa using h, immL_ints l, fun x hx => by
  obtain ⟨i, _, rfl⟩ := List.mem_map.mp hx; exact shp_int i 0⟩
theorem lalike_sx {n m : Nat} {l : List Int} (h : l.length ≤ 1000000) : F__law_alike 4 [(n, .tup (l.map .int)), (m, .tup (l.map .int))] = some ((B, .bl true), []) := alike_shp (j := 1) (by omega) (shp_sx l h)
theorem lalike_lint {n m : Nat} {l : List Int} (h : l.length ≤ 1000000) : F__law_alike 4 [(n, .lst (l.map .int)), (m, .lst (l.map .int))] = some ((B, .bl true), []) := alike_lst (immL_ints l) (by simpa using h) fun x hx => by
  obtain ⟨i, _, rfl⟩ := List.mem_map.mp hx; exact alike_leaf trivial
theorem lalike_int {n m : Nat} (i : Int) : F__law_alike 4 [(n, .int i), (m, .int i)] = some ((B, .bl true), []) := alike_leaf trivial
theorem lalike_lsx {n m : Nat} {ls : List (List Int)} (h : ls.length ≤ 1000000) (hl : ∀ l ∈ ls, l.length ≤ 1000000) : F__law_alike 4 [(n, .lst (ls.map sx)), (m, .lst (ls.map sx))] = some ((B, .bl true), []) := alike_lst (immL_sxs ls) (by simpa using h) fun x hx => by
  obtain ⟨l, hm, rfl⟩ := List.mem_map.mp hx
  exact alike_shp (j := 1) (by omega) (shp_sx l (hl l hm))
theorem lalike_tsx {n m : Nat} {ls : List (List Int)} (h : ls.length ≤ 1000000) (hl : ∀ l ∈ ls, l.length ≤ 1000000) : F__law_alike 4 [(n, .tup (ls.map sx)), (m, .tup (ls.map sx))] = some ((B, .bl true), []) := alike_tup (immL_sxs ls) (by simpa using h) fun x hx => by
  obtain ⟨l, hm, rfl⟩ := List.mem_map.mp hx
  exact alike_shp (j := 1) (by omega) (shp_sx l (hl l hm))

theorem c_faces_1 {x0 x1 x2 o5 x6 : Option It} {p : Nat} {v : Int} {xs : List (List Int)} (hx : ∀ x ∈ xs, x.length ≤ 1000) : c__law_faces_1 [x0, x1, x2, some (p, .lst (xs.map sx)), some (B, .int v), o5, x6] = .ok (B, .lst (xs.map fun x => sx (x ++ [v]))) [x0, x1, x2, some (0, .lst (xs.map sx)), some (B, .int v), o5, x6] := by
  rw [c__law_faces_1, lcM_all (s1 := [x0, x1, x2, some (0, .lst (xs.map sx)), some (B, .int v), o5, x6]) (fun x : List Int => (B, sx x)) (fun x => sx (x ++ [v])) (xs := xs) (by simp_arith)]
  · simp [wipeS, restore]
  · intro x h
    refine ⟨_, rfl, rfl, rfl, ?_⟩
    have hl := hx x h
    have e : addD (sx x) (.tup [.int v]) = some (sx (x ++ [v])) := addD_sx x [v] (by simp; omega)
    simp_arith [wipeS, e]
theorem c_faces_5 {x0 x2 x3 x4 x5 x6 : Option It} {gs : List (List Int)} : c__law_faces_5 [x0, some (B, dsx gs), x2, x3, x4, x5, x6] = .ok (B, .lst (gs.map lx)) [x0, some (B, dsx gs), x2, x3, x4, x5, x6] := by
  rw [c__law_faces_5, lcM_all (s1 := [x0, some (B, dsx gs), x2, x3, x4, x5, x6]) (fun x : List Int => (B, sx x)) lx (xs := gs) (by simp_arith)]
  · simp [wipeS, restore]
  · intro x hx
    refine ⟨_, rfl, rfl, rfl, ?_⟩
    simp_arith [wipeS]
    rfl
theorem put_loopW {x0 x2 x3 x4 x6 : Option It} {g0 : List (List Int)} (ps : List (List Int)) (hl : g0.length + ps.length < 16777216) (o : Option It) :
    ∃ s', forGo (gNm 5) b__law_faces_3 (ps.map fun x => (B, sx x)) [x0, some (B, dsx g0), x2, x3, x4, o, x6] = .nx s' ∧ ∃ o', s' = [x0, some (B, dsx (putAll g0 ps)), x2, x3, x4, o', x6] := by
  refine forGo_of (fun x => (B, sx x)) (fun pre s => ∃ o', s = [x0, some (B, dsx (putAll g0 pre)), x2, x3, x4, o', x6]) ⟨o, rfl⟩ ?_
  rintro pre x s ⟨r, hr⟩ ⟨o', rfl⟩
  have h1 := len_putAll (acc := g0) (xs := pre)
  have h2 : pre.length < ps.length := by
    have := congrArg List.length hr
    simp only [List.length_append, List.length_cons] at this
    omega
  have e := @storeD_dsx 999 B (putAll g0 pre) x (by omega)
  have e2 : putAll g0 (pre ++ [x]) = putS (putAll g0 pre) x := by simp [putAll]
  refine ⟨_, _, rfl, ?_, ⟨some (B, sx x), rfl⟩⟩
  rw [e2]
  simp_arith [e]
  rfl
theorem F_law_faces {n : Nat} {d : D} {ls : List (List Int)} (hd : d = .tup (ls.map sx) ∨ d = .lst (ls.map sx)) (h : ∀ l ∈ ls, l.length ≤ 8) (hw : wt ls ≤ 10000) : F__law_faces [(n, d)] = some ((B, .lst ((srtL (genW ls)).map sx)), []) := by
  refine fn_W ?_
  unfold d__law_faces
  have eI : ∃ n', ∀ x1 x2 x3 x4 x5 x6, itM (ofP 0 (pName 0)) [some (n, d), x1, x2, x3, x4, x5, x6] = .ok (ls.map fun x => (B, sx x)) [some (n', d), x1, x2, x3, x4, x5, x6] := by
    rcases hd with rfl | rfl
    · exact ⟨n, fun _ _ _ _ _ _ => by simp_arith⟩
    · exact ⟨0, fun _ _ _ _ _ _ => by simp_arith⟩
  obtain ⟨n', eI⟩ := eI
  simp_arith! [newD, dsx_nil]
  repeat with_reducible (first | refine W_assoc ?_ | refine W_nil ?_)
  refine W_for (s0 := [some (n', d), some (B, dsx []), none, none, none, none, none]) (fun x : List Int => (B, sx x)) (fun pre s => ∃ o2 o3 o4 o5, s = [some (n', d), some (B, dsx (genW pre)), o2, o3, o4, o5, none]) (xs := ls) (eI _ _ _ _ _ _) ⟨none, none, none, none, rfl⟩ ?_ ?_
  · rintro pre l s ⟨r, hr⟩ ⟨o2, o3, o4, o5, rfl⟩
    have hl8 : l.length ≤ 8 := h l (by rw [hr]; simp)
    have hw1 : wt (pre ++ [l]) ≤ 10000 := Nat.le_trans wt_pre (hr ▸ hw)
    have hg := genW_len (pre ++ [l])
    have hg0 : (genW pre).length ≤ 10000 := by
      have := genW_len pre
      have : wt pre ≤ wt (pre ++ [l]) := by
        simp only [wt, List.map_append, List.sum_append]
        omega
      omega
    refine ⟨_, rfl, ?_⟩
    simp_arith!
    repeat with_reducible (first | refine W_assoc ?_ | refine W_nil ?_)
    refine W_for (s0 := [some (n', d), some (B, dsx (genW pre)), some (B, sx l), some (B, .lst [.tup []]), o4, o5, none]) (fun v : Int => (B, .int v)) (fun q s => ∃ o4 o5 p, s = [some (n', d), some (B, dsx (genW pre)), some (B, sx l), some (p, .lst ((pw q).map sx)), o4, o5, none]) (xs := l) (by simp_arith) ⟨o4, o5, _, rfl⟩ ?_ ?_
    · rintro q v s ⟨r', hr'⟩ ⟨o4, o5, p, rfl⟩
      have hq : q.length < 8 := by
        have := congrArg List.length hr'
        simp only [List.length_append, List.length_cons] at this
        omega
      have e1 := fun x0 x1 x2 o5 x6 p => @c_faces_1 x0 x1 x2 o5 x6 p v (pw q) fun x hx => by
        have := (mem_pw.mp hx).length_le
        omega
      have hpl : (pw q).length ≤ 128 := by
        rw [pw_len]
        exact Nat.pow_le_pow_right (n := 2) (by omega) (show q.length ≤ 7 by omega)
      have e2 : line ((pw q).length + (pw q).length) = true := line_of (by omega)
      have e3 : isImmL ((pw q).map fun x => sx (x ++ [v])) = true := immL_of fun z hz => by
        obtain ⟨x, _, rfl⟩ := List.mem_map.mp hz
        exact imm_sx _
      refine ⟨_, rfl, ?_⟩
      simp_arith! [e1, e2, e3]
      refine ⟨_, rfl, some (B, .int v), o5, B, ?_⟩
      rw [pw_snoc, List.map_append, List.map_map]
      rfl
    · rintro s ⟨o4, o5, p, rfl⟩
      obtain ⟨s', e1, o2, rfl⟩ := put_loopW (x0 := some (n', d)) (x2 := some (B, sx l)) (x3 := some (p, .lst ((pw l).map sx))) (x4 := o4) (x6 := none) (g0 := genW pre) (parts l) (by rw [parts_len]; have := Nat.pow_le_pow_right (n := 2) (by omega) hl8; omega) o5
      have e2 : itM (ofV (slV (seeP (pName 3)) (partO fun _ => some (.int 1)) noO)) [some (n', d), some (B, dsx (genW pre)), some (B, sx l), some (p, .lst ((pw l).map sx)), o4, o5, none] = .ok ((parts l).map fun x => (B, sx x)) [some (n', d), some (B, dsx (genW pre)), some (B, sx l), some (p, .lst ((pw l).map sx)), o4, o5, none] := by
        simp_arith
        rw [← List.map_tail]
        exact itD_lsx _ _
      refine W_seq ((forS_ok e2).trans e1) ⟨_, rfl, _, _, _, _, by rw [genW_snoc]⟩
  · rintro s ⟨o2, o3, o4, o5, rfl⟩
    have e1 := fun x0 x2 x3 x4 x5 x6 => @c_faces_5 x0 x2 x3 x4 x5 x6 (genW ls)
    have e2 := sortedD_lxs (genW ls)
    have e3 : c__law_faces_6 [some (n', d), some (B, dsx (genW ls)), o2, o3, o4, o5, none] = .ok (B, .lst ((srtL (genW ls)).map sx)) [some (n', d), some (B, dsx (genW ls)), o2, o3, o4, o5, none] := by
      rw [c__law_faces_6, lcM_all (s1 := [some (n', d), some (B, dsx (genW ls)), o2, o3, o4, o5, none]) (fun x : List Int => (B, lx x)) sx (xs := srtL (genW ls)) (by simp_arith [e1, e2])]
      · simp [wipeS, restore]
      · intro x hx
        refine ⟨_, rfl, rfl, rfl, ?_⟩
        simp only [lx]
        simp_arith [wipeS, ixN]
    simp_all! [e3]
    exact ⟨_, rfl, rfl⟩
/-- the facets, by the law -/
def cov (x y : List Int) : Bool := decide (y.length = x.length + 1 ∧ ∀ v ∈ x, v ∈ y)
def isTop (fs : List (List Int)) (x : List Int) : Bool := (fs.filter (cov x)).isEmpty
theorem F_law_at {n m : Nat} {fs : List (List Int)} {d : Nat} : F__law_at [(n, .lst (fs.map sx)), (m, .int d)] = some ((B, .lst ((fs.filter fun x => decide (x.length = d + 1)).map sx)), []) := by
  refine fn_W ?_
  unfold d__law_at
  have e : c__law_at_1 [some (n, .lst (fs.map sx)), some (m, .int d), none] = .ok (B, .lst ((fs.filter fun x => decide (x.length = d + 1)).map sx)) [some (0, .lst (fs.map sx)), some (m, .int d), none] := by
    rw [c__law_at_1, lcM_map (s1 := [some (0, .lst (fs.map sx)), some (m, .int d), none]) (fun y : List Int => (B, sx y)) (fun x => decide (x.length = d + 1)) sx (xs := fs) (by simp_arith)]
    · simp [wipeS, restore]
    · intro y _
      refine ⟨_, rfl, ?_, rfl, fun _ => ?_⟩
      · simp_arith [wipeS]
        omega
      · simp_arith [wipeS]
  have e1 : negD (.int 1) = some (.int (-1)) := rfl
  have e2 : ((d : Int) = -1) ↔ False := iff_false_intro (by omega)
  simp_all! [e, e1, e2]
  exact ⟨_, rfl, rfl⟩
theorem mem_srtL {fs : List (List Int)} {x : List Int} : x ∈ srtL fs ↔ x ∈ fs := (srtL_perm fs).mem_iff
theorem faces_eq (ls : List (List Int)) : srtL (genW ls) = srtL (gen ls) := srtL_congr ((genW_faces ls).perm (gen_faces ls))
theorem facets_eq {fs : List (List Int)} (F : FS fs) : srtS ((srtL fs).filter (isTop (srtL fs))) = tops fs := by
  unfold tops
  refine srtS_congr ?_
  have e : (srtL fs).filter (isTop (srtL fs)) = (srtL fs).filter fun x => !decide (x ∈ inn fs) := by
    refine List.filter_congr fun x hx => ?_
    have hx' := mem_srtL.mp hx
    have h := mem_inn_iff F hx'
    unfold isTop
    rw [Bool.eq_iff_iff]
    simp only [List.isEmpty_iff, List.filter_eq_nil_iff, mem_srtL, cov, decide_eq_true_eq, Bool.not_eq_true', decide_eq_false_iff_not, h]
    constructor
    · rintro q ⟨t, ht, r⟩
      exact q t ht r
    · rintro q t ht r
      exact q ⟨t, ht, r⟩
  rw [e]
  exact (srtL_perm fs).filter _
theorem leB_one {a b : Int} (h : leB (lx [a]) (lx [b]) = true) : a ≤ b := by
  rw [leB_iff] at h
  have e : ∀ c : Int, tk (lx [c]) = PySem.W.keyToks (.tuple [.int 1, .tuple [.int c]]) := fun _ => rfl
  rw [e, e] at h
  simp only [PySem.W.keyToks, PySem.W.keyToksAll, List.cons_append, List.nil_append, PyProof.Rows.lexLt] at h
  simp [PyProof.Rows.itemOrd, itemLt] at h
  exact h
theorem verts_eq (fs : List (List Int)) : ((srtL fs).filter fun x => decide (x.length = 1)).map hd = vsI fs := by
  have p : (((srtL fs).filter fun x => decide (x.length = 1)).map hd).Perm (vsI fs) := (((srtL_perm fs).filter _).map hd).trans (srtI_perm _).symm
  refine p.eq_of_pairwise (le := (· ≤ ·)) (fun x y _ _ h1 h2 => by omega) ?_ (srtI_le _)
  have h : (srtL fs).Pairwise fun a b => leB (lx a) (lx b) = true := List.pairwise_mergeSort (le := fun a b => leB (lx a) (lx b)) (fun x y z => leB_trans (lx x) (lx y) (lx z)) (fun x y => leB_total (lx x) (lx y)) fs
  refine List.pairwise_map.mpr ((List.Pairwise.sublist List.filter_sublist h).imp_of_mem ?_)
  intro a b ha hb q
  have ha' : a.length = 1 := by simpa using (List.mem_filter.mp ha).2
  have hb' : b.length = 1 := by simpa using (List.mem_filter.mp hb).2
  match a, b, ha', hb' with
  | [x], [y], _, _ => exact leB_one q
theorem cntAt_srt (fs : List (List Int)) (d : Nat) : ((srtL fs).filter fun x => decide (x.length = d + 1)).length = cntAt fs d := ((srtL_perm fs).filter _).length_eq
theorem mx_srt (fs : List (List Int)) : mx (srtL fs) = mx fs := mx_congr fun _ => mem_srtL
theorem cnt_len (m : Nat) (fs : List (List Int)) : (cnt m fs).length = m := by simp [cnt]
theorem gen_same {ls ms : List (List Int)} (h : Faces (gen ls) ms) : tops (gen ms) = tops (gen ls) ∧ (gen ms).length = (gen ls).length := by
  have p := (gen_faces ms).perm h
  exact ⟨tops_congr (gen_faces ms).nd h.nd fun x => p.mem_iff, p.length_eq⟩

@[simp] theorem imm_cx (fs : List (List Int)) : isImm (cx fs) = false := rfl
@[simp] theorem isO_cx (fs : List (List Int)) : isO 0 (cx fs) = true := rfl
@[simp] theorem eqSelf_cx (fs : List (List Int)) : eqSelf 0 (cx fs) = true := rfl
@[simp] theorem eqSelf_tup (ds : List D) : eqSelf 0 (.tup ds) = true := rfl
theorem itR1_nat {f : S → Option D} {s : S} {n : Nat} (h : f s = some (.int n)) (hn : n ≤ 1000000) : itR1 f s = .ok ((List.range n).map fun i : Nat => (B, .int (i : Int))) s := by
  rw [itR1_rg h hn]
  simp [rgL]
theorem F_pick_sx {ns : List Int} {a b c : Int} {n : Nat} {l : List (List Int)} (hl : l ≠ []) (hl2 : l.length ≤ 1000) (ha : 0 ≤ a) : ∃ x a' b' c', F__law_pick [(1, row ns a b c), (n, .lst (l.map sx))] = some ((B, sx x), [(1, row ns a' b' c')]) ∧ x ∈ l ∧ 0 ≤ a' := by
  have hp : 0 < l.length := List.length_pos_iff.mpr hl
  obtain ⟨r, a', b', c', e, hr, ha'⟩ := F_taken (ns := ns) (a := a) (b := b) (c := c) (m := l.length) (n := B) (by omega) (by omega) ha
  have h3 : r.toNat < l.length := by omega
  have h4 := ixN_int (n := l.length) hr.1 hr.2
  have h5 : l[r.toNat]? = some l[r.toNat] := List.getElem?_eq_getElem h3
  refine ⟨l[r.toNat], a', b', c', ?_, List.getElem_mem h3, ha'⟩
  generalize l[r.toNat] = x at h5
  simp only [row] at *
  simp_arith [F__law_pick, d__law_pick, mIxB, e, h4, h5]
def mk (ls : List (List Int)) : List (List Int) := gen (tops (gen ls))
theorem sim_ne {l : List Int} (h : Sim l) : l ≠ [] := List.length_pos_iff.mp h.1.1
theorem sim_fs {ls : List (List Int)} (h : ∀ l ∈ ls, Sim l) : FS (gen ls) := (gen_faces ls).fs (fun l hl => (h l hl).2.2) fun l hl => (h l hl).1.2
theorem sim_sub {l x : List Int} (h : Sim l) (hn : x ≠ []) (s : x.Sublist l) : Sim x :=
  ⟨⟨List.length_pos_iff.mpr hn, Nat.le_trans s.length_le h.1.2⟩, fun v hv => h.2.1 v (s.subset hv), h.2.2.sublist s⟩
theorem sim_gen {ls : List (List Int)} (h : ∀ l ∈ ls, Sim l) : ∀ x ∈ gen ls, Sim x := fun x hx => by
  obtain ⟨hn, l, hl, s⟩ := ((gen_faces ls).mem x).mp hx
  exact sim_sub (h l hl) hn s
theorem sim_tops {ls : List (List Int)} (h : ∀ l ∈ ls, Sim l) : ∀ x ∈ tops (gen ls), Sim x := fun x hx => sim_gen h x (mem_tops.mp hx).1
theorem mk_faces {ls : List (List Int)} (h : ∀ l ∈ ls, Sim l) : Faces (mk ls) ls := by
  have F := sim_fs h
  refine ⟨(gen_faces _).nd, fun x => ?_⟩
  have p := (gen_faces (tops (gen ls))).perm (tops_faces F)
  show x ∈ gen (tops (gen ls)) ↔ _
  rw [p.mem_iff, (gen_faces ls).mem]
theorem mk_perm {ls : List (List Int)} (h : ∀ l ∈ ls, Sim l) : (mk ls).Perm (gen ls) := (mk_faces h).perm (gen_faces ls)
theorem mk_fs {ls : List (List Int)} (h : ∀ l ∈ ls, Sim l) : FS (mk ls) := (mk_faces h).fs (fun l hl => (h l hl).2.2) fun l hl => (h l hl).1.2
theorem tops_le (fs : List (List Int)) : (tops fs).length ≤ fs.length := by
  unfold tops
  rw [(srtS_perm _).length_eq]
  exact List.length_filter_le _ _
theorem srtL_sorted (fs : List (List Int)) : (srtL fs).Pairwise fun a b => leB (lx a) (lx b) = true := List.pairwise_mergeSort (le := fun a b => leB (lx a) (lx b)) (fun x y z => leB_trans (lx x) (lx y) (lx z)) (fun x y => leB_total (lx x) (lx y)) fs
theorem srtL_of {fs gs : List (List Int)} (p : gs.Perm fs) (h : gs.Pairwise fun a b => leB (lx a) (lx b) = true) : srtL fs = gs :=
  ((srtL_perm fs).trans p.symm).eq_of_pairwise (le := fun a b => leB (lx a) (lx b) = true) (fun x y _ _ h1 h2 => tk_lx (leB_anti h1 h2)) (srtL_sorted fs) h
theorem srtL_filter (fs : List (List Int)) (p : List Int → Bool) : srtL (fs.filter p) = (srtL fs).filter p := srtL_of ((srtL_perm fs).filter p) ((srtL_sorted fs).sublist List.filter_sublist)
theorem srtL_nd {fs : List (List Int)} (h : fs.Nodup) : (srtL fs).Nodup := (srtL_perm fs).nodup_iff.mpr h
theorem srtL_mem {a b : List (List Int)} (ha : a.Nodup) (hb : b.Nodup) (h : ∀ x, x ∈ a ↔ x ∈ b) : srtL a = srtL b := srtL_congr ((List.perm_ext_iff_of_nodup ha hb).mpr h)
/-- generators with the same parts -/
theorem srtL_mk {ls ms : List (List Int)} (h : ∀ l ∈ ls, Sim l) (e : ∀ x, (x ≠ [] ∧ ∃ l ∈ ls, x.Sublist l) ↔ (x ≠ [] ∧ ∃ l ∈ ms, x.Sublist l)) : srtL (mk ls) = srtL (genW ms) :=
  srtL_mem (mk_faces h).nd (genW_faces ms).nd fun x => ((mk_faces h).mem x).trans ((e x).trans ((genW_faces ms).mem x).symm)
/-- a part of a complex that is closed -/
theorem closed_faces {fs : List (List Int)} (F : FS fs) (p : List Int → Bool) (hp : ∀ x ∈ fs, p x = true → ∀ y, y ≠ [] → y.Sublist x → p y = true) : Faces (fs.filter p) (fs.filter p) := ⟨F.nd.filter _, fun x => by
  simp only [List.mem_filter]
  constructor
  · rintro ⟨h1, h2⟩
    exact ⟨F.ne x h1, x, ⟨h1, h2⟩, List.Sublist.refl _⟩
  · rintro ⟨h1, l, ⟨h2, h3⟩, s⟩
    exact ⟨F.dn l h2 x h1 s, hp l h2 h3 x h1 s⟩⟩
theorem srtL_mk_closed {fs : List (List Int)} (F : FS fs) (S : ∀ x ∈ fs, Sim x) (p : List Int → Bool) (hp : ∀ x ∈ fs, p x = true → ∀ y, y ≠ [] → y.Sublist x → p y = true) : srtL (mk (fs.filter p)) = (srtL fs).filter p := by
  rw [← srtL_filter]
  exact srtL_congr ((mk_faces fun x hx => S x (List.mem_filter.mp hx).1).perm (closed_faces F p hp))
theorem gen_closed {fs : List (List Int)} (F : FS fs) (p : List Int → Bool) (hp : ∀ x ∈ fs, p x = true → ∀ y, y ≠ [] → y.Sublist x → p y = true) : (gen (fs.filter p)).length ≤ fs.length := by
  rw [((gen_faces _).perm (closed_faces F p hp)).length_eq]
  exact List.length_filter_le _ _
theorem gen_sub {fs gs : List (List Int)} (F : FS fs) (h : ∀ g ∈ gs, g ∈ fs) : (gen gs).length ≤ fs.length :=
  List.Nodup.length_le_of_subset (gen_faces gs).nd fun x hx => by
    obtain ⟨hn, l, hl, s⟩ := ((gen_faces gs).mem x).mp hx
    exact F.dn l (h l hl) x hn s
theorem srtL_len (fs : List (List Int)) : (srtL fs).length = fs.length := (srtL_perm fs).length_eq

def chP (u : Int) (l : List Nat) : Int := l.foldl (fun (f : Int) (a : Nat) => f * (u - a) / (a + 1)) 1
def chI (u : Int) (l : Nat) : Int := chP u (List.range l)
theorem chP_snoc (u : Int) (l : List Nat) (a : Nat) : chP u (l ++ [a]) = chP u l * (u - a) / (a + 1) := by simp [chP]
theorem range_pre {n : Nat} {pre r : List Nat} {x : Nat} (h : List.range n = pre ++ x :: r) : pre.length = x ∧ x < n ∧ pre = List.range x := by
  have h0 : pre.length < n := by
    have := congrArg List.length h
    simp only [List.length_append, List.length_cons, List.length_range] at this
    omega
  have h1 : (List.range n)[pre.length]? = some x := by rw [h]; simp
  rw [List.getElem?_range h0] at h1
  have h2 : pre.length = x := by simpa using h1
  refine ⟨h2, by omega, ?_⟩
  have h3 : pre = (List.range n).take pre.length := by rw [h]; simp
  rw [h3, List.take_range, h2, Nat.min_eq_left (by omega)]
theorem F_choose_int {n m : Nat} {u : Int} {l : Nat} (hu : -1000 ≤ u ∧ u ≤ 1000) (hl : l ≤ 1000) : F_choose [(n, .int u), (m, .int l)] = some ((B, .int (chI u l)), []) := by
  refine fn_W ?_
  unfold d_choose
  simp_arith!
  repeat with_reducible (first | refine W_assoc ?_ | refine W_nil ?_)
  refine W_for (s0 := [some (n, .int u), some (m, .int l), some (B, .int 1), none]) (fun i : Nat => (B, .int (i : Int))) (fun pre s => ∃ o, s = [some (n, .int u), some (m, .int l), some (B, .int (chP u pre)), o]) (xs := List.range l) (itR1_nat (by simp_arith) (by omega)) ⟨none, rfl⟩ ?_ ?_
  · rintro pre i s ⟨r, hr⟩ ⟨o, rfl⟩
    have hi := (range_pre hr).2.1
    have e1 : mulD (.int (chP u pre)) (.int (u - i)) = some (.int (chP u pre * (u - i))) := mulD_int (.inr (small_of (by omega)))
    have e2 : ∀ z, fdivD (.int z) (.int ((i : Int) + 1)) = some (.int (z / (i + 1))) := fun z => fdivD_int (by omega) (by omega)
    refine ⟨_, rfl, ?_⟩
    simp_arith! [e1, e2]
    exact ⟨_, rfl, some (B, .int i), by rw [chP_snoc]⟩
  · rintro s ⟨o, rfl⟩
    simp_all! [mvM]
    exact ⟨_, rfl, rfl⟩
theorem F_law_choose_int {n m : Nat} {u : Int} {l : Nat} (hu : -1000 ≤ u ∧ u ≤ 1000) (hl : l ≤ 1000) : F__law_choose [(n, .int u), (m, .int l)] = some ((B, .int (chI u l)), []) := by
  refine fn_W ?_
  unfold d__law_choose
  simp_arith!
  repeat with_reducible (first | refine W_assoc ?_ | refine W_nil ?_)
  refine W_for (s0 := [some (n, .int u), some (m, .int l), some (B, .int 1), none]) (fun i : Nat => (B, .int (i : Int))) (fun pre s => ∃ o, s = [some (n, .int u), some (m, .int l), some (B, .int (chP u pre)), o]) (xs := List.range l) (itR1_nat (by simp_arith) (by omega)) ⟨none, rfl⟩ ?_ ?_
  · rintro pre i s ⟨r, hr⟩ ⟨o, rfl⟩
    have hi := (range_pre hr).2.1
    have e1 : mulD (.int (chP u pre)) (.int (u - i)) = some (.int (chP u pre * (u - i))) := mulD_int (.inr (small_of (by omega)))
    have e2 : ∀ z, fdivD (.int z) (.int ((i : Int) + 1)) = some (.int (z / (i + 1))) := fun z => fdivD_int (by omega) (by omega)
    refine ⟨_, rfl, ?_⟩
    simp_arith! [e1, e2]
    exact ⟨_, rfl, some (B, .int i), by rw [chP_snoc]⟩
  · rintro s ⟨o, rfl⟩
    simp_all! [mvM]
    exact ⟨_, rfl, rfl⟩
def sgn (j : Nat) : Int := if j % 2 = 0 then 1 else -1
def hTm (cs : List Int) (a k : Nat) : Int := chI ((cs.length - k : Nat) : Int) (a - k) * (1 :: cs).getD k 0 * sgn (a - k)
def hAt (cs : List Int) (a : Nat) : Int := ((List.range (a + 1)).map (hTm cs a)).sum
def hs (cs : List Int) : List Int := (List.range (cs.length + 1)).map (hAt cs)
theorem ch_small : ∀ u ≤ 8, ∀ l ≤ 8, (chI ((u : Nat) : Int) l).natAbs ≤ 1000 := by decide +kernel
theorem ch_sm {u l : Nat} (h1 : u ≤ 8) (h2 : l ≤ 8) : small (chI (u : Int) l) = true := small_of (by have := ch_small u h1 l h2; omega)
theorem lstD_ints (l : List Int) (h : l.length ≤ 1000) : lstD (l.map .int) = some (.lst (l.map .int)) := by
  unfold lstD
  rw [if_pos (by rw [immL_ints, line_of (by rw [List.length_map]; omega)]; rfl)]
theorem asc_pw {l m : List Int} (hl : Asc l) (hm : Asc m) (h : ∀ x ∈ l, x ∈ m) : l ∈ pw m := mem_pw.mpr (asc_sub hl hm h)
theorem nil_pw (l : List Int) : [] ∈ pw l := mem_pw.mpr (List.nil_sublist l)
/-- rows of numbers below k: at most so many -/
theorem fs_small {fs : List (List Int)} {k : Nat} (F : FS fs) (hk : ∀ x ∈ fs, ∀ v ∈ x, 0 ≤ v ∧ v < (k : Int)) : fs.length + 1 ≤ 2 ^ k := by
  have h : ([] :: fs).length ≤ (pw (rgL k)).length := List.Nodup.length_le_of_subset (List.nodup_cons.mpr ⟨fun q => F.ne _ q rfl, F.nd⟩) fun x hx => by
    rcases List.mem_cons.mp hx with rfl | hx
    · exact nil_pw _
    · exact asc_pw (F.asc x hx) (rgL_asc k) fun v hv => mem_rgL.mpr (hk x hx v hv)
  rw [pw_len, rgL_len] at h
  simpa using h
theorem sub_sim {fs : List (List Int)} {p : List Int → Bool} (S : ∀ x ∈ fs, Sim x) : ∀ x ∈ fs.filter p, Sim x := fun x hx => S x (List.mem_filter.mp hx).1
theorem alike_part {fs : List (List Int)} (F : FS fs) (hc : fs.length ≤ 217) (p : List Int → Bool) (n m : Nat) : F__law_alike 4 [(n, .lst (((srtL fs).filter p).map sx)), (m, .lst (((srtL fs).filter p).map sx))] = some ((B, .bl true), []) :=
  lalike_lsx (by
    have := List.length_filter_le p (srtL fs)
    rw [srtL_len] at this
    omega) fun l hl => by
    have := F.ln l (mem_srtL.mp (List.mem_filter.mp hl).1)
    omega
theorem vsI_mem {fs : List (List Int)} {v : Int} : v ∈ vsI fs ↔ [v] ∈ fs := by
  unfold vsI
  rw [(srtI_perm _).mem_iff]
  simp only [List.mem_map, List.mem_filter, decide_eq_true_eq]
  constructor
  · rintro ⟨x, ⟨hx, hl⟩, rfl⟩
    match x, hl with
    | [w], _ => exact hx
  · intro h
    exact ⟨[v], ⟨h, rfl⟩, rfl⟩

def rst (one x : List Int) : List Int := x.filter fun v => !decide (v ∈ one)
def wth (one x : List Int) : Bool := decide (∀ v ∈ one, v ∈ x)
def lkB (one x : List Int) : Bool := decide (0 < (rst one x).length ∧ (rst one x).length + one.length = x.length)
def lkL (one : List Int) (fs : List (List Int)) : List (List Int) := (fs.filter (lkB one)).map (rst one)
theorem mem_rst {one x : List Int} {v : Int} : v ∈ rst one x ↔ v ∈ x ∧ v ∉ one := by simp [rst]
theorem rst_len (one x : List Int) : (rst one x).length + (x.filter fun v => decide (v ∈ one)).length = x.length := by
  have h : ∀ x : List Int, (x.filter fun v => !decide (v ∈ one)).length + (x.filter fun v => decide (v ∈ one)).length = x.length := fun x => by
    induction x with
    | nil => rfl
    | cons a x ih => by_cases h : a ∈ one <;> simp [h] <;> omega
  exact h x
theorem lk_iff {one x : List Int} (h1 : Asc one) (h2 : Asc x) : lkB one x = true ↔ wth one x = true ∧ one.length < x.length := by
  have hs : (x.filter fun v => decide (v ∈ one)).Sublist one := asc_sub (h2.sublist List.filter_sublist) h1 fun v hv => by simpa using (List.mem_filter.mp hv).2
  have hl := rst_len one x
  simp only [lkB, wth, decide_eq_true_eq]
  constructor
  · rintro ⟨q1, q2⟩
    have e := hs.eq_of_length (by omega)
    refine ⟨fun v hv => ?_, by omega⟩
    rw [← e] at hv
    exact (List.mem_filter.mp hv).1
  · rintro ⟨q1, q2⟩
    have e : x.filter (fun v => decide (v ∈ one)) = one := asc_ext (h2.sublist List.filter_sublist) h1 fun v => by
      simp only [List.mem_filter, decide_eq_true_eq]
      exact ⟨fun q => q.2, fun q => ⟨q1 v q, q⟩⟩
    have := congrArg List.length e
    omega
theorem rst_inj {one a b : List Int} (ha : Asc a) (hb : Asc b) (h1 : wth one a = true) (h2 : wth one b = true) (e : rst one a = rst one b) : a = b := by
  simp only [wth, decide_eq_true_eq] at h1 h2
  refine asc_ext ha hb fun v => ?_
  have h := mem_rst (one := one) (x := a) (v := v)
  rw [e, mem_rst] at h
  by_cases q : v ∈ one
  · exact ⟨fun _ => h2 v q, fun _ => h1 v q⟩
  · constructor
    · intro m; exact (h.mpr ⟨m, q⟩).1
    · intro m; exact (h.mp ⟨m, q⟩).1
theorem mem_lkL {one : List Int} {fs : List (List Int)} {x : List Int} : x ∈ lkL one fs ↔ ∃ f ∈ fs, lkB one f = true ∧ rst one f = x := by
  simp only [lkL, List.mem_map, List.mem_filter, and_assoc]
theorem lk_closed {one : List Int} {fs : List (List Int)} (F : FS fs) (h1 : Asc one) : Faces (lkL one fs) (lkL one fs) := by
  refine ⟨?_, fun x => ?_⟩
  · unfold lkL
    refine List.pairwise_map.mpr ((List.Pairwise.imp_of_mem ?_ (F.nd.filter _)))
    intro a b ha hb q e
    have ha' := List.mem_filter.mp ha
    have hb' := List.mem_filter.mp hb
    exact q (rst_inj (F.asc a ha'.1) (F.asc b hb'.1) ((lk_iff h1 (F.asc a ha'.1)).mp ha'.2).1 ((lk_iff h1 (F.asc b hb'.1)).mp hb'.2).1 e)
  · constructor
    · intro h
      obtain ⟨f, hf, hl, rfl⟩ := mem_lkL.mp h
      have h0 := (of_decide_eq_true hl).1
      exact ⟨List.length_pos_iff.mp h0, _, h, List.Sublist.refl _⟩
    · rintro ⟨hn, l, hl, s⟩
      obtain ⟨f, hf, hk, rfl⟩ := mem_lkL.mp hl
      have af := F.asc f hf
      have hw := ((lk_iff h1 af).mp hk).1
      simp only [wth, decide_eq_true_eq] at hw
      have xs : ∀ v ∈ x, v ∈ f ∧ v ∉ one := fun v hv => mem_rst.mp (s.subset hv)
      have ax : Asc x := (af.sublist List.filter_sublist).sublist s
      have ag : Asc (f.filter fun v => decide (v ∈ one ∨ v ∈ x)) := af.sublist List.filter_sublist
      have mg : ∀ v, v ∈ f.filter (fun v => decide (v ∈ one ∨ v ∈ x)) ↔ v ∈ one ∨ v ∈ x := fun v => by
        simp only [List.mem_filter, decide_eq_true_eq]
        exact ⟨fun q => q.2, fun q => ⟨q.elim (hw v) fun m => (xs v m).1, q⟩⟩
      have er : rst one (f.filter fun v => decide (v ∈ one ∨ v ∈ x)) = x := asc_ext (ag.sublist List.filter_sublist) ax fun v => by
        rw [mem_rst, mg]
        exact ⟨fun q => q.1.elim (fun m => absurd m q.2) id, fun q => ⟨.inr q, (xs v q).2⟩⟩
      have hg : f.filter (fun v => decide (v ∈ one ∨ v ∈ x)) ≠ [] := fun e => by
        rw [e] at er
        exact hn er.symm
      refine mem_lkL.mpr ⟨_, F.dn f hf _ hg List.filter_sublist, ?_, er⟩
      refine (lk_iff h1 ag).mpr ⟨by simp only [wth, decide_eq_true_eq]; exact fun v hv => (mg v).mpr (.inl hv), ?_⟩
      have e1 := rst_len one (f.filter fun v => decide (v ∈ one ∨ v ∈ x))
      rw [er] at e1
      have e2 : (f.filter fun v => decide (v ∈ one ∨ v ∈ x)).filter (fun v => decide (v ∈ one)) = one := asc_ext (ag.sublist List.filter_sublist) h1 fun v => by
        rw [List.mem_filter, mg, decide_eq_true_eq]
        exact ⟨fun q => q.2, fun q => ⟨.inl q, q⟩⟩
      rw [e2] at e1
      have := List.length_pos_iff.mpr hn
      omega
theorem lkL_sim {one : List Int} {fs : List (List Int)} (h : ∀ x ∈ fs, Sim x) : ∀ x ∈ lkL one fs, Sim x := fun x hx => by
  obtain ⟨f, hf, hk, rfl⟩ := mem_lkL.mp hx
  exact sim_sub (h f hf) (List.length_pos_iff.mp (of_decide_eq_true hk).1) List.filter_sublist
def noB (v : Int) (x : List Int) : Bool := !decide (v ∈ x)
def shB (d : Int) (x : List Int) : Bool := decide ((x.length : Int) ≤ d + 1)
def amB (l x : List Int) : Bool := decide (∀ v ∈ x, v ∈ l)
theorem no_cl {v : Int} {fs : List (List Int)} : ∀ x ∈ fs, noB v x = true → ∀ y, y ≠ [] → y.Sublist x → noB v y = true := fun x _ h y _ s => by
  simp only [noB, Bool.not_eq_true', decide_eq_false_iff_not] at *
  exact fun q => h (s.subset q)
theorem sh_cl {d : Int} {fs : List (List Int)} : ∀ x ∈ fs, shB d x = true → ∀ y, y ≠ [] → y.Sublist x → shB d y = true := fun x _ h y _ s => by
  simp only [shB, decide_eq_true_eq] at *
  have := s.length_le
  omega
theorem am_cl {l : List Int} {fs : List (List Int)} : ∀ x ∈ fs, amB l x = true → ∀ y, y ≠ [] → y.Sublist x → amB l y = true := fun x _ h y _ s => by
  simp only [amB, decide_eq_true_eq] at *
  exact fun v hv => h v (s.subset hv)
theorem tops_sub {fs : List (List Int)} : ∀ x ∈ tops fs, x ∈ fs := fun x h => (mem_tops.mp h).1
theorem inn_app {fs gs : List (List Int)} : ∀ x : List Int, (∃ l ∈ tops fs ++ tops gs, x.Sublist l) ↔ (∃ l ∈ tops fs, x.Sublist l) ∨ ∃ l ∈ tops gs, x.Sublist l := fun x => by
  constructor
  · rintro ⟨l, h, s⟩
    exact (List.mem_append.mp h).elim (fun q => .inl ⟨l, q, s⟩) fun q => .inr ⟨l, q, s⟩
  · rintro (⟨l, h, s⟩ | ⟨l, h, s⟩)
    · exact ⟨l, List.mem_append_left _ h, s⟩
    · exact ⟨l, List.mem_append_right _ h, s⟩
theorem app_sim {fs gs : List (List Int)} (S : ∀ x ∈ fs, Sim x) (T : ∀ x ∈ gs, Sim x) : ∀ x ∈ tops fs ++ tops gs, Sim x := fun x h =>
  (List.mem_append.mp h).elim (fun q => S x (tops_sub x q)) fun q => T x (tops_sub x q)
/-- what a union holds -/
theorem un_mem {fs gs : List (List Int)} (F : FS fs) (G : FS gs) {x : List Int} : (x ≠ [] ∧ ∃ l ∈ tops fs ++ tops gs, x.Sublist l) ↔ x ∈ fs ∨ x ∈ gs := by
  constructor
  · rintro ⟨hx, h⟩
    rcases (inn_app x).mp h with h | h
    · exact .inl (((tops_faces F).mem x).mpr ⟨hx, h⟩)
    · exact .inr (((tops_faces G).mem x).mpr ⟨hx, h⟩)
  · rintro (h | h)
    · have := ((tops_faces F).mem x).mp h
      exact ⟨this.1, (inn_app x).mpr (.inl this.2)⟩
    · have := ((tops_faces G).mem x).mp h
      exact ⟨this.1, (inn_app x).mpr (.inr this.2)⟩
theorem un_gen {fs gs : List (List Int)} (F : FS fs) (G : FS gs) : (gen (tops fs ++ tops gs)).length ≤ fs.length + gs.length := by
  rw [← List.length_append]
  exact List.Nodup.length_le_of_subset (gen_faces _).nd fun x hx => by
    rw [List.mem_append]
    exact (un_mem F G).mp (((gen_faces _).mem x).mp hx)
def inB (gs : List (List Int)) (x : List Int) : Bool := decide (x ∈ gs)
theorem in_cl {fs gs : List (List Int)} (G : FS gs) : ∀ x ∈ fs, inB gs x = true → ∀ y, y ≠ [] → y.Sublist x → inB gs y = true := fun x _ h y hy s => by
  simp only [inB, decide_eq_true_eq] at *
  exact G.dn x h y hy s
def jns (xs ys : List (List Int)) : List (List Int) := xs.flatMap fun x => ys.map fun y => srtI (x ++ y)
def jf (fs gs : List (List Int)) : List (List Int) := tops fs ++ tops gs ++ jns (tops fs) (tops gs)
theorem jns_snoc (xs ys : List (List Int)) (x : List Int) : jns (xs ++ [x]) ys = jns xs ys ++ ys.map fun y => srtI (x ++ y) := by simp [jns]
theorem jns_len (xs ys : List (List Int)) : (jns xs ys).length = xs.length * ys.length := by
  unfold jns
  induction xs with
  | nil => simp
  | cons x xs ih => rw [List.flatMap_cons, List.length_append, ih, List.length_map, List.length_cons, Nat.succ_mul]; omega
/-- one below k, the other not -/
structure Apart (k : Int) (fs gs : List (List Int)) : Prop where
  lo : ∀ x ∈ fs, ∀ v ∈ x, v < k
  hi : ∀ y ∈ gs, ∀ v ∈ y, k ≤ v
theorem jf_sim {fs gs : List (List Int)} {k : Int} (A : Apart k fs gs) (S : ∀ x ∈ fs, Sim x) (T : ∀ x ∈ gs, Sim x) (hl : ∀ x ∈ fs, ∀ y ∈ gs, x.length + y.length ≤ 8) : ∀ z ∈ jf fs gs, Sim z := fun z hz => by
  rcases List.mem_append.mp hz with h | h
  · exact app_sim S T z h
  · obtain ⟨x, hx, h⟩ := List.mem_flatMap.mp h
    obtain ⟨y, hy, rfl⟩ := List.mem_map.mp h
    have hx := tops_sub x hx
    have hy := tops_sub y hy
    have s := S x hx
    have t := T y hy
    have a := asc_app s.2.2 t.2.2 (A.lo x hx) (A.hi y hy)
    rw [srtI_asc a]
    refine ⟨⟨?_, ?_⟩, fun v hv => (List.mem_append.mp hv).elim (s.2.1 v) (t.2.1 v), a⟩
    · rw [List.length_append]; have := s.1.1; omega
    · rw [List.length_append]; exact hl x hx y hy
/-- what a join holds -/
def prd (fs gs : List (List Int)) : List (List Int) := ([] :: fs).flatMap fun a => ([] :: gs).map fun b => a ++ b
theorem mem_prd {fs gs : List (List Int)} {x : List Int} : x ∈ prd fs gs ↔ ∃ a b, (a = [] ∨ a ∈ fs) ∧ (b = [] ∨ b ∈ gs) ∧ x = a ++ b := by
  unfold prd
  rw [List.mem_flatMap]
  constructor
  · rintro ⟨a, ha, h⟩
    obtain ⟨b, hb, rfl⟩ := List.mem_map.mp h
    exact ⟨a, b, List.mem_cons.mp ha, List.mem_cons.mp hb, rfl⟩
  · rintro ⟨a, b, ha, hb, rfl⟩
    exact ⟨a, List.mem_cons.mpr ha, List.mem_map.mpr ⟨b, List.mem_cons.mpr hb, rfl⟩⟩
theorem apart_lo {fs gs : List (List Int)} {k : Int} (A : Apart k fs gs) {a b : List Int} (ha : a = [] ∨ a ∈ fs) (hb : b = [] ∨ b ∈ gs) : (a ++ b).filter (fun v => decide (v < k)) = a ∧ (a ++ b).filter (fun v => !decide (v < k)) = b := by
  have h1 : ∀ v ∈ a, v < k := fun v hv => by
    rcases ha with rfl | ha
    · cases hv
    · exact A.lo a ha v hv
  have h2 : ∀ v ∈ b, ¬ v < k := fun v hv => by
    rcases hb with rfl | hb
    · cases hv
    · have := A.hi b hb v hv; omega
  rw [List.filter_append, List.filter_append]
  constructor
  · rw [List.filter_eq_self.mpr fun v hv => decide_eq_true (h1 v hv), List.filter_eq_nil_iff.mpr fun v hv q => h2 v hv (of_decide_eq_true q), List.append_nil]
  · rw [List.filter_eq_nil_iff.mpr fun v hv q => by simp [h1 v hv] at q, List.filter_eq_self.mpr fun v hv => by simp [h2 v hv], List.nil_append]
theorem prd_nd {fs gs : List (List Int)} {k : Int} (A : Apart k fs gs) (F : FS fs) (G : FS gs) : (prd fs gs).Nodup := by
  have f0 : ([] :: fs : List (List Int)).Nodup := List.nodup_cons.mpr ⟨fun q => F.ne _ q rfl, F.nd⟩
  have g0 : ([] :: gs : List (List Int)).Nodup := List.nodup_cons.mpr ⟨fun q => G.ne _ q rfl, G.nd⟩
  unfold prd
  unfold List.Nodup
  rw [List.pairwise_flatMap]
  refine ⟨fun a _ => nd_map (fun b c q => List.append_cancel_left q) g0, f0.imp_of_mem fun {a a'} ha ha' ne => ?_⟩
  intro z hz z' hz' q
  obtain ⟨b, hb, rfl⟩ := List.mem_map.mp hz
  obtain ⟨b', hb', rfl⟩ := List.mem_map.mp hz'
  have h1 := (apart_lo A (List.mem_cons.mp ha) (List.mem_cons.mp hb)).1
  have h2 := (apart_lo A (List.mem_cons.mp ha') (List.mem_cons.mp hb')).1
  rw [q, h2] at h1
  exact ne h1.symm
theorem prd_len (fs gs : List (List Int)) : (prd fs gs).length = (fs.length + 1) * (gs.length + 1) := by
  unfold prd
  generalize h : ([] :: fs : List (List Int)) = xs
  have e : fs.length + 1 = xs.length := by rw [← h]; rfl
  rw [e]
  clear h e
  induction xs with
  | nil => simp
  | cons x xs ih => rw [List.flatMap_cons, List.length_append, ih, List.length_map, List.length_cons, List.length_cons, Nat.succ_mul]; omega
theorem jf_mem {fs gs : List (List Int)} {k : Int} (A : Apart k fs gs) (F : FS fs) (G : FS gs) {x : List Int} : (x ≠ [] ∧ ∃ l ∈ jf fs gs, x.Sublist l) ↔ x ≠ [] ∧ x ∈ prd fs gs := by
  refine and_congr_right fun hx => ?_
  rw [mem_prd]
  constructor
  · rintro ⟨l, hl, s⟩
    rcases List.mem_append.mp hl with hl | hl
    · rcases List.mem_append.mp hl with hl | hl
      · exact ⟨x, [], .inr (F.dn l (tops_sub l hl) x hx s), .inl rfl, by simp⟩
      · exact ⟨[], x, .inl rfl, .inr (G.dn l (tops_sub l hl) x hx s), rfl⟩
    · obtain ⟨t, ht, h⟩ := List.mem_flatMap.mp hl
      obtain ⟨u, hu, rfl⟩ := List.mem_map.mp h
      have ht := tops_sub t ht
      have hu := tops_sub u hu
      rw [srtI_asc (asc_app (F.asc t ht) (G.asc u hu) (A.lo t ht) (A.hi u hu)), List.sublist_append_iff] at s
      obtain ⟨a, b, rfl, h1, h2⟩ := s
      refine ⟨a, b, ?_, ?_, rfl⟩
      · by_cases q : a = []
        · exact .inl q
        · exact .inr (F.dn t ht a q h1)
      · by_cases q : b = []
        · exact .inl q
        · exact .inr (G.dn u hu b q h2)
  · rintro ⟨a, b, ha, hb, rfl⟩
    rcases ha with rfl | ha
    · rcases hb with rfl | hb
      · exact absurd rfl hx
      · obtain ⟨_, l, hl, s⟩ := ((tops_faces G).mem b).mp hb
        exact ⟨l, List.mem_append_left _ (List.mem_append_right _ hl), s⟩
    · obtain ⟨_, l, hl, s⟩ := ((tops_faces F).mem a).mp ha
      rcases hb with rfl | hb
      · exact ⟨l, List.mem_append_left _ (List.mem_append_left _ hl), by rwa [List.append_nil]⟩
      · obtain ⟨_, u, hu, t⟩ := ((tops_faces G).mem b).mp hb
        refine ⟨srtI (l ++ u), List.mem_append_right _ (List.mem_flatMap.mpr ⟨l, hl, List.mem_map.mpr ⟨u, hu, rfl⟩⟩), ?_⟩
        have hl := tops_sub l hl
        have hu := tops_sub u hu
        rw [srtI_asc (asc_app (F.asc l hl) (G.asc u hu) (A.lo l hl) (A.hi u hu))]
        exact s.append t
theorem jf_gen {fs gs : List (List Int)} {k : Int} (A : Apart k fs gs) (F : FS fs) (G : FS gs) : (gen (jf fs gs)).length ≤ (fs.length + 1) * (gs.length + 1) := by
  rw [← prd_len]
  exact List.Nodup.length_le_of_subset (gen_faces _).nd fun x hx => ((jf_mem A F G).mp (((gen_faces _).mem x).mp hx)).2
theorem W_cut {f k : S → SRes} {s : S} {Q : SRes → Prop} (P : S → Prop) (h1 : W (seqS f nilS s) fun r => ∃ s', r = .nx s' ∧ P s') (h2 : ∀ s', P s' → W (k s') Q) : W (seqS f k s) Q := by
  obtain ⟨s', e, p⟩ := W_tail h1
  exact W_seq e (h2 s' p)
/-- a drawn thing of any kind -/
theorem F_pick_D {ns : List Int} {a b c : Int} {n : Nat} {l : List D} (hl : l ≠ []) (hl2 : l.length ≤ 1000) (im : isImmL l = true) (ha : 0 ≤ a) : ∃ x a' b' c', F__law_pick [(1, row ns a b c), (n, .lst l)] = some ((B, x), [(1, row ns a' b' c')]) ∧ x ∈ l ∧ 0 ≤ a' := by
  have hp : 0 < l.length := List.length_pos_iff.mpr hl
  obtain ⟨r, a', b', c', e, hr, ha'⟩ := F_taken (ns := ns) (a := a) (b := b) (c := c) (m := l.length) (n := B) (by omega) (by omega) ha
  have h3 : r.toNat < l.length := by omega
  have h4 := ixN_int (n := l.length) hr.1 hr.2
  have h5 : l[r.toNat]? = some l[r.toNat] := List.getElem?_eq_getElem h3
  refine ⟨l[r.toNat], a', b', c', ?_, List.getElem_mem h3, ha'⟩
  have h6 : isImm l[r.toNat] = true := isImmL_mem.mp im _ (List.getElem_mem h3)
  generalize l[r.toNat] = x at h5 h6
  simp only [row] at *
  simp_arith [F__law_pick, d__law_pick, mIxB, e, h4, h5, h6]

structure Wls (most : Nat) (ls : List (List Int)) : Prop where
  dr : ∀ l ∈ ls, Drw most 5 l
  ln : ls.length ≤ 16
def wo (v : Int) (f : List Int) : List Int := f.filter fun u => !decide (u = v)
def isub (a b : List Int) : Bool := a.all fun v => decide (v ∈ b)
theorem isub_iff {a b : List Int} : isub a b = true ↔ ∀ v ∈ a, v ∈ b := by simp [isub]
/-- the vertices of a facet without which it lies in one of some -/
def rstr (bs : List (List Int)) (f : List Int) : List Int := f.filter fun v => bs.any fun o => isub (wo v f) o
def canF (bs : List (List Int)) (f : List Int) : Bool := bs.all fun o => !isub (rstr bs f) o
def shl : List (List Int) → List (List Int) → Bool
  | _, [] => true
  | pre, f :: r => canF pre f && shl (pre ++ [f]) r
theorem any_congr {α : Type} {a b : List α} (h : ∀ x, x ∈ a ↔ x ∈ b) (p : α → Bool) : a.any p = b.any p := by
  rw [Bool.eq_iff_iff, List.any_eq_true, List.any_eq_true]
  exact ⟨fun ⟨x, hx, q⟩ => ⟨x, (h x).mp hx, q⟩, fun ⟨x, hx, q⟩ => ⟨x, (h x).mpr hx, q⟩⟩
theorem all_congr {α : Type} {a b : List α} (h : ∀ x, x ∈ a ↔ x ∈ b) (p : α → Bool) : a.all p = b.all p := by
  rw [Bool.eq_iff_iff, List.all_eq_true, List.all_eq_true]
  exact ⟨fun q x hx => q x ((h x).mpr hx), fun q x hx => q x ((h x).mp hx)⟩
theorem rstr_congr {a b : List (List Int)} (h : ∀ x, x ∈ a ↔ x ∈ b) (f : List Int) : rstr a f = rstr b f := List.filter_congr fun v _ => any_congr h _
theorem canF_congr {a b : List (List Int)} (h : ∀ x, x ∈ a ↔ x ∈ b) (f : List Int) : canF a f = canF b f := by
  unfold canF
  rw [rstr_congr h, all_congr h]
theorem shl_congr : ∀ {r a b : List (List Int)}, (∀ x, x ∈ a ↔ x ∈ b) → shl a r = shl b r
  | [], _, _, _ => rfl
  | f :: r, a, b, h => by
    unfold shl
    rw [canF_congr h, shl_congr (r := r) (a := a ++ [f]) (b := b ++ [f]) fun x => by rw [List.mem_append, List.mem_append, h]]
theorem shl_app : ∀ (a : List (List Int)) {p b : List (List Int)}, shl p (a ++ b) = (shl p a && shl (p ++ a) b)
  | [], p, b => by simp [shl]
  | f :: a, p, b => by
    show (canF p f && shl (p ++ [f]) (a ++ b)) = ((canF p f && shl (p ++ [f]) a) && shl (p ++ f :: a) b)
    rw [shl_app a, Bool.and_assoc, List.append_assoc]
    rfl
/-- facets in an order that shells, so far -/
structure Good (ts u : List (List Int)) : Prop where
  nd : u.Nodup
  sub : ∀ x ∈ u, x ∈ ts
  sh : shl [] u = true
/-- it goes on to the end -/
def Compl (ts u : List (List Int)) : Prop := ∃ r, Good ts (u ++ r) ∧ (u ++ r).length = ts.length
theorem Good.init {ts u r : List (List Int)} (h : Good ts (u ++ r)) : Good ts u :=
  ⟨(List.nodup_append.mp h.nd).1, fun x hx => h.sub x (List.mem_append_left _ hx), by
    have := h.sh
    rw [shl_app, Bool.and_eq_true] at this
    exact this.1⟩
theorem Good.snoc {ts u : List (List Int)} {f : List Int} (h : Good ts u) (hf : f ∈ ts) (hn : f ∉ u) (hc : canF u f = true) : Good ts (u ++ [f]) :=
  ⟨List.nodup_append.mpr ⟨h.nd, by simp, fun a ha b hb e => hn (by rw [List.mem_singleton.mp hb] at e; exact e ▸ ha)⟩, fun x hx => by
    rcases List.mem_append.mp hx with hx | hx
    · exact h.sub x hx
    · rw [List.mem_singleton.mp hx]; exact hf, by
    rw [shl_app, h.sh]
    simp [shl, hc]⟩
theorem Good.last {ts u : List (List Int)} {f : List Int} (h : Good ts (u ++ [f])) : f ∈ ts ∧ f ∉ u ∧ canF u f = true := by
  refine ⟨h.sub f (by simp), fun q => (List.nodup_append.mp h.nd).2.2 f q f (by simp) rfl, ?_⟩
  have := h.sh
  rw [shl_app] at this
  simp [shl] at this
  exact this.2
theorem good_nil (ts : List (List Int)) : Good ts [] := ⟨by simp, by simp, rfl⟩
theorem compl_perm {ts u u' : List (List Int)} (p : u.Perm u') (g : Good ts u') (h : Compl ts u) : Compl ts u' := by
  obtain ⟨r, h1, h2⟩ := h
  refine ⟨r, ⟨(p.append_right r).nodup_iff.mp h1.nd, fun x hx => h1.sub x ((p.append_right r).mem_iff.mpr hx), ?_⟩, by rw [List.length_append] at *; rw [← p.length_eq]; exact h2⟩
  have := h1.sh
  rw [shl_app, Bool.and_eq_true] at this
  rw [shl_app, g.sh, Bool.true_and]
  rw [← this.2]
  exact shl_congr fun x => by simp [p.mem_iff]
theorem compl_snoc {ts u : List (List Int)} (g : Good ts u) (hl : u.length ≠ ts.length) (h : Compl ts u) : ∃ f ∈ ts, f ∉ u ∧ canF u f = true ∧ Compl ts (u ++ [f]) := by
  obtain ⟨r, h1, h2⟩ := h
  cases r with
  | nil => rw [List.append_nil] at h2; exact absurd h2 hl
  | cons f r =>
    have e : u ++ f :: r = (u ++ [f]) ++ r := by rw [List.append_assoc]; rfl
    rw [e] at h1 h2
    obtain ⟨a, b, c⟩ := h1.init.last
    exact ⟨f, a, b, c, r, h1, h2⟩
theorem mem_rstr {bs : List (List Int)} {f : List Int} {v : Int} : v ∈ rstr bs f ↔ v ∈ f ∧ ∃ o ∈ bs, ∀ u ∈ f, u ≠ v → u ∈ o := by
  unfold rstr
  rw [List.mem_filter]
  refine and_congr_right fun _ => ?_
  rw [List.any_eq_true]
  refine exists_congr fun o => and_congr_right fun _ => ?_
  rw [isub_iff]
  unfold wo
  constructor
  · intro h u hu ne
    exact h u (List.mem_filter.mpr ⟨hu, by simp [ne]⟩)
  · intro h u hu
    have := List.mem_filter.mp hu
    exact h u this.1 (by simpa using this.2)
theorem cutD_tl (ls : List (List Int)) (i : Nat) (h : i ≤ ls.length) : cutD (.tup (ls.map sx)) none (some (i : Int)) = some (.tup ((ls.take i).map sx)) := by
  show (if isImmL _ = true then _ else _) = _
  rw [if_pos (immL_sxs ls)]
  simp only [cutL, HT.sIx_none, List.length_map]
  rw [HT.sIx_nat, Nat.min_eq_left h]
  simp
theorem listD_tl (ls : List (List Int)) : listD [.tup (ls.map sx)] = some (.lst (ls.map sx)) := by
  show (if isImmL _ = true then _ else _) = _
  rw [immL_sxs]
  rfl
theorem tupD_l (ls : List (List Int)) : tupleD [.lst (ls.map sx)] = some (.tup (ls.map sx)) := by
  show (if isImmL _ = true then _ else _) = _
  rw [if_pos (immL_sxs ls)]
theorem tupD_i (l : List Int) : tupleD [.lst (l.map .int)] = some (.tup (l.map .int)) := by
  show (if isImmL _ = true then _ else _) = _
  rw [if_pos (immL_ints l)]
theorem anyD_map {α : Type} (f : α → Bool) (l : List α) : anyD [.lst (l.map fun a => D.bl (f a))] = some (.bl (l.any f)) := by
  simp only [anyD, allO_blm, List.any_map]
  rfl
theorem wo_erase : ∀ {f : List Int} (nd : f.Nodup) {i : Nat} (h : i < f.length), f.eraseIdx i = wo f[i] f
  | a :: f, nd, 0, h => by
    obtain ⟨n1, n2⟩ := List.nodup_cons.mp nd
    show f = (a :: f).filter fun u => !decide (u = a)
    rw [List.filter_cons_of_neg (by simp), List.filter_eq_self.mpr fun u hu => by
      have : u ≠ a := fun e => n1 (e ▸ hu)
      simp [this]]
  | a :: f, nd, i + 1, h => by
    obtain ⟨n1, n2⟩ := List.nodup_cons.mp nd
    have hi : i < f.length := by simpa using h
    have ih := wo_erase n2 hi
    have ne : a ≠ f[i] := fun e => n1 (e ▸ List.getElem_mem hi)
    show a :: f.eraseIdx i = (a :: f).filter fun u => !decide (u = f[i])
    rw [List.filter_cons_of_pos (by simp [ne]), ih]
    rfl
theorem rgL_at {n : Nat} {pre r : List Int} {x : Int} (h : rgL n = pre ++ x :: r) : pre.length < n ∧ x = pre.length := by
  have h1 := congrArg List.length h
  rw [rgL_len, List.length_append, List.length_cons] at h1
  have h2 : (rgL n)[pre.length]? = some x := by rw [h, List.getElem?_append_right (Nat.le_refl _)]; simp
  refine ⟨by omega, ?_⟩
  unfold rgL at h2
  have h3 : pre.length < n := by omega
  simp [h3] at h2
  omega
theorem dd_one {ns : List Int} {d : Int} (h : ∀ x ∈ ns, x = d) : (dd ns).length ≤ 1 :=
  List.Nodup.length_le_of_subset (l₂ := [d]) (asc_nd (dd_asc ns)) fun x hx => by simp [h x (mem_dd.mp hx)]
/-- all facets are as long -/
def Pure (fs : List (List Int)) (d : Nat) : Prop := ∀ t ∈ tops fs, t.length = d
theorem sortedD_tsx {l : List (List Int)} (h : ∀ a ∈ l, a ≠ []) : sortedD [.tup (l.map sx)] = some (.lst ((srtS l).map sx)) := sortedD_sxs h
theorem shl_zip {o : List (List Int)} : ∀ (r pre : List (List Int)), o = pre ++ r → ((r.zipIdx pre.length).all fun p => canF (o.take p.2) p.1) = shl pre r
  | [], pre, _ => rfl
  | f :: r, pre, h => by
    have ih := shl_zip (o := o) r (pre ++ [f]) (by rw [h, List.append_assoc]; rfl)
    rw [List.length_append, List.length_singleton] at ih
    rw [List.zipIdx_cons, List.all_cons, ih]
    have : o.take pre.length = pre := by rw [h, List.take_left]
    show (canF (o.take pre.length) f && shl (pre ++ [f]) r) = _
    rw [this]
    rfl
theorem en_tup {n : Nat} {o : List (List Int)} {r : Nat} {s : S} (h : ofP r (pName r) s = .ok (n, .tup (o.map sx)) s) : itEn (ofP r (pName r)) s = .ok ((o.zipIdx 0).map fun p => (B, D.tup [.int (p.2 : Nat), sx p.1])) s := by
  unfold itEn
  rw [h, ← enI_map]
  rfl
theorem mem_zip {o : List (List Int)} {p : List Int × Nat} (h : p ∈ o.zipIdx 0) : p.1 ∈ o ∧ p.2 < o.length := by
  obtain ⟨i, hi⟩ := List.getElem?_of_mem h
  rw [List.getElem?_zipIdx] at hi
  cases q : o[i]? with
  | none => rw [q] at hi; cases hi
  | some x =>
    rw [q] at hi
    simp at hi
    obtain ⟨h1, h2⟩ := List.getElem?_eq_some_iff.mp q
    rw [← hi]
    exact ⟨h2 ▸ List.getElem_mem h1, by simpa using h1⟩
def pwA {α : Type} : List α → List (List α)
  | [] => [[]]
  | a :: l => pwA l ++ (pwA l).map (a :: ·)
theorem pwA_len {α : Type} : ∀ l : List α, (pwA l).length = 2 ^ l.length
  | [] => rfl
  | a :: l => by
    rw [pwA, List.length_append, List.length_map, pwA_len l, List.length_cons]
    omega
theorem filter_pwA {α : Type} (p : α → Bool) : ∀ l : List α, l.filter p ∈ pwA l
  | [] => by simp [pwA]
  | a :: l => by
    have ih := filter_pwA p l
    rw [pwA, List.mem_append, List.filter_cons]
    split
    · exact .inr (List.mem_map.mpr ⟨_, ih, rfl⟩)
    · exact .inl ih
theorem srtS_sorted (l : List (List Int)) : (srtS l).Pairwise fun x y => leB (sx x) (sx y) = true :=
  List.pairwise_mergeSort (le := fun x y => leB (sx x) (sx y)) (fun x y z => leB_trans (sx x) (sx y) (sx z)) (fun x y => leB_total (sx x) (sx y)) l
theorem srtS_sub {ts u : List (List Int)} (hts : ts.Nodup) (hu : u.Nodup) (h : ∀ x ∈ u, x ∈ ts) : srtS u = (srtS ts).filter fun x => decide (x ∈ u) := by
  have p : (srtS u).Perm ((srtS ts).filter fun x => decide (x ∈ u)) := (List.perm_ext_iff_of_nodup ((srtS_perm u).nodup_iff.mpr hu) (((srtS_perm ts).nodup_iff.mpr hts).filter _)).mpr fun x => by
    rw [(srtS_perm u).mem_iff, List.mem_filter, (srtS_perm ts).mem_iff, decide_eq_true_eq]
    exact ⟨fun q => ⟨h x q, q⟩, fun q => q.2⟩
  exact p.eq_of_pairwise (le := fun x y => leB (sx x) (sx y) = true) (fun x y _ _ h1 h2 => tk_sx (leB_anti h1 h2)) (srtS_sorted u) ((srtS_sorted ts).sublist List.filter_sublist)
/-- the sets that lead nowhere -/
structure Dead (ts : List (List Int)) (ds : List (List (List Int))) : Prop where
  nd : ds.Nodup
  ok : ∀ k ∈ ds, ∃ p : List Int → Bool, k = (srtS ts).filter p
  no : ∀ u, Good ts u → srtS u ∈ ds → ¬ Compl ts u
theorem dead_nil (ts : List (List Int)) : Dead ts [] := ⟨by simp, by simp, by simp⟩
theorem Dead.len {ts : List (List Int)} {ds : List (List (List Int))} (h : Dead ts ds) (hl : ts.length ≤ 12) : ds.length ≤ 4096 := by
  have h1 := List.Nodup.length_le_of_subset h.nd (fun k hk => by
    obtain ⟨p, e⟩ := h.ok k hk
    rw [e]
    exact filter_pwA p _ : ds ⊆ pwA (srtS ts))
  rw [pwA_len, (srtS_perm ts).length_eq] at h1
  have h2 : 2 ^ ts.length ≤ 2 ^ 12 := Nat.pow_le_pow_right (by decide) hl
  omega
theorem Dead.put {ts u : List (List Int)} {ds : List (List (List Int))} (hts : ts.Nodup) (h : Dead ts ds) (g : Good ts u) (hn : ¬ Compl ts u) : Dead ts (putN ds (srtS u)) := by
  unfold putN
  split
  · exact h
  · rename_i c
    refine ⟨List.nodup_append.mpr ⟨h.nd, by simp, fun a ha b hb e => c (by rw [List.mem_singleton.mp hb] at e; exact e ▸ ha)⟩, fun k hk => ?_, fun v gv hv => ?_⟩
    · rcases List.mem_append.mp hk with hk | hk
      · exact h.ok k hk
      · rw [List.mem_singleton.mp hk]
        exact ⟨_, srtS_sub hts g.nd g.sub⟩
    · rcases List.mem_append.mp hv with hv | hv
      · exact h.no v gv hv
      · intro cv
        have e := List.mem_singleton.mp hv
        have p : v.Perm u := (srtS_perm v).symm.trans (e ▸ srtS_perm u)
        exact hn (compl_perm p g cv)
theorem nkD_sx (k : List (List Int)) : nkD (.tup (k.map sx)) = some k := by
  show allO intsT (k.map sx) = some k
  induction k with
  | nil => rfl
  | cons x k ih =>
    rw [List.map_cons]
    unfold allO
    have : intsT (sx x) = some x := by
      show allO intO (x.map D.int) = some x
      exact allO_ii x
    rw [this, ih]
def optD : Option (List (List Int)) → D
  | none => .non
  | some o => .lst (o.map sx)
def GrOut (ts u : List (List Int)) (r : Option (List (List Int))) : Prop := match r with
  | none => ¬ Compl ts u
  | some o => Good ts o ∧ o.length = ts.length
theorem Good.len {ts u : List (List Int)} (g : Good ts u) : u.length ≤ ts.length := List.Nodup.length_le_of_subset g.nd g.sub
def optT : Option (List (List Int)) → D
  | none => .non
  | some o => .tup (o.map sx)
def evenL (ls : List (List Int)) : List (List Int) := ls.filter fun l => decide (l.length = (ls.headD []).length)
theorem cutD_ll (ls : List (List Int)) (i : Nat) : cutD (.lst (ls.map sx)) none (some (i : Int)) = some (.lst ((ls.take i).map sx)) := by
  show (if isImmL _ = true then _ else _) = _
  rw [if_pos (immL_sxs ls)]
  simp only [cutL, HT.sIx_none, List.length_map]
  rw [HT.sIx_nat]
  congr 2
  rw [List.drop_zero, Nat.sub_zero, ← List.map_take]
  congr 1
  by_cases h : i ≤ ls.length
  · rw [Nat.min_eq_left h]
  · rw [Nat.min_eq_right (by omega), List.take_of_length_le (Nat.le_refl _), List.take_of_length_le (by omega)]
theorem tupM_one {P : S → Res It} {s s1 : S} {d : D} (h : P s = .ok (B, d) s1) : tupM (consM P nilM) s = .ok (B, .tup [d]) s1 := by
  unfold tupM consM nilM
  rw [h]
  rfl
/-- a drawn simplex of a length -/
def Ev (most L : Nat) (l : List Int) : Prop := Asc l ∧ (∀ v ∈ l, 0 ≤ v ∧ v < (most : Int)) ∧ l.length = L
structure Evs (most size : Nat) (ls : List (List Int)) : Prop where
  dr : ∃ L, 1 ≤ L ∧ L ≤ size ∧ ∀ l ∈ ls, Ev most L l
  ln : ls.length ≤ 12
theorem tops_mx {fs : List (List Int)} (F : FS fs) {t : List Int} : t ∈ tops fs ↔ t ∈ fs ∧ ∀ f ∈ fs, (∀ v ∈ t, v ∈ f) → f = t := by
  rw [mem_tops]
  refine and_congr_right fun ht => ?_
  rw [mem_inn_iff F ht]
  constructor
  · intro h f hf s
    refine Decidable.by_contra fun ne => h ?_
    obtain ⟨v, hv, hvt⟩ : ∃ v ∈ f, v ∉ t := Decidable.by_contra fun q => ne (asc_ext (F.asc f hf) (F.asc t ht) fun v => ⟨fun z => Decidable.by_contra fun w => q ⟨v, z, w⟩, s v⟩)
    have hm : ∀ u, u ∈ f.filter (fun u => decide (u ∈ t ∨ u = v)) ↔ u ∈ t ∨ u = v := fun u => by
      simp only [List.mem_filter, decide_eq_true_eq]
      exact ⟨fun q => q.2, fun q => ⟨q.elim (s u) fun e => e ▸ hv, q⟩⟩
    refine ⟨f.filter fun u => decide (u ∈ t ∨ u = v), F.dn f hf _ (fun q => ?_) List.filter_sublist, ?_, fun u hu => (hm u).mpr (.inl hu)⟩
    · have := (hm v).mpr (.inr rfl)
      rw [q] at this
      cases this
    · have p : (f.filter fun u => decide (u ∈ t ∨ u = v)).Perm (v :: t) := (List.perm_ext_iff_of_nodup (asc_nd ((F.asc f hf).sublist List.filter_sublist)) (List.nodup_cons.mpr ⟨hvt, asc_nd (F.asc t ht)⟩)).mpr fun u => by
        rw [hm, List.mem_cons]
        exact Or.comm
      rw [p.length_eq, List.length_cons]
  · rintro h ⟨f, hf, hl, s⟩
    rw [h f hf s] at hl
    omega
theorem ev_dls {most size : Nat} {ls : List (List Int)} (h : Evs most size ls) (hs : size ≤ 4) : Dls most size ls := by
  obtain ⟨L, h1, h2, hd⟩ := h.dr
  refine ⟨fun l hl => ⟨(hd l hl).1, (hd l hl).2.1, by rw [(hd l hl).2.2]; exact h1, by rw [(hd l hl).2.2]; omega⟩, Nat.le_trans h.ln (by omega), ?_⟩
  have h3 := wt_le (p := 4) (ls := ls) fun l hl => by rw [(hd l hl).2.2]; omega
  have h4 := h.ln
  have h5 : ls.length * (2 ^ 4 - 1) ≤ 12 * (2 ^ 4 - 1) := Nat.mul_le_mul_right _ h4
  omega
theorem ev_tops {most L : Nat} {ls : List (List Int)} (F : FS (gen ls)) (hL : 1 ≤ L) (hd : ∀ l ∈ ls, Ev most L l) {t : List Int} : t ∈ tops (gen ls) ↔ t ∈ ls := by
  have G := gen_faces ls
  rw [tops_mx F]
  constructor
  · rintro ⟨h1, h2⟩
    obtain ⟨hn, l, hl, s⟩ := (G.mem t).mp h1
    have hlf : l ∈ gen ls := (G.mem l).mpr ⟨List.length_pos_iff.mp (by rw [(hd l hl).2.2]; exact hL), l, hl, List.Sublist.refl _⟩
    rw [← h2 l hlf fun v hv => s.subset hv]
    exact hl
  · intro h
    refine ⟨(G.mem t).mpr ⟨List.length_pos_iff.mp (by rw [(hd t h).2.2]; exact hL), t, h, List.Sublist.refl _⟩, fun f hf s => ?_⟩
    obtain ⟨hn, l, hl, s2⟩ := (G.mem f).mp hf
    have e1 : t.Sublist f := asc_sub (hd t h).1 (F.asc f hf) s
    have e2 := s2.length_le
    rw [(hd l hl).2.2] at e2
    exact (e1.eq_of_length (by have := e1.length_le; rw [(hd t h).2.2] at *; omega)).symm
theorem ev_pure {most L : Nat} {ls : List (List Int)} (F : FS (gen ls)) (hL : 1 ≤ L) (hd : ∀ l ∈ ls, Ev most L l) : Pure (gen ls) L := fun t ht => (hd t ((ev_tops F hL hd).mp ht)).2.2
theorem tops_nd {fs : List (List Int)} (F : FS fs) : (tops fs).Nodup := (srtS_perm _).nodup_iff.mpr (F.nd.filter _)
theorem ev_few {most L : Nat} {ls : List (List Int)} (F : FS (gen ls)) (hL : 1 ≤ L) (hd : ∀ l ∈ ls, Ev most L l) : (tops (gen ls)).length ≤ ls.length :=
  List.Nodup.length_le_of_subset (tops_nd F) fun t ht => (ev_tops F hL hd).mp ht
/-- an order of all facets -/
theorem full_perm {fs o : List (List Int)} (F : FS fs) (g : Good (tops fs) o) (hl : o.length = (tops fs).length) : o.Perm (tops fs) := by
  have hs : ∀ x ∈ tops fs, x ∈ o := fun x hx => Decidable.byContradiction fun hn => by
    have := List.Nodup.length_le_of_subset (List.nodup_cons.mpr ⟨hn, g.nd⟩) (fun y hy => (List.mem_cons.mp hy).elim (fun e => e ▸ hx) (g.sub y) : x :: o ⊆ tops fs)
    rw [List.length_cons] at this
    omega
  exact (List.perm_ext_iff_of_nodup g.nd (tops_nd F)).mpr fun x => ⟨g.sub x, hs x⟩
theorem srt_full {fs o : List (List Int)} (p : o.Perm (tops fs)) : srtS o = tops fs := (srtS_congr (p.trans (srtS_perm _)) : srtS o = srtS _)
def bothL (bs : List (List Int)) (f : List Int) : List (List Int) := bs.map fun g => f.filter fun v => decide (v ∈ g)
def wideL (bs : List (List Int)) (f : List Int) : List (List Int) := (bothL bs f).filter fun p => decide (p.length + 1 = f.length)
def okL (bs : List (List Int)) (f : List Int) : Bool := (bothL bs f).all fun p => (wideL bs f).any fun q => isub p q
theorem wo_len {f : List Int} (nd : f.Nodup) {v : Int} (h : v ∈ f) : (wo v f).length + 1 = f.length := by
  obtain ⟨i, hi⟩ := List.getElem?_of_mem h
  obtain ⟨h1, h2⟩ := List.getElem?_eq_some_iff.mp hi
  rw [← h2, ← wo_erase nd h1, List.length_eraseIdx, if_pos h1]
  omega
theorem ok_can {bs : List (List Int)} {f : List Int} {L : Nat} (hb : ∀ g ∈ bs, Asc g ∧ g.length = L) (hf : Asc f) (hl : f.length = L) (hn : f ∉ bs) : okL bs f = canF bs f := by
  have nd := asc_nd hf
  -- a part with one less comes from a vertex
  have key : ∀ h ∈ bs, ∀ v ∈ f, v ∉ h → (∀ u ∈ f, u ≠ v → u ∈ h) → f.filter (fun u => decide (u ∈ h)) = wo v f := fun h hh v hv hvn hall => List.filter_congr fun u hu => by
    by_cases e : u = v
    · subst e; simp [hvn]
    · simp [e, hall u hu e]
  rw [Bool.eq_iff_iff]
  unfold okL canF
  rw [List.all_eq_true, List.all_eq_true]
  have both : ∀ g ∈ bs, f.filter (fun v => decide (v ∈ g)) ∈ bothL bs f := fun g hg => List.mem_map.mpr ⟨g, hg, rfl⟩
  constructor
  · intro h g hg
    have h1 := h _ (both g hg)
    obtain ⟨q, hq, hs⟩ := List.any_eq_true.mp h1
    obtain ⟨hq1, hq2⟩ := List.mem_filter.mp hq
    obtain ⟨k, hk, rfl⟩ := List.mem_map.mp hq1
    have hq3 : (f.filter fun v => decide (v ∈ k)).length + 1 = f.length := of_decide_eq_true hq2
    rw [isub_iff] at hs
    -- the vertex that k lacks
    obtain ⟨v, hv, hvk⟩ : ∃ v ∈ f, v ∉ k := Decidable.byContradiction fun q => by
      have : f.filter (fun v => decide (v ∈ k)) = f := List.filter_eq_self.mpr fun v hv => decide_eq_true (Decidable.byContradiction fun z => q ⟨v, hv, z⟩)
      rw [this] at hq3
      omega
    have hall : ∀ u ∈ f, u ≠ v → u ∈ k := fun u hu ne => Decidable.byContradiction fun q => by
      have hs : f.filter (fun v => decide (v ∈ k)) ⊆ wo u (wo v f) := fun x hx => by
        obtain ⟨x1, x2⟩ := List.mem_filter.mp hx
        have x3 : x ∈ k := of_decide_eq_true x2
        refine List.mem_filter.mpr ⟨List.mem_filter.mpr ⟨x1, ?_⟩, ?_⟩
        · have : x ≠ v := fun e => hvk (e ▸ x3)
          simp [this]
        · have : x ≠ u := fun e => q (e ▸ x3)
          simp [this]
      have l1 := List.Nodup.length_le_of_subset (nd.filter _) hs
      have l2 := wo_len nd hv
      have l3 := wo_len (f := wo v f) (nd.filter _) (v := u) (List.mem_filter.mpr ⟨hu, by simp [ne]⟩)
      omega
    have hvr : v ∈ rstr bs f := mem_rstr.mpr ⟨hv, k, hk, hall⟩
    rw [Bool.not_eq_true', Bool.eq_false_iff]
    intro hsub
    rw [isub_iff] at hsub
    have := hs v (List.mem_filter.mpr ⟨hv, decide_eq_true (hsub v hvr)⟩)
    exact hvk (of_decide_eq_true (List.mem_filter.mp this).2)
  · intro h p hp
    obtain ⟨g, hg, rfl⟩ := List.mem_map.mp hp
    have h1 := h g hg
    rw [Bool.not_eq_true', Bool.eq_false_iff] at h1
    obtain ⟨v, hv, hvg⟩ : ∃ v ∈ rstr bs f, v ∉ g := Decidable.byContradiction fun q => h1 (isub_iff.mpr fun v hv => Decidable.byContradiction fun z => q ⟨v, hv, z⟩)
    obtain ⟨hvf, k, hk, hall⟩ := mem_rstr.mp hv
    have hvk : v ∉ k := fun q => by
      have hs : f ⊆ k := fun u hu => by
        by_cases e : u = v
        · exact e ▸ q
        · exact hall u hu e
      have e1 : f.Sublist k := asc_sub hf (hb k hk).1 fun u hu => hs hu
      have e2 := e1.eq_of_length (by rw [hl, (hb k hk).2])
      exact hn (e2 ▸ hk)
    have e := key k hk v hvf hvk hall
    refine List.any_eq_true.mpr ⟨f.filter fun u => decide (u ∈ k), List.mem_filter.mpr ⟨both k hk, decide_eq_true ?_⟩, ?_⟩
    · rw [e]
      exact wo_len nd hvf
    · rw [isub_iff, e]
      intro u hu
      obtain ⟨u1, u2⟩ := List.mem_filter.mp hu
      have u3 : u ∈ g := of_decide_eq_true u2
      have : u ≠ v := fun q => hvg (q ▸ u3)
      exact List.mem_filter.mpr ⟨u1, by simp [this]⟩

/-- a comprehension whose test may lower a slot -/
theorem lcGo_flt {α : Type} {vs : List Nat} {g : It → S → Option S} {ft : S → Res Bool} {fe : S → Res It} (m k : α → It) (p : α → Bool) (I : S → Prop)
    (h : ∀ x s, I s → ∃ s1 s2, g (m x) s = some s1 ∧ ft s1 = .ok (p x) s2 ∧ (p x = true → ∃ s3, fe s2 = .ok (k x) s3 ∧ I (wipeS s3 vs)) ∧ (p x = false → I (wipeS s2 vs))) : ∀ (xs : List α) (s : S), I s → ∃ s', lcGo vs g ft fe (xs.map m) s = .ok ((xs.filter p).map k) s' ∧ I s'
  | [], s, i => ⟨s, rfl, i⟩
  | x :: xs, s, i => by
    obtain ⟨s1, s2, e1, e2, h1, h2⟩ := h x s i
    have un : lcGo vs g ft fe ((x :: xs).map m) s = (match g (m x) s with
        | none => Res.bad
        | some s1 => match ft s1 with
          | .ok true s2 => match fe s2 with
            | .ok y s3 => match lcGo vs g ft fe (xs.map m) (wipeS s3 vs) with
              | .ok ys s4 => .ok (y :: ys) s4
              | _ => .bad
            | _ => .bad
          | .ok false s2 => lcGo vs g ft fe (xs.map m) (wipeS s2 vs)
          | _ => .bad) := rfl
    cases q : p x with
    | true =>
      obtain ⟨s3, e3, i3⟩ := h1 q
      obtain ⟨s', e4, i4⟩ := lcGo_flt m k p I h xs _ i3
      refine ⟨s', ?_, i4⟩
      rw [un, e1]
      dsimp only
      rw [e2, q]
      dsimp only
      rw [e3]
      dsimp only
      rw [e4]
      simp [q]
    | false =>
      obtain ⟨s', e4, i4⟩ := lcGo_flt m k p I h xs _ (h2 q)
      refine ⟨s', ?_, i4⟩
      rw [un, e1]
      dsimp only
      rw [e2, q]
      dsimp only
      rw [e4]
      simp [q]
theorem itR2_one {f g : S → Option D} {s : S} {n : Nat} (hf : f s = some (.int 1)) (hg : g s = some (.int n)) (hn : n ≤ 1000) : itR2 f g s = .ok ((List.range (n - 1)).map fun i : Nat => (B, D.int (1 + (i : Nat)))) s := by
  have e1 : smI 1 = true := smI_of (by omega)
  have e2 : smI (n : Int) = true := smI_of (by omega)
  have e3 : ((n : Int) - 1).toNat = n - 1 := by omega
  have e4 : line ((n : Int) - 1).toNat = true := line_of (by omega)
  unfold itR2
  rw [hf, hg]
  simp only [e1, e2, e4, Bool.and_self, if_true]
  rw [e3]
  rfl
theorem okL_eq (bs : List (List Int)) (f : List Int) : ((bothL bs f).filter fun p => ((wideL bs f).filter fun q => isub p q).isEmpty).isEmpty = okL bs f := by
  unfold okL
  rw [Bool.eq_iff_iff, List.isEmpty_iff, List.filter_eq_nil_iff, List.all_eq_true]
  refine forall_congr' fun p => forall_congr' fun _ => ?_
  rw [List.isEmpty_iff, List.filter_eq_nil_iff, List.any_eq_true]
  constructor
  · intro h
    refine Decidable.byContradiction fun q => h fun x hx hs => q ⟨x, hx, hs⟩
  · rintro ⟨x, hx, hs⟩ h
    exact h x hx hs
theorem shl_take {o : List (List Int)} {k : Nat} (h : k < o.length) : shl [] (o.take (k + 1)) = (shl [] (o.take k) && canF (o.take k) o[k]) := by
  rw [List.take_succ, List.getElem?_eq_getElem h, Option.toList_some, shl_app]
  simp [shl]
theorem shl_take_no {o : List (List Int)} {k : Nat} (h : shl [] (o.take k) = false) : shl [] o = false := by
  rw [← List.take_append_drop k o, shl_app, h]
  rfl
/-- the first facet that holds a face -/
def fst1 (o : List (List Int)) (x : List Int) : Nat := o.findIdx fun f => isub x f
def rAt (o : List (List Int)) (i : Nat) : List Int := rstr (o.take i) (o.getD i [])
def inIv (o : List (List Int)) (i : Nat) (x : List Int) : Bool := isub (rAt o i) x && isub x (o.getD i [])
theorem can_at {o : List (List Int)} (h : shl [] o = true) {i : Nat} (hi : i < o.length) : canF (o.take i) o[i] = true := by
  have e : o = o.take i ++ o[i] :: o.drop (i + 1) := by rw [List.getElem_cons_drop, List.take_append_drop]
  rw [e, shl_app, Bool.and_eq_true, List.nil_append] at h
  have h2 : (canF (o.take i) o[i] && shl (o.take i ++ [o[i]]) (o.drop (i + 1))) = true := h.2
  rw [Bool.and_eq_true] at h2
  exact h2.1
theorem fst1_lt {fs o : List (List Int)} (F : FS fs) (p : o.Perm (tops fs)) (hne : o ≠ []) {x : List Int} (hx : x = [] ∨ x ∈ fs) : fst1 o x < o.length := by
  refine List.findIdx_lt_length.mpr ?_
  rcases hx with rfl | hx
  · cases o with
    | nil => exact absurd rfl hne
    | cons a o => exact ⟨a, List.mem_cons_self, by simp [isub]⟩
  · obtain ⟨t, ht, s⟩ := under F 8 x hx (by have := F.ln x hx; omega)
    exact ⟨t, p.mem_iff.mpr ht, isub_iff.mpr fun v hv => s.subset hv⟩
theorem in_iff {fs o : List (List Int)} (F : FS fs) (g : Good (tops fs) o) (p : o.Perm (tops fs)) {x : List Int} (hx : x = [] ∨ x ∈ fs) {i : Nat} (hi : i < o.length) : inIv o i x = true ↔ fst1 o x = i := by
  have hd : o.getD i [] = o[i] := by simp [List.getD, List.getElem?_eq_getElem hi]
  have hc := can_at g.sh hi
  unfold canF at hc
  rw [List.all_eq_true] at hc
  unfold inIv rAt
  rw [hd, Bool.and_eq_true]
  constructor
  · rintro ⟨h1, h2⟩
    have hle : fst1 o x ≤ i := Nat.le_of_not_lt fun q => by
      have := List.not_of_lt_findIdx q
      simp [h2] at this
    refine Nat.le_antisymm hle (Nat.le_of_not_lt fun q => ?_)
    have hj : fst1 o x < o.length := by omega
    have h3 : isub x o[fst1 o x] = true := List.findIdx_getElem (w := hj)
    have h4 := hc o[fst1 o x] (List.mem_take_iff_getElem.mpr ⟨fst1 o x, by omega, rfl⟩)
    rw [Bool.not_eq_true', Bool.eq_false_iff] at h4
    exact h4 (isub_iff.mpr fun v hv => isub_iff.mp h3 v (isub_iff.mp h1 v hv))
  · intro e
    subst e
    have h3 : isub x o[fst1 o x] = true := List.findIdx_getElem (w := hi)
    refine ⟨isub_iff.mpr fun v hv => Decidable.byContradiction fun hvx => ?_, h3⟩
    obtain ⟨hv1, k, hk, hall⟩ := mem_rstr.mp hv
    obtain ⟨j, hj, e⟩ := List.mem_take_iff_getElem.mp hk
    have hjl : j < fst1 o x := by omega
    have h5 := List.not_of_lt_findIdx hjl
    have h6 : isub x o[j] = true := isub_iff.mpr fun u hu => e ▸ hall u (isub_iff.mp h3 u hu) fun q => hvx (q ▸ hu)
    rw [h6] at h5
    cases h5
def rsD (o : List (List Int)) : List D := (o.zipIdx 0).map fun p => D.tup [sx p.1, sx (rstr (o.take p.2) p.1)]
theorem isImm_rs (o : List (List Int)) : isImmL (rsD o) = true := isImmL_mem.mpr fun d hd => by
  obtain ⟨p, _, rfl⟩ := List.mem_map.mp hd
  show (isImm (sx p.1) && (isImm (sx (rstr (o.take p.2) p.1)) && true)) = true
  rw [imm_sx, imm_sx]
  rfl
/-! ## binomials and cascades -/
def cho : Nat → Nat → Nat
  | _, 0 => 1
  | 0, _ + 1 => 0
  | n + 1, k + 1 => cho n k + cho n (k + 1)
theorem cho_zero (n : Nat) : cho n 0 = 1 := by cases n <;> rfl
theorem cho_big : ∀ {n k : Nat}, n < k → cho n k = 0
  | 0, 0, h => by omega
  | 0, k + 1, _ => rfl
  | n + 1, 0, h => by omega
  | n + 1, k + 1, h => by
    rw [cho, cho_big (n := n) (k := k) (by omega), cho_big (n := n) (k := k + 1) (by omega)]
theorem cho_self : ∀ n : Nat, cho n n = 1
  | 0 => rfl
  | n + 1 => by rw [cho, cho_self n, cho_big (by omega)]
theorem cho_mul : ∀ n k : Nat, cho n (k + 1) * (k + 1) = cho n k * (n - k)
  | 0, k => by simp [cho]
  | n + 1, 0 => by
    have := cho_mul n 0
    simp only [cho, cho_zero] at *
    omega
  | n + 1, k + 1 => by
    have h1 := cho_mul n k
    have h2 := cho_mul n (k + 1)
    rw [cho, cho, Nat.add_mul, h2]
    by_cases h : k + 1 ≤ n
    · obtain ⟨d, rfl⟩ : ∃ d, n = k + 1 + d := ⟨n - (k + 1), by omega⟩
      generalize cho (k + 1 + d) (k + 1) = b at *
      generalize cho (k + 1 + d) k = a at *
      have e1 : k + 1 + d - k = d + 1 := by omega
      have e2 : k + 1 + d - (k + 1) = d := by omega
      have e3 : k + 1 + d + 1 - (k + 1) = d + 1 := by omega
      rw [e1] at h1
      rw [e2, e3, Nat.add_mul, ← h1, ← Nat.mul_add, ← Nat.mul_add]
      congr 1
      omega
    · rw [cho_big (n := n) (k := k + 1) (by omega)]
      have : n + 1 - (k + 1) = 0 := by omega
      rw [this]
      simp
theorem chI_cho (n : Nat) : ∀ l : Nat, chI (n : Int) l = (cho n l : Int)
  | 0 => by rw [cho_zero]; rfl
  | l + 1 => by
    have ih := chI_cho n l
    unfold chI at *
    rw [List.range_succ, chP_snoc, ih]
    have h := cho_mul n l
    by_cases hl : l ≤ n
    · have e : ((n : Int) - (l : Int)) = ((n - l : Nat) : Int) := by omega
      rw [e, ← Int.natCast_mul, ← h, Int.natCast_mul]
      exact Int.mul_ediv_cancel _ (by omega)
    · rw [cho_big (n := n) (k := l) (by omega), cho_big (n := n) (k := l + 1) (by omega)]
      simp
theorem cho_mono {n k : Nat} : cho n k ≤ cho (n + 1) k := by
  cases k with
  | zero => rw [cho_zero, cho_zero]; exact Nat.le_refl _
  | succ k => rw [show cho (n + 1) (k + 1) = cho n k + cho n (k + 1) from rfl]; omega
theorem cho_pos : ∀ {n k : Nat}, k ≤ n → 1 ≤ cho n k
  | n, 0, _ => by rw [cho_zero]; exact Nat.le_refl _
  | n + 1, k + 1, h => by
    rw [cho]
    have := cho_pos (n := n) (k := k) (by omega)
    omega
/-- at least the upper number, from the lower one on -/
theorem cho_ge {k : Nat} (hk : 1 ≤ k) : ∀ d : Nat, d + 1 ≤ cho (k + d) k
  | 0 => by show 0 + 1 ≤ cho k k; rw [cho_self]; exact Nat.le_refl _
  | d + 1 => by
    obtain ⟨j, rfl⟩ : ∃ j, k = j + 1 := ⟨k - 1, by omega⟩
    have ih := cho_ge hk d
    have := cho_pos (n := j + 1 + d) (k := j) (by omega)
    rw [show j + 1 + (d + 1) = (j + 1 + d) + 1 by omega, cho]
    omega
/-- the greatest upper number -/
def upG (k m : Nat) : Nat → Nat → Nat
  | 0, u => u
  | f + 1, u => if cho (u + 1) k ≤ m then upG k m f (u + 1) else u
theorem upG_ok {k m : Nat} (hk : 1 ≤ k) : ∀ (f u : Nat), m + k ≤ u + f → cho u k ≤ m → k ≤ u → u ≤ upG k m f u ∧ cho (upG k m f u) k ≤ m ∧ m < cho (upG k m f u + 1) k
  | 0, u, h, h1, h2 => by
    refine ⟨Nat.le_refl _, h1, ?_⟩
    obtain ⟨d, rfl⟩ : ∃ d, u = k + d := ⟨u - k, by omega⟩
    have := cho_ge hk (d + 1)
    rw [show k + (d + 1) = k + d + 1 by omega] at this
    show m < cho (k + d + 1) k
    omega
  | f + 1, u, h, h1, h2 => by
    unfold upG
    split
    · rename_i c
      obtain ⟨a1, a2, a3⟩ := upG_ok hk f (u + 1) (by omega) c (by omega)
      exact ⟨by omega, a2, a3⟩
    · exact ⟨Nat.le_refl _, h1, by omega⟩
def upN (k m : Nat) : Nat := upG k m m k
theorem upN_ok {k m : Nat} (hk : 1 ≤ k) (hm : 1 ≤ m) : k ≤ upN k m ∧ cho (upN k m) k ≤ m ∧ m < cho (upN k m + 1) k ∧ upN k m ≤ k + m := by
  obtain ⟨a1, a2, a3⟩ := upG_ok (m := m) hk m k (by omega) (by rw [cho_self]; exact hm) (Nat.le_refl _)
  refine ⟨a1, a2, a3, ?_⟩
  have h : ∀ f u, upG k m f u ≤ u + f := fun f => by
    induction f with
    | zero => intro u; exact Nat.le_refl _
    | succ f ih =>
      intro u
      unfold upG
      split
      · have := ih (u + 1); omega
      · omega
  exact h m k
theorem cho_le {k : Nat} : ∀ {a b : Nat}, a ≤ b → cho a k ≤ cho b k := by
  intro a b h
  obtain ⟨d, rfl⟩ : ∃ d, b = a + d := ⟨b - a, by omega⟩
  clear h
  induction d with
  | zero => exact Nat.le_refl _
  | succ d ih => exact Nat.le_trans ih cho_mono
/-- it is the only one -/
theorem upN_one {k m u : Nat} (hk : 1 ≤ k) (hm : 1 ≤ m) (h1 : cho u k ≤ m) (h2 : m < cho (u + 1) k) : u = upN k m := by
  obtain ⟨_, a2, a3, _⟩ := upN_ok hk hm
  rcases Nat.lt_trichotomy u (upN k m) with c | c | c
  · have := cho_le (k := k) (a := u + 1) (b := upN k m) (by omega)
    omega
  · exact c
  · have := cho_le (k := k) (a := upN k m + 1) (b := u) (by omega)
    omega
def casc : Nat → Nat → List (Nat × Nat)
  | 0, _ => []
  | k + 1, m => if m = 0 then [] else (upN (k + 1) m, k + 1) :: casc k (m - cho (upN (k + 1) m) (k + 1))
theorem casc_zero (k : Nat) : casc k 0 = [] := by
  cases k <;> simp [casc]
/-- the sum of the cascade -/
theorem casc_sum : ∀ (k m : Nat), (k = 0 → m = 0) → ((casc k m).map fun p => cho p.1 p.2).sum = m
  | 0, m, h => by rw [h rfl]; rfl
  | k + 1, m, _ => by
    unfold casc
    split
    · rename_i e; rw [e]; rfl
    · rename_i hm
      obtain ⟨a1, a2, a3, _⟩ := upN_ok (k := k + 1) (m := m) (by omega) (by omega)
      rw [List.map_cons, List.sum_cons, casc_sum k _ fun hk => ?_]
      · show cho (upN (k + 1) m) (k + 1) + _ = m
        omega
      · subst hk
        rw [cho, cho_zero] at a3
        omega
def lsh (k m : Nat) : Nat := ((casc k m).map fun p => cho p.1 (p.2 - 1)).sum
theorem lsh_zero (k : Nat) : lsh k 0 = 0 := by unfold lsh; rw [casc_zero]; rfl
/-- of a full family -/
theorem casc_full {t k : Nat} (hk : 1 ≤ k) (h : k ≤ t) : casc k (cho t k) = [(t, k)] := by
  obtain ⟨j, rfl⟩ : ∃ j, k = j + 1 := ⟨k - 1, by omega⟩
  have hp := cho_pos h
  have e : t = upN (j + 1) (cho t (j + 1)) := upN_one (by omega) hp (Nat.le_refl _) (by
    rw [cho]
    have := cho_pos (n := t) (k := j) (by omega)
    omega)
  unfold casc
  rw [if_neg (by omega), ← e, Nat.sub_self, casc_zero]
/-! ## shadows are not less -/
theorem kk_num : ∀ k < 5, ∀ a < 37, ∀ b < 37, a + b ≤ 36 → lsh k (a + b) ≤ max (lsh k a) b + lsh (k - 1) b := by decide +kernel
theorem lsh0 (m : Nat) : lsh 0 m = 0 := rfl
/-- a row below n + 1 that holds n ends with it -/
theorem ends_n {n k : Nat} {l : List Int} (h : Ev (n + 1) (k + 1) l) (hn : (n : Int) ∈ l) : l = l.dropLast ++ [(n : Int)] ∧ Ev n k l.dropLast := by
  obtain ⟨ha, hb, hl⟩ := h
  have hne : l ≠ [] := by intro e; rw [e] at hl; simp at hl
  have e := List.dropLast_concat_getLast hne
  have hlast : l.getLast hne = (n : Int) := by
    have h1 := (hb _ (List.getLast_mem hne)).2
    rw [← e] at hn ha
    rcases List.mem_append.mp hn with hm | hm
    · have := (List.pairwise_append.mp ha).2.2 _ hm _ (List.mem_singleton.mpr rfl)
      omega
    · exact (List.mem_singleton.mp hm).symm
  rw [hlast] at e
  refine ⟨e.symm, ?_⟩
  rw [← e] at ha
  have hp := List.pairwise_append.mp ha
  refine ⟨hp.1, fun v hv => ⟨(hb v ((List.dropLast_sublist l).subset hv)).1, hp.2.2 v hv _ (List.mem_singleton.mpr rfl)⟩, by rw [List.length_dropLast, hl]; rfl⟩
theorem flt_len {α : Type} (p : α → Bool) : ∀ l : List α, l.length = (l.filter p).length + (l.filter fun x => !p x).length
  | [] => rfl
  | a :: l => by
    have := flt_len p l
    cases h : p a <;> simp [h] <;> omega
theorem erase_last {x : List Int} {v : Int} {i : Nat} (h : i < x.length) : (x ++ [v]).eraseIdx i = x.eraseIdx i ++ [v] := List.eraseIdx_append_of_lt_length h [v]
/-- the theorem of Kruskal and Katona, for small families -/
theorem kk : ∀ (n k : Nat) (F G : List (List Int)), k < 5 → F.Nodup → (∀ l ∈ F, Ev n k l) → F.length ≤ 36 → (∀ l ∈ F, ∀ i < k, l.eraseIdx i ∈ G) → lsh k F.length ≤ G.length
  | _, 0, F, G, _, _, _, _, _ => by rw [lsh0]; exact Nat.zero_le _
  | 0, k + 1, F, G, _, _, hF, _, _ => by
    have e : F = [] := by
      cases F with
      | nil => rfl
      | cons l F =>
        obtain ⟨_, hb, hl⟩ := hF l List.mem_cons_self
        cases l with
        | nil => simp at hl
        | cons v l =>
          have := hb v List.mem_cons_self
          omega
    subst e
    rw [List.length_nil, lsh_zero]
    exact Nat.zero_le _
  | n + 1, k + 1, F, G, hk, nd, hF, hlen, hG => by
    let p : List Int → Bool := fun l => decide ((n : Int) ∈ l)
    have hp : ∀ l, p l = true ↔ (n : Int) ∈ l := fun l => decide_eq_true_iff
    have hlF := flt_len p F
    have hlG := flt_len p G
    have hF1 : ∀ l ∈ F.filter p, l = l.dropLast ++ [(n : Int)] ∧ Ev n k l.dropLast := fun l hl =>
      ends_n (hF l (List.mem_filter.mp hl).1) ((hp l).mp (List.mem_filter.mp hl).2)
    have hnot : ∀ x : List Int, Ev n k x → (n : Int) ∉ x := fun x hx hm => by have := (hx.2.1 _ hm).2; omega
    -- those without n
    have i0 := kk n (k + 1) (F.filter fun x => !p x) (G.filter fun x => !p x) hk (nd.filter _) (fun l hl => by
      obtain ⟨h1, h2⟩ := List.mem_filter.mp hl
      obtain ⟨ha, hb, hl'⟩ := hF l h1
      refine ⟨ha, fun v hv => ⟨(hb v hv).1, ?_⟩, hl'⟩
      have h3 := (hb v hv).2
      have h4 : v ≠ (n : Int) := fun e => by
        subst e
        rw [(hp l).mpr hv] at h2
        cases h2
      omega) (by omega) (fun l hl i hi => by
      obtain ⟨h1, h2⟩ := List.mem_filter.mp hl
      refine List.mem_filter.mpr ⟨hG l h1 i hi, ?_⟩
      have h3 : p (l.eraseIdx i) = false := by
        cases hh : p (l.eraseIdx i) with
        | false => rfl
        | true =>
          have := (List.eraseIdx_sublist l i).subset ((hp _).mp hh)
          rw [(hp l).mpr this] at h2
          cases h2
      rw [h3]
      rfl)
    -- the others, without n
    have nd1 : ((F.filter p).map List.dropLast).Nodup := by
      refine List.pairwise_map.mpr (List.Pairwise.imp_of_mem (fun {a b} ha hb ne e => ne ?_) (nd.filter p))
      rw [(hF1 a ha).1, (hF1 b hb).1, e]
    have i1 := kk n k ((F.filter p).map List.dropLast) ((G.filter p).map List.dropLast) (by omega) nd1 (fun x hx => by
      obtain ⟨l, hl, rfl⟩ := List.mem_map.mp hx
      exact (hF1 l hl).2) (by rw [List.length_map]; omega) (fun x hx i hi => by
      obtain ⟨l, hl, rfl⟩ := List.mem_map.mp hx
      obtain ⟨e, hev⟩ := hF1 l hl
      have hil : i < l.dropLast.length := by rw [hev.2.2]; exact hi
      have hm := hG l (List.mem_filter.mp hl).1 i (by omega)
      generalize l.dropLast = x at *
      subst e
      rw [erase_last hil] at hm
      exact List.mem_map.mpr ⟨_, List.mem_filter.mpr ⟨hm, (hp _).mpr (by simp)⟩, by simp⟩)
    have i2 : (F.filter p).length ≤ (G.filter fun x => !p x).length := by
      rw [← List.length_map List.dropLast (as := F.filter p)]
      refine List.Nodup.length_le_of_subset nd1 fun x hx => ?_
      obtain ⟨l, hl, rfl⟩ := List.mem_map.mp hx
      obtain ⟨e, hev⟩ := hF1 l hl
      have hm := hG l (List.mem_filter.mp hl).1 k (by omega)
      have hl2 : l.length = k + 1 := (hF l (List.mem_filter.mp hl).1).2.2
      have e2 : l.eraseIdx k = l.dropLast := by
        rw [List.dropLast_eq_take, hl2]
        exact (List.eraseIdx_eq_take_drop_succ l k).trans (by rw [List.drop_eq_nil_of_le (by omega), List.append_nil]; rfl)
      rw [e2] at hm
      refine List.mem_filter.mpr ⟨hm, ?_⟩
      have : p l.dropLast = false := decide_eq_false (hnot _ hev)
      rw [this]
      rfl
    rw [List.length_map] at i1
    rw [List.length_map] at i1
    have h := kk_num (k + 1) hk (F.filter fun x => !p x).length (by omega) (F.filter p).length (by omega) (by omega)
    rw [Nat.add_comm (List.filter (fun x => !p x) F).length, ← hlF] at h
    have h2 : k + 1 - 1 = k := rfl
    rw [h2] at h
    omega
/-! ## the program's functions -/
theorem F_choose_nat {n m u l : Nat} (hu : u ≤ 20000) (hl : l ≤ 1000) : F_choose [(n, .int u), (m, .int l)] = some ((B, .int (cho u l)), []) := by
  rw [← chI_cho]
  refine fn_W ?_
  unfold d_choose
  simp_arith!
  repeat with_reducible (first | refine W_assoc ?_ | refine W_nil ?_)
  refine W_for (s0 := [some (n, .int u), some (m, .int l), some (B, .int 1), none]) (fun i : Nat => (B, .int (i : Int))) (fun pre s => ∃ o, s = [some (n, .int u), some (m, .int l), some (B, .int (chP u pre)), o]) (xs := List.range l) (itR1_nat (by simp_arith) (by omega)) ⟨none, rfl⟩ ?_ ?_
  · rintro pre i s ⟨r, hr⟩ ⟨o, rfl⟩
    have hi := (range_pre hr).2.1
    have e1 : mulD (.int (chP u pre)) (.int ((u : Int) - i)) = some (.int (chP u pre * (u - i))) := mulD_int (.inr (small_of (by omega)))
    have e2 : ∀ z, fdivD (.int z) (.int ((i : Int) + 1)) = some (.int (z / (i + 1))) := fun z => fdivD_int (by omega) (by omega)
    refine ⟨_, rfl, ?_⟩
    simp_arith! [e1, e2]
    exact ⟨_, rfl, some (B, .int i), by rw [chP_snoc]⟩
  · rintro s ⟨o, rfl⟩
    simp_all! [mvM]
    exact ⟨_, rfl, rfl⟩
theorem F_law_choose_nat {n m u l : Nat} (hu : u ≤ 20000) (hl : l ≤ 1000) : F__law_choose [(n, .int u), (m, .int l)] = some ((B, .int (cho u l)), []) := by
  rw [← chI_cho]
  refine fn_W ?_
  unfold d__law_choose
  simp_arith!
  repeat with_reducible (first | refine W_assoc ?_ | refine W_nil ?_)
  refine W_for (s0 := [some (n, .int u), some (m, .int l), some (B, .int 1), none]) (fun i : Nat => (B, .int (i : Int))) (fun pre s => ∃ o, s = [some (n, .int u), some (m, .int l), some (B, .int (chP u pre)), o]) (xs := List.range l) (itR1_nat (by simp_arith) (by omega)) ⟨none, rfl⟩ ?_ ?_
  · rintro pre i s ⟨r, hr⟩ ⟨o, rfl⟩
    have hi := (range_pre hr).2.1
    have e1 : mulD (.int (chP u pre)) (.int ((u : Int) - i)) = some (.int (chP u pre * (u - i))) := mulD_int (.inr (small_of (by omega)))
    have e2 : ∀ z, fdivD (.int z) (.int ((i : Int) + 1)) = some (.int (z / (i + 1))) := fun z => fdivD_int (by omega) (by omega)
    refine ⟨_, rfl, ?_⟩
    simp_arith! [e1, e2]
    exact ⟨_, rfl, some (B, .int i), by rw [chP_snoc]⟩
  · rintro s ⟨o, rfl⟩
    simp_all! [mvM]
    exact ⟨_, rfl, rfl⟩
theorem F_need_number_ok {n m : Nat} {v l : Int} (h : l ≤ v ∧ v ≤ 10000) : F_need_number [(n, .int v), (m, .int l)] = some ((B, .non), []) := by
  have e := fun n1 n2 n3 => F_is_in_int n1 n2 n3 v l 10000
  rw [decide_eq_true h] at e
  refine fn_Wn ?_
  unfold d_need_number
  simp_all_arith! [e]
  exact ⟨_, rfl, rfl⟩
/-- a pair of numbers -/
def pD (p : Nat × Nat) : D := .tup [.int p.1, .int p.2]
theorem wh_succ (c : S → Res Bool) (fb : S → SRes) (n : Nat) (s s1 s2 : S) (h1 : c s = .ok true s1) (h2 : fb s1 = .nx s2) : whGo c fb (n + 1) s = whGo c fb n s2 := by
  rw [whGo, h1]
  simp only [Res.sbind, bindK, if_true]
  rw [h2]
theorem wh_end (c : S → Res Bool) (fb : S → SRes) (n : Nat) (s s1 : S) (h1 : c s = .ok false s1) : whGo c fb (n + 1) s = .nx s1 := by
  rw [whGo, h1]
  simp [Res.sbind, bindK]
theorem inner_wh {m k : Nat} {x : Option It} (hk : 1 ≤ k) (hk8 : k ≤ 8) (hm : 1 ≤ m) (hm2 : m ≤ 10000) : ∀ (f u : Nat), u ≤ upN k m → upN k m < u + f → whGo (tstM (mOp leD (callF [none, none] F_choose (consM (ofV (opV addD (seeP (pName 3)) (fun _ => some (.int 1)))) (consM (ofP 1 (pName 1)) nilM))) (ofP 0 (pName 0)))) b_cascade_in_1 f [some (B, .int m), some (B, .int k), x, some (B, .int u)] = .nx [some (B, .int m), some (B, .int k), x, some (B, .int (upN k m))]
  | 0, u, h1, h2 => by omega
  | f + 1, u, h1, h2 => by
    obtain ⟨a1, a2, a3, a4⟩ := upN_ok hk hm
    have e := fun n m => @F_choose_nat n m (u + 1) k (by omega) (by omega)
    by_cases c : u = upN k m
    · subst c
      refine wh_end _ _ f _ _ ?_
      have h : ¬ ((cho (upN k m + 1) k : Nat) : Int) ≤ (m : Int) := by omega
      generalize cho (upN k m + 1) k = z at *
      generalize upN k m = u at *
      have e' : ∀ n n', F_choose [(n, .int ((u : Int) + 1)), (n', .int k)] = some ((B, .int z), []) := fun n n' => e n n'
      simp_arith [e']
      omega
    · have h : ((cho (u + 1) k : Nat) : Int) ≤ (m : Int) := by
        have := cho_le (k := k) (a := u + 1) (b := upN k m) (by omega)
        omega
      rw [wh_succ _ _ f _ [some (B, .int m), some (B, .int k), x, some (B, .int u)] [some (B, .int m), some (B, .int k), x, some (B, .int ((u + 1 : Nat) : Int))] ?_ ?_]
      · exact inner_wh hk hk8 hm hm2 f (u + 1) (by omega) (by omega)
      · generalize cho (u + 1) k = z at *
        have e' : ∀ n n', F_choose [(n, .int ((u : Int) + 1)), (n', .int k)] = some ((B, .int z), []) := fun n n' => e n n'
        simp_arith [e']
        omega
      · simp_arith [agS, addI]
theorem outer_wh : ∀ (f k m : Nat) (ds : List D) (o : Option It), m ≤ 10000 → k ≤ 8 → (k = 0 → m = 0) → k < f → ds.length + k ≤ 8 → ∃ k' o', whGo (tstV (opV gtD (seeP (pName 0)) (fun _ => some (.int 0)))) b_cascade_in_2 f [some (B, .int m), some (B, .int k), some (B, .lst ds), o] = .nx [some (B, .int 0), some (B, .int k'), some (B, .lst (ds ++ (casc k m).map pD)), o']
  | 0, k, m, ds, o, hm, hk, hz, hf, hd => by omega
  | f + 1, k, m, ds, o, hm, hk, hz, hf, hd => by
    by_cases c : m = 0
    · subst c
      rw [casc_zero]
      refine ⟨(k : Int), o, ?_⟩
      rw [wh_end _ _ f _ [some (B, .int 0), some (B, .int k), some (B, .lst ds), o] (by simp_arith)]
      simp
    · obtain ⟨j, rfl⟩ : ∃ j, k = j + 1 := ⟨k - 1, by omega⟩
      obtain ⟨a1, a2, a3, a4⟩ := upN_ok (k := j + 1) (m := m) (by omega) (by omega)
      have e := fun n n' => @F_choose_nat n n' (upN (j + 1) m) (j + 1) (by omega) (by omega)
      have iw := fun x => @inner_wh m (j + 1) x (by omega) hk (by omega) hm 100000 (j + 1) a1 (by omega)
      obtain ⟨k', o', ih⟩ := outer_wh f j (m - cho (upN (j + 1) m) (j + 1)) (ds ++ [pD (upN (j + 1) m, j + 1)]) (some (B, .int (upN (j + 1) m))) (by omega) (by omega) (fun hj => by
        subst hj
        rw [cho, cho_zero] at a3
        omega) (by omega) (by rw [List.length_append, List.length_singleton]; omega)
      refine ⟨k', o', ?_⟩
      rw [wh_succ _ _ f _ [some (B, .int m), some (B, .int ((j + 1 : Nat) : Int)), some (B, .lst ds), o] [some (B, .int ((m - cho (upN (j + 1) m) (j + 1) : Nat) : Int)), some (B, .int j), some (B, .lst (ds ++ [pD (upN (j + 1) m, j + 1)])), some (B, .int (upN (j + 1) m))] ?_ ?_, ih]
      · conv => rhs; rw [casc, if_neg c]
        simp
      · simp_arith
        omega
      · have e2 : ((m - cho (upN (j + 1) m) (j + 1) : Nat) : Int) = (m : Int) - (cho (upN (j + 1) m) (j + 1) : Int) := by omega
        rw [e2]
        generalize cho (upN (j + 1) m) (j + 1) = z at *
        generalize upN (j + 1) m = u at *
        have hs : ds.length < sizeLine := by unfold sizeLine; omega
        have hl2 : line 2 = true := line_of (by omega)
        have e' : ∀ n n', F_choose [(n, .int u), (n', .int ((j : Int) + 1))] = some ((B, .int z), []) := fun n n' => e n n'
        refine seq_nx (s1 := [some (B, .int m), some (B, .int ((j + 1 : Nat) : Int)), some (B, .lst ds), some (B, .int ((j + 1 : Nat) : Int))]) (by simp_arith) ?_
        refine seq_nx (iw _) ?_
        simp_arith [agS, addI, apM, isL, hs, hl2, e', pD]
        rfl
theorem casc_mem : ∀ (k m : Nat) (p : Nat × Nat), p ∈ casc k m → 1 ≤ p.2 ∧ p.2 ≤ k ∧ p.1 ≤ k + m
  | 0, m, p, h => nomatch h
  | k + 1, m, p, h => by
    unfold casc at h
    split at h
    · exact nomatch h
    · rename_i c
      obtain ⟨a1, a2, a3, a4⟩ := upN_ok (k := k + 1) (m := m) (by omega) (by omega)
      rcases List.mem_cons.mp h with e | h
      · rw [e]
        exact ⟨by show 1 ≤ k + 1; omega, Nat.le_refl _, a4⟩
      · obtain ⟨b1, b2, b3⟩ := casc_mem k _ p h
        exact ⟨b1, by omega, by omega⟩
theorem casc_len : ∀ (k m : Nat), (casc k m).length ≤ k
  | 0, m => Nat.le_refl _
  | k + 1, m => by
    unfold casc
    split
    · exact Nat.zero_le _
    · have := casc_len k (m - cho (upN (k + 1) m) (k + 1))
      rw [List.length_cons]
      omega
theorem imm_pD (p : Nat × Nat) : isImm (pD p) = true := rfl
theorem imm_pDs (l : List (Nat × Nat)) : isImmL (l.map pD) = true := isImmL_mem.mpr fun x hx => by
  obtain ⟨p, _, rfl⟩ := List.mem_map.mp hx
  rfl
theorem F_cascade_in_nat {m k : Nat} (hm : m ≤ 10000) (h1 : 1 ≤ k) (hk : k ≤ 8) : F_cascade_in [(B, .int m), (B, .int k)] = some ((B, .lst ((casc k m).map pD)), []) := by
  obtain ⟨k', o', h⟩ := outer_wh 100000 k m [] none hm hk (by omega) (by omega) (by simpa using hk)
  refine fn_W ?_
  unfold d_cascade_in
  simp_arith!
  repeat with_reducible (first | refine W_assoc ?_ | refine W_nil ?_)
  refine W_seq h ?_
  simp_all! [mvM]
  exact ⟨_, rfl, rfl⟩
theorem tupD_pD (l : List (Nat × Nat)) : tupleD [.lst (l.map pD)] = some (.tup (l.map pD)) := by
  show (if isImmL _ = true then _ else _) = _
  rw [if_pos (imm_pDs l)]
theorem F_cascade_nat {m k n n' : Nat} (hm : m ≤ 10000) (h1 : 1 ≤ k) (hk : k ≤ 8) : F_cascade [(n, .int m), (n', .int k)] = some ((B, .tup ((casc k m).map pD)), []) := by
  have e1 := fun n n' => @F_need_number_ok n n' (m : Int) 0 (by omega)
  have e2 := fun n1 n2 n3 => F_is_in_int n1 n2 n3 (k : Int) 1 8
  rw [decide_eq_true (show (1 : Int) ≤ (k : Int) ∧ (k : Int) ≤ 8 by omega)] at e2
  have e3 := F_cascade_in_nat hm h1 hk
  have e4 := tupD_pD (casc k m)
  generalize (casc k m).map pD = ds at *
  refine fn_W ?_
  unfold d_cascade
  simp_arith! [e1]
  simp_all_arith! [e2]
  simp_all! [e3, e4]
  exact ⟨_, rfl, rfl⟩
theorem sum_cast (l : List Nat) : (l.map fun i : Nat => (i : Int)).sum = ((l.sum : Nat) : Int) := by
  induction l with
  | nil => rfl
  | cons a l ih => rw [List.map_cons, List.sum_cons, List.sum_cons, ih]; omega
theorem itD_pD (l : List (Nat × Nat)) (s : S) : itD (.lst (l.map pD)) s = .ok (l.map fun p => (B, pD p)) s := by
  show Res.ok ((l.map pD).map fz) s = _
  rw [List.map_map]
  rfl
theorem c_shadow {m k : Nat} (hm : m ≤ 10000) (h1 : 1 ≤ k) (hk : k ≤ 8) {n n' : Nat} : c_least_shadow_1 [some (n, .int m), some (n', .int k), none, none] = .ok (B, .lst ((((casc k m).map fun p => cho p.1 (p.2 - 1)).map fun i : Nat => (i : Int)).map .int)) [some (n, .int m), some (n', .int k), none, none] := by
  have e3 := F_cascade_in_nat hm h1 hk
  have hmem := casc_mem k m
  generalize casc k m = l at *
  rw [c_least_shadow_1, lcM_all (s1 := [some (n, .int m), some (n', .int k), none, none]) (fun p : Nat × Nat => (B, pD p)) (fun p => .int (cho p.1 (p.2 - 1) : Nat)) (xs := l) (by
    have := itD_pD l
    simp_arith [e3, this])]
  · rw [List.map_map, List.map_map]
    simp [wipeS, restore]
  · intro p hp
    obtain ⟨a1, a2, a3⟩ := hmem p hp
    have e := fun n n' => @F_choose_nat n n' p.1 (p.2 - 1) (by omega) (by omega)
    have e2 : ((p.2 - 1 : Nat) : Int) = (p.2 : Int) - 1 := by omega
    rw [e2] at e
    refine ⟨[some (n, .int m), some (n', .int k), some (B, .int p.1), some (B, .int p.2)], rfl, rfl, rfl, ?_⟩
    simp_arith [wipeS, e]
theorem F_least_shadow_nat {m k n n' : Nat} (hm : m ≤ 10000) (h1 : 1 ≤ k) (hk : k ≤ 8) : F_least_shadow [(n, .int m), (n', .int k)] = some ((B, .int (lsh k m : Nat)), []) := by
  have e1 := fun n n' => @F_need_number_ok n n' (m : Int) 0 (by omega)
  have e2 := fun n1 n2 n3 => F_is_in_int n1 n2 n3 (k : Int) 1 8
  rw [decide_eq_true (show (1 : Int) ≤ (k : Int) ∧ (k : Int) ≤ 8 by omega)] at e2
  have e3 := fun n n' => @c_shadow m k hm h1 hk n n'
  have e4 := sumD_ints (((casc k m).map fun p => cho p.1 (p.2 - 1)).map fun i : Nat => (i : Int))
  rw [sum_cast] at e4
  have e5 : ((casc k m).map fun p => cho p.1 (p.2 - 1)).sum = lsh k m := rfl
  rw [e5] at e4
  generalize ((((casc k m).map fun p => cho p.1 (p.2 - 1)).map fun i : Nat => (i : Int)).map D.int) = ds at *
  generalize lsh k m = z at *
  refine fn_W ?_
  unfold d_least_shadow
  simp_arith! [e1]
  simp_all_arith! [e2]
  simp_all! [e3, e4]
  exact ⟨_, rfl, rfl⟩
/-! ## the law's own cascade -/
theorem W_ifBk {c : S → Res Bool} {k : S → SRes} {s s1 : S} {Q : SRes → Prop} (h : c s = .ok true s1) (hq : Q (.bk s1)) : W (seqS (ifS c (fun s => .bk s) nilS) k s) Q := by
  have e : seqS (ifS c (fun s => .bk s) nilS) k s = .bk s1 := by
    unfold seqS ifS
    rw [h]
    rfl
  rw [e]
  exact hq
theorem down_pick : ∀ k ≤ 8, pickL ((List.range k).map fun i : Nat => (1 + (i : Int))) none none (some (-1)) = (List.range k).map fun i : Nat => ((k - i : Nat) : Int) := by decide +kernel
theorem down_ok {k : Nat} (hk : k ≤ 8) : sl3D (.lst (rgD 1 ((k : Int) + 1))) none none (some (-1)) = some (.lst (((List.range k).map fun i : Nat => ((k - i : Nat) : Int)).map .int)) := by
  have e : rgD 1 ((k : Int) + 1) = ((List.range k).map fun i : Nat => (1 + (i : Int))).map .int := by
    unfold rgD
    rw [show ((k : Int) + 1 - 1).toNat = k by omega, List.map_map]
    rfl
  rw [e, ← down_pick k hk, ← pickL_map]
  show (if (isImmL _ && !(some (-1 : Int) == some 0)) = true then some (D.lst (pickL _ _ _ _)) else none) = _
  rw [immL_ints]
  rfl
theorem F_law_cascade_nat {m k n n' : Nat} (hm : m ≤ 10000) (h1 : 1 ≤ k) (hk : k ≤ 8) : F__law_cascade [(n, .int m), (n', .int k)] = some ((B, .lst ((casc k m).map pD)), []) := by
  have r1 : rgOk 1 ((k : Int) + 1) = true := decide_eq_true ⟨by decide, Nat.lt_of_le_of_lt (show ((k : Int) + 1).natAbs ≤ 9 by omega) (by decide), Nat.le_trans (show ((k : Int) + 1 - 1).toNat ≤ 8 by omega) (by decide)⟩
  have d1 := down_ok hk
  have hneg : negD (.int 1) = some (.int (-1)) := rfl
  refine fn_W ?_
  unfold d__law_cascade
  simp_arith!
  repeat with_reducible (first | refine W_assoc ?_ | refine W_nil ?_)
  refine W_for (s0 := [some (n, .int m), some (n', .int k), some (B, .lst []), none, none, none]) (fun i : Nat => (B, .int ((k - i : Nat) : Int))) (fun pre s => ∃ (m' : Nat) (ds : List D) (nn : Nat) (o3 o4 o5 : Option It), s = [some (nn, .int m'), some (n', .int k), some (B, .lst ds), o3, o4, o5] ∧ m' ≤ 10000 ∧ ds.length ≤ pre.length ∧ (k - pre.length = 0 → m' = 0) ∧ ds ++ (casc (k - pre.length) m').map pD = (casc k m).map pD) (xs := List.range k) ?_ ⟨m, [], n, none, none, none, rfl, hm, Nat.le_refl _, fun h => by simp at h; omega, by simp⟩ ?_ ?_
  · simp_arith [sl3V, lrg2, r1, d1, hneg]
    rw [List.map_map]
    rfl
  · rintro pre i s ⟨r, hr⟩ ⟨m', ds, nn, o3, o4, o5, rfl, hm', hd, hz, he⟩
    obtain ⟨q1, q2, q3⟩ := range_pre hr
    refine ⟨_, rfl, ?_⟩
    obtain ⟨j, hj⟩ : ∃ j, k - i = j + 1 := ⟨k - i - 1, by omega⟩
    rw [hj]
    rw [q1, hj] at he
    have hlen : k - (pre ++ [i]).length = j := by rw [List.length_append, List.length_singleton]; omega
    by_cases c : m' = 0
    · subst c
      simp_all_arith!
      refine ⟨_, rfl, 0, ds, nn, _, _, _, rfl, by omega, by rw [List.length_append]; omega, fun _ => rfl, ?_⟩
      rw [hlen, casc_zero]
      rw [casc_zero] at he
      exact he
    · obtain ⟨a1, a2, a3, a4⟩ := upN_ok (k := j + 1) (m := m') (by omega) (by omega)
      have e := fun u (hu : u ≤ 20000) n n' => @F_law_choose_nat n n' u (j + 1) hu (by omega)
      have hp : 0 < m' := by omega
      simp_all_arith [hp]
      simp_arith!
      repeat with_reducible (first | refine W_assoc ?_ | refine W_nil ?_)
      refine W_forx (s0 := [some (nn, .int m'), some (n', .int k), some (B, .lst ds), some (B, .int ((j + 1 : Nat) : Int)), some (B, .int ((j + 1 : Nat) : Int)), o5]) (fun i : Int => (B, .int i)) (fun pre s => ∃ o5, s = [some (nn, .int m'), some (n', .int k), some (B, .lst ds), some (B, .int ((j + 1 : Nat) : Int)), some (B, .int ((j + 1 + pre.length : Nat) : Int)), o5] ∧ j + 1 + pre.length ≤ upN (j + 1) m') (fun s => ∃ o5, s = [some (nn, .int m'), some (n', .int k), some (B, .lst ds), some (B, .int ((j + 1 : Nat) : Int)), some (B, .int (upN (j + 1) m' : Nat)), o5]) (xs := rgL 10001) (itR1_rg (n := 10001) rfl (by omega)) ⟨o5, rfl, a1⟩ ?_ ?_
      · rintro pre2 t s ⟨r2, hr2⟩ ⟨o5, rfl, hle⟩
        refine ⟨_, rfl, ?_⟩
        have e1 := e (j + 1 + pre2.length + 1) (by omega)
        by_cases hu : j + 1 + pre2.length = upN (j + 1) m'
        · have h : m' < cho (j + 1 + pre2.length + 1) (j + 1) := by rw [hu]; exact a3
          rw [← hu]
          generalize cho (j + 1 + pre2.length + 1) (j + 1) = z at *
          have e2 : ∀ n n', F__law_choose [(n, .int ((j : Int) + 1 + (pre2.length : Int) + 1)), (n', .int ((j : Int) + 1))] = some ((B, .int z), []) := fun n n' => e1 n n'
          repeat with_reducible (first | refine W_assoc ?_ | refine W_nil ?_)
          refine W_ifBk (s1 := [some (nn, .int m'), some (n', .int k), some (B, .lst ds), some (B, .int ((j + 1 : Nat) : Int)), some (B, .int ((j + 1 + pre2.length : Nat) : Int)), some (B, .int t)]) ?_ ?_
          · simp_arith [e2]
            omega
          · exact .inr (.inr ⟨_, rfl, some (B, .int t), rfl⟩)
        · have h : ¬ m' < cho (j + 1 + pre2.length + 1) (j + 1) := by
            have := cho_le (k := j + 1) (a := j + 1 + pre2.length + 1) (b := upN (j + 1) m') (by omega)
            omega
          generalize cho (j + 1 + pre2.length + 1) (j + 1) = z at *
          have e2 : ∀ n n', F__law_choose [(n, .int ((j : Int) + 1 + (pre2.length : Int) + 1)), (n', .int ((j : Int) + 1))] = some ((B, .int z), []) := fun n n' => e1 n n'
          simp_all_arith! [e2, h]
          simp_arith!
          refine .inl ⟨_, .inl rfl, ⟨some (B, .int t), ?_, ?_⟩⟩
          · rw [List.length_append, List.length_singleton, ← Nat.add_assoc]; rfl
          · rw [List.length_append, List.length_singleton]; omega
      · rintro s hs
        have hs2 : ∃ o5, s = [some (nn, .int m'), some (n', .int k), some (B, .lst ds), some (B, .int ((j + 1 : Nat) : Int)), some (B, .int (upN (j + 1) m' : Nat)), o5] := by
          rcases hs with ⟨o5, _, h⟩ | h
          · exfalso
            have : (rgL 10001).length = 10001 := rgL_len _
            omega
          · exact h
        obtain ⟨o5, rfl⟩ := hs2
        have e1 := e (upN (j + 1) m') (by omega)
        have e2 : (m' : Int) - (cho (upN (j + 1) m') (j + 1) : Int) = ((m' - cho (upN (j + 1) m') (j + 1) : Nat) : Int) := by omega
        have hsz : ds.length < sizeLine := by unfold sizeLine; omega
        have hl2 : line 2 = true := line_of (by omega)
        have hB : min 999 B + 1 = B := rfl
        have e1' : ∀ n n', F__law_choose [(n, .int (upN (j + 1) m')), (n', .int ((j : Int) + 1))] = some ((B, .int (cho (upN (j + 1) m') (j + 1))), []) := fun n n' => e1 n n'
        simp_arith! [apM, isL, hsz, hl2, hB]
        have he' : (ds ++ [pD (upN (j + 1) m', j + 1)]) ++ (casc j (m' - cho (upN (j + 1) m') (j + 1))).map pD = (casc k m).map pD := by
          rw [← he]
          conv => rhs; rw [casc, if_neg c]
          simp
        have hz' : j = 0 → m' - cho (upN (j + 1) m') (j + 1) = 0 := fun h => by
          subst h
          rw [cho, cho_zero] at a3
          omega
        simp_arith! [e1', e2]
        refine ⟨_, rfl, m' - cho (upN (j + 1) m') (j + 1), _, B, _, _, _, rfl, by omega, ?_, ?_, ?_⟩
        · rw [List.length_append, List.length_append, List.length_singleton, List.length_singleton]; omega
        · rw [hlen]; exact hz'
        · rw [hlen]; exact he'
  · rintro s ⟨m', ds, nn, o3, o4, o5, rfl, hm', hd, hz, he⟩
    rw [List.length_range, Nat.sub_self] at he
    rw [show (casc 0 m').map pD = [] from rfl, List.append_nil] at he
    subst he
    simp_all! [mvM]
    exact ⟨_, rfl, rfl⟩
theorem c_lshadow {m k : Nat} (hm : m ≤ 10000) (h1 : 1 ≤ k) (hk : k ≤ 8) {n n' : Nat} : c__law_shadow_1 [some (n, .int m), some (n', .int k), none, none] = .ok (B, .lst ((((casc k m).map fun p => cho p.1 (p.2 - 1)).map fun i : Nat => (i : Int)).map .int)) [some (n, .int m), some (n', .int k), none, none] := by
  have e3 := fun n n' => @F_law_cascade_nat m k n n' hm h1 hk
  have hmem := casc_mem k m
  generalize casc k m = l at *
  rw [c__law_shadow_1, lcM_all (s1 := [some (n, .int m), some (n', .int k), none, none]) (fun p : Nat × Nat => (B, pD p)) (fun p => .int (cho p.1 (p.2 - 1) : Nat)) (xs := l) (by
    have := itD_pD l
    simp_arith [e3, this])]
  · rw [List.map_map, List.map_map]
    simp [wipeS, restore]
  · intro p hp
    obtain ⟨a1, a2, a3⟩ := hmem p hp
    have e := fun n n' => @F_law_choose_nat n n' p.1 (p.2 - 1) (by omega) (by omega)
    have e2 : ((p.2 - 1 : Nat) : Int) = (p.2 : Int) - 1 := by omega
    rw [e2] at e
    refine ⟨[some (n, .int m), some (n', .int k), some (B, .int p.1), some (B, .int p.2)], rfl, rfl, rfl, ?_⟩
    simp_arith [wipeS, e]
theorem F_law_shadow_nat {m k n n' : Nat} (hm : m ≤ 10000) (h1 : 1 ≤ k) (hk : k ≤ 8) : F__law_shadow [(n, .int m), (n', .int k)] = some ((B, .int (lsh k m : Nat)), []) := by
  have e3 := fun n n' => @c_lshadow m k hm h1 hk n n'
  have e4 := sumD_ints (((casc k m).map fun p => cho p.1 (p.2 - 1)).map fun i : Nat => (i : Int))
  rw [sum_cast] at e4
  have e5 : ((casc k m).map fun p => cho p.1 (p.2 - 1)).sum = lsh k m := rfl
  rw [e5] at e4
  generalize ((((casc k m).map fun p => cho p.1 (p.2 - 1)).map fun i : Nat => (i : Int)).map D.int) = ds at *
  generalize lsh k m = z at *
  refine fn_W ?_
  unfold d__law_shadow
  simp_all! [e3, e4]
  exact ⟨_, rfl, rfl⟩
/-! ## the drawn family -/
theorem allT_map (ls : List (List Int)) : allT (ls.map sx) = some ls := by
  induction ls with
  | nil => rfl
  | cons l ls ih =>
    have e : intsT (sx l) = some l := allO_intm l
    rw [List.map_cons, allT, e, ih]
theorem srtT_ok {f : S → Res It} {s s1 : S} {n : Nat} {ls : List (List Int)} {L m : Nat} (hf : f s = .ok (n, .lst (ls.map sx)) s1) (hl : ls.length < 64) (hL : 1 ≤ L) (hm : m ≤ 64) (h : ∀ l ∈ ls, Ev m L l) : srtT f s = .ok (B, .lst ((ddC ls).map sx)) s1 := by
  have hk : okU ls = true := by
    unfold okU
    rw [Bool.and_eq_true]
    refine ⟨decide_eq_true hl, List.all_eq_true.mpr fun l hl => ?_⟩
    obtain ⟨_, hb, hlen⟩ := h l hl
    have e : (ls.headD [0]).length = L := by
      cases ls with
      | nil => cases hl
      | cons x xs => exact (h x List.mem_cons_self).2.2
    rw [Bool.and_eq_true, Bool.and_eq_true]
    refine ⟨⟨decide_eq_true (by rw [hlen, e]), decide_eq_true (by omega)⟩, List.all_eq_true.mpr fun v hv => decide_eq_true ?_⟩
    have := hb v hv
    omega
  unfold srtT
  rw [hf]
  simp only [bindK, show lstT (D.lst (ls.map sx)) = some ls from allT_map ls, hk, if_true]
  rfl
theorem ddC_nd {m L : Nat} {ls : List (List Int)} (hm : m ≤ 64) (h : ∀ l ∈ ls, Ev m L l) : (ddC ls).Nodup := by
  have ok : OkT L ls := fun l hl => ⟨(h l hl).2.2, fun v hv => by have := (h l hl).2.1 v hv; omega⟩
  exact (ddC_asc ok).imp fun h e => by rw [e] at h; omega
theorem ddC_len {m L : Nat} {ls : List (List Int)} (hm : m ≤ 64) (h : ∀ l ∈ ls, Ev m L l) : (ddC ls).length ≤ ls.length := List.Nodup.length_le_of_subset (ddC_nd hm h) fun x hx => mem_ddC.mp hx
theorem c_some {o0 o2 o3 o4 o5 o6 o7 o8 o9 oa ob oc od : Option It} {ns : List Int} {a b c : Int} {L : Nat} (ha : 0 ≤ a) :
    ∃ (ls : List (List Int)) (a' b' c' : Int), c_law_3 [o0, some (1, row ns a b c), o2, some (B, .int L), o4, o5, o6, o7, o8, o9, oa, ob, oc, od] = .ok (B, .lst (ls.map sx)) [o0, some (1, row ns a' b' c'), o2, some (B, .int L), o4, o5, o6, o7, o8, o9, oa, ob, oc, od] ∧ (∀ l ∈ ls, Ev 7 L l) ∧ ls.length ≤ 14 ∧ 0 ≤ a' := by
  obtain ⟨ls, a1, b1, c1, e1, D, ha1⟩ := F_simplices_drawn (ns := ns) (a := a) (b := b) (c := c) (n1 := B) (n2 := B) (most := 7) (size := 5) (by omega) (by omega) (by omega) (by omega) ha
  have e1' : F__law_simplices [(1, row ns a b c), (B, .int 7), (B, .int 5)] = _ := e1
  refine ⟨ls.filter fun l => decide ((l.length : Int) = (L : Int)), a1, b1, c1, ?_, fun l hl => ?_, Nat.le_trans (List.length_filter_le _ _) D.ln, ha1⟩
  · rw [c_law_3, lcM_map (s1 := [o0, some (1, row ns a1 b1 c1), o2, some (B, .int L), o4, o5, o6, o7, o8, o9, oa, ob, oc, od]) (fun l : List Int => (B, sx l)) (fun l => decide ((l.length : Int) = (L : Int))) sx (xs := ls) (by simp_arith [e1'])]
    · simp [wipeS, restore]
    · intro l _
      refine ⟨[o0, some (1, row ns a1 b1 c1), o2, some (B, .int L), o4, o5, some (B, sx l), o7, o8, o9, oa, ob, oc, od], rfl, ?_, rfl, fun _ => ?_⟩
      · simp_arith [wipeS]
      · simp_arith [wipeS]
  · obtain ⟨h1, h2⟩ := List.mem_filter.mp hl
    have d := D.dr l h1
    have := of_decide_eq_true h2
    exact ⟨d.1, fun v hv => d.2.1 v hv, by omega⟩
/-- a simplex of seven vertices, all its parts of a length -/
def full7 (L : Nat) : List (List Int) := (srtL (genW [rgL 7])).filter fun x => decide (x.length = L)
theorem full7_ok {L : Nat} {x : List Int} (h : x ∈ full7 L) : Ev 7 L x := by
  obtain ⟨h1, h2⟩ := List.mem_filter.mp h
  obtain ⟨hn, l, hl, hs⟩ := ((genW_faces [rgL 7]).mem x).mp (mem_srtL.mp h1)
  rw [List.mem_singleton] at hl
  subst hl
  exact ⟨(rgL_asc 7).sublist hs, fun v hv => mem_rgL.mp (hs.subset hv), of_decide_eq_true h2⟩
theorem full7_ne {L : Nat} (h1 : 1 ≤ L) (h2 : L ≤ 7) : full7 L ≠ [] := by
  have hm : (rgL 7).take L ∈ full7 L := List.mem_filter.mpr ⟨mem_srtL.mpr (((genW_faces [rgL 7]).mem _).mpr ⟨by
    intro e
    have := congrArg List.length e
    rw [List.length_take, rgL_len, List.length_nil] at this
    omega, rgL 7, List.mem_singleton.mpr rfl, List.take_sublist _ _⟩), decide_eq_true (by rw [List.length_take, rgL_len]; omega)⟩
  exact fun e => by rw [e] at hm; cases hm
theorem full7_len (L : Nat) : (full7 L).length ≤ 127 := by
  refine Nat.le_trans (List.length_filter_le _ _) ?_
  rw [srtL_len]
  exact Nat.le_trans (genW_faces [rgL 7]).len (by decide)
theorem F_law_faces7 {n : Nat} : F__law_faces [(n, .tup [.tup (rgD 0 7)])] = some ((B, .lst ((srtL (genW [rgL 7])).map sx)), []) :=
  @F_law_faces n _ [rgL 7] (.inl rfl) (fun l hl => by rw [List.mem_singleton.mp hl, rgL_len]; omega) (by decide)
theorem c_more {o0 o2 o3 o4 o5 o6 o7 o8 o9 oa ob oc od : Option It} {ns : List Int} {a b c : Int} {L : Nat} (h1 : 1 ≤ L) (h2 : L ≤ 4) (ha : 0 ≤ a) :
    ∃ (ls : List (List Int)) (a' b' c' : Int), c_law_4 [o0, some (1, row ns a b c), o2, some (B, .int L), o4, o5, o6, o7, o8, o9, oa, ob, oc, od] = .ok (B, .lst (ls.map sx)) [o0, some (1, row ns a' b' c'), o2, some (B, .int L), o4, o5, o6, o7, o8, o9, oa, ob, oc, od] ∧ (∀ l ∈ ls, Ev 7 L l) ∧ ls.length ≤ 11 ∧ 0 ≤ a' := by
  obtain ⟨t, a1, b1, c1, e0, ht, ha1⟩ := F_taken (ns := ns) (a := a) (b := b) (c := c) (m := 12) (n := B) (by omega) (by omega) ha
  obtain ⟨k, rfl⟩ : ∃ k : Nat, t = k := ⟨t.toNat, by omega⟩
  have e1 : itR1M (callF [some 1, none] F__law_taken (consL 1 (consM (ofV (fun _ => some (.int 12))) nilM))) [o0, some (1, row ns a b c), o2, some (B, .int L), o4, o5, o6, o7, o8, o9, oa, ob, oc, od] = .ok ((rgL k).map fun i => (B, .int i)) [o0, some (1, row ns a1 b1 c1), o2, some (B, .int L), o4, o5, o6, o7, o8, o9, oa, ob, oc, od] :=
    itR1M_rg (m := B) (by simp_arith [e0]) (by omega)
  have f1 := fun n => @F_law_faces7 n
  have f2 := fun n m => @F_law_at n m (srtL (genW [rgL 7])) (L - 1)
  have f3 : ((srtL (genW [rgL 7])).filter fun x => decide (x.length = L - 1 + 1)) = full7 L := by
    unfold full7
    rw [show L - 1 + 1 = L by omega]
  rw [f3, show ((L - 1 : Nat) : Int) = (L : Int) - 1 by omega] at f2
  have r7 : rgOk 0 7 = true := by decide +kernel
  generalize srtL (genW [rgL 7]) = fs at *
  obtain ⟨ys, s', e2, hl, hp, a2, b2, c2, rfl, ha2⟩ := lcGo_inv (vs := [2]) (g := gNm 2) (ft := fun s => .ok true s) (fe := callF [some 1, none] F__law_pick (consL 1 (consM (callF [none, none] F__law_at (consM (callF [none] F__law_faces (consM (tupM (consM (rgM .tup (ofV (fun _ => some (.int 7)))) nilM)) nilM)) (consM (ofV (opV subD (seeP (pName 3)) (fun _ => some (.int 1)))) nilM))) nilM))) (fun i : Int => (B, D.int i))
    (fun s => ∃ a b c, s = [o0, some (1, row ns a b c), none, some (B, .int L), o4, o5, o6, o7, o8, o9, oa, ob, oc, od] ∧ 0 ≤ a) (fun y => ∃ l, y = (B, sx l) ∧ Ev 7 L l) (by
      rintro i s ⟨a, b, c, rfl, ha⟩
      obtain ⟨x, a', b', c', e, hx, ha'⟩ := F_pick_D (ns := ns) (a := a) (b := b) (c := c) (n := B) (l := (full7 L).map sx) (by simpa using full7_ne h1 (by omega)) (by have := full7_len L; rw [List.length_map]; omega) (immL_sxs _) ha
      obtain ⟨l, hl, rfl⟩ := List.mem_map.mp hx
      have hl2 := full7_ok hl
      refine ⟨_, (B, sx l), [o0, some (1, row ns a' b' c'), some (B, .int i), some (B, .int L), o4, o5, o6, o7, o8, o9, oa, ob, oc, od], rfl, rfl, ?_, ⟨l, rfl, hl2⟩, a', b', c', rfl, ha'⟩
      generalize full7 L = q at *
      simp_arith [rgM, r7, f1, f2, e]) (rgL k) [o0, some (1, row ns a1 b1 c1), none, some (B, .int L), o4, o5, o6, o7, o8, o9, oa, ob, oc, od] ⟨a1, b1, c1, rfl, ha1⟩
  obtain ⟨ls, rfl, hd⟩ := exists_map hp
  rw [List.length_map, rgL_len] at hl
  refine ⟨ls, a2, b2, c2, ?_, hd, by omega, ha2⟩
  rw [c_law_4, lcM_val e1 (show lcGo _ _ _ _ _ (wipeS _ [2]) = _ from e2), minDep_B _ _ fun _ _ => rfl]
  simp [restore]
theorem c_sums {m k n : Nat} {o0 o1 o2 o3 o4 o5 o6 o7 o8 o9 ob : Option It} (hm : m ≤ 10000) (h1 : 1 ≤ k) (hk : k ≤ 8) : ∃ n', c_law_1 [o0, o1, o2, o3, o4, o5, o6, o7, o8, o9, some (n, .tup ((casc k m).map pD)), ob, none, none] = .ok (B, .lst ((((casc k m).map fun p => cho p.1 p.2).map fun i : Nat => (i : Int)).map .int)) [o0, o1, o2, o3, o4, o5, o6, o7, o8, o9, some (n', .tup ((casc k m).map pD)), ob, none, none] := by
  have hmem := casc_mem k m
  have im : isImm (.tup ((casc k m).map pD)) = true := imm_pDs _
  generalize casc k m = l at *
  refine ⟨n, ?_⟩
  rw [c_law_1, lcM_all (s1 := [o0, o1, o2, o3, o4, o5, o6, o7, o8, o9, some (n, .tup (l.map pD)), ob, none, none]) (fun p : Nat × Nat => (B, pD p)) (fun p => .int (cho p.1 p.2 : Nat)) (xs := l) (by
    simp_arith [im]
    show Res.ok ((l.map pD).map fz) _ = _
    rw [List.map_map]
    rfl)]
  · rw [List.map_map, List.map_map]
    simp [wipeS, restore]
  · intro p hp
    obtain ⟨a1, a2, a3⟩ := hmem p hp
    have e := fun n n' => @F_law_choose_nat n n' p.1 p.2 (by omega) (by omega)
    refine ⟨[o0, o1, o2, o3, o4, o5, o6, o7, o8, o9, some (n, .tup (l.map pD)), ob, some (B, .int p.1), some (B, .int p.2)], rfl, rfl, rfl, ?_⟩
    simp_arith [wipeS, e]
theorem law_true : ∀ ns : List Int, ns.length ≤ 63 → ∃ n, F_law [(0, .scr ns)] = some ((n, .bl true), []) := by
  intro ns hns
  refine ⟨B, fn_W ?_⟩
  unfold d_law
  simp_arith!
  repeat with_reducible (first | refine W_assoc ?_ | refine W_nil ?_)
  refine W_for (s0 := [some (0, .scr ns), some (1, row ns 0 3348 0), none, none, none, none, none, none, none, none, none, none, none, none]) (fun i : Int => (B, .int i)) (fun pre s => ∃ a b c o2 o8 o9 oa, s = [some (0, .scr ns), some (1, row ns a b c), o2, none, none, none, none, none, o8, o9, oa, none, none, none] ∧ 0 ≤ a) (xs := rgL 4) (itR1_rg (n := 4) rfl (by omega)) ⟨0, 3348, 0, none, none, none, none, rfl, by omega⟩ ?_ ?_
  · rintro pre i s - ⟨a, b, c, o2, o8, o9, oa, rfl, ha⟩
    refine ⟨_, rfl, ?_⟩
    obtain ⟨x, a1, b1, c1, e1, hx, ha1⟩ := F_pick (ns := ns) (a := a) (b := b) (c := c) (n := B) (l := [5, 60, 10001]) (by simp) (by simp) ha
    have hx2 : 0 < x ∧ x ≤ 10001 := by
      simp only [List.mem_cons, List.not_mem_nil, or_false] at hx
      omega
    obtain ⟨r, a2, b2, c2, e2, hr, ha2⟩ := F_taken (ns := ns) (a := a1) (b := b1) (c := c1) (m := x) (n := B) (by omega) (by omega) ha1
    obtain ⟨t, a3, b3, c3, e3, ht, ha3⟩ := F_taken (ns := ns) (a := a2) (b := b2) (c := c2) (m := 8) (n := B) (by omega) (by omega) ha2
    obtain ⟨m, rfl⟩ : ∃ m : Nat, r = m := ⟨r.toNat, by omega⟩
    obtain ⟨k, hk⟩ : ∃ k : Nat, 1 + t = (k : Int) := ⟨(1 + t).toNat, by omega⟩
    have hm : m ≤ 10000 := by omega
    have h1 : 1 ≤ k := by omega
    have hk8 : k ≤ 8 := by omega
    have l3 : line 3 = true := line_of (by omega)
    simp only [List.map_cons, List.map_nil] at e1
    simp_arith! [e1, e2, e3, hk, l3]
    have f1 := fun n n' => @F_cascade_nat m k n n' hm h1 hk8
    have f2 := fun n n' => @F_law_cascade_nat m k n n' hm h1 hk8
    have f3 := tupD_pD (casc k m)
    have f4 : ∀ n n', F__law_alike 4 [(n, .tup ((casc k m).map pD)), (n', .tup ((casc k m).map pD))] = some ((B, .bl true), []) := fun n n' => by
      have := @lalike_tsx n n' ((casc k m).map fun p => [(p.1 : Int), (p.2 : Int)]) (by have := casc_len k m; rw [List.length_map]; omega) fun l hl => by
        obtain ⟨p, _, rfl⟩ := List.mem_map.mp hl
        show 2 ≤ 1000000
        omega
      rw [List.map_map] at this
      exact this
    obtain ⟨n', f5⟩ := @c_sums m k B (some (0, .scr ns)) (some (1, row ns a3 b3 c3)) (some (B, .int i)) none none none none none (some (B, .int m)) (some (B, .int k)) none hm h1 hk8
    have f6 := sumD_ints (((casc k m).map fun p => cho p.1 p.2).map fun i : Nat => (i : Int))
    rw [sum_cast, casc_sum k m (by omega)] at f6
    have f7 := fun n n' => @F_least_shadow_nat m k n n' hm h1 hk8
    have f8 := fun n n' => @F_law_shadow_nat m k n n' hm h1 hk8
    have f9 := fun n n' (z : Int) => @lalike_int n n' z
    have im : isImm (.tup ((casc k m).map pD)) = true := imm_pDs _
    generalize (((casc k m).map fun p => cho p.1 p.2).map fun i : Nat => (i : Int)).map D.int = ds at *
    generalize (casc k m).map pD = es at *
    generalize lsh k m = z at *
    simp_arith! [f1]
    simp_all_arith! [f2, f3, f4, im]
    simp_all_arith! [f5, f6]
    simp_all_arith! [f7, f8, f9]
    exact ⟨_, rfl, a3, b3, c3, _, _, _, _, rfl, ha3⟩
  · rintro s ⟨a, b, c, o2, o8, o9, oa, rfl, ha⟩
    obtain ⟨t, a1, b1, c1, e1, ht, ha1⟩ := F_taken (ns := ns) (a := a) (b := b) (c := c) (m := 4) (n := B) (by omega) (by omega) ha
    obtain ⟨L, hL⟩ : ∃ L : Nat, 1 + t = (L : Int) := ⟨(1 + t).toNat, by omega⟩
    have h1 : 1 ≤ L := by omega
    have h4 : L ≤ 4 := by omega
    simp_arith! [e1, hL]
    obtain ⟨ls, a2, b2, c2, e2, hls, hl14, ha2⟩ := @c_some (some (0, .scr ns)) o2 none none none none none o8 o9 oa none none none ns a1 b1 c1 L ha1
    have e3 := srtT_ok (L := L) (m := 7) e2 (by omega) h1 (by omega) hls
    have hd : ∀ l ∈ ddC ls, Ev 7 L l := fun l hl => hls l (mem_ddC.mp hl)
    have hdl : (ddC ls).length ≤ 14 := Nat.le_trans (ddC_len (m := 7) (L := L) (by omega) hls) hl14
    generalize ddC ls = ds at *
    simp_arith! [e3]
    obtain ⟨ms, a3, b3, c3, e4, hms, hm11, ha3⟩ := @c_more (some (0, .scr ns)) o2 none (some (0, .lst (ds.map sx))) none none none o8 o9 oa none none none ns a2 b2 c2 L h1 h4 ha2
    have e5 := mOp_ok (g := addD) (fa := ofP 4 (pName 4)) (fb := c_law_4) (n := 0) (m := B) (x := .lst (ds.map sx)) (y := .lst (ms.map sx)) (z := .lst ((ds ++ ms).map sx)) (s := [some (0, .scr ns), some (1, row ns a2 b2 c2), o2, some (B, .int L), some (B, .lst (ds.map sx)), none, none, none, o8, o9, oa, none, none, none]) (s1 := [some (0, .scr ns), some (1, row ns a2 b2 c2), o2, some (B, .int L), some (0, .lst (ds.map sx)), none, none, none, o8, o9, oa, none, none, none]) (s2 := [some (0, .scr ns), some (1, row ns a3 b3 c3), o2, some (B, .int L), some (0, .lst (ds.map sx)), none, none, none, o8, o9, oa, none, none, none]) (by simp_arith) e4 (by
      rw [addD_lst, immL_sxs, immL_sxs, line_of (by rw [List.length_map, List.length_map]; omega), List.map_append]
      rfl)
    have hb : ∀ l ∈ ds ++ ms, Ev 7 L l := fun l hl => (List.mem_append.mp hl).elim (hd l) (hms l)
    have hbl : (ds ++ ms).length ≤ 25 := by rw [List.length_append]; omega
    have e6 := srtT_ok (L := L) (m := 7) e5 (by omega) h1 (by omega) hb
    have hE : ∀ l ∈ ddC (ds ++ ms), Ev 7 L l := fun l hl => hb l (mem_ddC.mp hl)
    have hEl : (ddC (ds ++ ms)).length ≤ 25 := Nat.le_trans (ddC_len (m := 7) (L := L) (by omega) hb) hbl
    have hEn : (ddC (ds ++ ms)).Nodup := ddC_nd (m := 7) (L := L) (by omega) hb
    clear e5
    generalize ddC (ds ++ ms) = fs at *
    simp_arith! [e6]
    simp_arith!
    repeat with_reducible (first | refine W_assoc ?_ | refine W_nil ?_)
    refine W_for (s0 := [some (0, .scr ns), some (1, row ns a3 b3 c3), o2, some (B, .int L), some (0, .lst (fs.map sx)), some (B, dsx []), none, none, o8, o9, oa, none, none, none]) (fun l : List Int => (B, sx l)) (fun pre s => ∃ G o6 ob, s = [some (0, .scr ns), some (1, row ns a3 b3 c3), o2, some (B, .int L), some (0, .lst (fs.map sx)), some (B, dsx G), o6, none, o8, o9, oa, ob, none, none] ∧ G.length ≤ pre.length * L ∧ ∀ l ∈ pre, ∀ i < L, l.eraseIdx i ∈ G) (xs := fs) ?_ ⟨[], none, none, rfl, by simp, by simp⟩ ?_ ?_
    · simp_arith
      rfl
    · rintro pre l s ⟨rr, hr⟩ ⟨G, o6, ob, rfl, hG, hGm⟩
      refine ⟨_, rfl, ?_⟩
      have hlm : l ∈ fs := by rw [hr]; simp
      have hlen : l.length = L := (hE l hlm).2.2
      have hpl : pre.length < 25 := by
        have := congrArg List.length hr
        rw [List.length_append, List.length_cons] at this
        omega
      have hGL : pre.length * L ≤ 24 * 4 := Nat.mul_le_mul (by omega) h4
      repeat with_reducible (first | refine W_assoc ?_ | refine W_nil ?_)
      refine W_for (s0 := [some (0, .scr ns), some (1, row ns a3 b3 c3), o2, some (B, .int L), some (0, .lst (fs.map sx)), some (B, dsx G), some (B, sx l), none, o8, o9, oa, ob, none, none]) (fun i : Nat => (B, .int (i : Int))) (fun pre2 s => ∃ G' ob, s = [some (0, .scr ns), some (1, row ns a3 b3 c3), o2, some (B, .int L), some (0, .lst (fs.map sx)), some (B, dsx G'), some (B, sx l), none, o8, o9, oa, ob, none, none] ∧ G'.length ≤ G.length + pre2.length ∧ (∀ x ∈ G, x ∈ G') ∧ ∀ i < pre2.length, l.eraseIdx i ∈ G') (xs := List.range L) (itR1_nat (by simp_arith) (by omega)) ⟨G, ob, rfl, by simp, fun x hx => hx, by simp⟩ ?_ ?_
      · rintro pre2 i s ⟨r2, hr2⟩ ⟨G', ob, rfl, hG1, hG2, hG3⟩
        obtain ⟨q1, q2, q3⟩ := range_pre hr2
        refine ⟨_, rfl, ?_⟩
        have e1 := cutD_take l i (by omega)
        have e2 := cutD_drop l i (by omega)
        have e3 := addD_sx (l.take i) (l.drop (i + 1)) (by rw [List.length_take, List.length_drop]; omega)
        rw [← List.eraseIdx_eq_take_drop_succ] at e3
        have e4 := fun n m => @storeD_dsx n m G' (l.eraseIdx i) (by omega)
        generalize l.take i = x1 at *
        generalize l.drop (i + 1) = x2 at *
        simp_arith! [e1, e2, e3, e4]
        refine ⟨_, rfl, putS G' (l.eraseIdx i), some (B, .int i), rfl, ?_, fun x hx => mem_putS.mpr (.inl (hG2 x hx)), fun j hj => ?_⟩
        · have := len_putS G' (l.eraseIdx i)
          rw [List.length_append, List.length_singleton]
          omega
        · rw [List.length_append, List.length_singleton] at hj
          refine mem_putS.mpr ?_
          by_cases c : j < pre2.length
          · exact .inl (hG3 j c)
          · exact .inr (by rw [show j = i by omega])
      · rintro s ⟨G', ob, rfl, hG1, hG2, hG3⟩
        rw [List.length_range] at hG1 hG3
        refine ⟨_, rfl, G', some (B, sx l), ob, rfl, ?_, fun x hx i hi => ?_⟩
        · rw [List.length_append, List.length_singleton, Nat.add_mul, Nat.one_mul]
          omega
        · rcases List.mem_append.mp hx with hx | hx
          · exact hG2 _ (hGm x hx i hi)
          · rw [List.mem_singleton.mp hx]
            exact hG3 i hi
    · rintro s ⟨G, o6, ob, rfl, hG, hGm⟩
      have hk := kk 7 L fs G (by omega) hEn hE (by omega) hGm
      have g1 := fun n n' => @F_least_shadow_nat fs.length L n n' (by omega) h1 (by omega)
      have g2 : ¬ (G.length : Int) < (lsh L fs.length : Nat) := by omega
      have g3 : lenD [dsx G] = some (.int G.length) := by
        show some (D.int ((G.map sx).length : Nat)) = _
        rw [List.length_map]
      generalize lsh L fs.length = z at *
      have g4 : lenD [.lst (fs.map sx)] = some (.int fs.length) := by
        show some (D.int ((fs.map sx).length : Nat)) = _
        rw [List.length_map]
      generalize dsx G = dg at *
      simp_all_arith! [g1, g2, g3, g4]
      obtain ⟨t2, a4, b4, c4, e7, ht2, ha4⟩ := F_taken (ns := ns) (a := a3) (b := b3) (c := c3) (m := 4) (n := B) (by omega) (by omega) ha3
      obtain ⟨T, hT⟩ : ∃ T : Nat, (L : Int) + t2 = (T : Int) := ⟨((L : Int) + t2).toNat, by omega⟩
      simp_arith! [e7, hT]
      have hcb : ∀ t < 9, ∀ l < 5, cho t l ≤ 10000 := by decide
      have g5 := fun n n' => @F_law_choose_nat n n' T L (by omega) (by omega)
      have g6 := fun n n' => @F_law_choose_nat n n' T (L - 1) (by omega) (by omega)
      rw [show ((L - 1 : Nat) : Int) = (L : Int) - 1 by omega] at g6
      have g7 := fun n n' => @F_least_shadow_nat (cho T L) L n n' (hcb T (by omega) L (by omega)) h1 (by omega)
      have g8 : lsh L (cho T L) = cho T (L - 1) := by
        unfold lsh
        rw [casc_full h1 (by omega)]
        simp
      rw [g8] at g7
      generalize cho T L = u at *
      generalize cho T (L - 1) = v at *
      simp_all! [g5, g6, g7]
      exact ⟨_, rfl, rfl⟩
end Pv
open PySem PySem.W PyProof.Rows in
set_option maxRecDepth 100000 in
set_option maxHeartbeats 0 in
theorem PySem.Challenge.cw_shapeholes_k48_whole_cascades_holds : PySem.Challenge.rw_shapeholes_k48_whole_cascades.Holds := by
  w_on; o_law; k_head; (case hw => w_witness2)
  k_fill
  refine Pv.the_walk Pv.law_true (l := PySem.Challenge.rw_shapeholes_k48_whole_cascades) rfl rfl (fun w h Y => PySem.W.kIn_of Y) ?F
  case F =>
    intro w mg fa h KX G hmg
    refine' Pv.all_mk KX G hmg ?a_is_integer ?l_is_integer ?c_is_integer ?k_is_integer ?a_is_in ?l_is_in ?c_is_in ?k_is_in ?a_choose ?l_choose ?c_choose ?k_choose ?a_need_number ?l_need_number ?c_need_number ?k_need_number ?a_cascade_in ?l_cascade_in ?c_cascade_in ?k_cascade_in ?a_cascade ?l_cascade ?c_cascade ?k_cascade ?a_least_shadow ?l_least_shadow ?c_least_shadow ?k_least_shadow ?a__law_taken ?l__law_taken ?c__law_taken ?k__law_taken ?a__law_pick ?l__law_pick ?c__law_pick ?k__law_pick ?a__law_alike ?l__law_alike ?c__law_alike ?k__law_alike ?a__law_simplex ?l__law_simplex ?c__law_simplex ?k__law_simplex ?a__law_simplices ?l__law_simplices ?c__law_simplices ?k__law_simplices ?a__law_faces ?l__law_faces ?c__law_faces ?k__law_faces ?a__law_at ?l__law_at ?c__law_at ?k__law_at ?a__law_choose ?l__law_choose ?c__law_choose ?k__law_choose ?a__law_cascade ?l__law_cascade ?c__law_cascade ?k__law_cascade ?a__law_shadow ?l__law_shadow ?c__law_shadow ?k__law_shadow ?a_law ?l_law ?c_law ?k_law ?z_MOST_LENGTH ?z_MOST_NUMBER ?z_bool ?z_int ?z_isinstance ?z_len ?z_list ?z_min ?z_range ?z_set ?z_sorted ?z_str ?z_sum ?z_tuple
    (case a_is_integer => k_is)
    (case l_is_integer => k_is)
    (case c_is_integer => k_is)
    (case k_is_integer => k_is)
    (case a_is_in => k_is)
    (case l_is_in => k_is)
    (case c_is_in => k_is)
    (case k_is_in => k_is)
    (case a_choose => k_is)
    (case l_choose => k_is)
    (case c_choose => k_is)
    (case k_choose => k_is)
    (case a_need_number => k_is)
    (case l_need_number => k_is)
    (case c_need_number => k_is)
    (case k_need_number => k_is)
    (case a_cascade_in => k_is)
    (case l_cascade_in => k_is)
    (case c_cascade_in => k_is)
    (case k_cascade_in => k_is)
    (case a_cascade => k_is)
    (case l_cascade => k_is)
    (case c_cascade => k_is)
    (case k_cascade => k_is)
    (case a_least_shadow => k_is)
    (case l_least_shadow => k_is)
    (case c_least_shadow => k_is)
    (case k_least_shadow => k_is)
    (case a__law_taken => k_is)
    (case l__law_taken => k_is)
    (case c__law_taken => k_is)
    (case k__law_taken => k_is)
    (case a__law_pick => k_is)
    (case l__law_pick => k_is)
    (case c__law_pick => k_is)
    (case k__law_pick => k_is)
    (case a__law_alike => k_is)
    (case l__law_alike => k_is)
    (case c__law_alike => k_is)
    (case k__law_alike => k_is)
    (case a__law_simplex => k_is)
    (case l__law_simplex => k_is)
    (case c__law_simplex => k_is)
    (case k__law_simplex => k_is)
    (case a__law_simplices => k_is)
    (case l__law_simplices => k_is)
    (case c__law_simplices => k_is)
    (case k__law_simplices => k_is)
    (case a__law_faces => k_is)
    (case l__law_faces => k_is)
    (case c__law_faces => k_is)
    (case k__law_faces => k_is)
    (case a__law_at => k_is)
    (case l__law_at => k_is)
    (case c__law_at => k_is)
    (case k__law_at => k_is)
    (case a__law_choose => k_is)
    (case l__law_choose => k_is)
    (case c__law_choose => k_is)
    (case k__law_choose => k_is)
    (case a__law_cascade => k_is)
    (case l__law_cascade => k_is)
    (case c__law_cascade => k_is)
    (case k__law_cascade => k_is)
    (case a__law_shadow => k_is)
    (case l__law_shadow => k_is)
    (case c__law_shadow => k_is)
    (case k__law_shadow => k_is)
    (case a_law => k_is)
    (case l_law => k_is)
    (case c_law => k_is)
    (case k_law => k_is)
    (case z_MOST_LENGTH => k_is)
    (case z_MOST_NUMBER => k_is)
    (case z_bool => k_is)
    (case z_int => k_is)
    (case z_isinstance => k_is)
    (case z_len => k_is)
    (case z_list => k_is)
    (case z_min => k_is)
    (case z_range => k_is)
    (case z_set => k_is)
    (case z_sorted => k_is)
    (case z_str => k_is)
    (case z_sum => k_is)
    (case z_tuple => k_is)
