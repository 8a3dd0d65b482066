import PyProof.Rows.All
import HandS.ForMost
import HandS.Zip
import HandS.TupAny
import HandS.TupMul
import HandS.Walk
import HandS.Wide
import HandS.SetKeys
import KE.GoesMore
import PyProof.Rows.CallKwBuiltin
import HandS.DictComp
import HandS.Ends
import PyProof.ReprRoads
import PyProof.Rows.RegStrFacts
import PyProof.StrOps2
import HandS.Iter
import HandS.Style
import HandS.Conv
import HandS.IsInst
import HandS.Flow
import PyProof.NeKinds
import PyProof.EqAt
import PyProof.Rows.IntBool
import HandS.SortInts
import HandS.Strs
import HandS.SetIn
import KE.GoesSet
import HandS.SetFor
import HandS.Dict
import PyProof.TupleIter
import PyProof.WalksMore
import PyProof.AttrMissHeap
import PySem.Challenge.RW_bentcoin_k62_bounds_of_programs
set_option Elab.async false
set_option linter.all false
set_option maxRecDepth 100000
set_option maxHeartbeats 4000000
namespace Bk
open PySem PySem.Spec PyProof.Rows L2

abbrev PD := PyData

/-! ### data in the heap -/
mutual
inductive Rp (K : PySem.W.Frag) (G : Hp) : V → PD → Prop
  | non : Rp K G .non .none
  | bl (b : Bool) : Rp K G (.bl b) (.bool b)
  | int (i : Int) : Rp K G (.int i) (.int i)
  | str (x : Str) : Rp K G (.str x) (.str x)
  | lst {a : Addr} {xs : List V} {ds : List PD} : G a = some (.lst xs) → Rps K G xs ds → Rp K G (.ref a) (.list ds)
  | scr {a : Addr} {xs : List V} {ds : List PD} : SqL K G a xs → Rps K G xs ds → Rp K G (.ref a) (.dict [(.none, .list ds)])
  | bar {a : Addr} {o : Obj} {xs : List V} {ds : List PD} : G a = some (.frz o (.tup xs)) → o.dict = none → Rps K G xs ds → Rp K G (.ref a) (.dict [(.bool true, .tuple ds)])
  | tup {a : Addr} {xs : List V} {ds : List PD} : SqT K G a xs → Rps K G xs ds → Rp K G (.ref a) (.tuple ds)
  | dic {a : Addr} {o : Obj} {kvs : List (Key × V)} {es : List (PD × PD)} : G a = some (.frz o (.dK kvs)) → Rpk K G kvs es → Rp K G (.ref a) (.dict es)
inductive Rps (K : PySem.W.Frag) (G : Hp) : List V → List PD → Prop
  | nil : Rps K G [] []
  | cons {v : V} {vs : List V} {d : PD} {ds : List PD} : Rp K G v d → Rps K G vs ds → Rps K G (v :: vs) (d :: ds)
inductive Rpk (K : PySem.W.Frag) (G : Hp) : List (Key × V) → List (PD × PD) → Prop
  | nil : Rpk K G [] []
  | consI {i : Int} {v : V} {kvs : List (Key × V)} {d : PD} {es : List (PD × PD)} : Rp K G v d → Rpk K G kvs es → Rpk K G ((.inl i, v) :: kvs) ((.int i, d) :: es)
  | consS {x : Str} {v : V} {kvs : List (Key × V)} {d : PD} {es : List (PD × PD)} : Rp K G v d → Rpk K G kvs es → Rpk K G ((.inr x, v) :: kvs) ((.str x, d) :: es)
end

theorem Rp.edict {K : PySem.W.Frag} {G : Hp} {a : Addr} {o : Obj} (h : G a = some (.frz o (.dK []))) : Rp K G (.ref a) (.dict []) := .dic h .nil
theorem sqT_mono {K : PySem.W.Frag} {G G' : Hp} (e : Same G G') {a : Addr} {xs : List V} (h : SqT K G a xs) : SqT K G' a xs := by
  rcases h with (h | ⟨o, h⟩) | h
  · exact .inl (.inl (e _ _ h))
  · exact .inl (.inr ⟨o, e _ _ h⟩)
  · exact .inr h

section
variable {K : PySem.W.Frag} {G G' : Hp}
theorem Rp.mono (e : Same G G') (d : PD) (v : V) (h : Rp K G v d) : Rp K G' v d :=
  Rp.rec (motive_1 := fun v d _ => Rp K G' v d) (motive_2 := fun vs ds _ => Rps K G' vs ds) (motive_3 := fun kvs es _ => Rpk K G' kvs es) .non .bl .int .str (fun h _ r => .lst (e _ _ h) r) (fun h _ r => .scr (e.seq h) r) (fun h n _ r => .bar (e _ _ h) n r) (fun h _ r => .tup (sqT_mono e h) r) (fun h _ r => .dic (e _ _ h) r) .nil (fun _ _ r t => .cons r t) .nil (fun _ _ r t => .consI r t) (fun _ _ r t => .consS r t) h
theorem Rps.mono (e : Same G G') (ds : List PD) (vs : List V) (h : Rps K G vs ds) : Rps K G' vs ds :=
  Rps.rec (motive_1 := fun v d _ => Rp K G' v d) (motive_2 := fun vs ds _ => Rps K G' vs ds) (motive_3 := fun kvs es _ => Rpk K G' kvs es) .non .bl .int .str (fun h _ r => .lst (e _ _ h) r) (fun h _ r => .scr (e.seq h) r) (fun h n _ r => .bar (e _ _ h) n r) (fun h _ r => .tup (sqT_mono e h) r) (fun h _ r => .dic (e _ _ h) r) .nil (fun _ _ r t => .cons r t) .nil (fun _ _ r t => .consI r t) (fun _ _ r t => .consS r t) h
mutual
def nd : PD → Bool
  | .list ds => nds ds
  | .tuple ds => nds ds
  | .dict _ => false
  | _ => true
def nds : List PD → Bool
  | [] => true
  | d :: ds => nd d && nds ds
end
mutual
theorem Rp.dp : ∀ (d : PD) (v : V), nd d = true → Rp K G v d → Dp K G v d
  | .none, _, _, h => by cases h; exact .non
  | .bool b, _, _, h => by cases h; exact .bl b
  | .int i, _, _, h => by cases h; exact .int i
  | .str x, _, _, h => by cases h; exact .str x
  | .list ds, _, q, h => by
    cases h with
    | lst h1 h2 => exact .lst (.inl (.inl h1)) (Rps.dp ds _ (by simpa [nd] using q) h2)
  | .tuple ds, _, q, h => by
    cases h with
    | tup h1 h2 => exact .tup h1 (Rps.dp ds _ (by simpa [nd] using q) h2)
  | .dict _, _, q, _ => by simp [nd] at q
theorem Rps.dp : ∀ (ds : List PD) (vs : List V), nds ds = true → Rps K G vs ds → DpAll K G vs ds
  | [], _, _, h => by cases h; exact .nil
  | d :: ds, _, q, h => by
    have q1 : nd d = true ∧ nds ds = true := by simpa [nds] using q
    cases h with
    | cons h1 h2 => exact .cons (Rp.dp d _ q1.1 h1) (Rps.dp ds _ q1.2 h2)
end
theorem Rps.length : ∀ {vs : List V} {ds : List PD}, Rps K G vs ds → vs.length = ds.length
  | _, _, .nil => rfl
  | _, _, .cons _ h => by rw [List.length_cons, List.length_cons, h.length]
theorem Rps.get : ∀ {vs : List V} {ds : List PD}, Rps K G vs ds → ∀ {i : Nat} {d : PD}, ds[i]? = some d → ∃ v, vs[i]? = some v ∧ Rp K G v d
  | _, _, .nil, _, _, h => by simp at h
  | _, _, .cons h1 _, 0, _, h => by simp at h; subst h; exact ⟨_, rfl, h1⟩
  | _, _, .cons _ h2, i + 1, _, h => by
    obtain ⟨v, e, r⟩ := h2.get (i := i) (by simpa using h)
    exact ⟨v, by simpa using e, r⟩
theorem Rps.of_get : ∀ {vs : List V} {ds : List PD}, Rps K G vs ds → ∀ {i : Nat} {v : V}, vs[i]? = some v → ∃ d, ds[i]? = some d ∧ Rp K G v d
  | _, _, .nil, _, _, h => by simp at h
  | _, _, .cons h1 _, 0, _, h => by simp at h; subst h; exact ⟨_, rfl, h1⟩
  | _, _, .cons _ h2, i + 1, _, h => by
    obtain ⟨v, e, r⟩ := h2.of_get (i := i) (by simpa using h)
    exact ⟨v, by simpa using e, r⟩
theorem Rps.app : ∀ {vs ws : List V} {ds es : List PD}, Rps K G vs ds → Rps K G ws es → Rps K G (vs ++ ws) (ds ++ es)
  | _, _, _, _, .nil, h => h
  | _, _, _, _, .cons h1 h2, h => .cons h1 (h2.app h)
theorem Rps.one {v : V} {d : PD} (h : Rp K G v d) : Rps K G [v] [d] := .cons h .nil
theorem Rps.take (n : Nat) : ∀ {vs : List V} {ds : List PD}, Rps K G vs ds → Rps K G (vs.take n) (ds.take n) := by
  induction n with
  | zero => intro vs ds _; simpa using Rps.nil
  | succ n ih =>
    intro vs ds h
    cases h with
    | nil => exact .nil
    | cons h1 h2 => exact .cons h1 (ih h2)
theorem Rps.drop (n : Nat) : ∀ {vs : List V} {ds : List PD}, Rps K G vs ds → Rps K G (vs.drop n) (ds.drop n) := by
  induction n with
  | zero => intro vs ds h; simpa using h
  | succ n ih =>
    intro vs ds h
    cases h with
    | nil => exact .nil
    | cons h1 h2 => exact ih h2
theorem Rps.set : ∀ {vs : List V} {ds : List PD} (i : Nat) {v : V} {d : PD}, Rps K G vs ds → Rp K G v d → Rps K G (vs.set i v) (ds.set i d)
  | _, _, _, _, _, .nil, _ => .nil
  | _, _, 0, _, _, .cons _ h2, h => .cons h h2
  | _, _, i + 1, _, _, .cons h1 h2, h => .cons h1 (Rps.set i h2 h)
theorem Rps.rev : ∀ {vs : List V} {ds : List PD}, Rps K G vs ds → Rps K G vs.reverse ds.reverse
  | _, _, .nil => .nil
  | _, _, .cons h1 h2 => by rw [List.reverse_cons, List.reverse_cons]; exact h2.rev.app (.one h1)
theorem Rps.ints : ∀ {vs : List V} {ns : List Int}, Rps K G vs (ns.map PyData.int) → vs = ns.map V.int
  | _, [], h => by cases h; rfl
  | _, n :: ns, h => by
    cases h with
    | cons h1 h2 => cases h1; rw [List.map_cons, Rps.ints h2]
theorem Rps.of_ints : ∀ (ns : List Int), Rps K G (ns.map V.int) (ns.map PyData.int)
  | [] => .nil
  | n :: ns => .cons (.int n) (Rps.of_ints ns)
theorem Rps.strs : ∀ {vs : List V} {ns : List Str}, Rps K G vs (ns.map PyData.str) → vs = ns.map V.str
  | _, [], h => by cases h; rfl
  | _, n :: ns, h => by
    cases h with
    | cons h1 h2 => cases h1; rw [List.map_cons, Rps.strs h2]
end

/-! ### what a local owns -/
inductive Oc where
  | lst (ds : List PD)
  | dic (es : List (Key × PD))
  | set (xs : List Int)
def kD : Key → PD
  | .inl i => .int i
  | .inr x => .str x
/-- a dict's data -/
def dK (es : List (Key × PD)) : List (PD × PD) := es.map fun p => (kD p.1, p.2)

inductive Rkv (K : PySem.W.Frag) (G : Hp) : List (Key × V) → List (Key × PD) → Prop
  | nil : Rkv K G [] []
  | cons {k : Key} {v : V} {kvs : List (Key × V)} {d : PD} {es : List (Key × PD)} : Rp K G v d → Rkv K G kvs es → Rkv K G ((k, v) :: kvs) ((k, d) :: es)
theorem Rkv.mono {K : PySem.W.Frag} {G G' : Hp} (e : Same G G') {kvs : List (Key × V)} {es : List (Key × PD)} (h : Rkv K G kvs es) : Rkv K G' kvs es := by
  induction h with
  | nil => exact .nil
  | cons h1 _ ih => exact .cons (h1.mono e) ih

inductive Cont (K : PySem.W.Frag) (G : Hp) : Option HO → Oc → Prop
  | ls {xs : List V} {ds : List PD} : Rps K G xs ds → Cont K G (some (.lst xs)) (.lst ds)
  | di {kvs : List (Key × V)} {es : List (Key × PD)} : Rkv K G kvs es → Cont K G (some (.dK kvs)) (.dic es)
  | se {S : Int → Bool} {n : Nat} {xs : List Int} : (∀ i, S i = decide (i ∈ xs)) → xs.Nodup → n = xs.length → Cont K G (some (.set S n)) (.set xs)
theorem Rkv.rpk {K : PySem.W.Frag} {G : Hp} {kvs : List (Key × V)} {es : List (Key × PD)} (h : Rkv K G kvs es) : Rpk K G kvs (dK es) := by
  induction h with
  | nil => exact .nil
  | @cons k v kvs d es r _ ih =>
    cases k with
    | inl i => exact .consI r ih
    | inr x => exact .consS r ih
theorem Rpk.rkv {K : PySem.W.Frag} {G : Hp} : ∀ {kvs : List (Key × V)} {es : List (PD × PD)}, Rpk K G kvs es → ∃ fs, es = dK fs ∧ Rkv K G kvs fs
  | _, _, .nil => ⟨[], rfl, .nil⟩
  | _, _, .consI (i := i) (d := d) r t => by
    obtain ⟨fs, e, q⟩ := t.rkv
    exact ⟨(.inl i, d) :: fs, by rw [e]; rfl, .cons r q⟩
  | _, _, .consS (x := x) (d := d) r t => by
    obtain ⟨fs, e, q⟩ := t.rkv
    exact ⟨(.inr x, d) :: fs, by rw [e]; rfl, .cons r q⟩
theorem dK_inj : ∀ {es fs : List (Key × PD)}, dK es = dK fs → es = fs
  | [], [], _ => rfl
  | [], _ :: _, h => by cases h
  | _ :: _, [], h => by cases h
  | (k, d) :: es, (k', d') :: fs, h => by
    have h : (kD k, d) :: dK es = (kD k', d') :: dK fs := h
    injection h with h1 h2
    injection h1 with h3 h4
    subst h4
    rw [dK_inj h2]
    cases k with
    | inl i => cases k' with
      | inl j => have h3 : PyData.int i = .int j := h3; cases h3; rfl
      | inr y => have h3 : PyData.int i = .str y := h3; cases h3
    | inr x => cases k' with
      | inl j => have h3 : PyData.str x = .int j := h3; cases h3
      | inr y => have h3 : PyData.str x = .str y := h3; cases h3; rfl
theorem Rpk.of {K : PySem.W.Frag} {G : Hp} {kvs : List (Key × V)} {es : List (Key × PD)} (h : Rpk K G kvs (dK es)) : Rkv K G kvs es := by
  obtain ⟨fs, e, q⟩ := h.rkv
  rw [dK_inj e]
  exact q
theorem Cont.mono {K : PySem.W.Frag} {G G' : Hp} (e : Same G G') {ho : Option HO} {o : Oc} (h : Cont K G ho o) : Cont K G' ho o := by
  cases h with
  | ls h => exact .ls (Rps.mono e _ _ h)
  | di h => exact .di (Rkv.mono e h)
  | se h1 h2 h3 => exact .se h1 h2 h3
theorem Cont.ex1 {K : PySem.W.Frag} {G : Hp} {ho : Option HO} {o : Oc} (h : Cont K G ho o) : ∃ x, ho = Option.some x := by
  cases h with
  | ls h => exact ⟨_, rfl⟩
  | di h => exact ⟨_, rfl⟩
  | se _ _ _ => exact ⟨_, rfl⟩
theorem Cont.lst {K : PySem.W.Frag} {G : Hp} {ho : Option HO} {ds : List PD} (h : Cont K G ho (.lst ds)) : ∃ xs, ho = some (.lst xs) ∧ Rps K G xs ds := by
  cases h with
  | ls h => exact ⟨_, rfl, h⟩
theorem Cont.dic {K : PySem.W.Frag} {G : Hp} {ho : Option HO} {es : List (Key × PD)} (h : Cont K G ho (.dic es)) : ∃ kvs, ho = some (.dK kvs) ∧ Rkv K G kvs es := by
  cases h with
  | di h => exact ⟨_, rfl, h⟩

theorem Cont.set {K : PySem.W.Frag} {G : Hp} {ho : Option HO} {xs : List Int} (h : Cont K G ho (.set xs)) : ∃ S n, ho = some (.set S n) ∧ (∀ i, S i = decide (i ∈ xs)) ∧ xs.Nodup ∧ n = xs.length := by
  cases h with
  | se h1 h2 h3 => exact ⟨_, _, rfl, h1, h2, h3⟩

/-- what is known of a slot: nothing; data that no one changes; an object of the def's own; the k-th object that the caller lends -/
inductive Bd where
  | un
  | sh (d : PD)
  | ow (o : Oc)
  | ib (k : Nat) (o : Oc)
abbrev EnvB := List Bd

/-- a def's frame: the heap at its entry, the data that the caller knows, what it must keep, what it is lent -/
structure Fm where
  H0 : Hp
  G0 : Hp
  M : Hp
  io : List Addr

def Slot (K : PySem.W.Frag) (F : Fm) (w : Addr → Option Nat) (H G : Hp) (v : Option (Option V)) (i : Nat) : Bd → Prop
  | .un => True
  | .sh d => ∃ x, v = some (some x) ∧ Rp K G x d
  | .ow o => ∃ l, v = some (some (.ref l)) ∧ w l = some i ∧ Cont K G (H l) o ∧ F.H0 l = none
  | .ib k o => ∃ l, v = some (some (.ref l)) ∧ w l = some i ∧ Cont K G (H l) o ∧ F.io[k]? = some l

structure In (K : PySem.W.Frag) (F : Fm) (w : Addr → Option Nat) (σ : L2.St) (H G : Hp) (E : EnvB) : Prop where
  sub : Same G H
  old : ∀ b, F.H0 b ≠ none → G b = F.G0 b
  keep : Same F.M H
  has : ∀ b, F.H0 b ≠ none → H b ≠ none
  own : ∀ b i, w b = some i → G b = none ∧ F.M b = none ∧ H b ≠ none
  len : E.length ≤ σ.length
  slot : ∀ i b, E[i]? = some b → Slot K F w H G σ[i]? i b

/-- a value come about: data; a new object that nobody else holds; the object that slot i owns -/
inductive Rs where
  | sh (d : PD)
  | nw (o : Oc)
  | br (i : Nat)
def RV (K : PySem.W.Frag) (F : Fm) (w : Addr → Option Nat) (σ : L2.St) (H G : Hp) (v : V) : Rs → Prop
  | .sh d => Rp K G v d
  | .nw o => ∃ p, v = .ref p ∧ Cont K G (H p) o ∧ G p = none ∧ F.H0 p = none ∧ F.M p = none ∧ w p = none
  | .br i => σ[i]? = some (some v)

section
variable {K : PySem.W.Frag} {F : Fm} {w : Addr → Option Nat} {σ : L2.St} {H G : Hp} {E : EnvB}

theorem same_new {H : Hp} {p : Addr} {o : HO} (h : H p = none) : Same H (upd H p o) := fun b x e => by
  rw [upd_ne (ne_of_none e h)]
  exact e
theorem Slot.mono {G' : Hp} {v : Option (Option V)} {i : Nat} (e : Same G G') : ∀ {b : Bd}, Slot K F w H G v i b → Slot K F w H G' v i b
  | .un, _ => trivial
  | .sh _, ⟨x, h, r⟩ => ⟨x, h, r.mono e⟩
  | .ow _, ⟨l, h, hw, c, n⟩ => ⟨l, h, hw, c.mono e, n⟩
  | .ib _ _, ⟨l, h, hw, c, n⟩ => ⟨l, h, hw, c.mono e, n⟩
/-- the heap elsewhere, the owners elsewhere -/
theorem Slot.other {H' : Hp} {w' : Addr → Option Nat} {v : Option (Option V)} {i : Nat} (e : ∀ l, w l = some i → H' l = H l ∧ w' l = some i) : ∀ {b : Bd}, Slot K F w H G v i b → Slot K F w' H' G v i b
  | .un, _ => trivial
  | .sh _, h => h
  | .ow _, ⟨l, h, hw, c, n⟩ => ⟨l, h, (e l hw).2, by rw [(e l hw).1]; exact c, n⟩
  | .ib _ _, ⟨l, h, hw, c, n⟩ => ⟨l, h, (e l hw).2, by rw [(e l hw).1]; exact c, n⟩

/-- a new object stands, nobody's yet -/
theorem In.alloc (I : In K F w σ H G E) {p : Addr} {o : HO} (hp : H p = none) : In K F w σ (upd H p o) G E ∧ G p = none ∧ F.H0 p = none ∧ F.M p = none ∧ w p = none := by
  have e : Same H (upd H p o) := same_new hp
  have n1 : G p = none := by
    cases q : G p with
    | none => rfl
    | some x => rw [I.sub p x q] at hp; cases hp
  have n2 : F.H0 p = none := by
    cases q : F.H0 p with
    | none => rfl
    | some x => exact absurd hp (I.has p (by rw [q]; exact Option.some_ne_none x))
  have n3 : F.M p = none := by
    cases q : F.M p with
    | none => rfl
    | some x => rw [I.keep p x q] at hp; cases hp
  have n4 : w p = none := by
    cases q : w p with
    | none => rfl
    | some x => exact absurd hp (I.own p x q).2.2
  refine ⟨⟨fun b x h => e b x (I.sub b x h), I.old, fun b x h => e b x (I.keep b x h), fun b h z => ?_, fun b i h => ?_, I.len, fun i b h => (I.slot i b h).other fun l hl => ⟨upd_ne ?_, hl⟩⟩, n1, n2, n3, n4⟩
  · by_cases q : b = p
    · subst q; exact h n2
    · rw [upd_ne q] at z; exact I.has b h z
  · have q : b ≠ p := fun q => by subst q; rw [n4] at h; cases h
    rw [upd_ne q]
    exact I.own b i h
  · intro q; subst q; rw [n4] at hl; cases hl
/-- .. and no one will change it -/
theorem In.share (I : In K F w σ H G E) {p : Addr} {o : HO} (h : H p = some o) (n1 : G p = none) (n2 : F.H0 p = none) (n4 : w p = none) : In K F w σ H (upd G p o) E ∧ Same G (upd G p o) := by
  have e : Same G (upd G p o) := same_new n1
  refine ⟨⟨fun b x q => ?_, fun b q => ?_, I.keep, I.has, fun b i q => ?_, I.len, fun i b q => (I.slot i b q).mono e⟩, e⟩
  · by_cases z : b = p
    · subst z; rw [upd_same] at q; cases q; exact h
    · rw [upd_ne z] at q; exact I.sub b x q
  · have z : b ≠ p := fun z => by subst z; exact q n2
    rw [upd_ne z]; exact I.old b q
  · have z : b ≠ p := fun z => by subst z; rw [n4] at q; cases q
    rw [upd_ne z]; exact I.own b i q
theorem In.allocSh (I : In K F w σ H G E) {p : Addr} {o : HO} (hp : H p = none) : In K F w σ (upd H p o) (upd G p o) E ∧ Same G (upd G p o) := by
  obtain ⟨I', n1, n2, _, n4⟩ := I.alloc (o := o) hp
  exact I'.share upd_same n1 n2 n4
theorem In.newL (I : In K F w σ H G E) {p : Addr} {xs : List V} {ds : List PD} (hp : H p = none) (r : Rps K G xs ds) : In K F w σ (upd H p (.lst xs)) G E ∧ RV K F w σ (upd H p (.lst xs)) G (.ref p) (.nw (.lst ds)) := by
  obtain ⟨I', n1, n2, n3, n4⟩ := I.alloc (o := .lst xs) hp
  exact ⟨I', p, rfl, by rw [upd_same]; exact .ls r, n1, n2, n3, n4⟩
theorem In.newD (I : In K F w σ H G E) {p : Addr} {kvs : List (Key × V)} {es : List (Key × PD)} (hp : H p = none) (r : Rkv K G kvs es) : In K F w σ (upd H p (.dK kvs)) G E ∧ RV K F w σ (upd H p (.dK kvs)) G (.ref p) (.nw (.dic es)) := by
  obtain ⟨I', n1, n2, n3, n4⟩ := I.alloc (o := .dK kvs) hp
  exact ⟨I', p, rfl, by rw [upd_same]; exact .di r, n1, n2, n3, n4⟩
theorem In.newS (I : In K F w σ H G E) {p : Addr} {S : Int → Bool} {n : Nat} {xs : List Int} (hp : H p = none) (h1 : ∀ i, S i = decide (i ∈ xs)) (h2 : xs.Nodup) (h3 : n = xs.length) : In K F w σ (upd H p (.set S n)) G E ∧ RV K F w σ (upd H p (.set S n)) G (.ref p) (.nw (.set xs)) := by
  obtain ⟨I', n1, n2, n3, n4⟩ := I.alloc (o := .set S n) hp
  exact ⟨I', p, rfl, by rw [upd_same]; exact .se h1 h2 h3, n1, n2, n3, n4⟩
theorem In.newT (I : In K F w σ H G E) {p : Addr} {xs : List V} {ds : List PD} (hp : H p = none) (r : Rps K G xs ds) : In K F w σ (upd H p (.tup xs)) (upd G p (.tup xs)) E ∧ Same G (upd G p (.tup xs)) ∧ Rp K (upd G p (.tup xs)) (.ref p) (.tuple ds) := by
  obtain ⟨I', s⟩ := I.allocSh (o := .tup xs) hp
  exact ⟨I', s, .tup (.inl (.inl upd_same)) (r.mono s)⟩

/-! what is frozen -/
def Rs.fz : Rs → Rs
  | .nw (.lst ds) => .sh (.list ds)
  | r => r
theorem In.fz (I : In K F w σ H G E) {v : V} {r : Rs} (h : RV K F w σ H G v r) : ∃ G', In K F w σ H G' E ∧ Same G G' ∧ RV K F w σ H G' v r.fz := by
  match r, h with
  | .sh d, h => exact ⟨G, I, Same.refl G, h⟩
  | .br i, h => exact ⟨G, I, Same.refl G, h⟩
  | .nw (.set xs), h => exact ⟨G, I, Same.refl G, h⟩
  | .nw (.dic es), h => exact ⟨G, I, Same.refl G, h⟩
  | .nw (.lst ds), ⟨p, e, c, n1, n2, n3, n4⟩ =>
    obtain ⟨xs, q, rr⟩ := c.lst
    obtain ⟨I', s⟩ := I.share q n1 n2 n4
    exact ⟨_, I', s, by subst e; exact .lst upd_same (rr.mono s)⟩
/-- slot i stores v -/
theorem In.set (I : In K F w σ H G E) {i : Nat} {v : V} {b : Bd} (h : Slot K F w H G (some (some v)) i b) : In K F w (σ.set i (some v)) H G (E.set i b) := by
  refine ⟨I.sub, I.old, I.keep, I.has, I.own, by rw [List.length_set, List.length_set]; exact I.len, fun j c q => ?_⟩
  by_cases z : i = j
  · subst z
    have hi : i < E.length := by
      have := (List.getElem?_eq_some_iff.mp q).1
      rwa [List.length_set] at this
    rw [List.getElem?_set_self hi] at q
    cases q
    have h2 : i < σ.length := Nat.lt_of_lt_of_le hi I.len
    rw [List.getElem?_set_self h2]
    exact h
  · rw [List.getElem?_set_ne z] at q
    rw [List.getElem?_set_ne z]
    exact I.slot j c q
/-- a slot's knowledge changed, its value as it was -/
theorem In.know (I : In K F w σ H G E) {i : Nat} {b : Bd} (h : i < E.length → Slot K F w H G σ[i]? i b) : In K F w σ H G (E.set i b) := by
  refine ⟨I.sub, I.old, I.keep, I.has, I.own, by rw [List.length_set]; exact I.len, fun j c q => ?_⟩
  by_cases z : i = j
  · subst z
    have hi : i < E.length := by
      have := (List.getElem?_eq_some_iff.mp q).1
      rwa [List.length_set] at this
    rw [List.getElem?_set_self hi] at q
    cases q
    exact h hi
  · rw [List.getElem?_set_ne z] at q
    exact I.slot j c q
/-- the new object comes to slot i -/
theorem In.setNw (I : In K F w σ H G E) {i : Nat} {v : V} {o : Oc} (h : RV K F w σ H G v (.nw o)) : ∃ w', In K F w' (σ.set i (some v)) H G (E.set i (.ow o)) := by
  obtain ⟨p, e, c, n1, n2, n3, n4⟩ := h
  subst e
  refine ⟨fun b => if b = p then some i else w b, ?_⟩
  have I' : In K F (fun b => if b = p then some i else w b) σ H G E := by
    refine ⟨I.sub, I.old, I.keep, I.has, fun b j q => ?_, I.len, fun j b q => (I.slot j b q).other fun l hl => ⟨rfl, ?_⟩⟩
    · by_cases z : b = p
      · subst z
        obtain ⟨x, hx⟩ := c.ex1
        exact ⟨n1, n3, by rw [hx]; exact Option.some_ne_none x⟩
      · have q : (if b = p then some i else w b) = some j := q
        rw [if_neg z] at q
        exact I.own b j q
    · have z : l ≠ p := fun z => by subst z; rw [n4] at hl; cases hl
      show (if l = p then some i else w l) = some j
      rw [if_neg z]; exact hl
  exact I'.set ⟨p, rfl, if_pos rfl, c, n2⟩
/-- the object of slot i is given up to what no one changes -/
theorem In.fzAny (I : In K F w σ H G E) {i : Nat} {o : Oc} (h : E[i]? = some (.ow o)) : ∃ w' l ho, In K F w' σ H (upd G l ho) (E.set i .un) ∧ Same G (upd G l ho) ∧ σ[i]? = some (some (.ref l)) ∧ H l = some ho ∧ Cont K G (some ho) o := by
  obtain ⟨l, e, hw, c, n2⟩ := I.slot i _ h
  obtain ⟨ho, q⟩ := c.ex1
  have n1 := (I.own l i hw).1
  have I1 : In K F (fun b => if b = l then none else w b) σ H G (E.set i .un) := by
    refine ⟨I.sub, I.old, I.keep, I.has, fun b j q => ?_, by rw [List.length_set]; exact I.len, fun j b q => ?_⟩
    · have q : (if b = l then none else w b) = some j := q
      by_cases z : b = l
      · rw [if_pos z] at q; cases q
      · rw [if_neg z] at q; exact I.own b j q
    · by_cases z : i = j
      · subst z
        have hi : i < E.length := by
          have := (List.getElem?_eq_some_iff.mp q).1
          rwa [List.length_set] at this
        rw [List.getElem?_set_self hi] at q
        cases q
        trivial
      · rw [List.getElem?_set_ne z] at q
        refine (I.slot j b q).other fun k hk => ⟨rfl, ?_⟩
        have z2 : k ≠ l := fun z2 => by subst z2; rw [hw] at hk; exact z (Option.some.inj hk)
        show (if k = l then none else w k) = some j
        rw [if_neg z2]; exact hk
  obtain ⟨I2, s⟩ := I1.share q n1 n2 (if_pos rfl)
  rw [q] at c
  exact ⟨_, l, ho, I2, s, e, q, c⟩
theorem In.fzSlot (I : In K F w σ H G E) {i : Nat} {ds : List PD} (h : E[i]? = some (.ow (.lst ds))) : ∃ w' G' l, In K F w' σ H G' (E.set i (.sh (.list ds))) ∧ Same G G' ∧ σ[i]? = some (some (.ref l)) ∧ Rp K G' (.ref l) (.list ds) := by
  obtain ⟨w', l, ho, I2, s, e, q, c⟩ := I.fzAny h
  obtain ⟨xs, e2, rr⟩ := c.lst
  cases e2
  have rp : Rp K (upd G l (.lst xs)) (.ref l) (.list ds) := .lst upd_same (rr.mono s)
  have I3 := I2.know (i := i) (b := .sh (.list ds)) fun _ => ⟨.ref l, e, rp⟩
  rw [List.set_set] at I3
  exact ⟨_, _, l, I3, s, e, rp⟩
theorem In.forget (I : In K F w σ H G E) (i : Nat) : In K F w σ H G (E.set i .un) := I.know fun _ => trivial
/-- the object of slot i is changed -/
def Bd.put : Bd → Oc → Bd
  | .ow _, o => .ow o
  | .ib k _, o => .ib k o
  | b, _ => b
def Bd.oc : Bd → Option Oc
  | .ow o => some o
  | .ib _ o => some o
  | _ => none
theorem In.owned (I : In K F w σ H G E) {i : Nat} {b : Bd} {o : Oc} (h : E[i]? = some b) (hb : b.oc = some o) : ∃ l, σ[i]? = some (some (.ref l)) ∧ w l = some i ∧ Cont K G (H l) o := by
  have s := I.slot i b h
  match b, hb, s with
  | .ow _, rfl, ⟨l, e, hw, c, _⟩ => exact ⟨l, e, hw, c⟩
  | .ib _ _, rfl, ⟨l, e, hw, c, _⟩ => exact ⟨l, e, hw, c⟩
theorem In.mut (I : In K F w σ H G E) {i : Nat} {b : Bd} {o o' : Oc} {l : Addr} {ho : HO} (h : E[i]? = some b) (hb : b.oc = some o) (hl : σ[i]? = some (some (.ref l))) (c : Cont K G (some ho) o') : In K F w σ (upd H l ho) G (E.set i (b.put o')) := by
  obtain ⟨l', e, hw, c0⟩ := I.owned h hb
  rw [hl] at e
  cases e
  obtain ⟨n1, n3, n5⟩ := I.own l i hw
  have ne : ∀ {b : Addr} {x : HO}, G b = some x → b ≠ l := fun {b x} q z => by subst z; rw [n1] at q; cases q
  refine ⟨fun b x q => ?_, I.old, fun b x q => ?_, fun b q z => ?_, fun b j q => ?_, by rw [List.length_set]; exact I.len, fun j d q => ?_⟩
  · rw [upd_ne (ne q)]; exact I.sub b x q
  · have z : b ≠ l := fun z => by subst z; rw [n3] at q; cases q
    rw [upd_ne z]; exact I.keep b x q
  · by_cases y : b = l
    · subst y; rw [upd_same] at z; cases z
    · rw [upd_ne y] at z; exact I.has b q z
  · refine ⟨(I.own b j q).1, (I.own b j q).2.1, fun z => ?_⟩
    by_cases y : b = l
    · subst y; rw [upd_same] at z; cases z
    · rw [upd_ne y] at z; exact (I.own b j q).2.2 z
  · by_cases z : i = j
    · subst z
      have hi : i < E.length := by
        have := (List.getElem?_eq_some_iff.mp q).1
        rwa [List.length_set] at this
      rw [List.getElem?_set_self hi] at q
      cases q
      have s := I.slot i b h
      match b, hb, s with
      | .ow _, _, ⟨l2, e2, hw2, _, n⟩ =>
        rw [hl] at e2
        cases e2
        exact ⟨l, hl, hw, by rw [upd_same]; exact c, n⟩
      | .ib _ _, _, ⟨l2, e2, hw2, _, n⟩ =>
        rw [hl] at e2
        cases e2
        exact ⟨l, hl, hw, by rw [upd_same]; exact c, n⟩
    · rw [List.getElem?_set_ne z] at q
      refine (I.slot j d q).other fun k hk => ⟨upd_ne fun z2 => ?_, hk⟩
      subst z2
      rw [hw] at hk
      exact z (Option.some.inj hk)
/-- behind a call that keeps all that stands -/
theorem In.after {H' G' : Hp} (I : In K F w σ H G E) (h1 : Same H H') (h2 : Same G' H') (h3 : ∀ b, H b ≠ none → G' b = G b) : In K F w σ H' G' E ∧ Same G G' := by
  have e : Same G G' := fun b x q => by
    rw [h3 b (by rw [I.sub b x q]; exact Option.some_ne_none x)]; exact q
  refine ⟨⟨h2, fun b q => ?_, fun b x q => h1 b x (I.keep b x q), fun b q z => ?_, fun b i q => ?_, I.len, fun i b q => ((I.slot i b q).mono e).other fun l hl => ⟨?_, hl⟩⟩, e⟩
  · rw [h3 b (I.has b q)]; exact I.old b q
  · have q2 := I.has b q
    cases y : H b with
    | none => exact q2 y
    | some x => rw [h1 b x y] at z; cases z
  · obtain ⟨n1, n3, n5⟩ := I.own b i q
    refine ⟨by rw [h3 b n5]; exact n1, n3, fun z => ?_⟩
    cases y : H b with
    | none => exact n5 y
    | some x => rw [h1 b x y] at z; cases z
  · have n5 := (I.own l i hl).2.2
    cases y : H l with
    | none => exact absurd y n5
    | some x => rw [h1 l x y]
/-- slots wiped -/
theorem In.wiped (I : In K F w σ H G E) {σ' : L2.St} (hl : σ'.length = σ.length) {E' : EnvB} (he : E'.length ≤ E.length) (h : ∀ (i : Nat) (b : Bd), E'[i]? = some b → b = Bd.un ∨ (E[i]? = some b ∧ σ'[i]? = σ[i]?)) : In K F w σ' H G E' := by
  refine ⟨I.sub, I.old, I.keep, I.has, I.own, by rw [hl]; exact Nat.le_trans he I.len, fun i b q => ?_⟩
  rcases h i b q with rfl | ⟨h1, h2⟩
  · trivial
  · rw [h2]; exact I.slot i b h1
end
end Bk

set_option maxHeartbeats 4000000
namespace Bk
open PySem PySem.Spec PyProof.Rows L2

/-! ### judgements over plain data -/
section
variable (K : PySem.W.Frag) (F : Fm)
/-- what is known behind an expression; arguments; a test; a target; a statement -/
def KE (σ : L2.St) (G : Hp) (Φ : EnvB → Rs → Prop) : VK := fun v H' => ∃ w' G' E' r, In K F w' σ H' G' E' ∧ Same G G' ∧ RV K F w' σ H' G' v r ∧ Φ E' r
inductive RVs (w : Addr → Option Nat) (σ : L2.St) (H G : Hp) : List V → List Rs → Prop
  | nil : RVs w σ H G [] []
  | sh {v : V} {vs : List V} {d : PD} {rs : List Rs} : Rp K G v d → RVs w σ H G vs rs → RVs w σ H G (v :: vs) (.sh d :: rs)
  | br {v : V} {vs : List V} {i : Nat} {rs : List Rs} : σ[i]? = some (some v) → RVs w σ H G vs rs → RVs w σ H G (v :: vs) (.br i :: rs)
def KA (σ : L2.St) (G : Hp) (Φ : EnvB → List Rs → Prop) : List V → Hp → Prop := fun vs H' => ∃ w' G' E' rs, In K F w' σ H' G' E' ∧ Same G G' ∧ RVs K w' σ H' G' vs rs ∧ Φ E' rs
def KT (σ : L2.St) (G : Hp) (Φ : EnvB → Bool → Prop) : Bool → Hp → Prop := fun b H' => ∃ w' G' E', In K F w' σ H' G' E' ∧ Same G G' ∧ Φ E' b
def KG (G : Hp) (Φ : EnvB → Prop) : L2.St → Hp → Prop := fun σ' H' => ∃ w' G' E', In K F w' σ' H' G' E' ∧ Same G G' ∧ Φ E'
end
structure Post where
  nx : EnvB → Prop
  rt : EnvB → Rs → Prop
  bk : EnvB → Prop := fun _ => False
  ct : EnvB → Prop := fun _ => False
def DE (K : PySem.W.Frag) (F : Fm) (G : Hp) (Φ : Post) : Ends where
  nx := KG K F G Φ.nx
  rt := fun v H' => ∃ w' σ' G' E' r, In K F w' σ' H' G' E' ∧ Same G G' ∧ RV K F w' σ' H' G' v r ∧ Φ.rt E' r
  bk := KG K F G Φ.bk
  ct := KG K F G Φ.ct

section
variable (X : Cx) (F : Fm)
def XE (e : Expr) (E : EnvB) (Φ : EnvB → Rs → Prop) : Prop := ∀ (pins : List (Addr × Obj)) (s : Shared) (w : Addr → Option Nat) (σ : L2.St) (H G : Hp), Inv X pins σ H s → In X.K F w σ H G E →
  wpAny (model X.prog X.w) X.A (eval e X.env) (EP X pins σ (KE X.K F σ G Φ)) X.xe s
def XT (e : Expr) (E : EnvB) (Φ : EnvB → Bool → Prop) : Prop := ∀ (pins : List (Addr × Obj)) (s : Shared) (w : Addr → Option Nat) (σ : L2.St) (H G : Hp), Inv X pins σ H s → In X.K F w σ H G E →
  wpAny (model X.prog X.w) X.A (isTrue e X.env (eval e X.env)) (TP X pins σ (KT X.K F σ G Φ)) X.xe s
def XW (e : Expr) (E : EnvB) (Φ : EnvB → Bool → Prop) : Prop := ∀ (whole : Sem Value) (pins : List (Addr × Obj)) (s : Shared) (w : Addr → Option Nat) (σ : L2.St) (H G : Hp), Inv X pins σ H s → In X.K F w σ H G E →
  wpAny (model X.prog X.w) X.A (isTrue e X.env whole) (TP X pins σ (KT X.K F σ G Φ)) X.xe s
def XA (es : List Expr) (E : EnvB) (Φ : EnvB → List Rs → Prop) : Prop := ∀ (pos : Pos) (pins : List (Addr × Obj)) (s : Shared) (w : Addr → Option Nat) (σ : L2.St) (H G : Hp), Inv X pins σ H s → In X.K F w σ H G E →
  wpAny (model X.prog X.w) X.A (spliced (backTo pos (starEach es X.env))) (AP X pins σ (KA X.K F σ G Φ)) X.xe s
def XG (tg : Expr) (r : Rs) (E : EnvB) (Φ : EnvB → Prop) : Prop := ∀ (pins : List (Addr × Obj)) (s : Shared) (w : Addr → Option Nat) (σ : L2.St) (H G : Hp) (v : V) (u : Value), Inv X pins σ H s → In X.K F w σ H G E → RelV v u → RV X.K F w σ H G v r →
  wpAny (model X.prog X.w) X.A (assign tg X.env u) (fun _ s' => ∃ σ' H', Inv X pins σ' H' s' ∧ KG X.K F G Φ σ' H') X.xe s
def XS (st : Stmt) (E : EnvB) (Φ : Post) : Prop := ∀ (pins : List (Addr × Obj)) (s : Shared) (w : Addr → Option Nat) (σ : L2.St) (H G : Hp), Inv X pins σ H s → In X.K F w σ H G E →
  wpAny (model X.prog X.w) X.A (exec st X.env) (SP X pins (DE X.K F G Φ)) X.xe s
def XSs (sts : List Stmt) (E : EnvB) (Φ : Post) : Prop := ∀ (pins : List (Addr × Obj)) (s : Shared) (w : Addr → Option Nat) (σ : L2.St) (H G : Hp), Inv X pins σ H s → In X.K F w σ H G E →
  wpAny (model X.prog X.w) X.A (execs sts X.env) (SP X pins (DE X.K F G Φ)) X.xe s

/-- the readings that serve every judgement -/
def tE (e : Expr) : TE := fun σ H Q => ∃ E Φ w G, In X.K F w σ H G E ∧ XE X F e E Φ ∧ ∀ v H', KE X.K F σ G Φ v H' → Q v H'
def tT (e : Expr) : TT := fun σ H Q => ∃ E Φ w G, In X.K F w σ H G E ∧ XT X F e E Φ ∧ ∀ v H', KT X.K F σ G Φ v H' → Q v H'
def tW (e : Expr) : TT := fun σ H Q => ∃ E Φ w G, In X.K F w σ H G E ∧ XW X F e E Φ ∧ ∀ v H', KT X.K F σ G Φ v H' → Q v H'
def tA (es : List Expr) : TA := fun σ H Q => ∃ E Φ w G, In X.K F w σ H G E ∧ XA X F es E Φ ∧ ∀ v H', KA X.K F σ G Φ v H' → Q v H'
def tG (tg : Expr) : TG := fun v σ H Q => ∃ E r Φ w G, In X.K F w σ H G E ∧ RV X.K F w σ H G v r ∧ XG X F tg r E Φ ∧ ∀ σ' H', KG X.K F G Φ σ' H' → Q σ' H'
def leD (D D' : Ends) : Prop := (∀ σ H, D.nx σ H → D'.nx σ H) ∧ (∀ v H, D.rt v H → D'.rt v H) ∧ (∀ σ H, D.bk σ H → D'.bk σ H) ∧ (∀ σ H, D.ct σ H → D'.ct σ H)
def tS (st : Stmt) : TS := fun D σ H => ∃ E Φ w G, In X.K F w σ H G E ∧ XS X F st E Φ ∧ leD (DE X.K F G Φ) D
def tSs (sts : List Stmt) : TS := fun D σ H => ∃ E Φ w G, In X.K F w σ H G E ∧ XSs X F sts E Φ ∧ leD (DE X.K F G Φ) D
end
theorem leD.refl (D : Ends) : leD D D := ⟨fun _ _ h => h, fun _ _ h => h, fun _ _ h => h, fun _ _ h => h⟩
theorem sp_le {X : Cx} {pins : List (Addr × Obj)} {D D' : Ends} {f : Flow} {s : Shared} (l : leD D D') (h : SP X pins D f s) : SP X pins D' f s := by
  cases f with
  | next => obtain ⟨σ, H, I, q⟩ := h; exact ⟨σ, H, I, l.1 _ _ q⟩
  | brk => obtain ⟨σ, H, I, q⟩ := h; exact ⟨σ, H, I, l.2.2.1 _ _ q⟩
  | cont => obtain ⟨σ, H, I, q⟩ := h; exact ⟨σ, H, I, l.2.2.2 _ _ q⟩
  | ret u => obtain ⟨v, σ, H, I, r, q⟩ := h; exact ⟨v, σ, H, I, r, l.2.1 _ _ q⟩

section
variable {X : Cx} {F : Fm} {e : Expr} {E : EnvB}
theorem pe_tE : PE X e (tE X F e) := ⟨fun pins s σ H Q I h => by
  obtain ⟨E, Φ, w, G, i, h, q⟩ := h
  exact thn (h pins s w σ H G I i) fun u s' ⟨v, H', I', r, k⟩ => ⟨v, H', I', r, q v H' k⟩⟩
theorem pt_tT : PT X e (tT X F e) := ⟨fun pins s σ H Q I h => by
  obtain ⟨E, Φ, w, G, i, h, q⟩ := h
  exact thn (h pins s w σ H G I i) fun u s' ⟨H', I', k⟩ => ⟨H', I', q u H' k⟩⟩
theorem pw_tW : PW X e (tW X F e) := ⟨fun wh pins s σ H Q I h => by
  obtain ⟨E, Φ, w, G, i, h, q⟩ := h
  exact thn (h wh pins s w σ H G I i) fun u s' ⟨H', I', k⟩ => ⟨H', I', q u H' k⟩⟩
theorem pa_tA {es : List Expr} : PA X es (tA X F es) := ⟨fun pos pins s σ H Q I h => by
  obtain ⟨E, Φ, w, G, i, h, q⟩ := h
  exact thn (h pos pins s w σ H G I i) fun u s' ⟨v, H', I', r, k⟩ => ⟨v, H', I', r, q v H' k⟩⟩
theorem pg_tG {tg : Expr} : PG X tg (tG X F tg) := ⟨fun pins s σ H v u Q I r h => by
  obtain ⟨E, rr, Φ, w, G, i, rv, h, q⟩ := h
  exact thn (h pins s w σ H G v u I i r rv) fun _ s' ⟨σ', H', I', k⟩ => ⟨σ', H', I', q σ' H' k⟩⟩
theorem ps_tS {st : Stmt} : PS X st (tS X F st) := ⟨fun pins s σ H D I h => by
  obtain ⟨E, Φ, w, G, i, h, q⟩ := h
  exact thn (h pins s w σ H G I i) fun f s' k => sp_le q k⟩
theorem pss_tSs {sts : List Stmt} : PSs X sts (tSs X F sts) := ⟨fun pins s σ H D I h => by
  obtain ⟨E, Φ, w, G, i, h, q⟩ := h
  exact thn (h pins s w σ H G I i) fun f s' k => sp_le q k⟩

theorem xe_of {t : TE} {Φ : EnvB → Rs → Prop} (h : PE X e t) (q : ∀ w σ H G, In X.K F w σ H G E → t σ H (KE X.K F σ G Φ)) : XE X F e E Φ := fun pins s w σ H G I i => h.run pins s σ H _ I (q w σ H G i)
theorem xt_of {t : TT} {Φ : EnvB → Bool → Prop} (h : PT X e t) (q : ∀ w σ H G, In X.K F w σ H G E → t σ H (KT X.K F σ G Φ)) : XT X F e E Φ := fun pins s w σ H G I i => h.run pins s σ H _ I (q w σ H G i)
theorem xw_of {t : TT} {Φ : EnvB → Bool → Prop} (h : PW X e t) (q : ∀ w σ H G, In X.K F w σ H G E → t σ H (KT X.K F σ G Φ)) : XW X F e E Φ := fun wh pins s w σ H G I i => h.run wh pins s σ H _ I (q w σ H G i)
theorem xa_of {es : List Expr} {t : TA} {Φ : EnvB → List Rs → Prop} (h : PA X es t) (q : ∀ w σ H G, In X.K F w σ H G E → t σ H (KA X.K F σ G Φ)) : XA X F es E Φ := fun pos pins s w σ H G I i => h.run pos pins s σ H _ I (q w σ H G i)
theorem xg_of {tg : Expr} {r : Rs} {t : TG} {Φ : EnvB → Prop} (h : PG X tg t) (q : ∀ w σ H G v, In X.K F w σ H G E → RV X.K F w σ H G v r → t v σ H (KG X.K F G Φ)) : XG X F tg r E Φ := fun pins s w σ H G v u I i rv r => h.run pins s σ H v u _ I rv (q w σ H G v i r)
theorem xs_of {st : Stmt} {t : TS} {Φ : Post} (h : PS X st t) (q : ∀ w σ H G, In X.K F w σ H G E → t (DE X.K F G Φ) σ H) : XS X F st E Φ := fun pins s w σ H G I i => h.run pins s σ H _ I (q w σ H G i)
theorem xss_of {sts : List Stmt} {t : TS} {Φ : Post} (h : PSs X sts t) (q : ∀ w σ H G, In X.K F w σ H G E → t (DE X.K F G Φ) σ H) : XSs X F sts E Φ := fun pins s w σ H G I i => h.run pins s σ H _ I (q w σ H G i)
end

section
variable {K : PySem.W.Frag} {F : Fm} {G G' : Hp} {σ : L2.St}
theorem KE.tr {Φ : EnvB → Rs → Prop} (s : Same G G') {v : V} {H : Hp} (h : KE K F σ G' Φ v H) : KE K F σ G Φ v H := by
  obtain ⟨w, G1, E, r, a, b, c, d⟩ := h
  exact ⟨w, G1, E, r, a, s.trans b, c, d⟩
theorem KA.tr {Φ : EnvB → List Rs → Prop} (s : Same G G') {v : List V} {H : Hp} (h : KA K F σ G' Φ v H) : KA K F σ G Φ v H := by
  obtain ⟨w, G1, E, r, a, b, c, d⟩ := h
  exact ⟨w, G1, E, r, a, s.trans b, c, d⟩
theorem KT.tr {Φ : EnvB → Bool → Prop} (s : Same G G') {v : Bool} {H : Hp} (h : KT K F σ G' Φ v H) : KT K F σ G Φ v H := by
  obtain ⟨w, G1, E, a, b, d⟩ := h
  exact ⟨w, G1, E, a, s.trans b, d⟩
theorem KG.tr {Φ : EnvB → Prop} (s : Same G G') {σ : L2.St} {H : Hp} (h : KG K F G' Φ σ H) : KG K F G Φ σ H := by
  obtain ⟨w, G1, E, a, b, d⟩ := h
  exact ⟨w, G1, E, a, s.trans b, d⟩
theorem DE.tr {Φ : Post} (s : Same G G') : leD (DE K F G' Φ) (DE K F G Φ) :=
  ⟨fun _ _ h => KG.tr s h, fun v H h => by
    obtain ⟨w, σ, G1, E, r, a, b, c, d⟩ := h
    exact ⟨w, σ, G1, E, r, a, s.trans b, c, d⟩, fun _ _ h => KG.tr s h, fun _ _ h => KG.tr s h⟩
theorem RVs.mono (s : Same G G') {w w' : Addr → Option Nat} {H H' : Hp} {vs : List V} {rs : List Rs} (h : RVs K w σ H G vs rs) : RVs K w' σ H' G' vs rs := by
  induction h with
  | nil => exact .nil
  | sh h _ ih => exact .sh (h.mono s) ih
  | br h _ ih => exact .br h ih
end

/-! ### what a value is for an operation -/
inductive RD (E : EnvB) : Rs → PD → Prop
  | sh {d : PD} : RD E (.sh d) d
  | ow {i : Nat} {ds : List PD} : E[i]? = some (.ow (.lst ds)) → RD E (.br i) (.list ds)
  | ib {i k : Nat} {ds : List PD} : E[i]? = some (.ib k (.lst ds)) → RD E (.br i) (.list ds)
/-- the relation of E to E with slot i known as b -/
inductive SetE : EnvB → Nat → Bd → EnvB → Prop
  | hd {a b : Bd} {E : EnvB} : SetE (a :: E) 0 b (b :: E)
  | tl {a b : Bd} {E E' : EnvB} {i : Nat} : SetE E i b E' → SetE (a :: E) (i + 1) b (a :: E')
theorem SetE.eq {E E' : EnvB} {i : Nat} {b : Bd} (h : SetE E i b E') : E' = E.set i b := by
  induction h with
  | hd => rfl
  | tl _ ih => rw [ih]; rfl
section
variable {K : PySem.W.Frag} {F : Fm} {w : Addr → Option Nat} {σ : L2.St} {H G : Hp} {E : EnvB}
theorem RD.rp (I : In K F w σ H G E) {x : V} {r : Rs} {d : PD} (h : RD E r d) (v : RV K F w σ H G x r) : Rp K H x d := by
  cases h with
  | sh => exact Rp.mono I.sub _ _ v
  | ow q =>
    obtain ⟨l, e, hw, c⟩ := I.owned q rfl
    obtain ⟨xs, c1, c2⟩ := c.lst
    have e2 : some (some x) = some (some (V.ref l)) := v.symm.trans e
    cases e2
    exact .lst c1 (c2.mono I.sub)
  | ib q =>
    obtain ⟨l, e, hw, c⟩ := I.owned q rfl
    obtain ⟨xs, c1, c2⟩ := c.lst
    have e2 : some (some x) = some (some (V.ref l)) := v.symm.trans e
    cases e2
    exact .lst c1 (c2.mono I.sub)
/-- its items stand in what is shared -/
theorem RD.lst (I : In K F w σ H G E) {x : V} {r : Rs} {ds : List PD} (h : RD E r (.list ds)) (v : RV K F w σ H G x r) : ∃ a xs, x = .ref a ∧ H a = some (.lst xs) ∧ Rps K G xs ds := by
  cases h with
  | sh =>
    have v : Rp K G x (.list ds) := v
    cases v with
    | lst h1 h2 => exact ⟨_, _, rfl, I.sub _ _ h1, h2⟩
  | ow q =>
    obtain ⟨l, e, hw, c⟩ := I.owned q rfl
    obtain ⟨xs, c1, c2⟩ := c.lst
    have e2 : some (some x) = some (some (V.ref l)) := v.symm.trans e
    cases e2
    exact ⟨l, xs, rfl, c1, c2⟩
  | ib q =>
    obtain ⟨l, e, hw, c⟩ := I.owned q rfl
    obtain ⟨xs, c1, c2⟩ := c.lst
    have e2 : some (some x) = some (some (V.ref l)) := v.symm.trans e
    cases e2
    exact ⟨l, xs, rfl, c1, c2⟩
theorem RD.tup (I : In K F w σ H G E) {x : V} {r : Rs} {ds : List PD} (h : RD E r (.tuple ds)) (v : RV K F w σ H G x r) : ∃ a xs, x = .ref a ∧ SqT K G a xs ∧ Rps K G xs ds := by
  cases h with
  | sh =>
    have v : Rp K G x (.tuple ds) := v
    cases v with
    | tup h1 h2 => exact ⟨_, _, rfl, h1, h2⟩
/-- .. own dicts among them -/
def RX (E : EnvB) (r : Rs) (d : PD) : Prop := RD E r d ∨ ∃ i b es, r = .br i ∧ E[i]? = some b ∧ b.oc = some (.dic es) ∧ d = .dict (dK es)
def isDic : PD → Bool
  | .dict _ => true
  | _ => false
theorem RX.rd {E : EnvB} {r : Rs} {d : PD} (h : RX E r d) (n : isDic d = false) : RD E r d := by
  rcases h with h | ⟨i, b, es, _, _, _, rfl⟩
  · exact h
  · cases n
theorem RX.dic (I : In K F w σ H G E) {x : V} {r : Rs} {es : List (Key × PD)} (h : RX E r (.dict (dK es))) (v : RV K F w σ H G x r) : ∃ a kvs, x = .ref a ∧ Rd H a (.dK kvs) ∧ Rkv K G kvs es := by
  rcases h with h | ⟨i, b, fs, rfl, hE, hb, e⟩
  · generalize hd : PyData.dict (dK es) = d at h
    cases h with
    | sh =>
      subst hd
      have v : Rp K G x (.dict (dK es)) := v
      generalize he : dK es = fs at v
      cases v with
      | dic h1 h2 =>
        subst he
        exact ⟨_, _, rfl, .inr ⟨_, I.sub _ _ h1⟩, h2.of⟩
      | scr _ _ =>
        cases es with
        | nil => cases he
        | cons p es =>
          obtain ⟨k, d⟩ := p
          have he : (kD k, d) :: dK es = _ := he
          injection he with h1 h2
          injection h1 with h3 h4
          cases k with
          | inl i => have h3 : PyData.int i = .none := h3; cases h3
          | inr x => have h3 : PyData.str x = .none := h3; cases h3
      | bar _ _ _ =>
        cases es with
        | nil => cases he
        | cons p es =>
          obtain ⟨k, d⟩ := p
          have he : (kD k, d) :: dK es = _ := he
          injection he with h1 h2
          injection h1 with h3 h4
          cases k with
          | inl i => have h3 : PyData.int i = .bool true := h3; cases h3
          | inr x => have h3 : PyData.str x = .bool true := h3; cases h3
    | ow q => cases hd
    | ib q => cases hd
  · rw [dK_inj (PyData.dict.inj e)]
    obtain ⟨l, el, hw, c⟩ := I.owned hE hb
    obtain ⟨xs, c1, c2⟩ := c.dic
    have e2 : some (some x) = some (some (V.ref l)) := v.symm.trans el
    cases e2
    exact ⟨l, xs, rfl, .inl c1, c2⟩
theorem RD.int {x : V} {r : Rs} {i : Int} (h : RD E r (.int i)) (v : RV K F w σ H G x r) : x = .int i := by
  cases h with
  | sh =>
    have v : Rp K G x (.int i) := v
    cases v; rfl
theorem RD.str {x : V} {r : Rs} {i : Str} (h : RD E r (.str i)) (v : RV K F w σ H G x r) : x = .str i := by
  cases h with
  | sh =>
    have v : Rp K G x (.str i) := v
    cases v; rfl
theorem RD.bl {x : V} {r : Rs} {i : Bool} (h : RD E r (.bool i)) (v : RV K F w σ H G x r) : x = .bl i := by
  cases h with
  | sh =>
    have v : Rp K G x (.bool i) := v
    cases v; rfl
theorem RD.non {x : V} {r : Rs} (h : RD E r .none) (v : RV K F w σ H G x r) : x = .non := by
  cases h with
  | sh =>
    have v : Rp K G x .none := v
    cases v; rfl
end

/-! a value's hand-over: data, or a loan -/
section
variable {K : PySem.W.Frag} {F : Fm} {w : Addr → Option Nat} {σ : L2.St} {H G : Hp} {E : EnvB}
/-- frozen values live on -/
inductive Fz : Rs → Rs → Prop
  | sh {d : PD} : Fz (.sh d) (.sh d)
  | br {i : Nat} : Fz (.br i) (.br i)
  | nw {ds : List PD} : Fz (.nw (.lst ds)) (.sh (.list ds))
theorem Fz.go (I : In K F w σ H G E) {v : V} {r r' : Rs} (f : Fz r r') (h : RV K F w σ H G v r) : ∃ G', In K F w σ H G' E ∧ Same G G' ∧ RV K F w σ H G' v r' := by
  cases f with
  | sh => exact ⟨G, I, Same.refl G, h⟩
  | br => exact ⟨G, I, Same.refl G, h⟩
  | nw => exact I.fz h
theorem Fz.keep {r r' : Rs} (f : Fz r r') {w' : Addr → Option Nat} {H' G' : Hp} {v : V} (s : Same G G') (h : RV K F w σ H G v r') : RV K F w' σ H' G' v r' := by
  cases f with
  | sh => exact Rp.mono s _ _ h
  | br => exact h
  | nw => exact Rp.mono s _ _ h
theorem Fz.cons {r r' : Rs} (f : Fz r r') {v : V} {vs : List V} {rs : List Rs} (h : RV K F w σ H G v r') (t : RVs K w σ H G vs rs) : RVs K w σ H G (v :: vs) (r' :: rs) := by
  cases f with
  | sh => exact .sh h t
  | br => exact .br h t
  | nw => exact .sh h t
/-- loans given up: all is data -/
inductive Fzs : EnvB → List Rs → EnvB → List PD → Prop
  | nil {E : EnvB} : Fzs E [] E []
  | sh {E E' : EnvB} {d : PD} {rs : List Rs} {ds : List PD} : Fzs E rs E' ds → Fzs E (.sh d :: rs) E' (d :: ds)
  | ow {E E1 E' : EnvB} {i : Nat} {xs : List PD} {rs : List Rs} {ds : List PD} : E[i]? = some (.ow (.lst xs)) → SetE E i (.sh (.list xs)) E1 → Fzs E1 rs E' ds → Fzs E (.br i :: rs) E' (.list xs :: ds)
  | br {E E' : EnvB} {i : Nat} {d : PD} {rs : List Rs} {ds : List PD} : E[i]? = some (.sh d) → Fzs E rs E' ds → Fzs E (.br i :: rs) E' (d :: ds)
theorem Fzs.go : ∀ {E : EnvB} {rs : List Rs} {E' : EnvB} {ds : List PD}, Fzs E rs E' ds → ∀ {w : Addr → Option Nat} {G : Hp} {vs : List V}, In K F w σ H G E → RVs K w σ H G vs rs → ∃ w' G', In K F w' σ H G' E' ∧ Same G G' ∧ Rps K G' vs ds
  | _, _, _, _, .nil, w, G, _, I, .nil => ⟨w, G, I, Same.refl G, .nil⟩
  | _, _, _, _, .sh f, _, _, _, I, .sh h t => by
    obtain ⟨w', G', I', s, r⟩ := f.go I t
    exact ⟨w', G', I', s, .cons (h.mono s) r⟩
  | _, _, _, _, .ow hE hs f, _, G, _, I, .br h t => by
    obtain ⟨w1, G1, l, I1, s1, e, hk⟩ := I.fzSlot hE
    rw [← hs.eq] at I1
    obtain ⟨w', G', I', s, r⟩ := f.go I1 (t.mono s1)
    rw [h] at e
    cases e
    exact ⟨w', G', I', s1.trans s, .cons (hk.mono s) r⟩
  | _, _, _, _, .br hE f, _, _, _, I, .br h t => by
    obtain ⟨w', G', I', s, r⟩ := f.go I t
    obtain ⟨x, e1, r1⟩ := I.slot _ _ hE
    have e1 : σ[_]? = some (some x) := e1
    rw [h] at e1
    cases e1
    exact ⟨w', G', I', s, .cons (r1.mono s) r⟩
/-- slot i takes r -/
inductive AsgE : EnvB → Nat → Rs → EnvB → Prop
  | sh {E E' : EnvB} {i : Nat} {d : PD} : SetE E i (.sh d) E' → AsgE E i (.sh d) E'
  | nw {E E' : EnvB} {i : Nat} {o : Oc} : SetE E i (.ow o) E' → AsgE E i (.nw o) E'
  | br {E E1 E' : EnvB} {i j : Nat} {ds : List PD} : E[j]? = some (.ow (.lst ds)) → SetE E j (.sh (.list ds)) E1 → SetE E1 i (.sh (.list ds)) E' → AsgE E i (.br j) E'
  | nwS {E E' : EnvB} {i : Nat} {ds : List PD} : SetE E i (.sh (.list ds)) E' → AsgE E i (.nw (.lst ds)) E'
theorem AsgE.go (I : In K F w σ H G E) {i : Nat} {r : Rs} {E' : EnvB} (a : AsgE E i r E') {v : V} (h : RV K F w σ H G v r) : ∃ w' G', In K F w' (σ.set i (some v)) H G' E' ∧ Same G G' := by
  cases a with
  | sh hs =>
    refine ⟨w, G, ?_, Same.refl G⟩
    rw [hs.eq]
    exact I.set ⟨v, rfl, h⟩
  | nw hs =>
    obtain ⟨w', I'⟩ := I.setNw (i := i) h
    rw [hs.eq]
    exact ⟨w', G, I', Same.refl G⟩
  | nwS hs =>
    obtain ⟨G1, I1, s1, h1⟩ := I.fz h
    refine ⟨w, G1, ?_, s1⟩
    rw [hs.eq]
    exact I1.set (b := .sh _) ⟨v, rfl, h1⟩
  | br hE h1 h2 =>
    obtain ⟨w1, G1, l, I1, s1, e, hk⟩ := I.fzSlot hE
    rw [← h1.eq] at I1
    have h : σ[_]? = some (some v) := h
    rw [h] at e
    cases e
    refine ⟨w1, G1, ?_, s1⟩
    rw [h2.eq]
    exact I1.set ⟨_, rfl, hk⟩
end
end Bk

set_option maxHeartbeats 4000000
namespace Bk
open PySem PySem.Spec PyProof.Rows L2

section
variable {X : Cx} {F : Fm} {E : EnvB} {a b c e : Expr} {es : List Expr} {Φ : EnvB → Rs → Prop} {Ψ : EnvB → Bool → Prop} {pos : Pos} {x : Str}

/-! ### how readings take judgements -/
theorem tE_go {w : Addr → Option Nat} {σ : L2.St} {H G : Hp} {Q : VK} {Φ : EnvB → Rs → Prop} (I : In X.K F w σ H G E) (h : XE X F e E Φ) (q : ∀ v w' H' G' E' r, In X.K F w' σ H' G' E' → Same G G' → RV X.K F w' σ H' G' v r → Φ E' r → Q v H') : tE X F e σ H Q :=
  ⟨E, Φ, w, G, I, h, fun v H' ⟨w', G', E', r, a, b, c, d⟩ => q v w' H' G' E' r a b c d⟩
theorem tT_go {w : Addr → Option Nat} {σ : L2.St} {H G : Hp} {Q : Bool → Hp → Prop} {Ψ : EnvB → Bool → Prop} (I : In X.K F w σ H G E) (h : XT X F e E Ψ) (q : ∀ v w' H' G' E', In X.K F w' σ H' G' E' → Same G G' → Ψ E' v → Q v H') : tT X F e σ H Q :=
  ⟨E, Ψ, w, G, I, h, fun v H' ⟨w', G', E', a, b, d⟩ => q v w' H' G' E' a b d⟩
theorem tA_go {w : Addr → Option Nat} {σ : L2.St} {H G : Hp} {Q : List V → Hp → Prop} {Φ : EnvB → List Rs → Prop} (I : In X.K F w σ H G E) (h : XA X F es E Φ) (q : ∀ v w' H' G' E' r, In X.K F w' σ H' G' E' → Same G G' → RVs X.K w' σ H' G' v r → Φ E' r → Q v H') : tA X F es σ H Q :=
  ⟨E, Φ, w, G, I, h, fun v H' ⟨w', G', E', r, a, b, c, d⟩ => q v w' H' G' E' r a b c d⟩
theorem ke {K : PySem.W.Frag} {w' : Addr → Option Nat} {σ : L2.St} {H' G G' : Hp} {E' : EnvB} {v : V} {r : Rs} (I : In K F w' σ H' G' E') (s : Same G G') (rv : RV K F w' σ H' G' v r) (h : Φ E' r) : KE K F σ G Φ v H' := ⟨w', G', E', r, I, s, rv, h⟩

/-! ### names, constants -/
theorem xe_var {i : Nat} {d : PD} (hE : E[i]? = some (.sh d)) (q : Φ E (.sh d)) (hN : X.N[i]? = some x := by rfl) (hv : Vis X.env.scope x := by first | exact Or.inl rfl | exact Or.inr (Or.inl rfl) | exact Or.inr (Or.inr rfl))
    (hd : (x == ("__debug__" : Str)) = false := by decide) (hcd : (x == ("__classdict__" : Str)) = false := by decide) : XE X F (.Name x pos) E Φ :=
  xe_of (pe_var hN hv hd hcd) fun w σ H G I => by
    obtain ⟨v, e, r⟩ := I.slot i _ hE
    exact ⟨v, e, ke I (Same.refl G) (r := .sh d) r q⟩
theorem xe_own {i : Nat} {o : Oc} (hE : E[i]? = some (.ow o)) (q : Φ E (.br i)) (hN : X.N[i]? = some x := by rfl) (hv : Vis X.env.scope x := by first | exact Or.inl rfl | exact Or.inr (Or.inl rfl) | exact Or.inr (Or.inr rfl))
    (hd : (x == ("__debug__" : Str)) = false := by decide) (hcd : (x == ("__classdict__" : Str)) = false := by decide) : XE X F (.Name x pos) E Φ :=
  xe_of (pe_var hN hv hd hcd) fun w σ H G I => by
    obtain ⟨l, e, _⟩ := I.slot i _ hE
    exact ⟨_, e, ke I (Same.refl G) (r := .br i) e q⟩
theorem xe_lent {i k : Nat} {o : Oc} (hE : E[i]? = some (.ib k o)) (q : Φ E (.br i)) (hN : X.N[i]? = some x := by rfl) (hv : Vis X.env.scope x := by first | exact Or.inl rfl | exact Or.inr (Or.inl rfl) | exact Or.inr (Or.inr rfl))
    (hd : (x == ("__debug__" : Str)) = false := by decide) (hcd : (x == ("__classdict__" : Str)) = false := by decide) : XE X F (.Name x pos) E Φ :=
  xe_of (pe_var hN hv hd hcd) fun w σ H G I => by
    obtain ⟨l, e, _⟩ := I.slot i _ hE
    exact ⟨_, e, ke I (Same.refl G) (r := .br i) e q⟩
theorem xe_int {i : Int} {j p} (q : Φ E (.sh (.int i))) : XE X F (.Constant (.int i) j p) E Φ := xe_of pe_int fun w σ H G I => ke I (Same.refl G) (r := .sh (.int i)) (.int i) q
theorem xe_str {i : Str} {j p} (q : Φ E (.sh (.str i))) : XE X F (.Constant (.str i) j p) E Φ := xe_of pe_str fun w σ H G I => ke I (Same.refl G) (r := .sh (.str i)) (.str i) q
theorem xe_bl {i : Bool} {j p} (q : Φ E (.sh (.bool i))) : XE X F (.Constant (.bool i) j p) E Φ := xe_of pe_bl fun w σ H G I => ke I (Same.refl G) (r := .sh (.bool i)) (.bl i) q
theorem xe_non {j p} (q : Φ E (.sh .none)) : XE X F (.Constant .none j p) E Φ := xe_of pe_non fun w σ H G I => ke I (Same.refl G) (r := .sh .none) .non q
/-- a module's constant number | text -/
theorem xe_gint {n : Int} {t : Tok} (hm : X.mg x = some (.int n t)) (q : Φ E (.sh (.int n))) (hg : Gl X x := by rfl) (hd : (x == ("__debug__" : Str)) = false := by decide) : XE X F (.Name x pos) E Φ :=
  xe_of (pe_glob (v := .int n) hg hm ⟨t, rfl⟩ hd) fun w σ H G I => ke I (Same.refl G) (r := .sh (.int n)) (.int n) q
theorem xe_gstr {n : Str} {t : Tok} (hm : X.mg x = some (.str n t)) (q : Φ E (.sh (.str n))) (hg : Gl X x := by rfl) (hd : (x == ("__debug__" : Str)) = false := by decide) : XE X F (.Name x pos) E Φ :=
  xe_of (pe_glob (v := .str n) hg hm ⟨t, rfl⟩ hd) fun w σ H G I => ke I (Same.refl G) (r := .sh (.str n)) (.str n) q

/-! ### operators -/
def OpJ (X : Cx) (F : Fm) (r : R2) (E : EnvB) (r1 r2 : Rs) (Φ : EnvB → Rs → Prop) : Prop := ∀ (w : Addr → Option Nat) (σ : L2.St) (H G : Hp) (x y : V) (Q : VK), In X.K F w σ H G E → RV X.K F w σ H G x r1 → RV X.K F w σ H G y r2 →
  (∀ v H', KE X.K F σ G Φ v H' → Q v H') → r x y H Q
theorem xe_two {t : (TE → TE → TE)} {r : R2} (hp : ∀ ta tb, PE X a ta → PE X b tb → PE X e (tOp r ta tb)) (h : XE X F a E fun E1 r1 => ∃ r1', Fz r1 r1' ∧ XE X F b E1 fun E2 r2 => ∃ r2', Fz r2 r2' ∧ OpJ X F r E2 r1' r2' Φ) : XE X F e E Φ :=
  xe_of (hp _ _ pe_tE pe_tE) fun w σ H G I => tE_go I h fun v1 w1 H1 G1 E1 r1 I1 s1 rv1 ⟨r1', f1, h1⟩ => by
    obtain ⟨G1', I1', s1', rv1'⟩ := f1.go I1 rv1
    refine tE_go I1' h1 fun v2 w2 H2 G2 E2 r2 I2 s2 rv2 ⟨r2', f2, h2⟩ => ?_
    obtain ⟨G2', I2', s2', rv2'⟩ := f2.go I2 rv2
    exact h2 w2 σ H2 G2' v1 v2 _ I2' (f1.keep (s2.trans s2') rv1') rv2' fun v H' k => k.tr (((s1.trans s1').trans s2).trans s2')
theorem xe_bin {op : Operator} {r : R2} (ho : OpR X (binaryOp op) r) (h : XE X F a E fun E1 r1 => ∃ r1', Fz r1 r1' ∧ XE X F b E1 fun E2 r2 => ∃ r2', Fz r2 r2' ∧ OpJ X F r E2 r1' r2' Φ) : XE X F (.BinOp a op b pos) E Φ :=
  xe_two (t := tOp r) (fun _ _ ha hb => pe_op ho ha hb) h
theorem xe_cmp {op : CmpOp} {r : R2} (ho : OpR X (compareOp op) r) (h : XE X F a E fun E1 r1 => ∃ r1', Fz r1 r1' ∧ XE X F b E1 fun E2 r2 => ∃ r2', Fz r2 r2' ∧ OpJ X F r E2 r1' r2' Φ) (hm : behindInMarks op b = false := by first | exact nomark _ | rfl) : XE X F (.Compare a [op] [b] pos) E Φ :=
  xe_two (t := tOp r) (fun _ _ ha hb => pe_cmpR ho ha hb hm) h
theorem xt_cmp {op : CmpOp} {r : R2} (ho : OpR X (compareOp op) r) (h : XE X F a E fun E1 r1 => ∃ r1', Fz r1 r1' ∧ XE X F b E1 fun E2 r2 => ∃ r2', Fz r2 r2' ∧ OpJ X F r E2 r1' r2' fun E3 r3 => ∃ k, r3 = .sh (.bool k) ∧ Ψ E3 k) (hm : behindInMarks op b = false := by first | exact nomark _ | rfl) : XT X F (.Compare a [op] [b] pos) E Ψ :=
  xt_of (pt_cmpR ho pe_tE pe_tE hm) fun w σ H G I => tE_go I h fun v1 w1 H1 G1 E1 r1 I1 s1 rv1 ⟨r1', f1, h1⟩ => by
    obtain ⟨G1', I1', s1', rv1'⟩ := f1.go I1 rv1
    refine tE_go I1' h1 fun v2 w2 H2 G2 E2 r2 I2 s2 rv2 ⟨r2', f2, h2⟩ => ?_
    obtain ⟨G2', I2', s2', rv2'⟩ := f2.go I2 rv2
    refine h2 w2 σ H2 G2' v1 v2 _ I2' (f1.keep (s2.trans s2') rv1') rv2' fun v H' ⟨w3, G3, E3, r3, I3, s3, rv3, k, e3, q⟩ => ?_
    subst e3
    have rv3 : Rp X.K G3 v (.bool k) := rv3
    cases rv3
    exact ⟨k, rfl, w3, G3, E3, I3, ((((s1.trans s1').trans s2).trans s2')).trans s3, q⟩
theorem xe_ix {r : R2} (ho : IxR X r) (h : XE X F a E fun E1 r1 => ∃ r1', Fz r1 r1' ∧ XE X F b E1 fun E2 r2 => ∃ r2', Fz r2 r2' ∧ OpJ X F r E2 r1' r2' Φ) (hs : PlainIx b := by exact fun _ _ => rfl) : XE X F (.Subscript a b pos) E Φ :=
  xe_two (t := tOp r) (fun _ _ ha hb => pe_ix ho ha hb hs) h
/-- a test by a value that is a bool -/
theorem xt_val (h : XE X F e E fun E1 r => ∃ k, r = .sh (.bool k) ∧ Ψ E1 k) (he : ∀ whole, isTrue e X.env whole = (do let v ← whole; standAt e.pos; holding [v] (truthy v)) := by intro _; rfl) : XT X F e E Ψ :=
  xt_of (pt_val pe_tE he) fun w σ H G I => tE_go I h fun v w1 H1 G1 E1 r I1 s1 rv ⟨k, e, q⟩ => by
    subst e
    have rv : Rp X.K G1 v (.bool k) := rv
    cases rv
    exact ⟨k, rfl, w1, G1, E1, I1, s1, q⟩

/-! and, or, not -/
theorem xt_not (h : XT X F a E fun E1 k => Ψ E1 (!k)) : XT X F (.UnaryOp .Not a pos) E Ψ := xt_of (pt_not pt_tT) fun w σ H G I => tT_go I h fun v w1 H1 G1 E1 I1 s1 q => ⟨w1, G1, E1, I1, s1, q⟩
theorem xt_w (h : XW X F e E Ψ) : XT X F e E Ψ := fun pins s w σ H G I i => h _ pins s w σ H G I i
theorem xw_and1 (h : XT X F a E Ψ) : XW X F (.BoolOp .And [a] pos) E Ψ := xw_of (pw_and1 pt_tT) fun w σ H G I => tT_go I h fun v w1 H1 G1 E1 I1 s1 q => ⟨w1, G1, E1, I1, s1, q⟩
theorem xw_or1 (h : XT X F a E Ψ) : XW X F (.BoolOp .Or [a] pos) E Ψ := xw_of (pw_or1 pt_tT) fun w σ H G I => tT_go I h fun v w1 H1 G1 E1 I1 s1 q => ⟨w1, G1, E1, I1, s1, q⟩
theorem tW_go {w : Addr → Option Nat} {σ : L2.St} {H G : Hp} {Q : Bool → Hp → Prop} {Ψ : EnvB → Bool → Prop} (I : In X.K F w σ H G E) (h : XW X F e E Ψ) (q : ∀ v w' H' G' E', In X.K F w' σ H' G' E' → Same G G' → Ψ E' v → Q v H') : tW X F e σ H Q :=
  ⟨E, Ψ, w, G, I, h, fun v H' ⟨w', G', E', a, b, d⟩ => q v w' H' G' E' a b d⟩
theorem xw_and (h : XT X F a E fun E1 k => (k = true → XW X F (.BoolOp .And (b :: es) pos) E1 Ψ) ∧ (k = false → Ψ E1 false)) : XW X F (.BoolOp .And (a :: b :: es) pos) E Ψ :=
  xw_of (pw_and pt_tT pw_tW) fun w σ H G I => tT_go I h fun k w1 H1 G1 E1 I1 s1 q => by
    cases k with
    | true => exact iteT (tW_go I1 (q.1 rfl) fun v w2 H2 G2 E2 I2 s2 q2 => ⟨w2, G2, E2, I2, s1.trans s2, q2⟩)
    | false => exact iteF ⟨w1, G1, E1, I1, s1, q.2 rfl⟩
theorem xw_or (h : XT X F a E fun E1 k => (k = true → Ψ E1 true) ∧ (k = false → XW X F (.BoolOp .Or (b :: es) pos) E1 Ψ)) : XW X F (.BoolOp .Or (a :: b :: es) pos) E Ψ :=
  xw_of (pw_or pt_tT pw_tW) fun w σ H G I => tT_go I h fun k w1 H1 G1 E1 I1 s1 q => by
    cases k with
    | true => exact iteT ⟨w1, G1, E1, I1, s1, q.1 rfl⟩
    | false => exact iteF (tW_go I1 (q.2 rfl) fun v w2 H2 G2 E2 I2 s2 q2 => ⟨w2, G2, E2, I2, s1.trans s2, q2⟩)
theorem xe_ife (h : XT X F c E fun E1 k => (k = true → XE X F a E1 Φ) ∧ (k = false → XE X F b E1 Φ)) : XE X F (.IfExp c a b pos) E Φ :=
  xe_of (pe_ifExp pt_tT pe_tE pe_tE) fun w σ H G I => tT_go I h fun k w1 H1 G1 E1 I1 s1 q => by
    cases k with
    | true => exact iteT (tE_go I1 (q.1 rfl) fun v w2 H2 G2 E2 r I2 s2 rv q2 => ke I2 (s1.trans s2) rv q2)
    | false => exact iteF (tE_go I1 (q.2 rfl) fun v w2 H2 G2 E2 r I2 s2 rv q2 => ke I2 (s1.trans s2) rv q2)
/-- as values: bools -/
theorem xe_notV (h : XE X F a E fun E1 r => ∃ k, r = .sh (.bool k) ∧ Φ E1 (.sh (.bool (!k)))) : XE X F (.UnaryOp .Not a pos) E Φ :=
  xe_of (pe_not pe_tE) fun w σ H G I => tE_go I h fun v w1 H1 G1 E1 r I1 s1 rv ⟨k, e, q⟩ => by
    subst e
    have rv : Rp X.K G1 v (.bool k) := rv
    cases rv
    exact ⟨k, rfl, ke I1 s1 (r := .sh (.bool (!k))) (.bl _) q⟩
theorem xe_one {op} (h : XE X F a E Φ) : XE X F (.BoolOp op [a] pos) E Φ := xe_of (pe_one pe_tE) fun w σ H G I => tE_go I h fun v w1 H1 G1 E1 r I1 s1 rv q => ke I1 s1 rv q
theorem xe_andV (h : XE X F a E fun E1 r => ∃ k, r = .sh (.bool k) ∧ (k = true → XE X F (.BoolOp .And (b :: es) pos) E1 Φ) ∧ (k = false → Φ E1 (.sh (.bool false)))) : XE X F (.BoolOp .And (a :: b :: es) pos) E Φ :=
  xe_of (pe_and pe_tE pe_tE) fun w σ H G I => tE_go I h fun v w1 H1 G1 E1 r I1 s1 rv ⟨k, e, q1, q2⟩ => by
    subst e
    have rv : Rp X.K G1 v (.bool k) := rv
    cases rv
    refine ⟨k, rfl, ?_⟩
    cases k with
    | true => exact iteT (tE_go I1 (q1 rfl) fun v w2 H2 G2 E2 r I2 s2 rv q2 => ke I2 (s1.trans s2) rv q2)
    | false => exact iteF (ke I1 s1 (r := .sh (.bool false)) (.bl _) (q2 rfl))
theorem xe_orV (h : XE X F a E fun E1 r => ∃ k, r = .sh (.bool k) ∧ (k = true → Φ E1 (.sh (.bool true))) ∧ (k = false → XE X F (.BoolOp .Or (b :: es) pos) E1 Φ)) : XE X F (.BoolOp .Or (a :: b :: es) pos) E Φ :=
  xe_of (pe_or pe_tE pe_tE) fun w σ H G I => tE_go I h fun v w1 H1 G1 E1 r I1 s1 rv ⟨k, e, q1, q2⟩ => by
    subst e
    have rv : Rp X.K G1 v (.bool k) := rv
    cases rv
    refine ⟨k, rfl, ?_⟩
    cases k with
    | true => exact iteT (ke I1 s1 (r := .sh (.bool true)) (.bl _) (q1 rfl))
    | false => exact iteF (tE_go I1 (q2 rfl) fun v w2 H2 G2 E2 r I2 s2 rv q2 => ke I2 (s1.trans s2) rv q2)

/-! ### arguments, displays -/
theorem xa_nil {Φ : EnvB → List Rs → Prop} (q : Φ E []) : XA X F [] E Φ := xa_of pa_nil fun w σ H G I => ⟨w, G, E, [], I, Same.refl G, .nil, q⟩
theorem xa_cons {Φ : EnvB → List Rs → Prop} (h : XE X F e E fun E1 r => ∃ r', Fz r r' ∧ XA X F es E1 fun E2 rs => Φ E2 (r' :: rs)) (hs : starEach (e :: es) X.env = (false, eval e X.env) :: starEach es X.env := by rfl) : XA X F (e :: es) E Φ :=
  xa_of (pa_cons pe_tE pa_tA hs) fun w σ H G I => tE_go I h fun v w1 H1 G1 E1 r I1 s1 rv ⟨r', f, h1⟩ => by
    obtain ⟨G1', I1', s1', rv1'⟩ := f.go I1 rv
    exact tA_go I1' h1 fun vs w2 H2 G2 E2 rs I2 s2 rvs q => ⟨w2, G2, E2, r' :: rs, I2, (s1.trans s1').trans s2, f.cons (f.keep s2 rv1') rvs, q⟩
theorem xe_tup {x1} (h : XA X F es E fun E1 rs => ∃ E2 ds, Fzs E1 rs E2 ds ∧ ds.length ≤ 100000 ∧ Φ E2 (.sh (.tuple ds))) : XE X F (.Tuple es x1 pos) E Φ :=
  xe_of (pe_tup pa_tA) fun w σ H G I => tA_go I h fun vs w1 H1 G1 E1 rs I1 s1 rvs ⟨E2, ds, f, hl, q⟩ => by
    obtain ⟨w2, G2, I2, s2, rps⟩ := f.go I1 rvs
    refine ⟨by rw [rps.length]; exact Nat.le_trans hl (by decide), fun p hp => ?_⟩
    obtain ⟨I3, s3, rp⟩ := I2.newT hp rps
    exact ke I3 ((s1.trans s2).trans s3) (r := .sh (.tuple ds)) rp q
theorem xe_lst (h : XA X F es E fun E1 rs => ∃ E2 ds, Fzs E1 rs E2 ds ∧ ds.length ≤ 100000 ∧ Φ E2 (.nw (.lst ds))) : XE X F (.List es pos) E Φ :=
  xe_of (pe_lst pa_tA) fun w σ H G I => tA_go I h fun vs w1 H1 G1 E1 rs I1 s1 rvs ⟨E2, ds, f, hl, q⟩ => by
    obtain ⟨w2, G2, I2, s2, rps⟩ := f.go I1 rvs
    refine ⟨by rw [rps.length]; exact Nat.le_trans hl (by decide), fun p hp => ?_⟩
    obtain ⟨I3, rp⟩ := I2.newL hp rps
    exact ke I3 (s1.trans s2) (r := .nw (.lst ds)) rp q

/-! ### calls of built-ins, of methods, of defs -/
def CJ (X : Cx) (F : Fm) (r : List V → Hp → VK → Prop) (E : EnvB) (rs : List Rs) (Φ : EnvB → Rs → Prop) : Prop := ∀ (w : Addr → Option Nat) (σ : L2.St) (H G : Hp) (vs : List V) (Q : VK), In X.K F w σ H G E → RVs X.K w σ H G vs rs →
  (∀ v H', KE X.K F σ G Φ v H' → Q v H') → r vs H Q
theorem xe_callB {id : String} {r : List V → Hp → VK → Prop} {p : Pos} (hc : CallR X (.builtin id) r) (hm : X.mg x = none) (hv : bootBuiltins x = some (.builtin id)) (h : XA X F (e :: es) E fun E1 rs => CJ X F r E1 rs Φ) (hg : Gl X x := by rfl) (hn : x ≠ "__name__" := by decide) (hdb : (x == ("__debug__" : Str)) = false := by decide)
    (he : starEach (e :: es) X.env = (false, eval e X.env) :: starEach es X.env := by rfl) (hpl : (backTo pos (starEach es X.env)).any (·.1) = false := by rfl) : XE X F (.Call (.Name x p) (e :: es) [] pos) E Φ :=
  xe_of (pe_callB hc hg hm hv pa_tA hn hdb he hpl) fun w σ H G I => tA_go I h fun vs w1 H1 G1 E1 rs I1 s1 rvs q => q w1 σ H1 G1 vs _ I1 rvs fun v H' k => k.tr s1
theorem xe_callT {id : String} {r : List V → Hp → VK → Prop} {p : Pos} (hc : CallR X (.type id) r) (hm : X.mg x = none) (hv : bootBuiltins x = some (.type id)) (h : XA X F (e :: es) E fun E1 rs => CJ X F r E1 rs Φ) (hg : Gl X x := by rfl) (hn : x ≠ "__name__" := by decide) (hdb : (x == ("__debug__" : Str)) = false := by decide)
    (he : starEach (e :: es) X.env = (false, eval e X.env) :: starEach es X.env := by rfl) (hpl : (backTo pos (starEach es X.env)).any (·.1) = false := by rfl) : XE X F (.Call (.Name x p) (e :: es) [] pos) E Φ :=
  xe_of (pe_callTy hc hg hm hv pa_tA hn hdb he hpl) fun w σ H G I => tA_go I h fun vs w1 H1 G1 E1 rs I1 s1 rvs q => q w1 σ H1 G1 vs _ I1 rvs fun v H' k => k.tr s1

end
end Bk

set_option maxHeartbeats 4000000
namespace Bk
open PySem PySem.Spec PyProof.Rows L2

abbrev rOr (r r' : R2) : R2 := fun x y H Q => r x y H Q ∨ r' x y H Q
def rStrCat : R2 := fun x y H Q => ∃ i j, x = .str i ∧ y = .str j ∧ i.length + j.length ≤ sizeLine ∧ Q (.str (i ++ j)) H
def CDivX (_ j : Int) : Prop := j ≠ 0 ∧ j.natAbs.log2 < 9000
/-- a product that fits: a factor below 2^64, or both below 2^400000 -/
def MulOk (i j : Int) : Prop := CMul i j ∨ CMulW i j
abbrev rAdd (K : PySem.W.Frag) : R2 := rOr (rI0 fun i j => .int (i + j)) (rOr rStrCat (rOr rCat (rCatA K)))
abbrev rSub : R2 := rI0 fun i j => .int (i - j)
abbrev rMul (K : PySem.W.Frag) : R2 := rOr (rI MulOk fun i j => .int (i * j)) (rOr rRep (rRepT K))
abbrev rDiv : R2 := rI CDivX fun i j => .int (i.fdiv j)
abbrev rMod : R2 := rI (fun _ j => j ≠ 0) fun i j => .int (i.fmod j)
abbrev rPow : R2 := rI CPow fun i j => .int (i ^ j.toNat)
abbrev rEqX (K : PySem.W.Frag) : R2 := rOr rEq (rEqD K)
abbrev rNeX (K : PySem.W.Frag) : R2 := rOr rNe (rNeD K)
def rInStr (neg : Bool) : R2 := fun x y H Q => ∃ c z, x = .str ⟨#[c]⟩ ∧ y = .str z ∧ Q (.bl (if neg then !decide (c ∈ z.cps.toList) else decide (c ∈ z.cps.toList))) H
def rInDk (neg : Bool) : R2 := fun x y H Q => ∃ a o, y = .ref a ∧ DGet H a x o ∧ Q (.bl (if neg then !o.isSome else o.isSome)) H
abbrev rInX (K : PySem.W.Frag) (neg : Bool) : R2 := rOr (rIn K neg) (rOr (rInStr neg) (rInDk neg))
def rIsN (neg : Bool) : R2 := fun x y H Q => y = .non ∧ Q (.bl (if neg then !decide (x = .non) else decide (x = .non))) H
def rIxDk : R2 := fun x y H Q => ∃ a v, x = .ref a ∧ DGet H a y (some v) ∧ Q v H
abbrev rIxX (K : PySem.W.Frag) : R2 := rOr (rIx K) rIxDk

section
variable {X : Cx}
theorem opr_add : OpR X (binaryOp .Add) (rAdd X.K) := op_add.or ((show OpR X (binaryOp .Add) rStrCat from op_add_str).or (op_cat.or op_catA))
theorem opr_mulI : OpR X (binaryOp .Mult) (rI MulOk fun i j => .int (i * j)) := opI fun _ _ _ _ _ _ _ hc q => mul_int q (hc.elim CMul.ok CMulW.ok)
theorem opr_mul : OpR X (binaryOp .Mult) (rMul X.K) := opr_mulI.or (op_rep.or op_repT)
theorem opr_div : OpR X (binaryOp .FloorDiv) rDiv := opI fun _ _ _ _ _ _ _ hc q => floordiv_int hc.1 q (.inl (PyProof.noPylong_of_log2 hc.2))
theorem opr_eq (hu : X.A.units + 64 < cLine) : OpR X (compareOp .Eq) (rEqX X.K) := op_eq.or (op_eqD hu)
theorem opr_ne (hu : X.A.units + 64 < cLine) : OpR X (compareOp .NotEq) (rNeX X.K) := op_ne.or (op_neD hu)
theorem opr_inS : OpR X (compareOp .In) (rInStr false) := fun pins s σ H x y v u Q I rx ry h => op_in_sign pins s σ H x y v u Q I rx ry h
theorem opr_ninS : OpR X (compareOp .NotIn) (rInStr true) := fun pins s σ H x y v u Q I rx ry h => op_notIn_sign pins s σ H x y v u Q I rx ry h
theorem opr_inD (hu : X.A.units + 64 < cLine) : OpR X (compareOp .In) (rInDk false) := by
  intro pins s σ H x y v u Q I rx ry h
  obtain ⟨a, o, rfl, g, q⟩ := h
  obtain rfl : u = Value.ref a := ry
  exact d_in (by omega) I g rx fun s3 I3 => ⟨.bl o.isSome, H, I3, rfl, q⟩
theorem opr_ninD (hu : X.A.units + 64 < cLine) : OpR X (compareOp .NotIn) (rInDk true) := by
  intro pins s σ H x y v u Q I rx ry h
  obtain ⟨a, o, rfl, g, q⟩ := h
  obtain rfl : u = Value.ref a := ry
  exact d_notIn (by omega) I g rx fun s3 I3 => ⟨.bl (!o.isSome), H, I3, rfl, q⟩
theorem opr_in (hu : X.A.units + 64 < cLine) : OpR X (compareOp .In) (rInX X.K false) := op_in_seq.or (opr_inS.or (opr_inD hu))
theorem opr_nin (hu : X.A.units + 64 < cLine) : OpR X (compareOp .NotIn) (rInX X.K true) := op_notIn_seq.or (opr_ninS.or (opr_ninD hu))
theorem opr_isN : OpR X (compareOp .Is) (rIsN false) := fun pins s σ H x y v u Q I rx ry h => op_isN pins s σ H x y v u Q I rx ry h
theorem opr_notN : OpR X (compareOp .IsNot) (rIsN true) := fun pins s σ H x y v u Q I rx ry h => op_notN pins s σ H x y v u Q I rx ry h
theorem ixr_dk (hu : X.A.units + 64 < cLine) : IxR X rIxDk := by
  intro value slice pins s σ H x y v u Q I rx ry h hs
  obtain ⟨a, z, rfl, g, q⟩ := h
  obtain rfl : v = Value.ref a := rx
  exact tail_any (dict_typeIs I g) PySem.F.slot_dict_getitem.lookup (d_getItem (by omega) I g ry fun w' s3 I3 rw' => ⟨z, H, I3, rw', q⟩) hs
theorem ixr (hu : X.A.units + 64 < cLine) : IxR X (rIxX X.K) := ix_seq.or (ixr_dk hu)
end

/-! ### flat data -/
def flatD : PD → Bool
  | .none => true
  | .bool _ => true
  | .int _ => true
  | .str _ => true
  | _ => false
def eqF : PD → PD → Bool
  | .int i, .int j => decide (i = j)
  | .str i, .str j => decide (i = j)
  | .none, .none => true
  | .bool i, .bool j => decide (i = j)
  | _, _ => false
section
variable {X : Cx} {F : Fm} {E : EnvB} {Φ : EnvB → Rs → Prop} {r1 r2 : Rs}
variable {K : PySem.W.Frag} {w : Addr → Option Nat} {σ : L2.St} {H G : Hp}
theorem keI {σ : L2.St} (I : In K F w σ H G E) {i : Int} (h : Φ E (.sh (.int i))) : KE K F σ G Φ (.int i) H := ke I (Same.refl G) (r := .sh (.int i)) (.int i) h
theorem keB {σ : L2.St} (I : In K F w σ H G E) {i : Bool} (h : Φ E (.sh (.bool i))) : KE K F σ G Φ (.bl i) H := ke I (Same.refl G) (r := .sh (.bool i)) (.bl i) h
theorem keS {σ : L2.St} (I : In K F w σ H G E) {i : Str} (h : Φ E (.sh (.str i))) : KE K F σ G Φ (.str i) H := ke I (Same.refl G) (r := .sh (.str i)) (.str i) h
theorem keN {σ : L2.St} (I : In K F w σ H G E) (h : Φ E (.sh .none)) : KE K F σ G Φ .non H := ke I (Same.refl G) (r := .sh .none) .non h
theorem rvI {v : V} {i : Int} (h : RV K F w σ H G v (.sh (.int i))) : v = .int i := RD.int (E := []) .sh h
theorem rvS {v : V} {i : Str} (h : RV K F w σ H G v (.sh (.str i))) : v = .str i := RD.str (E := []) .sh h
theorem rvB {v : V} {i : Bool} (h : RV K F w σ H G v (.sh (.bool i))) : v = .bl i := RD.bl (E := []) .sh h
theorem rvN {v : V} (h : RV K F w σ H G v (.sh .none)) : v = .non := RD.non (E := []) .sh h

/-! ### + - * // % ** -/
theorem oj_I0 {g : Int → Int → Int} {i j : Int} (q : Φ E (.sh (.int (g i j)))) : OpJ X F (rI0 fun i j => .int (g i j)) E (.sh (.int i)) (.sh (.int j)) Φ := fun w σ H G x y Q I a b k => ⟨i, j, rvI a, rvI b, k _ _ (keI I q)⟩
theorem oj_B0 {g : Int → Int → Bool} {i j : Int} (q : Φ E (.sh (.bool (g i j)))) : OpJ X F (rI0 fun i j => .bl (g i j)) E (.sh (.int i)) (.sh (.int j)) Φ := fun w σ H G x y Q I a b k => ⟨i, j, rvI a, rvI b, k _ _ (keB I q)⟩
theorem oj_I {C : Int → Int → Prop} {g : Int → Int → Int} {i j : Int} (c : C i j) (q : Φ E (.sh (.int (g i j)))) : OpJ X F (rI C fun i j => .int (g i j)) E (.sh (.int i)) (.sh (.int j)) Φ := fun w σ H G x y Q I a b k => ⟨i, j, rvI a, rvI b, c, k _ _ (keI I q)⟩
theorem oj_l {r r' : R2} (h : OpJ X F r E r1 r2 Φ) : OpJ X F (rOr r r') E r1 r2 Φ := fun w σ H G x y Q I a b k => .inl (h w σ H G x y Q I a b k)
theorem oj_r {r r' : R2} (h : OpJ X F r' E r1 r2 Φ) : OpJ X F (rOr r r') E r1 r2 Φ := fun w σ H G x y Q I a b k => .inr (h w σ H G x y Q I a b k)
theorem oj_addI {i j : Int} (q : Φ E (.sh (.int (i + j)))) : OpJ X F (rAdd X.K) E (.sh (.int i)) (.sh (.int j)) Φ := oj_l (oj_I0 q)
theorem oj_subI {i j : Int} (q : Φ E (.sh (.int (i - j)))) : OpJ X F rSub E (.sh (.int i)) (.sh (.int j)) Φ := oj_I0 q
theorem oj_mulI {i j : Int} (c : MulOk i j) (q : Φ E (.sh (.int (i * j)))) : OpJ X F (rMul X.K) E (.sh (.int i)) (.sh (.int j)) Φ := oj_l (oj_I c q)
theorem oj_divP {i j : Int} (c : 0 < j ∧ j.natAbs.log2 < 9000) (q : Φ E (.sh (.int (i / j)))) : OpJ X F rDiv E (.sh (.int i)) (.sh (.int j)) Φ := by
  refine oj_I ⟨by omega, c.2⟩ ?_
  rw [Int.fdiv_eq_ediv_of_nonneg i (by omega)]
  exact q
theorem oj_divN {i j : Int} (c : j ≠ 0 ∧ j.natAbs.log2 < 9000) (q : Φ E (.sh (.int (i.fdiv j)))) : OpJ X F rDiv E (.sh (.int i)) (.sh (.int j)) Φ := oj_I c q
theorem oj_modP {i j : Int} (c : 0 < j) (q : Φ E (.sh (.int (i % j)))) : OpJ X F rMod E (.sh (.int i)) (.sh (.int j)) Φ := by
  refine oj_I (by omega) ?_
  rw [Int.fmod_eq_emod_of_nonneg i (by omega)]
  exact q
theorem oj_modN {i j : Int} (c : j ≠ 0) (q : Φ E (.sh (.int (i.fmod j)))) : OpJ X F rMod E (.sh (.int i)) (.sh (.int j)) Φ := oj_I c q
theorem oj_pow {i j : Int} (c : CPow i j) (q : Φ E (.sh (.int (i ^ j.toNat)))) : OpJ X F rPow E (.sh (.int i)) (.sh (.int j)) Φ := oj_I c q
theorem oj_addS {i j : Str} (c : i.length + j.length ≤ 100000) (q : Φ E (.sh (.str (i ++ j)))) : OpJ X F (rAdd X.K) E (.sh (.str i)) (.sh (.str j)) Φ := oj_r (oj_l fun w σ H G x y Q I a b k => ⟨i, j, rvS a, rvS b, Nat.le_trans c (by decide), k _ _ (keS I q)⟩)
theorem oj_addL {a b : List PD} (h1 : RD E r1 (.list a)) (h2 : RD E r2 (.list b)) (c : a.length + b.length ≤ 100000) (q : Φ E (.nw (.lst (a ++ b)))) : OpJ X F (rAdd X.K) E r1 r2 Φ := oj_r (oj_r (oj_l fun w σ H G x y Q I rx ry k => by
  obtain ⟨l, xs, rfl, hx, rxs⟩ := h1.lst I rx
  obtain ⟨m, ys, rfl, hy, rys⟩ := h2.lst I ry
  refine ⟨l, m, xs, ys, rfl, rfl, hx, hy, by rw [rxs.length, rys.length]; exact Nat.le_trans c (by decide), fun p hp => k _ _ ?_⟩
  obtain ⟨I3, rp⟩ := I.newL hp (rxs.app rys)
  exact ke I3 (Same.refl G) rp q))
theorem oj_addT {a b : List PD} (h1 : RD E r1 (.tuple a)) (h2 : RD E r2 (.tuple b)) (c : a.length + b.length ≤ 100000) (q : Φ E (.sh (.tuple (a ++ b)))) : OpJ X F (rAdd X.K) E r1 r2 Φ := oj_r (oj_r (oj_r fun w σ H G x y Q I rx ry k => by
  obtain ⟨l, xs, rfl, hx, rxs⟩ := h1.tup I rx
  obtain ⟨m, ys, rfl, hy, rys⟩ := h2.tup I ry
  refine ⟨l, m, xs, ys, rfl, rfl, sqT_mono I.sub hx, sqT_mono I.sub hy, by rw [rxs.length, rys.length]; exact Nat.le_trans c (by decide), fun e => k _ _ ?_, fun _ e => k _ _ ?_, fun _ _ p hp => k _ _ ?_⟩
  · subst e
    cases rxs
    exact ke I (Same.refl G) (r := .sh (.tuple ([] ++ b))) (.tup hy rys) q
  · subst e
    cases rys
    exact ke I (Same.refl G) (r := .sh (.tuple (a ++ []))) (by rw [List.append_nil]; exact .tup hx rxs) q
  · obtain ⟨I3, s3, rp⟩ := I.newT hp (rxs.app rys)
    exact ke I3 s3 (r := .sh (.tuple (a ++ b))) rp q))
theorem oj_repL {d : PD} {n : Int} (h1 : RD E r1 (.list [d])) (c : -100000 ≤ n ∧ n ≤ 100000) (q : Φ E (.nw (.lst (List.replicate n.toNat d)))) : OpJ X F (rMul X.K) E r1 (.sh (.int n)) Φ := oj_r (oj_l fun w σ H G x y Q I rx ry k => by
  obtain ⟨l, xs, rfl, hx, rxs⟩ := h1.lst I rx
  obtain rfl := rvI ry
  have hl := rxs.length
  · refine ⟨l, n, xs, rfl, rfl, hx, by omega, by omega, by rw [hl]; show 1 * n.toNat ≤ sizeLine; rw [Nat.one_mul]; exact Nat.le_trans (by omega : n.toNat ≤ 100000) (by decide), fun p hp => k _ _ ?_⟩
    have rr : ∀ m, Rps X.K G (List.replicate m xs).flatten (List.replicate m d) := fun m => by
      induction m with
      | zero => exact .nil
      | succ m ih =>
        rw [List.replicate_succ, List.replicate_succ, List.flatten_cons]
        cases rxs with
        | cons h1 h2 =>
          cases h2
          exact .cons h1 ih
    obtain ⟨I3, rp⟩ := I.newL hp (rr n.toNat)
    exact ke I3 (Same.refl G) rp q)

/-! ### comparisons -/
theorem oj_eqI {i j : Int} (q : Φ E (.sh (.bool (decide (i = j))))) : OpJ X F (rEqX X.K) E (.sh (.int i)) (.sh (.int j)) Φ := oj_l fun w σ H G x y Q I a b k => by
  obtain rfl := rvI a
  obtain rfl := rvI b
  refine ⟨rfl, k _ _ (keB I ?_)⟩
  rw [dec_int, Bool.beq_eq_decide_eq]
  exact q
theorem oj_neI {i j : Int} (q : Φ E (.sh (.bool (!decide (i = j))))) : OpJ X F (rNeX X.K) E (.sh (.int i)) (.sh (.int j)) Φ := oj_l fun w σ H G x y Q I a b k => by
  obtain rfl := rvI a
  obtain rfl := rvI b
  refine ⟨rfl, k _ _ (keB I ?_)⟩
  rw [dec_int, Bool.beq_eq_decide_eq]
  exact q
theorem oj_eqS {i j : Str} (q : Φ E (.sh (.bool (decide (i = j))))) : OpJ X F (rEqX X.K) E (.sh (.str i)) (.sh (.str j)) Φ := oj_l fun w σ H G x y Q I a b k => by
  obtain rfl := rvS a
  obtain rfl := rvS b
  refine ⟨rfl, k _ _ (keB I ?_)⟩
  rw [dec_str, Bool.beq_eq_decide_eq]
  exact q
theorem oj_neS {i j : Str} (q : Φ E (.sh (.bool (!decide (i = j))))) : OpJ X F (rNeX X.K) E (.sh (.str i)) (.sh (.str j)) Φ := oj_l fun w σ H G x y Q I a b k => by
  obtain rfl := rvS a
  obtain rfl := rvS b
  refine ⟨rfl, k _ _ (keB I ?_)⟩
  rw [dec_str, Bool.beq_eq_decide_eq]
  exact q
theorem oj_eqD {d e : PD} (h1 : RD E r1 d) (h2 : RD E r2 e) (n1 : nd d = true) (n2 : nd e = true) (s1 : SeqAt.shaped d = true) (s2 : SeqAt.shaped e = true) (q : Φ E (.sh (.bool (PyData.eqv d e)))) : OpJ X F (rEqX X.K) E r1 r2 Φ := oj_r fun w σ H G x y Q I a b k =>
  ⟨d, e, Rp.dp _ _ n1 (h1.rp I a), Rp.dp _ _ n2 (h2.rp I b), s1, s2, k _ _ (keB I q)⟩
theorem oj_neD {d e : PD} (h1 : RD E r1 d) (h2 : RD E r2 e) (n1 : nd d = true) (n2 : nd e = true) (s1 : SeqAt.shaped d = true) (s2 : SeqAt.shaped e = true) (q : Φ E (.sh (.bool (!PyData.eqv d e)))) : OpJ X F (rNeX X.K) E r1 r2 Φ := oj_r fun w σ H G x y Q I a b k =>
  ⟨d, e, Rp.dp _ _ n1 (h1.rp I a), Rp.dp _ _ n2 (h2.rp I b), s1, s2, k _ _ (keB I q)⟩
theorem rp_none {K : PySem.W.Frag} {G : Hp} : ∀ {d : PD} {x : V}, Rp K G x d → decide (x = .non) = (match d with | .none => true | _ => false)
  | .none, _, h => by cases h; rfl
  | .bool _, _, h => by cases h; rfl
  | .int _, _, h => by cases h; rfl
  | .str _, _, h => by cases h; rfl
  | .list _, _, h => by cases h; rfl
  | .tuple _, _, h => by cases h; rfl
  | .dict _, _, h => by cases h <;> rfl
def isNo : PD → Bool
  | .none => true
  | _ => false
theorem oj_isN {d : PD} (q : Φ E (.sh (.bool (isNo d)))) : OpJ X F (rIsN false) E (.sh d) (.sh .none) Φ := fun w σ H G x y Q I a c k => by
  refine ⟨rvN c, k _ _ (keB I ?_)⟩
  rw [if_neg Bool.false_ne_true, rp_none a]
  exact q
theorem oj_notN {d : PD} (q : Φ E (.sh (.bool (!isNo d)))) : OpJ X F (rIsN true) E (.sh d) (.sh .none) Φ := fun w σ H G x y Q I a c k => by
  refine ⟨rvN c, k _ _ (keB I ?_)⟩
  rw [if_pos rfl, rp_none a]
  exact q
theorem oj_ltI {i j : Int} (q : Φ E (.sh (.bool (decide (i < j))))) : OpJ X F (rI0 fun i j => .bl (decide (i < j))) E (.sh (.int i)) (.sh (.int j)) Φ := oj_B0 q
theorem oj_leI {i j : Int} (q : Φ E (.sh (.bool (decide (i ≤ j))))) : OpJ X F (rI0 fun i j => .bl (decide (i ≤ j))) E (.sh (.int i)) (.sh (.int j)) Φ := oj_B0 q
theorem oj_gtI {i j : Int} (q : Φ E (.sh (.bool (decide (j < i))))) : OpJ X F (rI0 fun i j => .bl (decide (j < i))) E (.sh (.int i)) (.sh (.int j)) Φ := oj_B0 q
theorem oj_geI {i j : Int} (q : Φ E (.sh (.bool (decide (j ≤ i))))) : OpJ X F (rI0 fun i j => .bl (decide (j ≤ i))) E (.sh (.int i)) (.sh (.int j)) Φ := oj_B0 q

/-! ### in -/
def inF (d : PD) (ds : List PD) : Bool := ds.any fun e => eqF e d
def vD : PD → V
  | .bool b => .bl b
  | .int i => .int i
  | .str s => .str s
  | _ => .non
theorem rp_flat {K : PySem.W.Frag} {G : Hp} : ∀ {d : PD} {x : V}, flatD d = true → Rp K G x d → x = vD d ∧ flatV x = true
  | .none, _, _, h => by cases h; exact ⟨rfl, rfl⟩
  | .bool _, _, _, h => by cases h; exact ⟨rfl, rfl⟩
  | .int _, _, _, h => by cases h; exact ⟨rfl, rfl⟩
  | .str _, _, _, h => by cases h; exact ⟨rfl, rfl⟩
  | .list _, _, e, _ => by cases e
  | .tuple _, _, e, _ => by cases e
  | .dict _, _, e, _ => by cases e
theorem rps_flat {K : PySem.W.Frag} {G : Hp} : ∀ {ds : List PD} {xs : List V}, ds.all flatD = true → Rps K G xs ds → xs = ds.map vD ∧ xs.all flatV = true
  | [], _, _, h => by cases h; exact ⟨rfl, rfl⟩
  | d :: ds, _, e, h => by
    rw [List.all_cons, Bool.and_eq_true] at e
    cases h with
    | cons h1 h2 =>
      obtain ⟨a1, a2⟩ := rp_flat e.1 h1
      obtain ⟨b1, b2⟩ := rps_flat e.2 h2
      exact ⟨by rw [a1, b1]; rfl, by rw [List.all_cons, a2, b2]; rfl⟩
theorem oj_inSeq {neg : Bool} {d : PD} {ds : List PD} (h2 : RD E r2 (.list ds) ∨ RD E r2 (.tuple ds)) (c1 : flatD d = true) (c2 : ds.all flatD = true) {k : Bool} (hk : k = inV (vD d) (ds.map vD)) (q : Φ E (.sh (.bool (if neg then !k else k)))) : OpJ X F (rInX X.K neg) E (.sh d) r2 Φ := oj_l fun w σ H G x y Q I a b kk => by
  obtain ⟨e1, f1⟩ := rp_flat c1 a
  subst hk
  rcases h2 with h2 | h2
  · obtain ⟨l, xs, rfl, hx, rxs⟩ := h2.lst I b
    obtain ⟨e2, f2⟩ := rps_flat c2 rxs
    subst e1 e2
    exact ⟨l, _, rfl, .inl (.inl (.inl hx)), f1, f2, kk _ _ (keB I q)⟩
  · obtain ⟨l, xs, rfl, hx, rxs⟩ := h2.tup I b
    obtain ⟨e2, f2⟩ := rps_flat c2 rxs
    subst e1 e2
    exact ⟨l, _, rfl, .inr (sqT_mono I.sub hx), f1, f2, kk _ _ (keB I q)⟩
theorem oj_inS {neg : Bool} {c : Nat} {z : Str} (q : Φ E (.sh (.bool (if neg then !decide (c ∈ z.cps.toList) else decide (c ∈ z.cps.toList))))) : OpJ X F (rInX X.K neg) E (.sh (.str ⟨#[c]⟩)) (.sh (.str z)) Φ := oj_r (oj_l fun w σ H G x y Q I a b k => ⟨c, z, rvS a, rvS b, k _ _ (keB I q)⟩)

/-! ### items -/
theorem atI_get {α : Type} {xs : List α} {i : Int} {d : α} (h : atI xs i = some d) : ∃ j, ixN xs.length i = some j ∧ xs[j]? = some d := by
  unfold atI at h
  cases q : ixN xs.length i with
  | none => rw [q] at h; cases h
  | some j => rw [q] at h; exact ⟨j, rfl, h⟩
theorem atI_of {α : Type} {xs : List α} {i : Int} {d : α} {j : Nat} (h : ixN xs.length i = some j) (h2 : xs[j]? = some d) : atI xs i = some d := by
  unfold atI
  rw [h]
  exact h2
theorem oj_ixL {ds : List PD} {i : Int} {d : PD} (h1 : RD E r1 (.list ds)) (h : atI ds i = some d) (q : Φ E (.sh d)) : OpJ X F (rIxX X.K) E r1 (.sh (.int i)) Φ := oj_l fun w σ H G x y Q I a b k => by
  obtain ⟨l, xs, rfl, hx, rxs⟩ := h1.lst I a
  obtain rfl := rvI b
  obtain ⟨j, e1, e2⟩ := atI_get h
  obtain ⟨v, e3, rv⟩ := rxs.get e2
  exact .inl ⟨l, xs, i, v, rfl, rfl, .inl (.inl hx), atI_of (by rw [rxs.length]; exact e1) e3, k _ _ (ke I (Same.refl G) (r := .sh d) rv q)⟩
theorem oj_ixT {ds : List PD} {i : Int} {d : PD} (h1 : RD E r1 (.tuple ds)) (h : atI ds i = some d) (q : Φ E (.sh d)) : OpJ X F (rIxX X.K) E r1 (.sh (.int i)) Φ := oj_l fun w σ H G x y Q I a b k => by
  obtain ⟨l, xs, rfl, hx, rxs⟩ := h1.tup I a
  obtain rfl := rvI b
  obtain ⟨j, e1, e2⟩ := atI_get h
  obtain ⟨v, e3, rv⟩ := rxs.get e2
  exact .inr (.inl ⟨l, xs, i, v, rfl, rfl, sqT_mono I.sub hx, atI_of (by rw [rxs.length]; exact e1) e3, k _ _ (ke I (Same.refl G) (r := .sh d) rv q)⟩)
theorem oj_ixS {z : Str} {i : Int} {c : Nat} (hz : z.length ≤ 100000) (h : atI z.cps.toList i = some c) (q : Φ E (.sh (.str ⟨#[c]⟩))) : OpJ X F (rIxX X.K) E (.sh (.str z)) (.sh (.int i)) Φ := oj_l fun w σ H G x y Q I a b k =>
  .inr (.inr ⟨z, i, c, rvS a, rvI b, Nat.le_trans hz (by decide), h, k _ _ (keS I q)⟩)
end
end Bk

set_option maxHeartbeats 4000000
namespace Bk
open PySem PySem.Spec PyProof.Rows L2

theorem de_imp {K : PySem.W.Frag} {F : Fm} {G : Hp} {Φ Φ' : Post} (h1 : ∀ E, Φ'.nx E → Φ.nx E) (h2 : ∀ E r, Φ'.rt E r → Φ.rt E r) (h3 : ∀ E, Φ'.bk E → Φ.bk E) (h4 : ∀ E, Φ'.ct E → Φ.ct E) : leD (DE K F G Φ') (DE K F G Φ) := by
  refine ⟨fun σ H q => ?_, fun v H q => ?_, fun σ H q => ?_, fun σ H q => ?_⟩
  · obtain ⟨w, G1, E2, a, b, d⟩ := q
    exact ⟨w, G1, E2, a, b, h1 E2 d⟩
  · obtain ⟨w, σ, G1, E2, r, a, b, c, d⟩ := q
    exact ⟨w, σ, G1, E2, r, a, b, c, h2 E2 r d⟩
  · obtain ⟨w, G1, E2, a, b, d⟩ := q
    exact ⟨w, G1, E2, a, b, h3 E2 d⟩
  · obtain ⟨w, G1, E2, a, b, d⟩ := q
    exact ⟨w, G1, E2, a, b, h4 E2 d⟩
/-! ### statements -/
section
variable {X : Cx} {F : Fm} {E : EnvB} {a b c e tg iter : Expr} {es : List Expr} {Φ : Post} {pos : Pos} {x : Str} {st : Stmt} {sts body els : List Stmt}
theorem tS_go {w : Addr → Option Nat} {σ : L2.St} {H G : Hp} {D : Ends} (I : In X.K F w σ H G E) (h : XS X F st E Φ) (q : leD (DE X.K F G Φ) D) : tS X F st D σ H := ⟨E, Φ, w, G, I, h, q⟩
theorem tSs_go {w : Addr → Option Nat} {σ : L2.St} {H G : Hp} {D : Ends} (I : In X.K F w σ H G E) (h : XSs X F sts E Φ) (q : leD (DE X.K F G Φ) D) : tSs X F sts D σ H := ⟨E, Φ, w, G, I, h, q⟩
theorem xss_nil (q : Φ.nx E) : XSs X F [] E Φ := xss_of pss_nil fun w σ H G I => ⟨w, G, E, I, Same.refl G, q⟩
theorem xss_cons (h : XS X F st E { Φ with nx := fun E1 => XSs X F sts E1 Φ }) : XSs X F (st :: sts) E Φ :=
  xss_of (pss_cons ps_tS pss_tSs) fun w σ H G I => tS_go I h ⟨fun σ1 H1 ⟨w1, G1, E1, I1, s1, q⟩ => tSs_go I1 q (DE.tr s1), fun _ _ q => q, fun _ _ q => q, fun _ _ q => q⟩
theorem xss_one (h : XS X F st E Φ) : XSs X F [st] E Φ := xss_of (pss_one ps_tS) fun w σ H G I => tS_go I h (leD.refl _)
theorem xs_pass (q : Φ.nx E) : XS X F (.Pass pos) E Φ := xs_of ps_pass fun w σ H G I => ⟨w, G, E, I, Same.refl G, q⟩
theorem xs_break (q : Φ.bk E) : XS X F (.Break pos) E Φ := xs_of ps_break fun w σ H G I => ⟨w, G, E, I, Same.refl G, q⟩
theorem xs_continue (q : Φ.ct E) : XS X F (.Continue pos) E Φ := xs_of ps_continue fun w σ H G I => ⟨w, G, E, I, Same.refl G, q⟩
theorem xs_ret (h : XE X F e E fun E1 r => Φ.rt E1 r) : XS X F (.Return (some e) pos) E Φ := xs_of (ps_ret pe_tE) fun w σ H G I => tE_go I h fun v w1 H1 G1 E1 r I1 s1 rv q => ⟨w1, σ, G1, E1, r, I1, s1, rv, q⟩
theorem xs_retN (q : Φ.rt E (.sh .none)) : XS X F (.Return none pos) E Φ := xs_of ps_retN fun w σ H G I => ⟨w, σ, G, E, .sh .none, I, Same.refl G, .non, q⟩
theorem xs_expr (h : XE X F e E fun E1 r => Φ.nx E1) (hs : swapsWith e none pos.line X.env = pure false := by rfl) : XS X F (.Expr e pos) E Φ := xs_of (ps_expr pe_tE hs) fun w σ H G I => tE_go I h fun v w1 H1 G1 E1 r I1 s1 rv q => ⟨w1, G1, E1, I1, s1, q⟩
theorem xs_if (h : XT X F c E fun E1 k => (k = true → XSs X F body E1 Φ) ∧ (k = false → XSs X F els E1 Φ)) : XS X F (.If c body els pos) E Φ :=
  xs_of (ps_if pt_tT pss_tSs pss_tSs) fun w σ H G I => tT_go I h fun k w1 H1 G1 E1 I1 s1 q => by
    cases k with
    | true => exact iteT (tSs_go I1 (q.1 rfl) (DE.tr s1))
    | false => exact iteF (tSs_go I1 (q.2 rfl) (DE.tr s1))
theorem xss_imp {Φ' : Post} (h : XSs X F sts E Φ') (h1 : ∀ E, Φ'.nx E → Φ.nx E) (h2 : ∀ E r, Φ'.rt E r → Φ.rt E r) (h3 : ∀ E, Φ'.bk E → Φ.bk E) (h4 : ∀ E, Φ'.ct E → Φ.ct E) : XSs X F sts E Φ := fun pins s w σ H G I i =>
  thn (h pins s w σ H G I i) fun f s' z => sp_le (de_imp h1 h2 h3 h4) z
theorem xs_imp {Φ' : Post} (h : XS X F st E Φ') (h1 : ∀ E, Φ'.nx E → Φ.nx E) (h2 : ∀ E r, Φ'.rt E r → Φ.rt E r) (h3 : ∀ E, Φ'.bk E → Φ.bk E) (h4 : ∀ E, Φ'.ct E → Φ.ct E) : XS X F st E Φ := fun pins s w σ H G I i =>
  thn (h pins s w σ H G I i) fun f s' z => sp_le (de_imp h1 h2 h3 h4) z
/-- what follows is shown once -/
theorem xss_cut (Mid : EnvB → Prop) (h : XS X F st E { Φ with nx := Mid }) (q : ∀ E1, Mid E1 → XSs X F sts E1 Φ) : XSs X F (st :: sts) E Φ :=
  xss_cons (xs_imp h q (fun _ _ z => z) (fun _ z => z) fun _ z => z)
theorem xe_cut {Φ Φ' : EnvB → Rs → Prop} (h : XE X F e E Φ') (q : ∀ E1 r, Φ' E1 r → Φ E1 r) : XE X F e E Φ := fun pins s w σ H G I i =>
  thn (h pins s w σ H G I i) fun u s' ⟨v, H', I', r, w', G', E', r', a, b, c, d⟩ => ⟨v, H', I', r, w', G', E', r', a, b, c, q E' r' d⟩
theorem xt_cut {Ψ Ψ' : EnvB → Bool → Prop} (h : XT X F e E Ψ') (q : ∀ E1 r, Ψ' E1 r → Ψ E1 r) : XT X F e E Ψ := fun pins s w σ H G I i =>
  thn (h pins s w σ H G I i) fun u s' ⟨H', I', w', G', E', a, b, d⟩ => ⟨H', I', w', G', E', a, b, q E' _ d⟩

/-! ### stores -/
theorem xs_set {i : Nat} {pos' : Pos} (h : XE X F e E fun E1 r => ∃ E2, AsgE E1 i r E2 ∧ Φ.nx E2) (hN : X.N.Nodup := by assumption) (hi : X.N[i]? = some x := by rfl) (hx : Loc X.env.scope x := by first | exact Or.inl rfl | exact Or.inr rfl) (hs : swapsWith e (some (.Name x pos')) pos.line X.env = pure false := by rfl)
    (hf : X.fn x = true ∨ X.env.scope.names.lookup x = some .local := by first | exact .inl rfl | exact .inr rfl | assumption) : XS X F (.Assign [.Name x pos'] e pos) E Φ :=
  xs_of (ps_set hN hi hx pe_tE hs hf) fun w σ H G I => tE_go I h fun v w1 H1 G1 E1 r I1 s1 rv ⟨E2, as, q⟩ => by
    obtain ⟨w2, G2, I2, s2⟩ := as.go I1 rv
    exact ⟨w2, G2, E2, I2, s1.trans s2, q⟩
theorem xs_aug {i : Nat} {pos' : Pos} {op : Operator} {r : R2} {d : PD} (ho : OpR X (inplaceOp op) r) (hE : ∀ E1, E1 = E → E1[i]? = some (.sh d)) (h : XE X F e E fun E1 r1 => ∃ r1', Fz r1 r1' ∧ E1[i]? = some (.sh d) ∧ OpJ X F r E1 (.sh d) r1' fun E2 r2 => ∃ E3, AsgE E2 i r2 E3 ∧ Φ.nx E3) (hN : X.N.Nodup := by assumption) (hi : X.N[i]? = some x := by rfl) (hx : Loc X.env.scope x := by first | exact Or.inl rfl | exact Or.inr rfl)
    (hf : X.fn x = true ∨ X.env.scope.names.lookup x = some .local := by first | exact .inl rfl | exact .inr rfl | assumption) : XS X F (.AugAssign (.Name x pos') op e pos) E Φ :=
  xs_of (ps_aug hN hi hx pe_tE (show PIp X op r from ho) hf) fun w σ H G I => by
    obtain ⟨v, e0, r0⟩ := I.slot i _ (hE E rfl)
    refine ⟨v, e0, tE_go I h fun v1 w1 H1 G1 E1 r1 I1 s1 rv ⟨r1', f, hE1, q⟩ => ?_⟩
    obtain ⟨G1', I1', s1', rv1'⟩ := f.go I1 rv
    refine q w1 σ H1 G1' v v1 _ I1' (Rp.mono (s1.trans s1') _ _ r0) rv1' fun v2 H2 ⟨w2, G2, E2, r2, I2, s2, rv2, E3, as, q⟩ => ?_
    obtain ⟨w3, G3, I3, s3⟩ := as.go I2 rv2
    exact ⟨w3, G3, E3, I3, ((s1.trans s1').trans s2).trans s3, q⟩

/-! ### x[i] = v -/
theorem op_putItem (hu : X.A.units + 64 < cLine) : PSet X fun o i v H Q => rSetL o i v H Q ∨ ∃ a H', o = .ref a ∧ DPut H a i v H' ∧ Q H' := by
  intro pins s σ H o i v ov iv u Q I ro ri rv h
  rcases h with h | ⟨a, H', rfl, g, q⟩
  · exact set_list pins s σ H o i v ov iv u Q I ro ri rv h
  · obtain rfl : ov = Value.ref a := ro
    exact d_setItem (by omega) I g ri rv fun s4 I4 => ⟨H', I4, q⟩
def kOf : PD → Option Key
  | .int i => some (.inl i)
  | .str s => some (.inr s)
  | _ => none
theorem rp_key {K : PySem.W.Frag} {G : Hp} {d : PD} {k : Key} {v : V} (h : kOf d = some k) (r : Rp K G v d) : v = kV k := by
  match d, h, r with
  | .int i, h, r => cases h; cases r; rfl
  | .str s, h, r => cases h; cases r; rfl
theorem Rkv.length {K : PySem.W.Frag} {G : Hp} {kvs : List (Key × V)} {es : List (Key × PD)} (h : Rkv K G kvs es) : kvs.length = es.length := by
  induction h with
  | nil => rfl
  | cons _ _ ih => rw [List.length_cons, List.length_cons, ih]
/-- dicts of data -/
def dlook (es : List (Key × PD)) (k : Key) : Option PD := (es.find? fun kv => decide (kv.1 = k)).map (·.2)
def dput (es : List (Key × PD)) (k : Key) (v : PD) : List (Key × PD) := if (es.any fun kv => decide (kv.1 = k)) = true then es.map (fun kv => if kv.1 = k then (kv.1, v) else kv) else es ++ [(k, v)]
theorem Rkv.look {K : PySem.W.Frag} {G : Hp} {kvs : List (Key × V)} {es : List (Key × PD)} (h : Rkv K G kvs es) (k : Key) : (dlook es k = none ∧ valV kvs k = none) ∨ ∃ v d, dlook es k = some d ∧ valV kvs k = some v ∧ Rp K G v d := by
  induction h with
  | nil => exact .inl ⟨rfl, rfl⟩
  | @cons k' v kvs d es r t ih =>
    by_cases e : k' = k
    · refine .inr ⟨v, d, ?_, valV_pos e, r⟩
      unfold dlook
      rw [List.find?_cons_of_pos (by simpa using e)]
      rfl
    · rw [valV_neg (p := (k', v)) e]
      have q : dlook ((k', d) :: es) k = dlook es k := by
        unfold dlook
        rw [List.find?_cons_of_neg (by simpa using e)]
      rw [q]
      exact ih
theorem Rkv.any {K : PySem.W.Frag} {G : Hp} {kvs : List (Key × V)} {es : List (Key × PD)} (h : Rkv K G kvs es) (k : Key) : (kvs.any fun kv => decide (kv.1 = k)) = es.any fun kv => decide (kv.1 = k) := by
  induction h with
  | nil => rfl
  | cons _ _ ih => rw [List.any_cons, List.any_cons, ih]
theorem Rkv.app {K : PySem.W.Frag} {G : Hp} {kvs kvs' : List (Key × V)} {es es' : List (Key × PD)} (h : Rkv K G kvs es) (h' : Rkv K G kvs' es') : Rkv K G (kvs ++ kvs') (es ++ es') := by
  induction h with
  | nil => exact h'
  | cons r _ ih => exact .cons r ih
theorem Rkv.put {K : PySem.W.Frag} {G : Hp} {kvs : List (Key × V)} {es : List (Key × PD)} (h : Rkv K G kvs es) (k : Key) {v : V} {d : PD} (r : Rp K G v d) : Rkv K G (putK kvs k v) (dput es k d) := by
  unfold putK dput
  rw [h.any k]
  by_cases q : (es.any fun kv => decide (kv.1 = k)) = true
  · rw [if_pos q, if_pos q]
    clear q
    induction h with
    | nil => exact .nil
    | @cons k' v' kvs d' es r' t ih =>
      rw [List.map_cons, List.map_cons]
      by_cases e : k' = k
      · rw [if_pos (show (k', v').1 = k from e), if_pos (show (k', d').1 = k from e)]
        exact .cons r ih
      · rw [if_neg (show ¬ (k', v').1 = k from e), if_neg (show ¬ (k', d').1 = k from e)]
        exact .cons r' ih
  · rw [if_neg q, if_neg q]
    exact h.app (.cons r .nil)
/-- what a store makes of slot i's object -/
inductive PutE : EnvB → Nat → PD → PD → EnvB → Prop
  | lst {E E' : EnvB} {i j : Nat} {k : Int} {b : Bd} {ds : List PD} {d : PD} : E[i]? = some b → b.oc = some (.lst ds) → ixN ds.length k = some j → SetE E i (b.put (.lst (ds.set j d))) E' → PutE E i (.int k) d E'
  | dic {E E' : EnvB} {i : Nat} {b : Bd} {es : List (Key × PD)} {dk d : PD} {k : Key} : E[i]? = some b → b.oc = some (.dic es) → kOf dk = some k → es.length < 100000 → SetE E i (b.put (.dic (dput es k d))) E' → PutE E i dk d E'
theorem PutE.go {w : Addr → Option Nat} {σ : L2.St} {H G : Hp} (I : In X.K F w σ H G E) {i : Nat} {dk d : PD} {E' : EnvB} (p : PutE E i dk d E') {o k v : V} (ho : σ[i]? = some (some o)) (rk : Rp X.K G k dk) (rv : Rp X.K G v d) {Q : Hp → Prop} (q : ∀ H', In X.K F w σ H' G E' → Q H') :
    rSetL o k v H Q ∨ ∃ a H', o = .ref a ∧ DPut H a k v H' ∧ Q H' := by
  cases p with
  | lst h1 h2 h3 h4 =>
    obtain ⟨l, e, hw, c⟩ := I.owned h1 h2
    obtain ⟨xs, c1, c2⟩ := c.lst
    rw [ho] at e
    cases e
    cases rk
    refine .inl ⟨l, xs, _, _, rfl, rfl, c1, by rw [c2.length]; exact h3, q _ ?_⟩
    rw [h4.eq]
    exact I.mut h1 h2 ho (.ls (c2.set _ rv))
  | dic h1 h2 h3 hl h4 =>
    obtain ⟨l, e, hw, c⟩ := I.owned h1 h2
    obtain ⟨kvs, c1, c2⟩ := c.dic
    rw [ho] at e
    cases e
    obtain rfl := rp_key h3 rk
    refine .inr ⟨l, _, rfl, DPut.k c1 (by rw [c2.length]; exact Nat.lt_of_lt_of_le hl (by decide)), q _ ?_⟩
    rw [h4.eq]
    exact I.mut h1 h2 ho (.di (c2.put _ rv))
theorem xs_store {pos' : Pos} (hu : X.A.units + 64 < cLine) (h : XE X F e E fun E1 r1 => ∃ r1', Fz r1 r1' ∧ XE X F a E1 fun E2 r2 => ∃ i, r2 = .br i ∧ XE X F b E2 fun E3 r3 => ∃ E4 d dk E5, Fzs E3 [r1'] E4 [d] ∧ r3 = .sh dk ∧ PutE E4 i dk d E5 ∧ Φ.nx E5)
    (ha : ∀ v, assign (.Subscript a b pos') X.env v = (do
      let ov ← holding [v] (eval a X.env)
      let iv ← holding [v, ov] (eval b X.env)
      standAt pos'
      holding [v, ov, iv] (setItem ov iv v)
      release [v, ov, iv] []) := by intro _; rfl) (hs : swapsWithSole [.Subscript a b pos'] e pos.line X.env = pure false := by rfl) (hw : swappedStores [.Subscript a b pos'] e X.env = pure none := by rfl)
    (h1 : (assignEach [.Subscript a b pos'] X.env).map (·.2) = [assign (.Subscript a b pos') X.env] := by rfl) : XS X F (.Assign [.Subscript a b pos'] e pos) E Φ :=
  xs_of (ps_asg pe_tE (pg_sub pe_tE pe_tE (op_putItem hu) ha) hs hw h1) fun w σ H G I => tE_go I h fun v1 w1 H1 G1 E1 r1 I1 s1 rv1 ⟨r1', f1, h1⟩ => by
    obtain ⟨G1', I1', s1', rv1'⟩ := f1.go I1 rv1
    refine tE_go I1' h1 fun v2 w2 H2 G2 E2 r2 I2 s2 rv2 ⟨i, e2, h2⟩ => ?_
    subst e2
    refine tE_go I2 h2 fun v3 w3 H3 G3 E3 r3 I3 s3 rv3 ⟨E4, d, dk, E5, f, e3, p, q⟩ => ?_
    subst e3
    have rvs : RVs X.K w3 σ H3 G3 [v1] [r1'] := f1.cons (f1.keep (s2.trans s3) rv1') .nil
    obtain ⟨w4, G4, I4, s4, rps⟩ := f.go I3 rvs
    cases rps with
    | cons rp _ =>
      refine p.go I4 (show σ[i]? = some (some v2) from rv2) (Rp.mono s4 _ _ rv3) rp fun H' I5 => ?_
      exact ⟨w4, G4, E5, I5, ((((s1.trans s1').trans s2).trans s3)).trans s4, q⟩

/-! ### while -/
theorem xs_while (Wv : Nat → EnvB → Prop) (m : Nat) (h0 : Wv m E) (hs : ∀ m E1, Wv m E1 → XT X F c E1 fun E2 k => (k = true → XSs X F body E2 { nx := fun E3 => ∃ m', m' < m ∧ Wv m' E3, rt := Φ.rt, bk := Φ.nx, ct := fun E3 => ∃ m', m' < m ∧ Wv m' E3 }) ∧ (k = false → Φ.nx E2))
    (hp : PassesOwn (model X.prog X.w) X.A X.env X.xe := by exact PassesOwn.never) : XS X F (.While c body [] pos) E Φ :=
  xs_of (ps_while hp pt_tT pss_tSs) fun w σ H G I => by
    refine ⟨fun m σ' H' => ∃ w' G' E', In X.K F w' σ' H' G' E' ∧ Same G G' ∧ Wv m E', ⟨m, w, G, E, I, Same.refl G, h0⟩, ?_⟩
    rintro m σ' H' ⟨w', G', E', I', s', h'⟩
    refine tT_go I' (hs m E' h') fun k w1 H1 G1 E1 I1 s1 q => ?_
    cases k with
    | true =>
      refine iteT ⟨fun σ2 H2 => ∃ m', m' < m ∧ ∃ w2 G2 E2, In X.K F w2 σ2 H2 G2 E2 ∧ Same G G2 ∧ Wv m' E2, fun σ2 H2 q2 => q2, ?_⟩
      have nxt : ∀ σ2 H2, KG X.K F G1 (fun E3 => ∃ m', m' < m ∧ Wv m' E3) σ2 H2 → ∃ m', m' < m ∧ ∃ w2 G2 E2, In X.K F w2 σ2 H2 G2 E2 ∧ Same G G2 ∧ Wv m' E2 := fun σ2 H2 ⟨w2, G2, E2, I2, s2, m', hm, q2⟩ => ⟨m', hm, w2, G2, E2, I2, (s'.trans s1).trans s2, q2⟩
      exact tSs_go I1 (q.1 rfl) ⟨nxt, (DE.tr (Φ := Φ) (s'.trans s1)).2.1, (DE.tr (Φ := Φ) (s'.trans s1)).1, nxt⟩
    | false => exact iteF ⟨w1, G1, E1, I1, s'.trans s1, q.2 rfl⟩
end
end Bk

set_option maxHeartbeats 4000000
namespace Bk
open PySem PySem.Spec PyProof.Rows L2

/-! ### what is walked -/
/-- J gives the data ds, one by one, as long as what stood at the start is shared -/
structure Wk (K : PySem.W.Frag) (J : It) (G1 : Hp) (ds : List PD) : Prop where
  go : ∀ (F : Fm) (w : Addr → Option Nat) (σ : L2.St) (H G : Hp) (E : EnvB) (i : Nat), i < ds.length → In K F w σ H G E → Same G1 G → J.go i H
  stop : ∀ (F : Fm) (w : Addr → Option Nat) (σ : L2.St) (H G : Hp) (E : EnvB), In K F w σ H G E → Same G1 G → J.stop ds.length H
  yld : ∀ (F : Fm) (w : Addr → Option Nat) (σ : L2.St) (H G : Hp) (E : EnvB) (i : Nat) (d : PD) (x : V) (H' : Hp), ds[i]? = some d → In K F w σ H G E → Same G1 G → J.yld i H x H' → ∃ G', In K F w σ H' G' E ∧ Same G G' ∧ Same H H' ∧ (∀ b, H b ≠ none → G' b = G b) ∧ Rp K G' x d
def KI (K : PySem.W.Frag) (F : Fm) (σ : L2.St) (G : Hp) (Θ : EnvB → List PD → Prop) : It → Hp → Prop := fun J H' => ∃ w' G' E' ds, In K F w' σ H' G' E' ∧ Same G G' ∧ Wk K J G' ds ∧ Θ E' ds
def XI (X : Cx) (F : Fm) (tg iter : Expr) (E : EnvB) (Θ : EnvB → List PD → Prop) : Prop := ∀ (pins : List (Addr × Obj)) (s : Shared) (w : Addr → Option Nat) (σ : L2.St) (H G : Hp), Inv X pins σ H s → In X.K F w σ H G E →
  wpAny (model X.prog X.w) X.A (eval iter X.env) (fun v s1 => wpAny (model X.prog X.w) X.A (pyIter v) (PIE X pins σ tg (KI X.K F σ G Θ)) X.xe s1) X.xe s
def tI (X : Cx) (F : Fm) (tg iter : Expr) : TI := fun σ H R => ∃ E Θ w G, In X.K F w σ H G E ∧ XI X F tg iter E Θ ∧ ∀ J H', KI X.K F σ G Θ J H' → R J H'
section
variable {X : Cx} {F : Fm} {E : EnvB} {a b c e tg iter : Expr} {Θ : EnvB → List PD → Prop} {Φ : Post} {pos : Pos} {body : List Stmt} {x : Str}
theorem pie_imp {pins : List (Addr × Obj)} {σ : L2.St} {R R' : It → Hp → Prop} {v : Value} {s : Shared} (q : ∀ J H, R J H → R' J H) (h : PIE X pins σ tg R v s) : PIE X pins σ tg R' v s := by
  obtain ⟨it, fp, tn, J, H', a, b, c, d, e, f⟩ := h
  exact ⟨it, fp, tn, J, H', a, b, c, d, e, q _ _ f⟩
theorem pi_tI : PI X tg iter (tI X F tg iter) := ⟨fun pins s σ H R I h => by
  obtain ⟨E, Θ, w, G, i, h, q⟩ := h
  exact thn (h pins s w σ H G I i) fun v s1 h1 => thn h1 fun u s2 h2 => pie_imp q h2⟩
theorem xi_of {wi : TI} (h : PI X tg iter wi) (q : ∀ w σ H G, In X.K F w σ H G E → wi σ H (KI X.K F σ G Θ)) : XI X F tg iter E Θ := fun pins s w σ H G I i => h.run pins s σ H _ I (q w σ H G i)
theorem tI_go {w : Addr → Option Nat} {σ : L2.St} {H G : Hp} {R : It → Hp → Prop} (I : In X.K F w σ H G E) (h : XI X F tg iter E Θ) (q : ∀ J H' w' G' E' ds, In X.K F w' σ H' G' E' → Same G G' → Wk X.K J G' ds → Θ E' ds → R J H') : tI X F tg iter σ H R :=
  ⟨E, Θ, w, G, I, h, fun J H' ⟨w', G', E', ds, a, b, c, d⟩ => q J H' w' G' E' ds a b c d⟩

/-! for -/
theorem xs_for (h : XI X F tg iter E fun E1 ds => ∃ Iv : Nat → EnvB → Prop, Iv 0 E1 ∧ (∀ i d E2, ds[i]? = some d → Iv i E2 → XG X F tg (.sh d) E2 fun E3 => XSs X F body E3 { nx := Iv (i + 1), rt := Φ.rt, bk := Φ.nx, ct := Iv (i + 1) }) ∧ ∀ E2, Iv ds.length E2 → Φ.nx E2)
    (hp : PassesOwn (model X.prog X.w) X.A X.env X.xe := by exact PassesOwn.never) (hc : X.calm = true := by rfl) (hs : ∀ x, foldedSetIterable iter X.env x = pure x := by intro _; rfl) : XS X F (.For tg iter body [] pos) E Φ :=
  xs_of (ps_for hp hc pi_tI pg_tG pss_tSs hs) fun w σ H G I => tI_go I h fun J H1 w1 G1 E1 ds I1 s1 wk ⟨Iv, h0, hst, hd⟩ => by
    refine ⟨fun i m σ' H' => m = ds.length - i ∧ i ≤ ds.length ∧ ∃ w' G' E', In X.K F w' σ' H' G' E' ∧ Same G1 G' ∧ Iv i E', ⟨ds.length, rfl, Nat.zero_le _, w1, G1, E1, I1, Same.refl G1, h0⟩, ?_⟩
    rintro i m σ' H' ⟨rfl, hi, w', G', E', I', s', h'⟩
    by_cases hlt : i < ds.length
    · refine .inr ⟨wk.go F w' σ' H' G' E' i hlt I' s', fun σ2 H2 => i + 1 ≤ ds.length ∧ ∃ w2 G2 E2, In X.K F w2 σ2 H2 G2 E2 ∧ Same G1 G2 ∧ Iv (i + 1) E2, fun σ2 H2 ⟨hl, q⟩ => ⟨ds.length - (i + 1), by omega, rfl, hl, q⟩, fun x H2 y => ?_⟩
      have hd' : ds[i]? = some ds[i] := List.getElem?_eq_getElem hlt
      obtain ⟨G2, I2, s2, _, _, rp⟩ := wk.yld F w' σ' H' G' E' i _ x H2 hd' I' s' y
      refine ⟨E', .sh ds[i], _, w', G2, I2, rp, hst i _ E' hd' h', fun σ3 H3 ⟨w3, G3, E3, I3, s3, q⟩ => ?_⟩
      have nxt : ∀ σ4 H4, KG X.K F G3 (Iv (i + 1)) σ4 H4 → i + 1 ≤ ds.length ∧ ∃ w2 G2 E2, In X.K F w2 σ4 H4 G2 E2 ∧ Same G1 G2 ∧ Iv (i + 1) E2 := fun σ4 H4 ⟨w4, G4, E4, I4, s4, q4⟩ => ⟨hlt, w4, G4, E4, I4, ((s'.trans s2).trans s3).trans s4, q4⟩
      have st : Same G G3 := ((s1.trans s').trans s2).trans s3
      exact tSs_go I3 q ⟨nxt, (DE.tr (Φ := Φ) st).2.1, (DE.tr (Φ := Φ) st).1, nxt⟩
    · have e : i = ds.length := by omega
      subst e
      exact .inl ⟨wk.stop F w' σ' H' G' E' I' s', w', G', E', I', s1.trans s', hd E' h'⟩

/-! ### kinds of walks -/
theorem in_same {K : PySem.W.Frag} {F : Fm} {w : Addr → Option Nat} {σ : L2.St} {H G : Hp} {E : EnvB} (I : In K F w σ H G E) {x : V} {d : PD} (r : Rp K G x d) : ∃ G', In K F w σ H G' E ∧ Same G G' ∧ Same H H ∧ (∀ b, H b ≠ none → G' b = G b) ∧ Rp K G' x d := ⟨G, I, Same.refl G, Same.refl H, fun _ _ => rfl, r⟩
theorem wk_list {K : PySem.W.Frag} {G1 : Hp} {l : Addr} {xs : List V} {ds : List PD} (h : G1 l = some (.lst xs)) (r : Rps K G1 xs ds) : Wk K (Itl K l) G1 ds where
  go := fun F w σ H G E i hi I s => ⟨xs, xs[i]'(by rw [r.length]; exact hi), .inl (.inl (I.sub _ _ (s _ _ h))), List.getElem?_eq_getElem _⟩
  stop := fun F w σ H G E I s => ⟨xs, .inl (.inl (I.sub _ _ (s _ _ h))), by rw [r.length] <;> exact Nat.le_refl _⟩
  yld := fun F w σ H G E i d x H' hd I s y => by
    obtain ⟨rfl, f⟩ := y
    have e := f xs (.inl (.inl (I.sub _ _ (s _ _ h))))
    obtain ⟨v, e2, rv⟩ := r.get hd
    rw [e] at e2
    cases e2
    exact in_same I (rv.mono s)
theorem wk_tup {K : PySem.W.Frag} {G1 : Hp} {l : Addr} {xs : List V} {ds : List PD} (h : SqT K G1 l xs) (r : Rps K G1 xs ds) : Wk K (Itt K l) G1 ds where
  go := fun F w σ H G E i hi I s => ⟨xs, xs[i]'(by rw [r.length]; exact hi), sqT_mono I.sub (sqT_mono s h), List.getElem?_eq_getElem _⟩
  stop := fun F w σ H G E I s => ⟨xs, sqT_mono I.sub (sqT_mono s h), by rw [r.length] <;> exact Nat.le_refl _⟩
  yld := fun F w σ H G E i d x H' hd I s y => by
    obtain ⟨rfl, f⟩ := y
    have e := f xs (sqT_mono I.sub (sqT_mono s h))
    obtain ⟨v, e2, rv⟩ := r.get hd
    rw [e] at e2
    cases e2
    exact in_same I (rv.mono s)
def rngD (lo : Int) (n : Nat) : List PD := (List.range n).map fun i => .int (lo + (i : Nat))
theorem rngD_len (lo : Int) (n : Nat) : (rngD lo n).length = n := by simp [rngD]
theorem rngD_get {lo : Int} {n i : Nat} {d : PD} (h : (rngD lo n)[i]? = some d) : i < n ∧ d = .int (lo + (i : Nat)) := by
  unfold rngD at h
  rw [List.getElem?_map] at h
  by_cases hi : i < n
  · rw [List.getElem?_range hi] at h
    exact ⟨hi, (Option.some.inj h).symm⟩
  · rw [List.getElem?_eq_none (by simpa using Nat.le_of_not_lt hi)] at h
    cases h
theorem wk_rng {K : PySem.W.Frag} {G1 : Hp} {lo : Int} {n : Nat} : Wk K (Itr lo n) G1 (rngD lo n) where
  go := fun F w σ H G E i hi I s => by rw [rngD_len] at hi; exact hi
  stop := fun F w σ H G E I s => by rw [rngD_len]; exact Nat.le_refl _
  yld := fun F w σ H G E i d x H' hd I s y => by
    obtain ⟨rfl, rfl⟩ := y
    obtain ⟨_, rfl⟩ := rngD_get hd
    exact in_same I (.int _)
def sgnD (z : Str) : List PD := z.cps.toList.map fun c => .str ⟨#[c]⟩
theorem wk_str {K : PySem.W.Frag} {G1 : Hp} {z : Str} : Wk K (Its z) G1 (sgnD z) where
  go := fun F w σ H G E i hi I s => by
    have hi : i < z.cps.size := by simpa [sgnD] using hi
    exact hi
  stop := fun F w σ H G E I s => by
    have : (sgnD z).length = z.cps.size := by simp [sgnD]
    rw [this]
    exact Nat.le_refl _
  yld := fun F w σ H G E i d x H' hd I s y => by
    obtain ⟨rfl, c, hc, rfl⟩ := y
    have e : (sgnD z)[i]? = some (.str ⟨#[c]⟩) := by
      unfold sgnD
      rw [List.getElem?_map, Array.getElem?_toList, hc]
      rfl
    rw [hd] at e
    cases e
    exact in_same I (.str _)

/-- a list, a tuple, a text -/
def iSeq (K : PySem.W.Frag) (tl : TE) : TI := fun σ H R => tl σ H fun x H1 => (∃ l, x = .ref l ∧ (∃ xs, SqL K H1 l xs) ∧ R (Itl K l) H1) ∨ (∃ l, x = .ref l ∧ (∃ xs, SqT K H1 l xs) ∧ R (Itt K l) H1) ∨ ∃ z, x = .str z ∧ R (Its z) H1
theorem pi_seq {tl : TE} (hl : PE X e tl) : PI X tg e (iSeq X.K tl) := by
  refine ⟨fun pins s σ H R I h => thn (hl.run pins s σ H _ I h) fun v s1 ⟨x, H1, I1, r1, q1⟩ => ?_⟩
  have fr : ∀ b, b ∈ [s1.heap.objs.size] → FpOk X pins H1 b := fun b hb => by
    obtain rfl : b = s1.heap.objs.size := by simpa using hb
    exact I1.fpOk (Nat.le_refl _) (I1.hok.fresh (Nat.le_refl _))
  rcases q1 with ⟨l, rfl, ⟨xs, hq⟩, q⟩ | ⟨l, rfl, ⟨xs, hq⟩, q⟩ | ⟨z, rfl, q⟩
  · cases r1
    obtain ⟨its, rv, p, hz⟩ := I1.list hq
    exact wpAny_pyIter_list p.isList ⟨_, [s1.heap.objs.size], _, _, H1, rfl, I1.kept (t' := s1.toks) (fun b o e => Heap.get?_push_of_some _ e), turn_list l _, ⟨_, Heap.get?_push_size _ rfl, rfl, rfl⟩, fr, q⟩
  · cases r1
    obtain ⟨its, rv, p, hz⟩ := I1.tuple hq
    exact wpAny_pyIter_tuple (show s1.heap.IsTuple l its.toArray from p) ⟨_, [s1.heap.objs.size], _, _, H1, rfl, I1.kept (t' := s1.toks) (fun b o e => Heap.get?_push_of_some _ e), turn_tuple l _, ⟨_, Heap.get?_push_size _ rfl, rfl, rfl⟩, fr, q⟩
  · obtain ⟨t, rfl⟩ := r1
    cases ha : z.cps.all (· < 128)
    · exact wpAny_pyIter_wide ha (pi_one (tk := s1.toks) I1 _ (turn_str _ z t "str_iterator" (.inr rfl)) ⟨_, Heap.get?_push_size _ rfl, rfl, rfl⟩ q)
    · exact wpAny_pyIter_ascii ha (pi_one (tk := s1.toks) I1 _ (turn_str _ z t "str_ascii_iterator" (.inl rfl)) ⟨_, Heap.get?_push_size _ rfl, rfl, rfl⟩ q)
/-- what data is walked -/
inductive ItD (E : EnvB) : Rs → EnvB → List PD → Prop
  | lst {ds : List PD} : ItD E (.sh (.list ds)) E ds
  | tup {ds : List PD} : ItD E (.sh (.tuple ds)) E ds
  | str {z : Str} : ItD E (.sh (.str z)) E (sgnD z)
  | nw {ds : List PD} : ItD E (.nw (.lst ds)) E ds
  | ow {i : Nat} {ds : List PD} {E' : EnvB} : E[i]? = some (.ow (.lst ds)) → SetE E i (.sh (.list ds)) E' → ItD E (.br i) E' ds
theorem ItD.go {w : Addr → Option Nat} {σ : L2.St} {H G : Hp} {v : V} {r : Rs} {E' : EnvB} {ds : List PD} (I : In X.K F w σ H G E) (h : ItD E r E' ds) (rv : RV X.K F w σ H G v r) {R : It → Hp → Prop} (q : ∀ w' G' J, In X.K F w' σ H G' E' → Same G G' → Wk X.K J G' ds → R J H) :
    (∃ l, v = .ref l ∧ (∃ xs, SqL X.K H l xs) ∧ R (Itl X.K l) H) ∨ (∃ l, v = .ref l ∧ (∃ xs, SqT X.K H l xs) ∧ R (Itt X.K l) H) ∨ ∃ z, v = .str z ∧ R (Its z) H := by
  cases h with
  | lst =>
    have rv : Rp X.K G v (.list ds) := rv
    cases rv with
    | lst h1 h2 => exact .inl ⟨_, rfl, ⟨_, .inl (.inl (I.sub _ _ h1))⟩, q w G _ I (Same.refl G) (wk_list h1 h2)⟩
  | tup =>
    have rv : Rp X.K G v (.tuple ds) := rv
    cases rv with
    | tup h1 h2 => exact .inr (.inl ⟨_, rfl, ⟨_, sqT_mono I.sub h1⟩, q w G _ I (Same.refl G) (wk_tup h1 h2)⟩)
  | str =>
    obtain rfl := rvS rv
    exact .inr (.inr ⟨_, rfl, q w G _ I (Same.refl G) wk_str⟩)
  | nw =>
    obtain ⟨G', I', s', rv'⟩ := I.fz rv
    have rv' : Rp X.K G' v (.list ds) := rv'
    cases rv' with
    | lst h1 h2 => exact .inl ⟨_, rfl, ⟨_, .inl (.inl (I'.sub _ _ h1))⟩, q w G' _ I' s' (wk_list h1 h2)⟩
  | ow hE hs =>
    obtain ⟨w1, G1, l, I1, s1, e1, hk⟩ := I.fzSlot hE
    rw [← hs.eq] at I1
    have rv : σ[_]? = some (some v) := rv
    rw [rv] at e1
    cases e1
    cases hk with
    | lst h1 h2 => exact .inl ⟨_, rfl, ⟨_, .inl (.inl (I1.sub _ _ h1))⟩, q w1 G1 _ I1 s1 (wk_list h1 h2)⟩
theorem xi_val (h : XE X F e E fun E1 r => ∃ E2 ds, ItD E1 r E2 ds ∧ Θ E2 ds) : XI X F tg e E Θ :=
  xi_of (pi_seq pe_tE) fun w σ H G I => tE_go I h fun v w1 H1 G1 E1 r I1 s1 rv ⟨E2, ds, it, q⟩ => it.go I1 rv fun w2 G2 J I2 s2 wk => ⟨w2, G2, E2, ds, I2, s1.trans s2, wk, q⟩
theorem xi_range1 {p : Pos} (hm : X.mg "range" = none) (h : XE X F a E fun E1 r => ∃ n : Int, r = .sh (.int n) ∧ (-1000000 ≤ n ∧ n ≤ 1000000) ∧ Θ E1 (rngD 0 n.toNat)) (hg : Gl X "range" := by rfl) (hs : starEach [a] X.env = [(false, eval a X.env)] := by rfl) : XI X F tg (.Call (.Name "range" p) [a] [] pos) E Θ := by
  refine xi_of (pi_range1 hg hm (pa_cons (pe_tE (F := F)) pa_nil hs) hs) fun w σ H G I => tE_go I h fun v w1 H1 G1 E1 r I1 s1 rv ⟨n, e, hn, q⟩ => ?_
  subst e
  obtain rfl := rvI rv
  exact ⟨n, rfl, by omega, by omega, w1, G1, E1, _, I1, s1, wk_rng, q⟩
theorem xi_range2 {p : Pos} (hm : X.mg "range" = none) (h : XE X F a E fun E1 r => ∃ m : Int, r = .sh (.int m) ∧ (-1000000 ≤ m ∧ m ≤ 1000000) ∧ XE X F b E1 fun E2 r2 => ∃ n : Int, r2 = .sh (.int n) ∧ (-1000000 ≤ n ∧ n ≤ 1000000) ∧ Θ E2 (rngD m (n - m).toNat)) (hg : Gl X "range" := by rfl)
    (hs : starEach [a, b] X.env = [(false, eval a X.env), (false, eval b X.env)] := by rfl) (hs2 : starEach [b] X.env = [(false, eval b X.env)] := by rfl) : XI X F tg (.Call (.Name "range" p) [a, b] [] pos) E Θ := by
  refine xi_of (pi_range2 hg hm (pa_cons (pe_tE (F := F)) (pa_cons (pe_tE (F := F)) pa_nil hs2) (by rw [hs, hs2])) hs hs2) fun w σ H G I => tE_go I h fun v w1 H1 G1 E1 r I1 s1 rv ⟨m, e, hm, q⟩ => ?_
  subst e
  obtain rfl := rvI rv
  refine tE_go I1 q fun v w2 H2 G2 E2 r I2 s2 rv ⟨n, e, hn, q⟩ => ?_
  subst e
  obtain rfl := rvI rv
  exact ⟨m, n, rfl, ⟨by omega, by omega, by omega, by omega⟩, w2, G2, E2, _, I2, s1.trans s2, wk_rng, q⟩

theorem In.setSh {K : PySem.W.Frag} {w : Addr → Option Nat} {σ : L2.St} {H G : Hp} (I : In K F w σ H G E) {i : Nat} {v : V} {d : PD} (r : Rp K G v d) : In K F w (σ.set i (some v)) H G (E.set i (.sh d)) := I.set (b := .sh d) ⟨v, rfl, r⟩
/-! ### targets -/
theorem xg_name {i : Nat} {d : PD} {Ψ : EnvB → Prop} (h : ∃ E2, SetE E i (.sh d) E2 ∧ Ψ E2) (hN : X.N.Nodup := by assumption) (hi : X.N[i]? = some x := by rfl) (hx : Loc X.env.scope x := by first | exact Or.inl rfl | exact Or.inr rfl)
    (hf : X.fn x = true ∨ X.env.scope.names.lookup x = some .local := by first | exact .inl rfl | exact .inr rfl | assumption) : XG X F (.Name x pos) (.sh d) E Ψ :=
  xg_of (pg_name hN hi hx hf) fun w σ H G v I r => by
    obtain ⟨E2, hs, q⟩ := h
    refine ⟨w, G, E2, ?_, Same.refl G, q⟩
    rw [hs.eq]
    exact I.set ⟨v, rfl, r⟩
theorem xg_pair {i j : Nat} {d1 d2 : PD} {y : Str} {p1 p2 : Pos} {kk : Nat} {Ψ : EnvB → Prop} (h : ∃ E2 E3, SetE E i (.sh d1) E2 ∧ SetE E2 j (.sh d2) E3 ∧ Ψ E3) (hN : X.N.Nodup := by assumption) (hi : X.N[i]? = some x := by rfl) (hx : Loc X.env.scope x := by first | exact Or.inl rfl | exact Or.inr rfl) (hj : X.N[j]? = some y := by rfl) (hy : Loc X.env.scope y := by first | exact Or.inl rfl | exact Or.inr rfl)
    (hf : X.fn x = true ∨ X.env.scope.names.lookup x = some .local := by first | exact .inl rfl | exact .inr rfl | assumption) (hf2 : X.fn y = true ∨ X.env.scope.names.lookup y = some .local := by first | exact .inl rfl | exact .inr rfl | assumption) (hc : X.calm = true := by rfl)
    (q1 : (assignEach [.Name x p1, .Name y p2] X.env).map (·.2) = assign (.Name x p1) X.env :: (assignEach [.Name y p2] X.env).map (·.2) := by rfl) (q2 : (assignEach [.Name y p2] X.env).map (·.2) = assign (.Name y p2) X.env :: (assignEach [] X.env).map (·.2) := by rfl)
    (hn : (assignEach [.Name x p1, .Name y p2] X.env).length = 2 := by rfl) (hst : (assignEach [.Name x p1, .Name y p2] X.env).findIdx? (·.1) = none := by rfl) : XG X F (.Tuple [.Name x p1, .Name y p2] kk pos) (.sh (.tuple [d1, d2])) E Ψ :=
  xg_of (pg_tup hc (pgs_cons (pg_name hN hi hx hf) (pgs_cons (pg_name hN hj hy hf2) pgs_nil q2) q1) hn hst) fun w σ H G v I r => by
    obtain ⟨E2, E3, h1, h2, q⟩ := h
    have r : Rp X.K G v (.tuple [d1, d2]) := r
    cases r with
    | tup hq rr =>
      cases rr with
      | cons r1 rr =>
        cases rr with
        | cons r2 rr =>
          cases rr
          refine ⟨_, _, rfl, sqT_mono I.sub hq, rfl, _, _, rfl, _, _, rfl, rfl, w, G, E3, ?_, Same.refl G, q⟩
          rw [h2.eq, h1.eq]
          exact (I.setSh r1).setSh r2

/-! ### comprehensions -/
structure GOk (K : PySem.W.Frag) (g : TG) (js : List Nat) (d : PD) (E E' : EnvB) : Prop where
  go : ∀ (F : Fm) (w : Addr → Option Nat) (σ : L2.St) (H G : Hp) (x : V) (Q : L2.St → Hp → Prop), In K F w σ H G E → Rp K G x d → (∀ σ' : L2.St, σ'.length = σ.length → (∀ i, i ∉ js → σ'[i]? = σ[i]?) → In K F w σ' H G E' → Q σ' H) → g x σ H Q
theorem set_off {σ : L2.St} {j : Nat} {v : Option V} : ∀ i, i ∉ [j] → (σ.set j v)[i]? = σ[i]? := fun i hi => by
  have : j ≠ i := fun e => hi (by simp [e])
  exact List.getElem?_set_ne this
theorem gok_name {K : PySem.W.Frag} {j : Nat} {d : PD} {E E' : EnvB} (h : SetE E j (.sh d) E') : GOk K (gName j) [j] d E E' where
  go := fun F w σ H G x Q I r q => q _ List.length_set set_off (by rw [h.eq]; exact I.set ⟨x, rfl, r⟩)
theorem gok_pair {K : PySem.W.Frag} {i j : Nat} {d1 d2 : PD} {E E1 E' : EnvB} (h1 : SetE E i (.sh d1) E1) (h2 : SetE E1 j (.sh d2) E') : GOk K (gTup K 2 (gCons (gName i) (gCons (gName j) gNil))) [i, j] (.tuple [d1, d2]) E E' where
  go := fun F w σ H G x Q I r q => by
    cases r with
    | tup hq rr =>
      cases rr with
      | cons r1 rr =>
        cases rr with
        | cons r2 rr =>
          cases rr
          refine ⟨_, _, rfl, sqT_mono I.sub hq, rfl, _, _, rfl, _, _, rfl, rfl, q _ (by rw [List.length_set, List.length_set]) (fun k hk => ?_) ?_⟩
          · have n1 : i ≠ k := fun e => hk (by simp [e])
            have n2 : j ≠ k := fun e => hk (by simp [e])
            rw [List.getElem?_set_ne n2, List.getElem?_set_ne n1]
          · rw [h2.eq, h1.eq]
            exact (I.setSh r1).setSh r2
/-- the slots vs forgotten -/
inductive WpE : List Nat → EnvB → EnvB → Prop
  | nil {E : EnvB} : WpE [] E E
  | cons {v : Nat} {vs : List Nat} {E E1 E2 : EnvB} : WpE vs E E1 → SetE E1 v .un E2 → WpE (v :: vs) E E2
theorem WpE.len {vs : List Nat} {E E' : EnvB} (h : WpE vs E E') : E'.length = E.length := by
  induction h with
  | nil => rfl
  | cons _ hs ih => rw [hs.eq, List.length_set, ih]
theorem WpE.un {vs : List Nat} {E E' : EnvB} (h : WpE vs E E') : ∀ v ∈ vs, ∀ b, E'[v]? = some b → b = Bd.un := by
  induction h with
  | nil => intro v hv; cases hv
  | @cons v vs E E1 E2 _ hs ih =>
    intro u hu b e
    rw [hs.eq] at e
    by_cases z : v = u
    · subst z
      by_cases hl : v < E1.length
      · rw [List.getElem?_set_self hl] at e
        exact (Option.some.inj e).symm
      · rw [List.getElem?_eq_none (by rw [List.length_set]; omega)] at e
        cases e
    · rw [List.getElem?_set_ne z] at e
      rcases List.mem_cons.mp hu with rfl | hu
      · exact absurd rfl z
      · exact ih u hu b e
theorem WpE.off {vs : List Nat} {E E' : EnvB} (h : WpE vs E E') : ∀ i, i ∉ vs → E'[i]? = E[i]? := by
  induction h with
  | nil => intro i _; rfl
  | cons _ hs ih =>
    intro i hi
    rw [hs.eq, List.getElem?_set_ne (fun e => hi (by simp [e]))]
    exact ih i fun z => hi (List.mem_cons_of_mem _ z)
theorem wipe_off {σ : L2.St} : ∀ (vs : List Nat) (i : Nat), i ∉ vs → (wipe σ vs)[i]? = σ[i]?
  | [], _, _ => rfl
  | v :: vs, i, h => by
    unfold wipe
    rw [List.getElem?_set_ne (fun e => h (by simp [e]))]
    exact wipe_off vs i fun z => h (List.mem_cons_of_mem _ z)
theorem wipe_on {σ : L2.St} : ∀ (vs : List Nat) (i : Nat), i ∈ vs → i < σ.length → (wipe σ vs)[i]? = some none
  | v :: vs, i, h, hl => by
    unfold wipe
    by_cases e : v = i
    · subst e
      exact List.getElem?_set_self (by rw [wipe_length]; exact hl)
    · rw [List.getElem?_set_ne e]
      rcases List.mem_cons.mp h with rfl | h
      · exact absurd rfl e
      · exact wipe_on vs i h hl
theorem wipe_eq {σ σ' : L2.St} {vs : List Nat} (hl : σ'.length = σ.length) (h : ∀ i, i ∉ vs → σ'[i]? = σ[i]?) : wipe σ' vs = wipe σ vs := by
  refine List.ext_getElem? fun i => ?_
  by_cases hi : i ∈ vs
  · by_cases hb : i < σ.length
    · rw [wipe_on vs i hi hb, wipe_on vs i hi (by rw [hl]; exact hb)]
    · rw [List.getElem?_eq_none (by rw [wipe_length, hl]; omega), List.getElem?_eq_none (by rw [wipe_length]; omega)]
  · rw [wipe_off vs i hi, wipe_off vs i hi, h i hi]
section
variable {K : PySem.W.Frag} {F : Fm} {w : Addr → Option Nat} {σ : L2.St} {H G : Hp} {E E' : EnvB}
theorem In.wp (I : In K F w σ H G E) {vs : List Nat} (h : WpE vs E E') : In K F w (wipe σ vs) H G E' :=
  I.wiped (wipe_length σ vs) (Nat.le_of_eq h.len) fun i b q => by
    by_cases hi : i ∈ vs
    · exact .inl (h.un i hi b q)
    · exact .inr ⟨by rw [← h.off i hi]; exact q, wipe_off vs i hi⟩
theorem In.unwp {vs : List Nat} (I : In K F w (wipe σ vs) H G E) (h : ∀ v ∈ vs, ∀ b, E[v]? = some b → b = Bd.un) : In K F w σ H G E :=
  I.wiped (wipe_length σ vs).symm (Nat.le_refl _) fun i b q => by
    by_cases hi : i ∈ vs
    · exact .inl (h i hi b q)
    · exact .inr ⟨q, (wipe_off vs i hi).symm⟩
/-- a list that is being made beside -/
def Fm.sub (F : Fm) (D : Addr) (xs : List V) : Fm := ⟨upd F.H0 D (.lst []), fun b => if b = D then none else F.G0 b, upd F.M D (.lst xs), F.io⟩
theorem In.toSub (I : In K F w σ H G E) {D : Addr} {xs : List V} (hD : H D = some (.lst xs)) (gD : G D = none) (hD0 : F.H0 D = none) (wD : w D = none) : In K (F.sub D xs) w σ H G E := by
  refine ⟨I.sub, fun b q => ?_, fun b o q => ?_, fun b q => ?_, fun b i q => ?_, I.len, fun i b q => ?_⟩
  · by_cases z : b = D
    · subst z
      show G b = if b = b then none else F.G0 b
      rw [if_pos rfl]; exact gD
    · show G b = if b = D then none else F.G0 b
      rw [if_neg z]
      have q : upd F.H0 D (.lst []) b ≠ none := q
      rw [upd_ne z] at q
      exact I.old b q
  · have q : upd F.M D (.lst xs) b = some o := q
    by_cases z : b = D
    · subst z; rw [upd_same] at q; rw [← q]; exact hD
    · rw [upd_ne z] at q; exact I.keep b o q
  · by_cases z : b = D
    · subst z; rw [hD]; exact Option.some_ne_none _
    · have q : upd F.H0 D (.lst []) b ≠ none := q
      rw [upd_ne z] at q
      exact I.has b q
  · have z : b ≠ D := fun z => by subst z; rw [wD] at q; cases q
    refine ⟨(I.own b i q).1, ?_, (I.own b i q).2.2⟩
    show upd F.M D (.lst xs) b = none
    rw [upd_ne z]; exact (I.own b i q).2.1
  · have sl := I.slot i b q
    match b, sl with
    | .un, _ => trivial
    | .sh _, h => exact h
    | .ow _, ⟨l, h, hw, c, n⟩ =>
      refine ⟨l, h, hw, c, ?_⟩
      show upd F.H0 D (.lst []) l = none
      rw [upd_ne fun z => by subst z; rw [wD] at hw; cases hw]; exact n
    | .ib _ _, ⟨l, h, hw, c, n⟩ => exact ⟨l, h, hw, c, n⟩
theorem In.ofSub {D : Addr} {xs : List V} (I : In K (F.sub D xs) w σ H G E) (hD0 : F.H0 D = none) (hM0 : F.M D = none) : In K F w σ H G E ∧ H D = some (.lst xs) ∧ G D = none ∧ w D = none := by
  have hD : H D = some (.lst xs) := I.keep D _ (by show upd F.M D (.lst xs) D = _; exact upd_same)
  have gD : G D = none := by
    have := I.old D (by show upd F.H0 D (.lst []) D ≠ none; rw [upd_same]; exact Option.some_ne_none _)
    rw [this]
    show (if D = D then none else F.G0 D) = none
    rw [if_pos rfl]
  have wD : w D = none := by
    cases q : w D with
    | none => rfl
    | some i =>
      have := (I.own D i q).2.1
      have : upd F.M D (.lst xs) D = none := this
      rw [upd_same] at this
      cases this
  refine ⟨⟨I.sub, fun b q => ?_, fun b o q => ?_, fun b q => ?_, fun b i q => ?_, I.len, fun i b q => ?_⟩, hD, gD, wD⟩
  · have z : b ≠ D := fun z => by subst z; exact q hD0
    have := I.old b (by show upd F.H0 D (.lst []) b ≠ none; rw [upd_ne z]; exact q)
    rw [this]
    show (if b = D then none else F.G0 b) = F.G0 b
    rw [if_neg z]
  · have z : b ≠ D := fun z => by subst z; rw [hM0] at q; cases q
    exact I.keep b o (by show upd F.M D (.lst xs) b = _; rw [upd_ne z]; exact q)
  · have z : b ≠ D := fun z => by subst z; exact q hD0
    exact I.has b (by show upd F.H0 D (.lst []) b ≠ none; rw [upd_ne z]; exact q)
  · have z : b ≠ D := fun z => by subst z; rw [wD] at q; cases q
    refine ⟨(I.own b i q).1, ?_, (I.own b i q).2.2⟩
    have := (I.own b i q).2.1
    have : upd F.M D (.lst xs) b = none := this
    rw [upd_ne z] at this; exact this
  · have sl := I.slot i b q
    match b, sl with
    | .un, _ => trivial
    | .sh _, h => exact h
    | .ow _, ⟨l, h, hw, c, n⟩ =>
      refine ⟨l, h, hw, c, ?_⟩
      have n : upd F.H0 D (.lst []) l = none := n
      rw [upd_ne fun z => by subst z; rw [wD] at hw; cases hw] at n; exact n
    | .ib _ _, ⟨l, h, hw, c, n⟩ => exact ⟨l, h, hw, c, n⟩
/-- a free object changed -/
theorem In.free (I : In K F w σ H G E) {D : Addr} {o : HO} (gD : G D = none) (hM0 : F.M D = none) (wD : w D = none) : In K F w σ (upd H D o) G E := by
  refine ⟨fun b x q => ?_, I.old, fun b x q => ?_, fun b q z => ?_, fun b i q => ?_, I.len, fun i b q => (I.slot i b q).other fun l hl => ⟨upd_ne ?_, hl⟩⟩
  · rw [upd_ne fun z => by subst z; rw [gD] at q; cases q]; exact I.sub b x q
  · rw [upd_ne fun z => by subst z; rw [hM0] at q; cases q]; exact I.keep b x q
  · by_cases y : b = D
    · subst y; rw [upd_same] at z; cases z
    · rw [upd_ne y] at z; exact I.has b q z
  · have y : b ≠ D := fun z => by subst z; rw [wD] at q; cases q
    rw [upd_ne y]; exact I.own b i q
  · intro z; subst z; rw [wD] at hl; cases hl
end
end
end Bk

set_option maxHeartbeats 4000000
namespace Bk
open PySem PySem.Spec PyProof.Rows L2

def XTs (X : Cx) (F : Fm) (ifs : List Expr) (E : EnvB) (Ψ : EnvB → Bool → Prop) : Prop := ∀ (pins : List (Addr × Obj)) (s : Shared) (w : Addr → Option Nat) (σ : L2.St) (H G : Hp), Inv X pins σ H s → In X.K F w σ H G E →
  wpAny (model X.prog X.w) X.A (forIn ifs true fun c r => if r = true then do let ok ← isTrue c X.env (eval c X.env); pure (ForInStep.yield ok) else pure (ForInStep.yield r)) (TP X pins σ (KT X.K F σ G Ψ)) X.xe s
def tTs (X : Cx) (ifs : List Expr) : TT := fun σ H Q => ∃ F E Ψ w G, In X.K F w σ H G E ∧ XTs X F ifs E Ψ ∧ ∀ v H', KT X.K F σ G Ψ v H' → Q v H'
def tEF (X : Cx) (e : Expr) : TE := fun σ H Q => ∃ F, tE X F e σ H Q
section
variable {X : Cx} {F : Fm} {E : EnvB} {a b c e tg iter elt : Expr} {ifs : List Expr} {pos : Pos} {x : Str}
theorem pts_tTs : PTs X ifs (tTs X ifs) := ⟨fun pins s σ H Q I h => by
  obtain ⟨F, E, Ψ, w, G, i, h, q⟩ := h
  exact thn (h pins s w σ H G I i) fun u s' ⟨H', I', k⟩ => ⟨H', I', q u H' k⟩⟩
theorem pe_tEF : PE X e (tEF X e) := ⟨fun pins s σ H Q I h => by
  obtain ⟨F, h⟩ := h
  exact pe_tE.run pins s σ H Q I h⟩
theorem xts_nil {Ψ : EnvB → Bool → Prop} (q : Ψ E true) : XTs X F [] E Ψ := fun pins s w σ H G I i => pts_nil.run pins s σ H _ I ⟨w, G, E, i, Same.refl G, q⟩
theorem xts_one {Ψ : EnvB → Bool → Prop} (h : XT X F c E Ψ) : XTs X F [c] E Ψ := fun pins s w σ H G I i => (pts_one (pt_tT (F := F))).run pins s σ H _ I ⟨E, Ψ, w, G, i, h, fun v H' q => q⟩

/-- the reading of a comprehension, from judgements over its block -/
theorem lc_go {g : TG} {tt : TT} {te : TE} {vs : List Nat} {ι : Type} {BX : ι → Cx} {js : List Nat} (hK : ∀ j, (BX j).K = X.K) (htt : tt = fun σ H Q => ∀ j, tTs (BX j) ifs σ H Q) (hte : te = fun σ H Q => ∀ j, tEF (BX j) elt σ H Q) (hjs : ∀ j ∈ js, j ∈ vs) {w : Addr → Option Nat} {σ : L2.St} {H G : Hp} {Q : VK} {Φ : EnvB → Rs → Prop} (I : In X.K F w σ H G E)
    (h : XI X F tg iter E fun E1 ds => ds.length ≤ 100000 ∧ ∃ Iv : Nat → EnvB → List PD → Prop, (∃ E2, WpE vs E1 E2 ∧ Iv 0 E2 []) ∧
      (∀ i d E2 acc F', ds[i]? = some d → Iv i E2 acc → ∃ E3, GOk X.K g js d E2 E3 ∧ ∀ j, XTs (BX j) F' ifs E3 fun E4 b => (b = true → ∀ j, XE (BX j) F' elt E4 fun E5 r => ∃ r' E6 y E7, Fz r r' ∧ Fzs E5 [r'] E6 [y] ∧ WpE vs E6 E7 ∧ Iv (i + 1) E7 (acc ++ [y])) ∧ (b = false → ∃ E7, WpE vs E4 E7 ∧ Iv (i + 1) E7 acc)) ∧
      ∀ E2 acc, Iv ds.length E2 acc → Φ E2 (.nw (.lst acc))) (q : ∀ v H', KE X.K F σ G Φ v H' → Q v H') : tLc (tI X F tg iter) g tt te vs σ H Q := by
  subst htt hte
  refine tI_go I h fun J H1 w1 G1 E1 ds I1 s1 wk ⟨hds, Iv, ⟨E2, wp, h0⟩, hst, hd⟩ D hD => ?_
  obtain ⟨I2, gD, hD0, hM0, wD⟩ := I1.alloc (o := .lst []) hD
  refine ⟨fun i m H' => m = ds.length - i ∧ i ≤ ds.length ∧ ∃ w' G' E' acc xs, In X.K F w' (wipe σ vs) H' G' E' ∧ Same G1 G' ∧ H' D = some (.lst xs) ∧ Rps X.K G' xs acc ∧ G' D = none ∧ w' D = none ∧ acc.length ≤ i ∧ (∀ v ∈ vs, ∀ b, E'[v]? = some b → b = Bd.un) ∧ Iv i E' acc,
    ⟨ds.length, rfl, Nat.zero_le _, w1, G1, E2, [], [], I2.wp wp, Same.refl G1, upd_same, .nil, gD, wD, Nat.le_refl _, wp.un, h0⟩, ?_⟩
  rintro i m H' ⟨rfl, hi, w', G', E', acc, xs, I', s', hx, rr, gD', wD', hacc, hun, hiv⟩
  by_cases hlt : i < ds.length
  · have hd' : ds[i]? = some ds[i] := List.getElem?_eq_getElem hlt
    refine .inr ⟨wk.go F w' _ H' G' E' i hlt I' s', fun H2 => i + 1 ≤ ds.length ∧ ∃ w' G' E' acc xs, In X.K F w' (wipe σ vs) H2 G' E' ∧ Same G1 G' ∧ H2 D = some (.lst xs) ∧ Rps X.K G' xs acc ∧ G' D = none ∧ w' D = none ∧ acc.length ≤ i + 1 ∧ (∀ v ∈ vs, ∀ b, E'[v]? = some b → b = Bd.un) ∧ Iv (i + 1) E' acc, fun H2 ⟨hl, q2⟩ => ⟨ds.length - (i + 1), by omega, rfl, hl, q2⟩, fun x H2 y => ?_⟩
    obtain ⟨G2, J2, s2, sH, keepG, rp⟩ := wk.yld F w' _ H' G' E' i _ x H2 hd' I' s' y
    have hx2 : H2 D = some (.lst xs) := sH _ _ hx
    have gD2 : G2 D = none := by rw [keepG D (by rw [hx]; exact Option.some_ne_none _)]; exact gD'
    have J2s := J2.toSub hx2 gD2 hD0 wD'
    obtain ⟨E3, gk, ht⟩ := hst i _ E' acc (F.sub D xs) hd' hiv
    refine gk.go (F.sub D xs) w' _ H2 G2 x _ J2s rp fun σ3 hl3 ho3 I3 => ?_
    have hw3 : wipe σ3 vs = wipe (wipe σ vs) vs := wipe_eq hl3 fun k hk => ho3 k fun z => hk (hjs k z)
    have hw : wipe (wipe σ vs) vs = wipe σ vs := wipe_eq (wipe_length σ vs) fun k hk => wipe_off vs k hk
    refine ⟨hw3.trans hw, fun j => ⟨F.sub D xs, E3, _, w', G2, by rw [hK j]; exact I3, ht j, fun b H4 ⟨w4, G4, E4, I4, s4, p1, p2⟩ => ?_⟩⟩
    rw [hK j] at I4
    cases b with
    | true =>
      refine iteT fun j2 => ⟨F.sub D xs, E4, _, w4, G4, by rw [hK j2]; exact I4, p1 rfl j2, fun v H5 ⟨w5, G5, E5, r, I5, s5, rv, r', E6, y, E7, f, fs, wp7, iv7⟩ => ?_⟩
      rw [hK j2] at I5 rv
      obtain ⟨G5', I5', s5', rv'⟩ := f.go I5 rv
      obtain ⟨w6, G6, I6, s6, rps⟩ := fs.go I5' (f.cons rv' .nil)
      obtain ⟨I7, hx7, gD7, wD7⟩ := I6.ofSub hD0 hM0
      have sG : Same G' G6 := ((((s2.trans s4).trans s5).trans s5').trans s6)
      have I8 := (I7.free (o := .lst (xs ++ [v])) gD7 hM0 wD7).wp wp7
      rw [hw3.trans hw] at I8
      have hlen : xs.length = acc.length := rr.length
      refine ⟨xs, hx7, by rw [hlen]; exact Nat.lt_of_lt_of_le (show acc.length < 100001 by omega) (by decide), hlt, w6, G6, E7, acc ++ [y], xs ++ [v], I8, s'.trans sG, upd_same, (rr.mono sG).app rps, gD7, wD7, by rw [List.length_append]; exact Nat.succ_le_succ hacc, wp7.un, iv7⟩
    | false =>
      obtain ⟨E7, wp7, iv7⟩ := p2 rfl
      obtain ⟨I7, hx7, gD7, wD7⟩ := I4.ofSub hD0 hM0
      have I8 := I7.wp wp7
      rw [hw3.trans hw] at I8
      exact iteF ⟨hlt, w4, G4, E7, acc, xs, I8, (s'.trans s2).trans s4, hx7, rr.mono (s2.trans s4), gD7, wD7, Nat.le_succ_of_le hacc, wp7.un, iv7⟩
  · have e : i = ds.length := by omega
    subst e
    refine .inl ⟨wk.stop F w' _ H' G' E' I' s', q _ _ ⟨w', G', E', .nw (.lst acc), I'.unwp hun, s1.trans s', ⟨D, rfl, by rw [hx]; exact .ls rr, gD', hD0, hM0, wD'⟩, hd E' acc hiv⟩⟩

structure BIx where
  s : Shared
  H : Hp
  C : Addr
  cl : List (Str × Addr)
  fp : List Addr
abbrev Bx (X : Cx) (scope : Scope) (j : BIx) : Cx := X.blk j.s j.H scope (compEnvC scope j.cl j.C X.env) j.fp
/-- [elt for tg in iter ..], the block's own names at the slots own -/
def LcJ (X : Cx) (F : Fm) (scope : Scope) (elt tg iter : Expr) (ifs : List Expr) (g : TG) (js vs : List Nat) (E : EnvB) (Φ : EnvB → Rs → Prop) : Prop :=
  XI X F tg iter E fun E1 ds => ds.length ≤ 100000 ∧ ∃ Iv : Nat → EnvB → List PD → Prop, (∃ E2, WpE vs E1 E2 ∧ Iv 0 E2 []) ∧
      (∀ i d E2 acc F', ds[i]? = some d → Iv i E2 acc → ∃ E3, GOk X.K g js d E2 E3 ∧ ∀ j, XTs (Bx X scope j) F' ifs E3 fun E4 b => (b = true → ∀ j, XE (Bx X scope j) F' elt E4 fun E5 r => ∃ r' E6 y E7, Fz r r' ∧ Fzs E5 [r'] E6 [y] ∧ WpE vs E6 E7 ∧ Iv (i + 1) E7 (acc ++ [y])) ∧ (b = false → ∃ E7, WpE vs E4 E7 ∧ Iv (i + 1) E7 acc)) ∧
      ∀ E2 acc, Iv ds.length E2 acc → Φ E2 (.nw (.lst acc))
variable {scope : Scope} {own : List (Str × Nat)} {g : TG} {js : List Nat}
theorem xe_lc {Φ : EnvB → Rs → Prop} (hg : ∀ j, PG (Bx X scope j) tg g) (hjs : ∀ j ∈ js, j ∈ own.map (·.2)) (ok : BlkOk X.N X.env.scope scope own) (h : LcJ X F scope elt tg iter ifs g js (own.map (·.2)) E Φ)
    (hN : X.N.Nodup := by assumption) (hc : X.calm = true := by rfl) (hs : ∀ x, foldedSetIterable iter X.env x = pure x := by intro _; rfl) : XE X F (.ListComp elt [⟨tg, iter, ifs, 0⟩] scope pos) E Φ :=
  xe_of (pe_lc (tt := fun σ H Q => ∀ j, tTs (Bx X scope j) ifs σ H Q) (te := fun σ H Q => ∀ j, tEF (Bx X scope j) elt σ H Q) hc hN pi_tI ok (fun s H C cl fp => hg ⟨s, H, C, cl, fp⟩)
    (fun s H C cl fp => ⟨fun pins s2 σ H2 Q I k => (pts_tTs (X := Bx X scope ⟨s, H, C, cl, fp⟩)).run pins s2 σ H2 Q I (k ⟨s, H, C, cl, fp⟩)⟩)
    (fun s H C cl fp => ⟨fun pins s2 σ H2 Q I k => (pe_tEF (X := Bx X scope ⟨s, H, C, cl, fp⟩)).run pins s2 σ H2 Q I (k ⟨s, H, C, cl, fp⟩)⟩) hs) fun w σ H G I => lc_go (BX := Bx X scope) (fun _ => rfl) rfl rfl hjs I h fun v H' k => k
theorem xs_setLc {Φ : Post} {i : Nat} {py spos : Pos} (hg : ∀ j, PG (Bx X scope j) tg g) (hjs : ∀ j ∈ js, j ∈ own.map (·.2)) (ok : BlkOk X.N X.env.scope scope own) (h : LcJ X F scope elt tg iter ifs g js (own.map (·.2)) E fun E1 r => ∃ E2, AsgE E1 i r E2 ∧ Φ.nx E2)
    (hsw : swapsWith (.ListComp elt [⟨tg, iter, ifs, 0⟩] scope pos) (some (.Name x py)) spos.line X.env = pure true) (hN : X.N.Nodup := by assumption) (hc : X.calm = true := by rfl) (hy : X.N[i]? = some x := by rfl) (hyl : X.env.scope.names.lookup x = some .local := by rfl) (hs : ∀ x, foldedSetIterable iter X.env x = pure x := by intro _; rfl) :
    XS X F (.Assign [.Name x py] (.ListComp elt [⟨tg, iter, ifs, 0⟩] scope pos) spos) E Φ :=
  xs_of (ps_setLc (tt := fun σ H Q => ∀ j, tTs (Bx X scope j) ifs σ H Q) (te := fun σ H Q => ∀ j, tEF (Bx X scope j) elt σ H Q) hc hN hy hyl hsw pi_tI ok (fun s H C cl fp => hg ⟨s, H, C, cl, fp⟩)
    (fun s H C cl fp => ⟨fun pins s2 σ H2 Q I k => (pts_tTs (X := Bx X scope ⟨s, H, C, cl, fp⟩)).run pins s2 σ H2 Q I (k ⟨s, H, C, cl, fp⟩)⟩)
    (fun s H C cl fp => ⟨fun pins s2 σ H2 Q I k => (pe_tEF (X := Bx X scope ⟨s, H, C, cl, fp⟩)).run pins s2 σ H2 Q I (k ⟨s, H, C, cl, fp⟩)⟩) hs) fun w σ H G I => lc_go (BX := Bx X scope) (fun _ => rfl) (Φ := fun E1 r => ∃ E2, AsgE E1 i r E2 ∧ Φ.nx E2) rfl rfl hjs I h fun v H' kk => by
      obtain ⟨w1, G1, E1, r, I1, s1, rv, E2, as, q⟩ := kk
      obtain ⟨w2, G2, I2, s2⟩ := as.go I1 rv
      exact ⟨w2, G2, E2, I2, s1.trans s2, q⟩
end

/-! ### defs -/
/-- a result, as the caller gets it -/
def RVn (K : PySem.W.Frag) (H0 H' G' : Hp) (v : V) : Rs → Prop
  | .sh d => Rp K G' v d
  | .nw o => ∃ p, v = .ref p ∧ Cont K G' (H' p) o ∧ G' p = none ∧ H0 p = none
  | .br _ => False
/-- the promise of a def that changes nothing: of data, by a wish's transformer -/
def Pm (K : PySem.W.Frag) (n : Nat) (spec : List PD → (Rs → Prop) → Prop) : Sp := fun vs H Q _ => ∃ (G : Hp) (ds : List PD), Same G H ∧ Rps K G vs ds ∧ ds.length = n ∧
  spec ds fun r => ∀ v H' G', Same H H' → Same G' H' → (∀ b, H b ≠ none → G' b = G b) → RVn K H H' G' v r → Q v H'
/-- .. of a def that changes the list | dict that is its first argument -/
def Pm1 (K : PySem.W.Frag) (n : Nat) (spec : Oc → List PD → (Rs → Oc → Prop) → Prop) : Sp := fun vs H Q _ => ∃ (G : Hp) (l : Addr) (o : Oc) (ws : List V) (ds : List PD), vs = .ref l :: ws ∧ Same G H ∧ G l = none ∧ Cont K G (H l) o ∧ Rps K G ws ds ∧ ds.length + 1 = n ∧
  spec o ds fun r o' => ∀ v H' G', (∀ b x, b ≠ l → H b = some x → H' b = some x) → Same G' H' → (∀ b, H b ≠ none → G' b = G b) → Cont K G' (H' l) o' → RVn K H H' G' v r → Q v H'
/-- what a return hands over -/
inductive RtE (E : EnvB) : Rs → Rs → Prop
  | sh {d : PD} : RtE E (.sh d) (.sh d)
  | nw {o : Oc} : RtE E (.nw o) (.nw o)
  | br {i : Nat} {o : Oc} : E[i]? = some (.ow o) → RtE E (.br i) (.nw o)
theorem RtE.go {K : PySem.W.Frag} {F : Fm} {w : Addr → Option Nat} {σ : L2.St} {H G : Hp} {E : EnvB} (I : In K F w σ H G E) {v : V} {r r' : Rs} (h : RtE E r r') (rv : RV K F w σ H G v r) : RVn K F.H0 H G v r' := by
  cases h with
  | sh => exact rv
  | nw =>
    obtain ⟨p, e, c, n1, n2, n3, n4⟩ := rv
    exact ⟨p, e, c, n1, n2⟩
  | br hE =>
    obtain ⟨l, e, hw, c, n⟩ := I.slot _ _ hE
    have rv : σ[_]? = some (some v) := rv
    rw [rv] at e
    cases e
    exact ⟨l, rfl, c, (I.own l _ hw).1, n⟩
def env0 (N : List Str) (ds : List PD) : EnvB := ds.map Bd.sh ++ List.replicate (N.length - ds.length) .un
theorem env0_get {N : List Str} {ds : List PD} {i : Nat} {b : Bd} (h : (env0 N ds)[i]? = some b) : (∃ d, ds[i]? = some d ∧ b = .sh d) ∨ b = .un := by
  unfold env0 at h
  by_cases hi : i < ds.length
  · rw [List.getElem?_append_left (by simpa using hi), List.getElem?_map, List.getElem?_eq_getElem hi] at h
    exact .inl ⟨_, List.getElem?_eq_getElem hi, (Option.some.inj h).symm⟩
  · rw [List.getElem?_append_right (by simpa using Nat.le_of_not_lt hi), List.getElem?_replicate] at h
    split at h
    · exact .inr (Option.some.inj h).symm
    · cases h
section
variable {P : Program} {w : World} {K : PySem.W.Frag} {mg : Str → Option Value} {base : Heap}
/-- THE RULE for a def -/
theorem ok_def {x qual : Str} {st : Stmt} {f : Addr} {fd : FuncData} {N ps : List Str} {k : Nat} {spec : List PD → (Rs → Prop) → Prop} (Fn : L2.Fun K x qual st f fd) (S : FnScope N ps (defScope st))
    (hb : ∀ (cdv : Value) (A : Around) (outer : List Env) (s : Shared) (H : Hp) (E : XK) (F : Fm) (ds : List PD) (Ψ : Rs → Prop), Room k (A.deeper (envOfC qual (defScope st) s.heap.objs.size f cdv)) → ds.length = ps.length → spec ds Ψ →
      XSs (cxOf CX0 P w K mg base N qual (defScope st) f cdv A outer s H E).nox F (defBody st) (env0 N ds) { nx := fun _ => Ψ (.sh .none), rt := fun E r => ∃ r', RtE E r r' ∧ Ψ r' }) : FnOk P w K mg base CX0 (k + 1) f fd ps (Pm K ps.length spec) := by
  refine Fn.ok S (fun vs H Q E ⟨G, ds, s, r, e, _⟩ => by rw [r.length]; exact e) fun cdv A outer s H vs Q E hr ⟨G, ds, sG, r, e, sp⟩ => ?_
  let F : Fm := ⟨H, G, H, []⟩
  refine ⟨tSs _ F (defBody st), pss_tSs, ?_⟩
  have hN : ds.length ≤ N.length := by
    rw [e]
    have := congrArg List.length S.pre
    rw [List.length_take] at this
    omega
  have hlen := r.length
  have I0 : In K F (fun _ => none) (L2.start N vs) H G (env0 N ds) := by
    refine ⟨sG, fun _ _ => rfl, Same.refl H, fun _ q => q, fun b i q => (by cases q), ?_, fun i b q => ?_⟩
    · unfold env0 L2.start
      rw [List.length_append, List.length_append, List.length_map, List.length_map, List.length_replicate, List.length_replicate]
      omega
    · rcases env0_get q with ⟨d, hd, rfl⟩ | rfl
      · obtain ⟨v, hv, rv⟩ := r.get hd
        refine ⟨v, ?_, rv⟩
        unfold L2.start
        have hi : i < vs.length := (List.getElem?_eq_some_iff.mp hv).1
        rw [List.getElem?_append_left (by simpa using hi), List.getElem?_map, hv]
        rfl
      · trivial
  have done : ∀ {w' σ' H' G' E' v r'}, In K F w' σ' H' G' E' → RVn K H H' G' v r' → (∀ v H' G', Same H H' → Same G' H' → (∀ b, H b ≠ none → G' b = G b) → RVn K H H' G' v r' → Q v H') → Q v H' := fun {w' σ' H' G' E' v r'} I' rn q => q v H' G' I'.keep I'.sub I'.old rn
  refine tSs_go I0 (hb cdv A outer s H E F ds _ hr e sp) ⟨fun σ' H' ⟨w', G', E', I', s', q⟩ => ?_, fun v H' ⟨w', σ', G', E', r, I', s', rv, r', rt, q⟩ => ?_, fun σ' H' ⟨w', G', E', I', s', q⟩ => q, fun σ' H' ⟨w', G', E', I', s', q⟩ => q⟩
  · exact done I' (r' := .sh .none) .non q
  · exact done I' (rt.go I' rv) q
end
end Bk

set_option maxHeartbeats 4000000
namespace Bk
open PySem PySem.Spec PyProof.Rows L2

/-- a def of the module, with its promise, as a caller finds it -/
structure Cal (P : Program) (w : World) (K : PySem.W.Frag) (mg : Str → Option Value) (base : Heap) (x : Str) (k : Nat) (sp : Sp) : Prop where
  ex : ∃ (f : Addr) (fd : FuncData) (ps : List Str), FnOk P w K mg base CX0 k f fd ps sp ∧ mg x = some (.ref f) ∧ PySem.W.keepIn K (.ref f) = true ∧ Binds K fd ps []
section
variable {K : PySem.W.Frag} {F : Fm} {w : Addr → Option Nat} {σ : L2.St} {H H' G G' : Hp} {E : EnvB}
theorem In.after1 (I : In K F w σ H G E) {i : Nat} {b : Bd} {o o' : Oc} {l : Addr} (hE : E[i]? = some b) (hb : b.oc = some o) (hl : σ[i]? = some (some (.ref l))) (h1 : ∀ b x, b ≠ l → H b = some x → H' b = some x) (h2 : Same G' H') (h3 : ∀ b, H b ≠ none → G' b = G b) (c : Cont K G' (H' l) o') :
    In K F w σ H' G' (E.set i (b.put o')) ∧ Same G G' := by
  obtain ⟨l', e, hw, c0⟩ := I.owned hE hb
  rw [hl] at e
  cases e
  obtain ⟨n1, n3, n5⟩ := I.own l i hw
  have e : Same G G' := fun b x q => by
    rw [h3 b (by rw [I.sub b x q]; exact Option.some_ne_none x)]; exact q
  have some' : ∀ b, H b ≠ none → H' b ≠ none := fun b q z => by
    by_cases y : b = l
    · subst y
      obtain ⟨x, hx⟩ := c.ex1
      rw [hx] at z; cases z
    · cases r : H b with
      | none => exact q r
      | some x => rw [h1 b x y r] at z; cases z
  refine ⟨⟨h2, fun b q => ?_, fun b x q => ?_, fun b q => some' b (I.has b q), fun b j q => ?_, by rw [List.length_set]; exact I.len, fun j d q => ?_⟩, e⟩
  · rw [h3 b (I.has b q)]; exact I.old b q
  · exact h1 b x (fun z => by subst z; rw [n3] at q; cases q) (I.keep b x q)
  · obtain ⟨m1, m3, m5⟩ := I.own b j q
    exact ⟨by rw [h3 b m5]; exact m1, m3, some' b m5⟩
  · by_cases z : i = j
    · subst z
      have hi : i < E.length := by
        have := (List.getElem?_eq_some_iff.mp q).1
        rwa [List.length_set] at this
      rw [List.getElem?_set_self hi] at q
      cases q
      have s := I.slot i b hE
      match b, hb, s with
      | .ow _, _, ⟨l2, e2, hw2, _, n⟩ =>
        rw [hl] at e2
        cases e2
        exact ⟨l, hl, hw, c, n⟩
      | .ib _ _, _, ⟨l2, e2, hw2, _, n⟩ =>
        rw [hl] at e2
        cases e2
        exact ⟨l, hl, hw, c, n⟩
    · rw [List.getElem?_set_ne z] at q
      refine ((I.slot j d q).mono e).other fun k hk => ⟨?_, hk⟩
      have nk : k ≠ l := fun z2 => by subst z2; rw [hw] at hk; exact z (Option.some.inj hk)
      have m5 := (I.own k j hk).2.2
      cases r : H k with
      | none => exact absurd r m5
      | some x => rw [h1 k x nk r]
theorem RVn.rv (I : In K F w σ H G E) {v : V} {r : Rs} (h : RVn K H H' G' v r) : RV K F w σ H' G' v r := by
  match r, h with
  | .sh d, h => exact h
  | .nw o, ⟨p, e, c, n1, n2⟩ =>
    refine ⟨p, e, c, n1, ?_, ?_, ?_⟩
    · cases q : F.H0 p with
      | none => rfl
      | some x => exact absurd n2 (I.has p (by rw [q]; exact Option.some_ne_none x))
    · cases q : F.M p with
      | none => rfl
      | some x => rw [I.keep p x q] at n2; cases n2
    · cases q : w p with
      | none => rfl
      | some x => exact absurd n2 (I.own p x q).2.2
end
section
variable {X : Cx} {F : Fm} {E : EnvB} {a b c e o : Expr} {es : List Expr} {pos p : Pos} {x : Str} {Φ : EnvB → Rs → Prop} {k n : Nat}
theorem xe_call {spec : List PD → (Rs → Prop) → Prop} (C : Cal X.prog X.w X.K X.mg X.base x k (Pm X.K n spec)) (hr : Room k X.A) (h : XA X F (e :: es) E fun E1 rs => ∃ E2 ds, Fzs E1 rs E2 ds ∧ ds.length = n ∧ ∀ Ψ : Rs → Prop, (∀ r, Φ E2 r → Ψ r) → spec ds Ψ)
    (hg : Gl X x := by rfl) (hdb : (x == ("__debug__" : Str)) = false := by decide) (he : starEach (e :: es) X.env = (false, eval e X.env) :: starEach es X.env := by rfl) (hpl : (backTo pos (starEach es X.env)).any (·.1) = false := by rfl) : XE X F (.Call (.Name x p) (e :: es) [] pos) E Φ := by
  obtain ⟨f, fd, ps, Fk, hm, hk, hb⟩ := C.ex
  refine xe_of (pe_call Fk hr hg hm hk hb .nil pass0 pa_tA hdb he hpl) fun w σ H G I => tA_go I h fun vs w1 H1 G1 E1 rs I1 s1 rvs ⟨E2, ds, fz, hn, q⟩ => ?_
  obtain ⟨w2, G2, I2, s2, rps⟩ := fz.go I1 rvs
  refine ⟨G2, ds, I2.sub, by rw [List.append_nil]; exact rps, hn, q _ fun r hr v H' G' h1 h2 h3 rv => ?_⟩
  obtain ⟨I3, s3⟩ := I2.after h1 h2 h3
  exact ke I3 ((s1.trans s2).trans s3) (rv.rv I2) hr
theorem xe_call1 {spec : Oc → List PD → (Rs → Oc → Prop) → Prop} (C : Cal X.prog X.w X.K X.mg X.base x k (Pm1 X.K n spec)) (hr : Room k X.A) (h : XA X F (e :: es) E fun E1 rs => ∃ i rest E2 ds b o, rs = .br i :: rest ∧ Fzs E1 rest E2 ds ∧ E2[i]? = some b ∧ b.oc = some o ∧ ds.length + 1 = n ∧ ∀ Ψ : Rs → Oc → Prop, (∀ r o', (∃ E3, SetE E2 i (b.put o') E3 ∧ Φ E3 r) → Ψ r o') → spec o ds Ψ)
    (hg : Gl X x := by rfl) (hdb : (x == ("__debug__" : Str)) = false := by decide) (he : starEach (e :: es) X.env = (false, eval e X.env) :: starEach es X.env := by rfl) (hpl : (backTo pos (starEach es X.env)).any (·.1) = false := by rfl) : XE X F (.Call (.Name x p) (e :: es) [] pos) E Φ := by
  obtain ⟨f, fd, ps, Fk, hm, hk, hb⟩ := C.ex
  refine xe_of (pe_call Fk hr hg hm hk hb .nil pass0 pa_tA hdb he hpl) fun w σ H G I => tA_go I h fun vs w1 H1 G1 E1 rs I1 s1 rvs ⟨i, rest, E2, ds, b, o, er, fz, hE, hbo, hn, q⟩ => ?_
  subst er
  cases rvs with
  | br hv rvs =>
    obtain ⟨w2, G2, I2, s2, rps⟩ := fz.go I1 rvs
    obtain ⟨l, el, hw, c⟩ := I2.owned hE hbo
    rw [hv] at el
    cases el
    refine ⟨G2, l, o, _, ds, by rw [List.append_nil], I2.sub, (I2.own l i hw).1, c, rps, hn, q _ fun r o' hr v H' G' h1 h2 h3 c' rv => ?_⟩
    obtain ⟨E3, hs, hr⟩ := hr
    obtain ⟨I3, s3⟩ := I2.after1 hE hbo hv h1 h2 h3 c'
    rw [← hs.eq] at I3
    exact ke I3 ((s1.trans s2).trans s3) (rv.rv I2) hr

/-! ### built-ins -/
inductive LenD (E : EnvB) : Rs → Nat → Prop
  | lst {r : Rs} {ds : List PD} : RD E r (.list ds) → LenD E r ds.length
  | tup {r : Rs} {ds : List PD} : RD E r (.tuple ds) → LenD E r ds.length
  | str {z : Str} : z.length ≤ 100000 → LenD E (.sh (.str z)) z.length
  | scr {ds : List PD} : LenD E (.sh (.dict [(.none, .list ds)])) ds.length
theorem cj_len {r : Rs} {m : Nat} (h : LenD E r m) (q : Φ E (.sh (.int (m : Int)))) : CJ X F (fun xs H Q => ∃ x n, xs = [x] ∧ LenV X.K x H n ∧ Q (.int n) H) E [r] Φ := fun w σ H G vs Q I rvs kk => by
  have one : ∃ v, vs = [v] ∧ RV X.K F w σ H G v r := by
    cases rvs with
    | sh h1 h2 => cases h2; exact ⟨_, rfl, h1⟩
    | br h1 h2 => cases h2; exact ⟨_, rfl, h1⟩
  obtain ⟨v, rfl, rv⟩ := one
  refine ⟨v, m, rfl, ?_, kk _ _ (keI I q)⟩
  cases h with
  | lst h =>
    obtain ⟨l, xs, rfl, hx, rx⟩ := h.lst I rv
    exact .inl ⟨xs, .inl (.inl hx), rx.length.symm⟩
  | tup h =>
    obtain ⟨l, xs, rfl, hx, rx⟩ := h.tup I rv
    exact .inr ⟨xs, sqT_mono I.sub hx, rx.length.symm⟩
  | str hz =>
    obtain rfl := rvS rv
    exact ⟨Nat.le_trans hz (by decide), rfl⟩
  | scr =>
    have rv : Rp X.K G v _ := rv
    cases rv with
    | scr h1 h2 => exact .inl ⟨_, I.sub.seq h1, h2.length.symm⟩
    | dic _ h => cases h
inductive SeqD (E : EnvB) : Rs → List PD → Prop
  | lst {r : Rs} {ds : List PD} : RD E r (.list ds) → SeqD E r ds
  | tup {r : Rs} {ds : List PD} : RD E r (.tuple ds) → SeqD E r ds
  | scr {ds : List PD} : SeqD E (.sh (.dict [(.none, .list ds)])) ds
theorem rv_one {K : PySem.W.Frag} {w : Addr → Option Nat} {σ : L2.St} {H G : Hp} {vs : List V} {r : Rs} (rvs : RVs K w σ H G vs [r]) : ∃ v, vs = [v] ∧ RV K F w σ H G v r := by
  cases rvs with
  | sh h1 h2 => cases h2; exact ⟨_, rfl, h1⟩
  | br h1 h2 => cases h2; exact ⟨_, rfl, h1⟩
theorem rv_two {K : PySem.W.Frag} {w : Addr → Option Nat} {σ : L2.St} {H G : Hp} {vs : List V} {r r' : Rs} (rvs : RVs K w σ H G vs [r, r']) : ∃ v v', vs = [v, v'] ∧ RV K F w σ H G v r ∧ RV K F w σ H G v' r' := by
  cases rvs with
  | sh h1 h2 => obtain ⟨v', rfl, h'⟩ := rv_one (F := F) h2; exact ⟨_, _, rfl, h1, h'⟩
  | br h1 h2 => obtain ⟨v', rfl, h'⟩ := rv_one (F := F) h2; exact ⟨_, _, rfl, h1, h'⟩
theorem cj_list {r : Rs} {ds : List PD} (h : SeqD E r ds) (q : Φ E (.nw (.lst ds))) : CJ X F (fun xs H Q => ∃ p ys, xs = [.ref p] ∧ (SqL X.K H p ys ∨ SqT X.K H p ys) ∧ ∀ l, H l = none → Q (.ref l) (upd H l (.lst ys))) E [r] Φ := fun w σ H G vs Q I rvs kk => by
  obtain ⟨v, rfl, rv⟩ := rv_one (F := F) rvs
  have fin : ∀ {xs}, Rps X.K G xs ds → ∀ l, H l = none → Q (.ref l) (upd H l (.lst xs)) := fun {xs} rx l hl => by
    obtain ⟨I3, rp⟩ := I.newL hl rx
    exact kk _ _ (ke I3 (Same.refl G) rp q)
  cases h with
  | lst h =>
    obtain ⟨l, xs, rfl, hx, rx⟩ := h.lst I rv
    exact ⟨l, xs, rfl, .inl (.inl (.inl hx)), fin rx⟩
  | tup h =>
    obtain ⟨l, xs, rfl, hx, rx⟩ := h.tup I rv
    exact ⟨l, xs, rfl, .inr (sqT_mono I.sub hx), fin rx⟩
  | scr =>
    have rv : Rp X.K G v _ := rv
    cases rv with
    | scr h1 h2 => exact ⟨_, _, rfl, .inl (I.sub.seq h1), fin h2⟩
    | dic _ h => cases h
theorem cj_tuple {r : Rs} {ds : List PD} (h : SeqD E r ds) (q : Φ E (.sh (.tuple ds))) : CJ X F (fun xs H Q => ∃ p ys, xs = [.ref p] ∧ ((SqL X.K H p ys ∧ ∀ l, H l = none → Q (.ref l) (upd H l (.tup ys))) ∨ (SqT X.K H p ys ∧ Q (.ref p) H))) E [r] Φ := fun w σ H G vs Q I rvs kk => by
  obtain ⟨v, rfl, rv⟩ := rv_one (F := F) rvs
  have fin : ∀ {xs}, Rps X.K G xs ds → ∀ l, H l = none → Q (.ref l) (upd H l (.tup xs)) := fun {xs} rx l hl => by
    obtain ⟨I3, s3, rp⟩ := I.newT hl rx
    exact kk _ _ (ke I3 s3 (r := .sh (.tuple ds)) rp q)
  cases h with
  | lst h =>
    obtain ⟨l, xs, rfl, hx, rx⟩ := h.lst I rv
    exact ⟨l, xs, rfl, .inl ⟨.inl (.inl hx), fin rx⟩⟩
  | tup h =>
    obtain ⟨l, xs, rfl, hx, rx⟩ := h.tup I rv
    exact ⟨l, xs, rfl, .inr ⟨sqT_mono I.sub hx, kk _ _ (ke I (Same.refl G) (r := .sh (.tuple ds)) (.tup hx rx) q)⟩⟩
  | scr =>
    have rv : Rp X.K G v _ := rv
    cases rv with
    | scr h1 h2 => exact ⟨_, _, rfl, .inl ⟨I.sub.seq h1, fin h2⟩⟩
    | dic _ h => cases h
theorem cj_intI {i : Int} (q : Φ E (.sh (.int i))) : CJ X F (fun xs H Q => (∃ i, xs = [.int i] ∧ Q (.int i) H) ∨ ∃ k, xs = [.bl k] ∧ Q (.int (if k then 1 else 0)) H) E [.sh (.int i)] Φ := fun w σ H G vs Q I rvs kk => by
  obtain ⟨v, rfl, rv⟩ := rv_one (F := F) rvs
  obtain rfl := rvI rv
  exact .inl ⟨i, rfl, kk _ _ (keI I q)⟩
theorem cj_intB {k : Bool} (q : Φ E (.sh (.int (if k then 1 else 0)))) : CJ X F (fun xs H Q => (∃ i, xs = [.int i] ∧ Q (.int i) H) ∨ ∃ k, xs = [.bl k] ∧ Q (.int (if k then 1 else 0)) H) E [.sh (.bool k)] Φ := fun w σ H G vs Q I rvs kk => by
  obtain ⟨v, rfl, rv⟩ := rv_one (F := F) rvs
  obtain rfl := rvB rv
  exact .inr ⟨k, rfl, kk _ _ (keI I q)⟩
theorem cj_reprI {i : Int} (hz : i.natAbs.log2 < 1920) (q : Φ E (.sh (.str (toString i)))) : CJ X F (fun xs H Q => ∃ i, xs = [.int i] ∧ i.natAbs.log2 < 1920 ∧ Q (.str (toString i)) H) E [.sh (.int i)] Φ := fun w σ H G vs Q I rvs kk => by
  obtain ⟨v, rfl, rv⟩ := rv_one (F := F) rvs
  obtain rfl := rvI rv
  exact ⟨i, rfl, hz, kk _ _ (keS I q)⟩
theorem cj_abs {i : Int} (q : Φ E (.sh (.int (if i < 0 then -i else i)))) : CJ X F (fun xs H Q => ∃ i, xs = [.int i] ∧ Q (.int (if i < 0 then -i else i)) H) E [.sh (.int i)] Φ := fun w σ H G vs Q I rvs kk => by
  obtain ⟨v, rfl, rv⟩ := rv_one (F := F) rvs
  obtain rfl := rvI rv
  exact ⟨i, rfl, kk _ _ (keI I q)⟩
theorem cj_max {i j : Int} (q : Φ E (.sh (.int (if j > i then j else i)))) : CJ X F (fun xs H Q => ∃ i j, xs = [.int i, .int j] ∧ Q (.int (if j > i then j else i)) H) E [.sh (.int i), .sh (.int j)] Φ := fun w σ H G vs Q I rvs kk => by
  obtain ⟨v, v', rfl, rv, rv'⟩ := rv_two (F := F) rvs
  obtain rfl := rvI rv
  obtain rfl := rvI rv'
  exact ⟨i, j, rfl, kk _ _ (keI I q)⟩
theorem cj_min {i j : Int} (q : Φ E (.sh (.int (if j < i then j else i)))) : CJ X F (fun xs H Q => ∃ i j, xs = [.int i, .int j] ∧ Q (.int (if j < i then j else i)) H) E [.sh (.int i), .sh (.int j)] Φ := fun w σ H G vs Q I rvs kk => by
  obtain ⟨v, v', rfl, rv, rv'⟩ := rv_two (F := F) rvs
  obtain rfl := rvI rv
  obtain rfl := rvI rv'
  exact ⟨i, j, rfl, kk _ _ (keI I q)⟩

/-! ### methods of texts, of lists -/
def MJ (X : Cx) (F : Fm) (r : V → List V → Hp → VK → Prop) (E : EnvB) (r0 : Rs) (rs : List Rs) (Φ : EnvB → Rs → Prop) : Prop := ∀ (w : Addr → Option Nat) (σ : L2.St) (H G : Hp) (x : V) (vs : List V) (Q : VK), In X.K F w σ H G E → RV X.K F w σ H G x r0 → RVs X.K w σ H G vs rs →
  (∀ v H', KE X.K F σ G Φ v H' → Q v H') → r x vs H Q
theorem xe_m1 {id : String} {name : Str} {apos : Pos} {r : V → List V → Hp → VK → Prop} (slot : PySem.Slot "str" name id) (ty : typeOf (.builtin id) = pure (.type "method_descriptor")) (rule : MtR X id r) (h : XE X F o E fun E1 r0 => ∃ s, r0 = .sh (.str s) ∧ XE X F e E1 fun E2 r1 => ∃ r1', Fz r1 r1' ∧ MJ X F r E2 (.sh (.str s)) [r1'] Φ)
    (hs : starEach [e] X.env = [(false, eval e X.env)] := by rfl) (hbase : attributeBase o name X.env (eval o X.env) = eval o X.env := by rfl) (hline : (apos.endLine == pos.line) = true := by rfl) : XE X F (.Call (.Attribute o name apos) [e] [] pos) E Φ :=
  xe_of (pe_m1 slot ty rule pe_tE pe_tE hs hbase hline) fun w σ H G I => tE_go I h fun v w1 H1 G1 E1 r I1 s1 rv ⟨s, e0, h1⟩ => by
    subst e0
    obtain rfl := rvS rv
    refine ⟨⟨s, rfl⟩, tE_go I1 h1 fun v2 w2 H2 G2 E2 r2 I2 s2 rv2 ⟨r2', f, q⟩ => ?_⟩
    obtain ⟨G2', I2', s2', rv2'⟩ := f.go I2 rv2
    exact q w2 σ H2 G2' (.str s) [v2] _ I2' (.str s) (f.cons rv2' .nil) fun v' H' kk => kk.tr ((s1.trans s2).trans s2')
theorem xe_append {apos : Pos} (h : XE X F o E fun E1 r0 => ∃ i b1 ds1, r0 = .br i ∧ E1[i]? = some b1 ∧ b1.oc = some (.lst ds1) ∧ XE X F e E1 fun E2 r1 => ∃ r1' E3 d b ds E4, Fz r1 r1' ∧ Fzs E2 [r1'] E3 [d] ∧ E3[i]? = some b ∧ b.oc = some (.lst ds) ∧ ds.length < 100000 ∧ SetE E3 i (b.put (.lst (ds ++ [d]))) E4 ∧ Φ E4 (.sh .none))
    (hbase : attributeBase o "append" X.env (eval o X.env) = eval o X.env := by rfl) (he : starEach (e :: []) X.env = (false, eval e X.env) :: starEach [] X.env := by rfl)
    (hfew : ((backTo pos (starEach (e :: []) X.env)).all (fun x => !x.1) && (backToKw pos (keywordEach [] X.env)).all (fun x => x.1.isSome) && decide ((e :: []).length + ([] : List Keyword).length + (if ([] : List Keyword).isEmpty then 0 else 1) < 30)) = true := by rfl)
    (hline : (apos.endLine == pos.line) = true := by rfl) : XE X F (.Call (.Attribute o "append" apos) [e] [] pos) E Φ :=
  xe_of (pe_bm PySem.F.plainAttrs_list PySem.F.slot_list_append PySem.F.type_list_append mt_append pe_tE (pa_cons (pe_tE (F := F)) pa_nil he) hbase hfew (hs := he) (hline := hline)) fun w σ H G I => tE_go I h fun v w1 H1 G1 E1 r I1 s1 rv ⟨i, b1, ds1, e0, hE1, hb1, h1⟩ => by
    subst e0
    obtain ⟨l, el, hw, c⟩ := I1.owned hE1 hb1
    have rv : σ[i]? = some (some v) := rv
    rw [rv] at el
    cases el
    obtain ⟨xs, c1, c2⟩ := c.lst
    refine ⟨.inl ⟨rfl, xs, .inl (.inl c1)⟩, tE_go I1 h1 fun v2 w2 H2 G2 E2 r2 I2 s2 rv2 ⟨r2', E3, d, b, ds, E4, f, fs, hE3, hb3, hl, hs, q⟩ => ?_⟩
    obtain ⟨G2', I2', s2', rv2'⟩ := f.go I2 rv2
    obtain ⟨w3, G3, I3, s3, rps⟩ := fs.go I2' (f.cons rv2' .nil)
    obtain ⟨l', el, hw', c'⟩ := I3.owned hE3 hb3
    rw [rv] at el
    cases el
    obtain ⟨xs', c1', c2'⟩ := c'.lst
    refine ⟨l, xs', v2, rfl, rfl, c1', by rw [c2'.length]; exact Nat.lt_of_lt_of_le hl (by decide), ?_⟩
    have I4 := I3.mut hE3 hb3 rv (.ls (c2'.app rps))
    rw [← hs.eq] at I4
    exact ke I4 ((((s1.trans s2).trans s2').trans s3)) (r := .sh .none) .non q
end
end Bk

set_option maxHeartbeats 4000000
namespace Bk
open PySem PySem.Spec PyProof.Rows L2
open AutoSeq1 (wpAny_loadPart')

/-- what iter(v) makes: the object io, in the states that pre admits -/
def MakesIt (v : Value) (io : Obj) (pre : Shared → Prop) : Prop := ∀ {prog : Program} {w : World} {A : Around} {E : Value → Shared → Prop} (s : Shared) (Q : Value → Shared → Prop), pre s → Q (.ref s.heap.objs.size) { s with heap := s.heap.push io } → wpAny (model prog w) A (pyIter v) Q E s
theorem mk_list {l : Addr} {xs : Array Value} : MakesIt (.ref l) { cls := .type "list_iterator", data := .fields #[.ref l, .int 0 0] } (fun s => s.heap.IsList l xs) := fun s Q h q => wpAny_pyIter_list h q
theorem mk_tuple {l : Addr} {xs : Array Value} : MakesIt (.ref l) { cls := .type "tuple_iterator", data := .fields #[.ref l, .int 0 0] } (fun s => s.heap.IsTuple l xs) := fun s Q h q => wpAny_pyIter_tuple h q
theorem mk_ascii {x : Str} {t : Tok} (ha : x.cps.all (· < 128) = true) : MakesIt (.str x t) { cls := .type "str_ascii_iterator", data := .fields #[.str x t, .int 0 0] } (fun _ => True) := fun s Q _ q => wpAny_pyIter_ascii ha q
theorem mk_wide {x : Str} {t : Tok} (ha : x.cps.all (· < 128) = false) : MakesIt (.str x t) { cls := .type "str_iterator", data := .fields #[.str x t, .int 0 0] } (fun _ => True) := fun s Q _ q => wpAny_pyIter_wide ha q

theorem meets_enum (v : Value) (io : Obj) (pre : Shared → Prop) (hI : MakesIt v io pre) :
    Meets (Builtin.«enumerate.__new__» ⟨[.type "enumerate", v], []⟩) (fun _ R s => pre s ∧
      R (.ok (.ret (.ref (s.heap.push io).objs.size))) { s with heap := (s.heap.push io).push { cls := .type "enumerate", data := .fields #[.none, .bool false, .ref s.heap.objs.size, rawInt 0, .none, .none] } }) :=
  .of_wp fun prog w A R s h => by
    obtain ⟨hp, g, d, tk, os⟩ := s
    obtain ⟨hl, h⟩ := h
    have hsub := sub_enumerate
    have hJ : ∀ {A : Around} {E : Value → Shared → Prop} (Q : Value → Shared → Prop), Q (.ref hp.objs.size) ⟨hp.push io, g, d, tk, os⟩ → wpAny (model prog w) A (pyIter v) Q E ⟨hp, g, d, tk, os⟩ := fun Q q => hI _ Q hl q
    wp_walk
    refine wpAny_stack_any fun st => wpAny_pure ?_
    split
    · rename_i c _ _ _ _ _
      cases (c == Value.type "enumerate")
      · wp_walk using hJ
        exact ⟨_, rfl, h⟩
      · wp_walk using hJ
        exact ⟨_, rfl, h⟩
    · wp_walk using hJ
      exact ⟨_, rfl, h⟩
end Bk

set_option maxHeartbeats 4000000
namespace Bk
open PySem PySem.Spec PyProof.Rows L2

section
variable {P : Program} {w : World} {A : Around} {E : Value → Shared → Prop} {s : Shared}
theorem call_enum {v : Value} {io : Obj} {pre : Shared → Prop} (hI : MakesIt v io pre) (hf : io.isFreed = false) (hp : pre s) {Q : Value → Shared → Prop}
    (h : ∀ h', IsEnum h' (s.heap.objs.size + 1) s.heap.objs.size 0 .none → h'.get? s.heap.objs.size = some io → (∀ b o, s.heap.get? b = some o → h'.get? b = some o) → Q (.ref (s.heap.objs.size + 1)) { s with heap := h' }) :
    wpAny (model P w) A (call (.type "enumerate") [v]) Q E s := by
  have hm := meets_enum v io pre hI
  refine callType_new F.called_enumerate (by decide) (F.typeCall_enumerate_1 _) (F.newCall_enumerate_1 _) (fun obj => F.args_object_init_2 obj _) F.entry_enumerate_new hm ⟨hp, ?_⟩
  have hz : (s.heap.push io).objs.size = s.heap.objs.size + 1 := Heap.size_push ..
  have ge : ((s.heap.push io).push { cls := .type "enumerate", data := .fields #[.none, .bool false, .ref s.heap.objs.size, rawInt 0, .none, .none] }).get? (s.heap.objs.size + 1) = some { cls := .type "enumerate", data := .fields #[.none, .bool false, .ref s.heap.objs.size, rawInt 0, .none, .none] } := by
    rw [← hz]
    exact Heap.get?_push_size _ rfl
  have gi : ((s.heap.push io).push { cls := .type "enumerate", data := .fields #[.none, .bool false, .ref s.heap.objs.size, rawInt 0, .none, .none] }).get? s.heap.objs.size = some io := Heap.get?_push_of_some _ (Heap.get?_push_size _ hf)
  show _ ∧ _
  rw [hz]
  exact ⟨⟨_, ge, rfl⟩, h _ ge gi fun b o q => Heap.get?_push_of_some _ (Heap.get?_push_of_some _ q)⟩
end

/-! one item of an inner iterator; its end -/
def NxItem (P : Program) (w : World) (it : Addr) (T T' : Heap → Prop) (src : Heap → Prop) (val : Value → Prop) : Prop := ∀ {A : Around} {E : Value → Shared → Prop} (s : Shared) (Q : Value → Shared → Prop), T s.heap → src s.heap →
  (∀ u h' tk, val u → T' h' → Heap.SameBut it s.heap h' → Q u { s with heap := h', toks := tk }) → wpAny (model P w) A (Builtin.SmallTypes.nextOf (.ref it)) Q E s
def NxDone (P : Program) (w : World) (it : Addr) (T : Heap → Prop) (src : Heap → Prop) : Prop := ∀ {A : Around} {E : Value → Shared → Prop} (s : Shared) (Q : Value → Shared → Prop), A.handled = none → T s.heap → src s.heap →
  (∀ h' e, Heap.ExtBut it s.heap h' → (∃ o, h'.get? e = some o ∧ o.cls = .type "StopIteration") → E (.ref e) { s with heap := h' }) → wpAny (model P w) A (Builtin.SmallTypes.nextOf (.ref it)) Q E s
/-- what hangs on the objects at bs alone -/
def Hangs (bs : List Addr) (T : Heap → Prop) : Prop := ∀ h h', T h → (∀ b ∈ bs, ∀ o, h.get? b = some o → h'.get? b = some o) → T h'

section
variable {P : Program} {w : World} {A : Around} {E : Value → Shared → Prop} {s : Shared} {e it : Addr} {T T' src : Heap → Prop} {val : Value → Prop} {srcs : List Addr} {i : Nat} {old : Value}
theorem enum_item (he : IsEnum s.heap e it i old) (hT : T s.heap) (hs : src s.heap) (nx : NxItem P w it T T' src val) (fT : Hangs [it] T') (hne : e ≠ it) {Q : Option Value → Shared → Prop}
    (hQ : ∀ u h' tk tk', val u → IsEnumOut h' e it ((i : Int) + 1) u s.heap.objs.size → T' h' → h'.get? s.heap.objs.size = some { cls := .type "tuple", data := .seq #[.int i tk, u] } → h'.objs.size = s.heap.objs.size + 1 →
      (∀ b o, b ≠ e → b ≠ it → s.heap.get? b = some o → h'.get? b = some o) → Q (some (.ref s.heap.objs.size)) { s with heap := h', toks := tk' }) : wpAny (model P w) A (pyNext (.ref e)) Q E s := by
  have hTy : s.TypeIs (.ref e) "enumerate" := ⟨_, he, rfl⟩
  unfold pyNext
  refine wpAny_bind (wpAny_attempt (wpAny_callSpecial?_slot (name := Str.ofString "__next__") hTy F.slot_enumerate_next (wpAny_call_entry F.slot_enumerate_next hTy F.entry_enumerate_next ?_ (F.args_enumerate_next_1 _))))
  obtain ⟨hp, g, d, tk0, os⟩ := s
  show wpAny _ _ (field (.ref e) 2 >>= _) _ _ _
  refine wpAny_bind (wpAny_field he rfl (x := .ref it) rfl (wpAny_bind (nx _ _ hT hs fun u h1 tk hu hT1 s1 => ?_)))
  have s1 : Heap.SameBut it hp h1 := s1
  have e1 : IsEnum h1 e it i old := (s1.2 e hne).trans he
  show wpAny _ _ (field (.ref e) 3 >>= _) _ _ ⟨h1, g, d, tk, os⟩
  refine wpAny_bind (wpAny_field e1 rfl (x := rawInt i) rfl ?_)
  show wpAny _ _ (field (.ref e) 4 >>= _) _ _ ⟨h1, g, d, tk, os⟩
  refine wpAny_bind (wpAny_field e1 rfl (x := .none) rfl ?_)
  show wpAny _ _ (mkInt i >>= _) _ _ ⟨h1, g, d, tk, os⟩
  refine wpAny_bind (wpAny_mkInt ?_)
  show wpAny _ _ (setField (.ref e) 3 (rawInt ((i : Int) + 1)) >>= _) _ _ ⟨h1, g, d, tk + 1, os⟩
  refine wpAny_bind (wpAny_setField_rec e1 (by simp) fun h2 e2 s2 => ?_)
  have s2 : Heap.SameBut e h1 h2 := s2
  have e2 : IsEnum h2 e it ((i : Int) + 1) old := e2
  show wpAny _ _ (setField (.ref e) 4 .none >>= _) _ _ ⟨h2, g, d, tk + 1, os⟩
  refine wpAny_bind (wpAny_setField_rec e2 (by simp) fun h3 e3 s3 => ?_)
  have s3 : Heap.SameBut e h2 h3 := s3
  have e3 : IsEnum h3 e it ((i : Int) + 1) old := e3
  show wpAny _ _ (newTuple [.int i tk, u] >>= _) _ _ ⟨h3, g, d, tk + 1, os⟩
  refine wpAny_bind (wpAny_newTuple ?_)
  have e4 : IsEnum (h3.push { cls := .type "tuple", data := .seq #[.int i tk, u] }) e it ((i : Int) + 1) old := Heap.get?_push_of_some _ e3
  generalize hh4 : h3.push { cls := .type "tuple", data := .seq #[.int i tk, u] } = h4 at e4
  have hsz : h3.objs.size = hp.objs.size := by rw [s3.1, s2.1, s1.1]
  have hel : e < hp.objs.size := Heap.lt_size he
  have t4 : h4.get? hp.objs.size = some { cls := .type "tuple", data := .seq #[.int i tk, u] } := by
    rw [← hh4, ← hsz]
    exact Heap.get?_push_size _ rfl
  have z4 : h4.objs.size = hp.objs.size + 1 := by rw [← hh4, Heap.size_push, hsz]
  have k4 : ∀ b o, b ≠ e → b ≠ it → hp.get? b = some o → h4.get? b = some o := fun b o n1 n2 q => by
    rw [← hh4]
    exact Heap.get?_push_of_some _ (s3.extBut b o n1 (s2.extBut b o n1 (s1.extBut b o n2 q)))
  have kit : ∀ o, h1.get? it = some o → h4.get? it = some o := fun o q => by
    rw [← hh4]
    exact Heap.get?_push_of_some _ (s3.extBut it o (Ne.symm hne) (s2.extBut it o (Ne.symm hne) q))
  show wpAny _ _ (Builtin.SmallTypes.ownedTupleIsFree (.ref e) >>= _) _ _ ⟨h4, g, d, tk + 1, os⟩
  rw [hsz]
  refine wpAny_bind ?_
  unfold Builtin.SmallTypes.ownedTupleIsFree
  refine wpAny_bind (wpAny_field e4 rfl (x := .none) rfl (wpAny_pure ?_))
  simp only [if_true]
  refine wpAny_bind (wpAny_rule (wpAny_bind (wpAny_field e4 rfl (x := old) rfl (wpAny_bind (wpAny_setField_rec e4 (by simp) fun h5 e5 s5 => ?_)))))
  have s5 : Heap.SameBut e h4 h5 := s5
  have e5 : IsEnum h5 e it ((i : Int) + 1) u := e5
  show wpAny _ _ (Builtin.SmallTypes.ownedTupleHandOut (.ref e) (.ref hp.objs.size) >>= _) _ _ ⟨h5, g, d, tk + 1, os⟩
  refine wpAny_bind ?_
  unfold Builtin.SmallTypes.ownedTupleHandOut
  refine wpAny_bind (wpAny_setField_rec e5 (by simp) fun h6 e6 s6 => ?_)
  have s6 : Heap.SameBut e h5 h6 := s6
  have e6 : IsEnumOut h6 e it ((i : Int) + 1) u hp.objs.size := e6
  refine wpAny_setField_rec e6 (by simp) fun h7 e7 s7 => ?_
  have s7 : Heap.SameBut e h6 h7 := s7
  have up : ∀ b o, b ≠ e → h4.get? b = some o → h7.get? b = some o := fun b o n q => s7.extBut b o n (s6.extBut b o n (s5.extBut b o n q))
  exact wpAny_bind (wpAny_letGo (wpAny_pure ⟨_, rfl, wpAny_pure (hQ u h7 tk _ hu e7 (fT h1 h7 hT1 fun b hb o q => by
    obtain rfl : b = it := by simpa using hb
    exact up b o (Ne.symm hne) (kit o q)) (up _ _ (Nat.ne_of_gt hel) t4) (by rw [s7.1, s6.1, s5.1, z4]) fun b o n1 n2 q => up b o n1 (k4 b o n1 n2 q))⟩))
theorem enum_done (hA : A.handled = none) (he : IsEnum s.heap e it i old) (hT : T s.heap) (hs : src s.heap) (nx : NxDone P w it T src) {Q : Option Value → Shared → Prop} (hQ : ∀ h', Heap.ExtBut it s.heap h' → Q none { s with heap := h' }) : wpAny (model P w) A (pyNext (.ref e)) Q E s := by
  have hTy : s.TypeIs (.ref e) "enumerate" := ⟨_, he, rfl⟩
  unfold pyNext
  refine wpAny_bind (wpAny_attempt (wpAny_callSpecial?_slot (name := Str.ofString "__next__") hTy F.slot_enumerate_next (wpAny_call_entry F.slot_enumerate_next hTy F.entry_enumerate_next ?_ (F.args_enumerate_next_1 _))))
  show wpAny _ _ (field (.ref e) 2 >>= _) _ _ _
  refine wpAny_bind (wpAny_field he rfl (x := .ref it) rfl (wpAny_bind (nx _ _ hA hT hs fun h' x k q => ?_)))
  obtain ⟨o, ho, hc⟩ := q
  exact wpAny_bind (wpAny_isInstance (T := "StopIteration") (b := true) ⟨o, ho, hc⟩ isSubtype_stop (wpAny_pure (hQ _ k)))
end

/-! ### an inner iterator over what L2 tracks -/
structure Inr (P : Program) (w : World) (K : PySem.W.Frag) (it : Addr) (S : Nat → Heap → Prop) (J : It) : Prop where
  obj : ∀ i h, S i h → ∃ o, h.get? it = some o ∧ ∀ v, o.data ≠ .cell v
  frame : ∀ i, Hangs [it] (S i)
  item : ∀ (X : Cx), X.prog = P → X.w = w → X.K = K → ∀ (i : Nat) (pins : List (Addr × Obj)) (s : Shared) (σ : L2.St) (H : Hp), Inv X pins σ H s → J.go i H → ∃ (srcs : List Addr) (src : Heap → Prop) (x : V), J.yld i H x H ∧ src s.heap ∧ Hangs srcs src ∧ (∀ b, FpOk X pins H b → b ∉ srcs) ∧ NxItem P w it (S i) (S (i + 1)) src (RelV x)
  done : ∀ (X : Cx), X.prog = P → X.w = w → X.K = K → ∀ (i : Nat) (pins : List (Addr × Obj)) (s : Shared) (σ : L2.St) (H : Hp), Inv X pins σ H s → J.stop i H → ∃ (srcs : List Addr) (src : Heap → Prop), src s.heap ∧ Hangs srcs src ∧ (∀ b, FpOk X pins H b → b ∉ srcs) ∧ NxDone P w it (S i) src
theorem fp_off {X : Cx} {pins : List (Addr × Obj)} {σ : L2.St} {H : Hp} {s : Shared} (I : Inv X pins σ H s) {a b : Addr} (hf : FpOk X pins H b) (h : (∃ o, H a = some o) ∨ ∃ o, X.K.lookup a = some o) : b ≠ a := by
  intro z
  subst z
  rcases h with ⟨o, h⟩ | ⟨o, h⟩
  · rw [hf.1] at h; cases h
  · have h0 : X.base.get? b = some o := I.ok.mod.kin b o h
    rcases hf.2.2.2.1 with q | q
    · exact I.ok.noex b o h0 q
    · exact absurd (Nat.lt_of_lt_of_le (Heap.lt_size (I.ok.bs b o h0).1) q) (Nat.lt_irrefl _)
end Bk

set_option maxHeartbeats 4000000
namespace Bk
open PySem PySem.Spec PyProof.Rows L2

section
variable {P : Program} {w : World} {K : PySem.W.Frag} {it a : Addr}
theorem hangs_list {l : Addr} {xs : Array Value} : Hangs [l] (fun h => h.IsList l xs) := fun h h' q k => by
  obtain ⟨o, ho, r⟩ := q
  exact ⟨o, k l (by simp) o ho, r⟩
theorem hangs_tup {l : Addr} {xs : Array Value} : Hangs [l] (fun h => h.IsTuple l xs) := fun h h' q k => by
  obtain ⟨o, ho, r⟩ := q
  exact ⟨o, k l (by simp) o ho, r⟩
theorem rd_some {H : Hp} {a : Addr} {u : HO} (h : Rd H a u) : ∃ o, H a = some o := by
  rcases h with h | ⟨o, h⟩ <;> exact ⟨_, h⟩
theorem inr_list : Inr P w K it (fun i h => h.IsListIter it a i) (Itl K a) where
  obj := fun i h q => by
    obtain ⟨o, ho, hc, hd⟩ := q
    exact ⟨o, ho, fun v z => by rw [hd] at z; cases z⟩
  frame := fun i h h' q k => q.at fun o e => k it (by simp) o e
  item := fun X hP hw hK i pins s σ H I hg => by
    subst hP hw hK
    obtain ⟨xs, x, hq, hx⟩ := hg
    obtain ⟨its, rv, p, hz⟩ := I.list hq
    obtain ⟨u, hu, ru⟩ := rv.get hx
    refine ⟨[a], fun h => h.IsList a its.toArray, x, ⟨rfl, fun ys hy => by rw [I.list_inj hy hq]; exact hx⟩, p.isList, hangs_list, fun b hb hm => ?_, fun s Q hT hs q => wpAny_nextOf_list_item hT hs (x := u) (by simpa using hu) fun h' h1 h2 => q u h' s.toks ru h1 h2⟩
    obtain rfl : b = a := by simpa using hm
    refine fp_off I hb ?_ rfl
    rcases hq with h | ⟨o, _, _, h, _⟩
    · exact .inl (rd_some h)
    · exact .inr ⟨o, h⟩
  done := fun X hP hw hK i pins s σ H I hg => by
    subst hP hw hK
    obtain ⟨xs, hq, hx⟩ := hg
    obtain ⟨its, rv, p, hz⟩ := I.list hq
    have hl := rv.length
    refine ⟨[a], fun h => h.IsList a its.toArray, p.isList, hangs_list, fun b hb hm => ?_, fun s Q hA hT hs q => wpAny_nextOf_list_end hA hT hs (by simp; omega) q⟩
    obtain rfl : b = a := by simpa using hm
    refine fp_off I hb ?_ rfl
    rcases hq with h | ⟨o, _, _, h, _⟩
    · exact .inl (rd_some h)
    · exact .inr ⟨o, h⟩
theorem inr_tup : Inr P w K it (fun i h => h.IsTupleIter it a i) (Itt K a) where
  obj := fun i h q => by
    obtain ⟨o, ho, hc, hd⟩ := q
    exact ⟨o, ho, fun v z => by rw [hd] at z; cases z⟩
  frame := fun i h h' q k => q.at fun o e => k it (by simp) o e
  item := fun X hP hw hK i pins s σ H I hg => by
    subst hP hw hK
    obtain ⟨xs, x, hq, hx⟩ := hg
    obtain ⟨its, rv, p, hz⟩ := I.tuple hq
    obtain ⟨u, hu, ru⟩ := rv.get hx
    refine ⟨[a], fun h => h.IsTuple a its.toArray, x, ⟨rfl, fun ys hy => by rw [I.tuple_inj hy hq]; exact hx⟩, p, hangs_tup, fun b hb hm => ?_, fun s Q hT hs q => wpAny_nextOf_tuple_item hT hs (x := u) (by simpa using hu) fun h' h1 h2 => q u h' s.toks ru h1 h2⟩
    obtain rfl : b = a := by simpa using hm
    refine fp_off I hb ?_ rfl
    rcases hq with h | ⟨o, _, _, h, _⟩
    · exact .inl (rd_some h)
    · exact .inr ⟨o, h⟩
  done := fun X hP hw hK i pins s σ H I hg => by
    subst hP hw hK
    obtain ⟨xs, hq, hx⟩ := hg
    obtain ⟨its, rv, p, hz⟩ := I.tuple hq
    have hl := rv.length
    refine ⟨[a], fun h => h.IsTuple a its.toArray, p, hangs_tup, fun b hb hm => ?_, fun s Q hA hT hs q => wpAny_nextOf_tuple_end hA hT hs (by simp; omega) q⟩
    obtain rfl : b = a := by simpa using hm
    refine fp_off I hb ?_ rfl
    rcases hq with h | ⟨o, _, _, h, _⟩
    · exact .inl (rd_some h)
    · exact .inr ⟨o, h⟩
theorem inr_str {z : Str} {t : Tok} {ty : String} (hty : ty = "str_ascii_iterator" ∨ ty = "str_iterator") : Inr P w K it (fun i h => h.IsStrIter it ty z t i) (Its z) where
  obj := fun i h q => by
    obtain ⟨o, ho, hc, hd⟩ := q
    exact ⟨o, ho, fun v z => by rw [hd] at z; cases z⟩
  frame := fun i h h' q k => by
    obtain ⟨o, ho, r⟩ := q
    exact ⟨o, k it (by simp) o ho, r⟩
  item := fun X hP hw hK i pins s σ H I hg => by
    subst hP hw hK
    have hg : i < z.cps.size := hg
    have hc : z.cps[i]? = some z.cps[i] := Array.getElem?_eq_getElem hg
    refine ⟨[], fun _ => True, .str ⟨#[z.cps[i]]⟩, ⟨rfl, _, hc, rfl⟩, trivial, fun _ _ _ _ => trivial, fun _ _ => List.not_mem_nil, fun s Q hT _ q => ?_⟩
    rcases hty with rfl | rfl
    · exact wpAny_nextOf_ascii_item hT hc fun h' h1 h2 => q _ h' _ ⟨_, rfl⟩ h1 h2
    · exact wpAny_nextOf_wide_item hT hc fun h' h1 h2 => q _ h' _ ⟨_, rfl⟩ h1 h2
  done := fun X hP hw hK i pins s σ H I hg => by
    subst hP hw hK
    have hg : z.cps.size ≤ i := hg
    have hc : z.cps[i]? = none := Array.getElem?_eq_none hg
    refine ⟨[], fun _ => True, trivial, fun _ _ _ _ => trivial, fun _ _ => List.not_mem_nil, fun s Q hA hT _ q => ?_⟩
    rcases hty with rfl | rfl
    · exact wpAny_nextOf_ascii_end hA hT hc q
    · exact wpAny_nextOf_wide_end hA hT hc q
end

/-! ### enumerate -/
def ItEn (J : It) : It := ⟨J.go, fun i H v H' => ∃ T x, v = .ref T ∧ H T = none ∧ H' = upd H T (.tup [.int (i : Nat), x]) ∧ J.yld i H x H, J.stop⟩
theorem turn_en {P : Program} {w : World} {K : PySem.W.Frag} {elts : List Expr} {kk : Nat} {tpos : Pos} {e it : Addr} {S : Nat → Heap → Prop} {J : It} (R : Inr P w K it S J) :
    Turn P w K (.Tuple elts kk tpos) (ItEn J) [e, it] e (fun i h => (∃ old, IsEnum h e it ((i : Nat) : Int) old) ∧ S i h ∧ e ≠ it) where
  mem := by simp
  obj := fun i h st b hb => by
    obtain ⟨⟨old, he⟩, hs, _⟩ := st
    rcases (show b = e ∨ b = it by simpa using hb) with rfl | rfl
    · exact ⟨_, he, fun v q => nomatch q⟩
    · exact R.obj i h hs
  keep := fun i h h' st k => by
    obtain ⟨⟨old, he⟩, hs, ne⟩ := st
    exact ⟨⟨old, k e (by simp) _ he⟩, R.frame i h h' hs fun b hb o q => k b (by simp at hb; simp [hb]) o q, ne⟩
  item := by
    intro X hP hw hK hc i pins s σ H E I hf st hg
    obtain ⟨⟨old, he⟩, hs, hne⟩ := st
    obtain ⟨srcs, src, x, hy, hsrc, hh, hoff, nx⟩ := R.item X hP hw hK i pins s σ H I hg
    subst hP hw hK
    have hel : e < s.heap.objs.size := Heap.lt_size he
    have hil : it < s.heap.objs.size := by
      obtain ⟨o, q, _⟩ := R.obj i _ hs
      exact Heap.lt_size q
    refine enum_item he hs hsrc nx (R.frame (i + 1)) hne fun u h' tk tk' ru ho hS hT hsz hk => ?_
    refine ⟨_, rfl, wpAny_letOwnedTupleGo_enum (s := { s with heap := h', toks := tk' }) ho fun h'' he' sb => ?_⟩
    have hT2 : h''.get? s.heap.objs.size = some { cls := .type "tuple", data := .seq #[.int i tk, u] } := (sb.2 _ (Nat.ne_of_gt hel)).trans hT
    have new : ObjOk X.prog X.w (upd H s.heap.objs.size (.tup [.int (i : Nat), x])) h'' s.heap.objs.size (.tup [.int (i : Nat), x]) := ⟨by show 2 ≤ sizeLine; decide, [.int i tk, u], .cons ⟨_, rfl⟩ (.cons ru .nil), ⟨_, hT2, rfl, _, rfl⟩⟩
    have I1 : Inv X pins σ (upd H s.heap.objs.size (.tup [.int (i : Nat), x])) { s with heap := h'', toks := tk' } :=
      I.turnedNew (ch := [e, it]) (fun b ob hb q => (sb.2 b (fun z => hb (by simp [z]))).trans (hk b ob (fun z => hb (by simp [z])) (fun z => hb (by simp [z])) q)) hf (Nat.le_refl _) new
    refine ⟨.ref s.heap.objs.size, _, I1, rfl, ⟨_, x, rfl, I.hok.fresh (Nat.le_refl _), rfl, hy⟩, ⟨⟨u, ?_⟩, R.frame (i + 1) h' h'' hS fun b hb o q => ?_, hne⟩, fun b hb => ?_⟩
    · have e1 : ((i + 1 : Nat) : Int) = (i : Int) + 1 := by omega
      rw [e1]; exact he'
    · obtain rfl : b = it := by simpa using hb
      exact (sb.2 b (Ne.symm hne)).trans q
    · have hb' : b < s.heap.objs.size := by
        rcases (show b = e ∨ b = it by simpa using hb) with rfl | rfl
        · exact hel
        · exact hil
      rw [upd_ne (Nat.ne_of_lt hb')]
      exact (hf b hb).1
  done := by
    intro X hP hw hK hc i pins s σ H E I hf st hg
    obtain ⟨⟨old, he⟩, hs, hne⟩ := st
    obtain ⟨srcs, src, hsrc, hh, hoff, nx⟩ := R.done X hP hw hK i pins s σ H I hg
    subst hP hw hK
    obtain ⟨f0, f1, f2, f3, f4, f5⟩ := hf it (by simp)
    exact enum_done (I.ok.hd hc) he hs hsrc nx fun h' eb => ⟨rfl, I.turned (t' := s.toks) (fun b o hb q => eb b o hb q) f0 f1 f3 f4 f5⟩
  self := fun A i s Q E st h => by
    obtain ⟨⟨_, he⟩, _⟩ := st
    exact wpAny_pyIter_enum he h
section
variable {X : Cx} {F : Fm} {E : EnvB} {a e tg iter : Expr} {Θ : EnvB → List PD → Prop} {pos : Pos}
def iEn (K : PySem.W.Frag) (ta : TA) : TI := fun σ H R => ta σ H fun vs H1 => ∃ v, vs = [v] ∧ ((∃ l, v = .ref l ∧ (∃ xs, SqL K H1 l xs) ∧ R (ItEn (Itl K l)) H1) ∨ (∃ l, v = .ref l ∧ (∃ xs, SqT K H1 l xs) ∧ R (ItEn (Itt K l)) H1) ∨ ∃ z, v = .str z ∧ R (ItEn (Its z)) H1)
theorem pi_en {ta : TA} {p tpos : Pos} {elts : List Expr} {kk : Nat} (hg : Gl X "enumerate") (hm : X.mg "enumerate" = none) (ha : PA X [e] ta) (hs : starEach [e] X.env = [(false, eval e X.env)] := by rfl) : PI X (.Tuple elts kk tpos) (.Call (.Name "enumerate" p) [e] [] pos) (iEn X.K ta) := by
  refine ⟨fun pins s σ H R I h => Call_ (ld_blt I hg hm boot_enumerate (PyProof.Rows.callWith_type1 (thn (ha.run pos pins s σ H _ I h) fun us s1 ⟨vs, H1, I1, r1, q1⟩ => ?_) hs rfl))⟩
  obtain ⟨v, rfl, q1⟩ := q1
  obtain ⟨u, rfl, rx⟩ := vals1 r1
  have fr : ∀ b, b ∈ [s1.heap.objs.size + 1, s1.heap.objs.size] → FpOk X pins H1 b := fun b hb => by
    have hle : s1.heap.objs.size ≤ b := by
      rcases (show b = s1.heap.objs.size + 1 ∨ b = s1.heap.objs.size by simpa using hb) with z | z <;> omega
    exact I1.fpOk hle (I1.hok.fresh hle)
  have fin : ∀ {io : Obj} {pre : Shared → Prop} {S : Nat → Heap → Prop} {J : It}, MakesIt u io pre → io.isFreed = false → pre s1 → (∀ h, h.get? s1.heap.objs.size = some io → S 0 h) → Inr X.prog X.w X.K s1.heap.objs.size S J → R (ItEn J) H1 →
      wpAny (model X.prog X.w) X.A (call (.type "enumerate") [u]) (fun v s2 => wpAny (model X.prog X.w) X.A (pyIter v) (PIE X pins σ (.Tuple elts kk tpos) R) X.xe s2) X.xe s1 := fun {io pre S J} hI hf hp hS0 hR q => by
    refine call_enum hI hf hp fun h' he hi hk => wpAny_pyIter_enum he ?_
    have I2 : Inv X pins σ H1 { s1 with heap := h' } := I1.kept (t' := s1.toks) hk
    exact ⟨_, [s1.heap.objs.size + 1, s1.heap.objs.size], _, _, H1, rfl, I2, turn_en hR, ⟨⟨_, he⟩, hS0 h' hi, Nat.succ_ne_self _⟩, fr, q⟩
  rcases q1 with ⟨l, rfl, ⟨xs, hq⟩, q⟩ | ⟨l, rfl, ⟨xs, hq⟩, q⟩ | ⟨z, rfl, q⟩
  · cases rx
    obtain ⟨its, rv, pl, hz⟩ := I1.list hq
    exact fin mk_list rfl pl.isList (fun h q => ⟨_, q, rfl, rfl⟩) inr_list q
  · cases rx
    obtain ⟨its, rv, pl, hz⟩ := I1.tuple hq
    exact fin mk_tuple rfl (show s1.heap.IsTuple l its.toArray from pl) (fun h q => ⟨_, q, rfl, rfl⟩) inr_tup q
  · obtain ⟨t, rfl⟩ := rx
    cases ha : z.cps.all (· < 128)
    · exact fin (mk_wide ha) rfl trivial (fun h q => ⟨_, q, rfl, rfl⟩) (inr_str (.inr rfl)) q
    · exact fin (mk_ascii ha) rfl trivial (fun h q => ⟨_, q, rfl, rfl⟩) (inr_str (.inl rfl)) q
end
end Bk

set_option maxHeartbeats 4000000
namespace Bk
open PySem PySem.Spec PyProof.Rows L2

/-! ### a built-in class called with keywords -/
section
variable {prog : Program} {w : World} {A : Around} {E : Value → Shared → Prop} {s : Shared}
theorem callTypeK {T newId : String} {Bn Bi : Builtin} {args : List Value} {kw : List (Str × Value)} {S : PySem.Spec} {Q : Value → Shared → Prop} (ft : TypeCalled T newId "object.__init__")
    (hct : checkTypeCall T ⟨args, kw⟩ = pure ()) (hcn : checkBuiltinCall newId ⟨.type T :: args, kw⟩ = pure ()) (entryN : entryFor table newId = some Bn) (entryI : entryFor table "object.__init__" = some Bi) (g : Meets (Bn ⟨.type T :: args, kw⟩) S)
    (hok : ∀ obj, argsOk "object.__init__" ⟨obj :: args, kw⟩) (gi : ∀ obj, Meets (Bi ⟨obj :: args, kw⟩) (fun _ R s => s.TypeIs obj T ∧ R (.ok (.ret .none)) s))
    (h : S A.in1 (wants (fun obj s₁ => s₁.TypeIs obj T ∧ Q obj s₁) E) s) : wpAny (model prog w) A (call (.type T) args kw) Q E s := by
  obtain ⟨c, tl, hmro⟩ := ft.mro
  have hmade := ft.made
  have hsub := ft.sub
  have h1 := ft.notType
  have h2 := ft.canCreate
  refine wpAny_call (codeAny_of_tree (show wpAny _ _ (callAny (.type T) _) _ _ _ from ?_))
  refine wpAny_pure ⟨Code.quiet_builtin _ (by decide +kernel), codeAny_builtin F.entry_type_call (by
    rw [Around.under_plain (weight_type_call_type T args kw) (units_type_call_type T args kw)]
    repeat (any_goals (first | assumption | wp_step))
    refine codeAny_mono (codeAny_call_builtin ft.plain entryN (wpAny_of_eq hcn (g prog w A.in1 _ s h))) fun r s₁ hr => ?_
    match r, hr with
    | .error e, hr => exact hr
    | .ok (.ret obj), hr =>
      obtain ⟨hT, hq0⟩ := hr
      have hli := ft.init.lookup
      have hbi := ft.init.bind obj
      repeat (any_goals (first | assumption | wp_step))
      refine codeAny_mono (codeAny_call_builtin ft.init.plain entryI (ft.init.check _ _ _ _ _ _ _ _ hT (hok obj) (gi obj prog w A.in1 (wants (fun r s₂ => r = .none ∧ Q obj s₂) E) s₁ ⟨hT, rfl, hq0⟩))) fun r₂ s₂ hr₂ => ?_
      match r₂, hr₂ with
      | .error e, hr₂ => exact hr₂
      | .ok (.ret r), hr₂ =>
        obtain ⟨rfl, hq⟩ := hr₂
        repeat (any_goals (first | assumption | wp_step)))⟩
end
theorem zip_ct (a b : Value) (f : Bool) : checkTypeCall "zip" ⟨[a, b], [(Str.ofString "strict", .bool f)]⟩ = pure () := by cases f <;> kernel_rfl
theorem zip_cn (a b : Value) (f : Bool) : checkBuiltinCall "zip.__new__" ⟨[.type "zip", a, b], [(Str.ofString "strict", .bool f)]⟩ = pure () := by cases f <;> kernel_rfl
theorem zip_ok (o a b : Value) (f : Bool) : argsOk "object.__init__" ⟨[o, a, b], [(Str.ofString "strict", .bool f)]⟩ := by
  unfold argsOk
  rw [signature?_of (id := "object.__init__") (n := ['_', '_', 't', 'i', 'n', 'i', '_', '_']) (o := ['t', 'c', 'e', 'j', 'b', 'o']) (by kernel_rfl) F.owner_object]
  cases f <;> kernel_rfl
end Bk

set_option maxHeartbeats 8000000
namespace Bk
open PySem PySem.Spec PyProof.Rows L2

theorem obj_init_kw {T newId : String} {self a b : Value} {f : Bool} (hl : typeLookup (.type T) "__init__" = pure (some (.builtin "object.__init__"))) (hm : Bind.madeBy (.type T) = pure (some newId)) (hne : (some newId != some "object.__new__") = true) :
    Meets (Builtin.«object.__init__» ⟨[self, a, b], [(Str.ofString "strict", .bool f)]⟩) (fun _ R s => s.TypeIs self T ∧ R (.ok (.ret .none)) s) := Meets.of_wp fun prog w A R s hs => by
  obtain ⟨hT, hq⟩ := hs
  repeat (any_goals (first | assumption | wp_step))
  exact ⟨_, rfl, hq⟩
/-- the zip object as it is made -/
def zipO (f : Bool) (TI TO : Addr) (f0 : Value) : Obj := { cls := .type "zip", dict := none, data := .fields #[f0, .bool false, .bool f, .ref TI, .ref TO], slots := #[] }
def zpH (f : Bool) (h : Heap) (o1 o2 : Obj) : Heap := ((((h.push o1).push o2).push { cls := .type "tuple", data := .seq #[.ref h.objs.size, .ref (h.push o1).objs.size] }).push { cls := .type "tuple", data := .seq #[.none, .none] }).push (zipO f ((h.push o1).push o2).objs.size (((h.push o1).push o2).push { cls := .type "tuple", data := .seq #[.ref h.objs.size, .ref (h.push o1).objs.size] }).objs.size .none)
theorem meets_zp_kw (f : Bool) (v1 v2 : Value) (o1 o2 : Obj) (p1 p2 : Shared → Prop) (h1 : MakesIt v1 o1 p1) (h2 : MakesIt v2 o2 p2) (hp : ∀ s, p2 s → p2 { s with heap := s.heap.push o1 }) :
    Meets (Builtin.«zip.__new__» ⟨[.type "zip", v1, v2], [(Str.ofString "strict", .bool f)]⟩) (fun _ R s => p1 s ∧ p2 s ∧ R (.ok (.ret (.ref (s.heap.objs.size + 4)))) { s with heap := zpH f s.heap o1 o2 }) :=
  .of_wp fun prog w A R s h => by
    obtain ⟨hh, g, d, tk, os⟩ := s
    obtain ⟨a1, a2, h⟩ := h
    have hsub := sub_zip
    have hJ1 : ∀ {A : Around} {E : Value → Shared → Prop} (Q : Value → Shared → Prop), Q (.ref hh.objs.size) ⟨hh.push o1, g, d, tk, os⟩ → wpAny (model prog w) A (pyIter v1) Q E ⟨hh, g, d, tk, os⟩ := fun Q q => h1 _ Q a1 q
    have hJ2 : ∀ {A : Around} {E : Value → Shared → Prop} (Q : Value → Shared → Prop), Q (.ref (hh.push o1).objs.size) ⟨(hh.push o1).push o2, g, d, tk, os⟩ → wpAny (model prog w) A (pyIter v2) Q E ⟨hh.push o1, g, d, tk, os⟩ := fun Q q => h2 _ Q (hp _ a2) q
    have z4 : ((((hh.push o1).push o2).push { cls := .type "tuple", data := .seq #[.ref hh.objs.size, .ref (hh.push o1).objs.size] }).push { cls := .type "tuple", data := .seq #[.none, .none] }).objs.size = hh.objs.size + 4 := by rw [Heap.size_push, Heap.size_push, Heap.size_push, Heap.size_push]
    rw [← z4] at h
    cases f
    · wp_walk using hJ1, hJ2
      exact ⟨_, rfl, h⟩
    · wp_walk using hJ1, hJ2
      exact ⟨_, rfl, h⟩
theorem meets_zp (v1 v2 : Value) (o1 o2 : Obj) (p1 p2 : Shared → Prop) (h1 : MakesIt v1 o1 p1) (h2 : MakesIt v2 o2 p2) (hp : ∀ s, p2 s → p2 { s with heap := s.heap.push o1 }) :
    Meets (Builtin.«zip.__new__» ⟨[.type "zip", v1, v2], []⟩) (fun _ R s => p1 s ∧ p2 s ∧ R (.ok (.ret (.ref (s.heap.objs.size + 4)))) { s with heap := zpH false s.heap o1 o2 }) :=
  .of_wp fun prog w A R s h => by
    obtain ⟨hh, g, d, tk, os⟩ := s
    obtain ⟨a1, a2, h⟩ := h
    have hsub := sub_zip
    have hJ1 : ∀ {A : Around} {E : Value → Shared → Prop} (Q : Value → Shared → Prop), Q (.ref hh.objs.size) ⟨hh.push o1, g, d, tk, os⟩ → wpAny (model prog w) A (pyIter v1) Q E ⟨hh, g, d, tk, os⟩ := fun Q q => h1 _ Q a1 q
    have hJ2 : ∀ {A : Around} {E : Value → Shared → Prop} (Q : Value → Shared → Prop), Q (.ref (hh.push o1).objs.size) ⟨(hh.push o1).push o2, g, d, tk, os⟩ → wpAny (model prog w) A (pyIter v2) Q E ⟨hh.push o1, g, d, tk, os⟩ := fun Q q => h2 _ Q (hp _ a2) q
    have z4 : ((((hh.push o1).push o2).push { cls := .type "tuple", data := .seq #[.ref hh.objs.size, .ref (hh.push o1).objs.size] }).push { cls := .type "tuple", data := .seq #[.none, .none] }).objs.size = hh.objs.size + 4 := by rw [Heap.size_push, Heap.size_push, Heap.size_push, Heap.size_push]
    rw [← z4] at h
    wp_walk using hJ1, hJ2
    exact ⟨_, rfl, h⟩
abbrev IsZp (f : Bool) (h : Heap) (z TI TO : Addr) (f0 : Value) : Prop := h.get? z = some (zipO f TI TO f0)
theorem zpH_facts {f : Bool} {h : Heap} {o1 o2 : Obj} (f1 : o1.isFreed = false) (f2 : o2.isFreed = false) : IsZp f (zpH f h o1 o2) (h.objs.size + 4) (h.objs.size + 2) (h.objs.size + 3) .none ∧ IsPair (zpH f h o1 o2) (h.objs.size + 2) (.ref h.objs.size) (.ref (h.objs.size + 1)) ∧ IsPair (zpH f h o1 o2) (h.objs.size + 3) .none .none ∧ (zpH f h o1 o2).get? h.objs.size = some o1 ∧ (zpH f h o1 o2).get? (h.objs.size + 1) = some o2 ∧ (∀ c o, h.get? c = some o → (zpH f h o1 o2).get? c = some o) := by
  have z1 : (h.push o1).objs.size = h.objs.size + 1 := Heap.size_push ..
  have z2 : ((h.push o1).push o2).objs.size = h.objs.size + 2 := by rw [Heap.size_push, z1]
  have z3 : (((h.push o1).push o2).push { cls := .type "tuple", data := .seq #[.ref h.objs.size, .ref (h.push o1).objs.size] }).objs.size = h.objs.size + 3 := by rw [Heap.size_push, z2]
  have z4 : ((((h.push o1).push o2).push { cls := .type "tuple", data := .seq #[.ref h.objs.size, .ref (h.push o1).objs.size] }).push { cls := .type "tuple", data := .seq #[.none, .none] }).objs.size = h.objs.size + 4 := by rw [Heap.size_push, z3]
  refine ⟨?_, ?_, ?_, ?_, ?_, fun c o q => ?_⟩
  · show (zpH f h o1 o2).get? (h.objs.size + 4) = some (zipO f (h.objs.size + 2) (h.objs.size + 3) .none)
    unfold zpH
    rw [z3, z2, ← z4]
    exact Heap.get?_push_size _ rfl
  · show (zpH f h o1 o2).get? (h.objs.size + 2) = _
    unfold zpH
    rw [← z2]
    refine Heap.get?_push_of_some _ (Heap.get?_push_of_some _ ?_)
    rw [← z1]
    exact Heap.get?_push_size _ rfl
  · show (zpH f h o1 o2).get? (h.objs.size + 3) = _
    unfold zpH
    rw [← z3]
    exact Heap.get?_push_of_some _ (Heap.get?_push_size _ rfl)
  · exact Heap.get?_push_of_some _ (Heap.get?_push_of_some _ (Heap.get?_push_of_some _ (Heap.get?_push_of_some _ (Heap.get?_push_size _ f1))))
  · unfold zpH
    rw [← z1]
    exact Heap.get?_push_of_some _ (Heap.get?_push_of_some _ (Heap.get?_push_of_some _ (Heap.get?_push_size _ f2)))
  · exact Heap.get?_push_of_some _ (Heap.get?_push_of_some _ (Heap.get?_push_of_some _ (Heap.get?_push_of_some _ (Heap.get?_push_of_some _ q))))
section
variable {P : Program} {w : World} {A : Around} {E : Value → Shared → Prop} {s : Shared}
def kwOf : Option Bool → List (Str × Value)
  | some f => [(Str.ofString "strict", .bool f)]
  | none => []
/-- zip(a, b), zip(a, b, strict=f) -/
theorem call_zp {v1 v2 : Value} {o1 o2 : Obj} {p1 p2 : Shared → Prop} (kw : Option Bool) (h1 : MakesIt v1 o1 p1) (h2 : MakesIt v2 o2 p2) (hp : ∀ s, p2 s → p2 { s with heap := s.heap.push o1 }) (a1 : p1 s) (a2 : p2 s) {Q : Value → Shared → Prop}
    (h : Q (.ref (s.heap.objs.size + 4)) { s with heap := zpH (kw.getD false) s.heap o1 o2 }) (f1 : o1.isFreed = false) (f2 : o2.isFreed = false) : wpAny (model P w) A (call (.type "zip") [v1, v2] (kwOf kw)) Q E s := by
  have hT : ∀ f, Shared.TypeIs { s with heap := zpH f s.heap o1 o2 } (.ref (s.heap.objs.size + 4)) "zip" := fun f => ⟨_, (zpH_facts f1 f2).1, rfl⟩
  cases kw with
  | none =>
    have hm := meets_zp v1 v2 o1 o2 p1 p2 h1 h2 hp
    exact callType_new F.called_zip (by decide) (F.typeCall_zip_2 _ _) (F.newCall_zip_2 _ _) (fun obj => F.args_object_init_3 obj _ _) F.entry_zip_new hm ⟨a1, a2, hT false, h⟩
  | some f =>
    have hm := meets_zp_kw f v1 v2 o1 o2 p1 p2 h1 h2 hp
    exact callTypeK F.called_zip (zip_ct _ _ f) (zip_cn _ _ f) F.entry_zip_new F.entry_object_init hm (fun obj => zip_ok obj _ _ f) (fun obj => obj_init_kw F.called_zip.init.lookup F.called_zip.made (by decide)) ⟨a1, a2, hT f, h⟩
end
end Bk

set_option maxHeartbeats 8000000
namespace Bk
open PySem PySem.Spec PyProof.Rows L2

section
variable {P : Program} {w : World} {A : Around} {E : Value → Shared → Prop} {s : Shared} {it : Addr} {T T' src : Heap → Prop} {val : Value → Prop}
theorem nxe_item (nx : NxItem P w it T T' src val) (hT : T s.heap) (hs : src s.heap) {Q : Option Value → Shared → Prop} (q : ∀ u h' tk, val u → T' h' → Heap.SameBut it s.heap h' → Q (some u) { s with heap := h', toks := tk }) : wpAny (model P w) A (Builtin.SmallTypes.nextOrEnd (.ref it)) Q E s := by
  unfold Builtin.SmallTypes.nextOrEnd
  exact wpAny_bind (wpAny_attempt (nx s _ hT hs fun u h' tk a b c => wpAny_pure (q u h' tk a b c)))
theorem nxe_done (nx : NxDone P w it T src) (hA : A.handled = none) (hT : T s.heap) (hs : src s.heap) {Q : Option Value → Shared → Prop} (q : ∀ h', Heap.ExtBut it s.heap h' → Q none { s with heap := h' }) : wpAny (model P w) A (Builtin.SmallTypes.nextOrEnd (.ref it)) Q E s := by
  unfold Builtin.SmallTypes.nextOrEnd
  refine wpAny_bind (wpAny_attempt (nx s _ hA hT hs fun h' e k ⟨o, ho, hc⟩ => ?_))
  exact wpAny_bind (wpAny_isInstance (T := "StopIteration") (b := true) ⟨o, ho, hc⟩ isSubtype_stop (wpAny_pure (q h' k)))
theorem stop_it {Q : Fin → Shared → Prop} (hA : A.handled = none) (hE : ∀ h' e, (∀ c o, s.heap.get? c = some o → h'.get? c = some o) → (∃ o, h'.get? e = some o ∧ o.cls = .type "StopIteration") → E (.ref e) { s with heap := h' }) : wpAny (model P w) A (Builtin.SmallTypes.stopIteration (α := Fin)) Q E s := by
  unfold Builtin.SmallTypes.stopIteration
  refine wpAny_bind ?_
  simp only [newExc, newTuple]
  refine wpAny_bind (wpAny_newObj_type ?_ (by size_fits))
  refine wpAny_bind (m := firstArgMember _ _) (wpAny_of_eq (a := Value.none) (by first | rfl | (simp only [firstArgMember]; rfl)) ?_)
  refine wpAny_newObj_type ?_ (by size_fits)
  simp only [raiseNew]
  refine wpAny_bind (wpAny_handled ?_)
  first | rw [show A.in1.handled = none from hA] | rw [hA]
  exact wpAny_bind (wpAny_pure (wpAny_throw (hE _ _ (fun c o q => Heap.get?_push_of_some _ (Heap.get?_push_of_some _ q)) ⟨_, Heap.get?_push_size _ rfl, rfl⟩)))
end

structure ZpApart (z TI TO i1 i2 : Addr) : Prop where
  TIz : TI ≠ z
  TOz : TO ≠ z
  i1z : i1 ≠ z
  i2z : i2 ≠ z
  TITO : TI ≠ TO
  TIi1 : TI ≠ i1
  TIi2 : TI ≠ i2
  TOi1 : TO ≠ i1
  TOi2 : TO ≠ i2
  i12 : i1 ≠ i2
section
variable {P : Program} {w : World} {A : Around} {E : Value → Shared → Prop} {s : Shared} {z TI TO i1 i2 : Addr} {T1 T1' T2 T2' src1 src2 : Heap → Prop} {val1 val2 : Value → Prop} {srcs1 srcs2 : List Addr} {a b : Value}
theorem setZ {f : Bool} {f0 v : Value} {h0 : s.heap.get? z = some (zipO f TI TO f0)} {Q : Unit → Shared → Prop} (hQ : ∀ h', IsZp f h' z TI TO v → Heap.SameBut z s.heap h' → Q () { s with heap := h' }) : wpAny (model P w) A (setField (.ref z) 0 v) Q E s :=
  wpAny_setField_rec h0 (by simp) fun h' hz hs => hQ h' hz hs
/-- one pair -/
theorem zp_item (f : Bool) (D : ZpApart z TI TO i1 i2) (hz : IsZp f s.heap z TI TO .none) (hTI : IsPair s.heap TI (.ref i1) (.ref i2)) (hTO : IsPair s.heap TO a b) (h1 : T1 s.heap) (h2 : T2 s.heap) (q1 : src1 s.heap) (q2 : src2 s.heap)
    (n1 : NxItem P w i1 T1 T1' src1 val1) (n2 : NxItem P w i2 T2 T2' src2 val2) (g1 : Hangs [i1] T1) (g1' : Hangs [i1] T1') (g2 : Hangs [i2] T2) (g2' : Hangs [i2] T2') (k1 : Hangs srcs1 src1) (k2 : Hangs srcs2 src2) (o1 : ∀ c ∈ srcs1, c ≠ z ∧ c ≠ TO ∧ c ≠ i1 ∧ c ≠ i2) (o2 : ∀ c ∈ srcs2, c ≠ z ∧ c ≠ TO ∧ c ≠ i1 ∧ c ≠ i2) {Q : Option Value → Shared → Prop}
    (hQ : ∀ x y h' tk, val1 x → val2 y → IsZp f h' z TI TO (rawInt s.heap.objs.size) → IsPair h' TO x y → T1' h' → T2' h' → IsPair h' s.heap.objs.size x y → h'.objs.size = s.heap.objs.size + 1 → (∀ c o, c ≠ z → c ≠ TO → c ≠ i1 → c ≠ i2 → s.heap.get? c = some o → h'.get? c = some o) → Q (some (.ref s.heap.objs.size)) { s with heap := h', toks := tk }) :
    wpAny (model P w) A (pyNext (.ref z)) Q E s := by
  have hT : s.TypeIs (.ref z) "zip" := ⟨_, hz, rfl⟩
  unfold pyNext
  refine wpAny_bind (wpAny_attempt (wpAny_callSpecial?_slot (name := Str.ofString "__next__") hT F.slot_zip_next (wpAny_call_entry F.slot_zip_next hT F.entry_zip_next ?_ (F.args_zip_next_1 _))))
  have e2 : (Value.bool f == Value.bool true) = f := by cases f <;> rfl
  show wpAny _ _ (field (.ref z) 2 >>= _) _ _ _
  refine wpAny_bind (wpAny_field hz rfl (x := .bool f) rfl ?_)
  show wpAny _ _ (field (.ref z) 3 >>= _) _ _ _
  refine wpAny_bind (wpAny_field hz rfl (x := .ref TI) rfl (wpAny_bind (wpAny_seqItems hTI rfl ?_)))
  show wpAny _ _ (Builtin.SmallTypes.ownedTupleIsFree (.ref z) >>= _) _ _ _
  unfold Builtin.SmallTypes.ownedTupleIsFree
  refine wpAny_bind (wpAny_bind (wpAny_field hz rfl (x := .none) rfl (wpAny_pure ?_)))
  simp only [if_true]
  refine wpAny_bind (wpAny_rule (wpAny_bind (wpAny_field hz rfl (x := .ref TO) rfl (wpAny_bind (setZ (h0 := hz) fun m1 z1 t1 => ?_)))))
  rw [e2]
  refine wpAny_bind ?_
  simp only [List.zipIdx_cons, List.zipIdx_nil, List.forIn_cons, List.forIn_nil]
  -- the first
  have hT1 : T1 m1 := g1 _ _ h1 fun c hc o q => by
    obtain rfl : c = i1 := by simpa using hc
    exact t1.extBut _ _ D.i1z q
  have hs1 : src1 m1 := k1 _ _ q1 fun c hc o q => t1.extBut _ _ (o1 c hc).1 q
  have first : ∀ (A' : Around) (R : Option Value → Shared → Prop) (E' : Value → Shared → Prop), (∀ u h' tk, val1 u → T1' h' → Heap.SameBut i1 m1 h' → R (some u) { s with heap := h', toks := tk }) → wpAny (model P w) A' (if f = true then Builtin.SmallTypes.nextOrEnd (.ref i1) else do return some (← Builtin.SmallTypes.nextOf (.ref i1))) R E' { s with heap := m1 } := fun A' R E' r => by
    cases f with
    | true => exact nxe_item n1 hT1 hs1 r
    | false => exact wpAny_bind (n1 { s with heap := m1 } _ hT1 hs1 fun u h' tk p1 p2 p3 => wpAny_pure (r u h' tk p1 p2 p3))
  refine wpAny_bind (wpAny_bind (wpAny_onRaise (first _ _ _ fun x m2 tk2 vx T12 t2 => ?_)))
  have hTO2 : IsPair m2 TO a b := t2.extBut _ _ D.TOi1 (t1.extBut _ _ D.TOz hTO)
  refine wpAny_bind (wpAny_seqItems (s := { s with heap := m2, toks := tk2 }) hTO2 rfl (wpAny_bind (wpAny_updateSeq_pair (s := { s with heap := m2, toks := tk2 }) hTO2 fun m3 hTO3 t3 => ?_)))
  have hTO3 : IsPair m3 TO x b := hTO3
  have t3 : Heap.SameBut TO m2 m3 := t3
  refine wpAny_bind (wpAny_letGo (wpAny_pure ?_))
  -- the second
  have up3 : ∀ c o, c ≠ z → c ≠ TO → c ≠ i1 → s.heap.get? c = some o → m3.get? c = some o := fun c o c1 c2 c3 q => t3.extBut _ _ c2 (t2.extBut _ _ c3 (t1.extBut _ _ c1 q))
  have hT2 : T2 m3 := g2 _ _ h2 fun c hc o q => by
    obtain rfl : c = i2 := by simpa using hc
    exact up3 _ _ D.i2z D.TOi2.symm D.i12.symm q
  have hs2 : src2 m3 := k2 _ _ q2 fun c hc o q => up3 _ _ (o2 c hc).1 (o2 c hc).2.1 (o2 c hc).2.2.1 q
  have second : ∀ (A' : Around) (R : Option Value → Shared → Prop) (E' : Value → Shared → Prop), (∀ u h' tk, val2 u → T2' h' → Heap.SameBut i2 m3 h' → R (some u) { s with heap := h', toks := tk }) → wpAny (model P w) A' (if f = true then Builtin.SmallTypes.nextOrEnd (.ref i2) else do return some (← Builtin.SmallTypes.nextOf (.ref i2))) R E' { s with heap := m3, toks := tk2 } := fun A' R E' r => by
    cases f with
    | true => exact nxe_item (s := { s with heap := m3, toks := tk2 }) n2 hT2 hs2 r
    | false => exact wpAny_bind (n2 { s with heap := m3, toks := tk2 } _ hT2 hs2 fun u h' tk p1 p2 p3 => wpAny_pure (r u h' tk p1 p2 p3))
  refine wpAny_bind (wpAny_bind (wpAny_onRaise (second _ _ _ fun y m4 tk4 vy T24 t4 => ?_)))
  have hTO4 : IsPair m4 TO x b := t4.extBut _ _ D.TOi2 hTO3
  refine wpAny_bind (wpAny_seqItems (s := { s with heap := m4, toks := tk4 }) hTO4 rfl (wpAny_bind (wpAny_updateSeq_pair (s := { s with heap := m4, toks := tk4 }) hTO4 fun m5 hTO5 t5 => ?_)))
  have hTO5 : IsPair m5 TO x y := hTO5
  have t5 : Heap.SameBut TO m4 m5 := t5
  refine wpAny_bind (wpAny_letGo (wpAny_pure (wpAny_pure ?_)))
  refine wpAny_bind (wpAny_seqItems (s := { s with heap := m5, toks := tk4 }) hTO5 rfl (wpAny_bind (wpAny_newTuple ?_)))
  have hsz : m5.objs.size = s.heap.objs.size := by rw [t5.1, t4.1, t3.1, t2.1, t1.1]
  have z5 : IsZp f m5 z TI TO .ellipsis := t5.extBut _ _ D.TOz.symm (t4.extBut _ _ D.i2z.symm (t3.extBut _ _ D.TOz.symm (t2.extBut _ _ D.i1z.symm z1)))
  have up5 : ∀ c o, c ≠ z → c ≠ TO → c ≠ i1 → c ≠ i2 → s.heap.get? c = some o → m5.get? c = some o := fun c o c1 c2 c3 c4 q => t5.extBut _ _ c2 (t4.extBut _ _ c4 (up3 c o c1 c2 c3 q))
  have zl : z < m5.objs.size := Heap.lt_size z5
  show wpAny _ _ (Builtin.SmallTypes.ownedTupleHandOut (.ref z) (.ref m5.objs.size) >>= _) _ _ _
  unfold Builtin.SmallTypes.ownedTupleHandOut
  have z6 : IsZp f (m5.push { cls := .type "tuple", data := .seq #[x, y] }) z TI TO .ellipsis := Heap.get?_push_of_some _ z5
  refine wpAny_bind (wpAny_bind (setZ (s := { s with heap := m5.push { cls := .type "tuple", data := .seq #[x, y] }, toks := tk4 }) (h0 := z6) fun m7 z7 t7 => ?_))
  have z7 : m7.get? z = some (zipO f TI TO (rawInt m5.objs.size)) := z7
  refine wpAny_setField_rec (s := { s with heap := m7, toks := tk4 }) z7 (by simp) fun m8 z8 t8 => ?_
  have z8 : IsZp f m8 z TI TO (rawInt m5.objs.size) := z8
  have up : ∀ c o, c ≠ z → m5.get? c = some o → m8.get? c = some o := fun c o c1 q => t8.extBut _ _ c1 (t7.extBut _ _ c1 (Heap.get?_push_of_some _ q))
  have p8 : IsPair m8 m5.objs.size x y := t8.extBut _ _ (Nat.ne_of_gt zl) (t7.extBut _ _ (Nat.ne_of_gt zl) (Heap.get?_push_size _ rfl))
  have s8 : m8.objs.size = m5.objs.size + 1 := by rw [t8.1, t7.1, Heap.size_push]
  rw [hsz] at z8 p8 s8
  refine wpAny_pure ⟨_, rfl, wpAny_pure ?_⟩
  show Q (some (.ref m5.objs.size)) _
  rw [hsz]
  refine hQ x y m8 tk4 vx vy z8 (up _ _ D.TOz hTO5) (g1' _ _ T12 fun c hc o q => ?_) (g2' _ _ T24 fun c hc o q => ?_) p8 s8 fun c o c1 c2 c3 c4 q => up c o c1 (up5 c o c1 c2 c3 c4 q)
  · obtain rfl : c = i1 := by simpa using hc
    exact up _ _ D.i1z (t5.extBut _ _ D.TOi1.symm (t4.extBut _ _ D.i12 (t3.extBut _ _ D.TOi1.symm q)))
  · obtain rfl : c = i2 := by simpa using hc
    exact up _ _ D.i2z (t5.extBut _ _ D.TOi2.symm q)
/-- both at their ends -/
theorem zp_done (f : Bool) (hA : A.handled = none) (D : ZpApart z TI TO i1 i2) (hz : IsZp f s.heap z TI TO .none) (hTI : IsPair s.heap TI (.ref i1) (.ref i2)) (hTO : IsPair s.heap TO a b) (h1 : T1 s.heap) (h2 : T2 s.heap) (q1 : src1 s.heap) (q2 : src2 s.heap)
    (n1 : NxDone P w i1 T1 src1) (n2 : NxDone P w i2 T2 src2) (g1 : Hangs [i1] T1) (g2 : Hangs [i2] T2) (k1 : Hangs srcs1 src1) (k2 : Hangs srcs2 src2) (o1 : ∀ c ∈ srcs1, c ≠ z ∧ c ≠ TO ∧ c ≠ i1 ∧ c ≠ i2) (o2 : ∀ c ∈ srcs2, c ≠ z ∧ c ≠ TO ∧ c ≠ i1 ∧ c ≠ i2) {Q : Option Value → Shared → Prop}
    (hQ : ∀ h', (∀ c o, c ≠ z → c ≠ TO → c ≠ i1 → c ≠ i2 → s.heap.get? c = some o → h'.get? c = some o) → Q none { s with heap := h' }) : wpAny (model P w) A (pyNext (.ref z)) Q E s := by
  have hT : s.TypeIs (.ref z) "zip" := ⟨_, hz, rfl⟩
  unfold pyNext
  refine wpAny_bind (wpAny_attempt (wpAny_callSpecial?_slot (name := Str.ofString "__next__") hT F.slot_zip_next (wpAny_call_entry F.slot_zip_next hT F.entry_zip_next ?_ (F.args_zip_next_1 _))))
  have e2 : (Value.bool f == Value.bool true) = f := by cases f <;> rfl
  have hA1 : A.in1.handled = none := hA
  have fin : ∀ h' e, (∀ c o, c ≠ z → c ≠ TO → c ≠ i1 → c ≠ i2 → s.heap.get? c = some o → h'.get? c = some o) → (∃ o, h'.get? e = some o ∧ o.cls = .type "StopIteration") → wpAny (model P w) A (isInstance (.ref e) (.type "StopIteration") >>= fun k => if k = true then pure none else throw (.ref e)) Q E { s with heap := h' } := fun h' e hk ⟨o, ho, hc⟩ => wpAny_bind (wpAny_isInstance (T := "StopIteration") (b := true) ⟨o, ho, hc⟩ isSubtype_stop (wpAny_pure (hQ _ hk)))
  show wpAny _ _ (field (.ref z) 2 >>= _) _ _ _
  refine wpAny_bind (wpAny_field hz rfl (x := .bool f) rfl ?_)
  show wpAny _ _ (field (.ref z) 3 >>= _) _ _ _
  refine wpAny_bind (wpAny_field hz rfl (x := .ref TI) rfl (wpAny_bind (wpAny_seqItems hTI rfl ?_)))
  show wpAny _ _ (Builtin.SmallTypes.ownedTupleIsFree (.ref z) >>= _) _ _ _
  unfold Builtin.SmallTypes.ownedTupleIsFree
  refine wpAny_bind (wpAny_bind (wpAny_field hz rfl (x := .none) rfl (wpAny_pure ?_)))
  simp only [if_true]
  refine wpAny_bind (wpAny_rule (wpAny_bind (wpAny_field hz rfl (x := .ref TO) rfl (wpAny_bind (setZ (h0 := hz) fun m1 z1 t1 => ?_)))))
  rw [e2]
  refine wpAny_bind ?_
  simp only [List.zipIdx_cons, List.zipIdx_nil, List.forIn_cons, List.forIn_nil]
  have hT1 : T1 m1 := g1 _ _ h1 fun c hc o q => by
    obtain rfl : c = i1 := by simpa using hc
    exact t1.extBut _ _ D.i1z q
  have hs1 : src1 m1 := k1 _ _ q1 fun c hc o q => t1.extBut _ _ (o1 c hc).1 q
  refine wpAny_bind (wpAny_bind (wpAny_onRaise ?_))
  cases f with
  | false =>
    show wpAny _ _ (do return some (← Builtin.SmallTypes.nextOf (.ref i1))) _ _ _
    refine wpAny_bind (n1 { s with heap := m1 } _ hA1 hT1 hs1 fun m2 e t2 he => ?_)
    obtain ⟨oe, hoe, hce⟩ := he
    have z2 : IsZp false m2 z TI TO .ellipsis := t2 _ _ D.i1z.symm z1
    have hez : e ≠ z := fun x => by subst x; rw [z2] at hoe; cases hoe; simp [zipO] at hce
    exact setZ (s := { s with heap := m2 }) (h0 := z2) fun m3 _ t3 => fin m3 e (fun c o c1 _ c3 _ x => t3.extBut _ _ c1 (t2 _ _ c3 (t1.extBut _ _ c1 x))) ⟨oe, t3.extBut _ _ hez hoe, hce⟩
  | true =>
    show wpAny _ _ (Builtin.SmallTypes.nextOrEnd (.ref i1)) _ _ _
    refine nxe_done (s := { s with heap := m1 }) n1 hA1 hT1 hs1 fun m2 t2 => ?_
    have z2 : IsZp true m2 z TI TO .ellipsis := t2 _ _ D.i1z.symm z1
    refine wpAny_bind (setZ (s := { s with heap := m2 }) (h0 := z2) fun m3 z3 t3 => ?_)
    have up3 : ∀ c o, c ≠ z → c ≠ i1 → s.heap.get? c = some o → m3.get? c = some o := fun c o c1 c3 x => t3.extBut _ _ c1 (t2 _ _ c3 (t1.extBut _ _ c1 x))
    have hT2 : T2 m3 := g2 _ _ h2 fun c hc o q => by
      obtain rfl : c = i2 := by simpa using hc
      exact up3 _ _ D.i2z D.i12.symm q
    have hs2 : src2 m3 := k2 _ _ q2 fun c hc o q => up3 _ _ (o2 c hc).1 (o2 c hc).2.2.1 q
    refine wpAny_bind ?_
    show wpAny _ _ (forIn [((Value.ref i2), 1)] PUnit.unit _ >>= _) _ _ _
    simp only [List.forIn_cons, List.forIn_nil]
    refine wpAny_bind (wpAny_bind (wpAny_bind (nxe_done (s := { s with heap := m3 }) n2 hA1 hT2 hs2 fun m4 t4 => ?_)))
    refine wpAny_pure (wpAny_pure (wpAny_bind (wpAny_rule ?_)))
    exact stop_it (s := { s with heap := m4 }) hA1 fun h' e hk he => fin h' e (fun c o c1 _ c3 c4 x => hk c o (t4 c o c4 (up3 c o c1 c3 x))) he
end
end Bk

set_option maxHeartbeats 8000000
namespace Bk
open PySem PySem.Spec PyProof.Rows L2

theorem typeKw {M : Model} {A : Around} {E : Value → Shared → Prop} {s : Shared} {env : Env} {pos : Pos} {T : String} {e : Expr} {rest : List Expr} {kws : List Keyword} {Q : Value → Shared → Prop}
    (h : wpAny M A (spliced (backTo pos (starEach (e :: rest) env))) (fun vs s1 => wpAny M A (evalAll ((backToKw pos (keywordEach kws env)).map (·.2))) (fun kvs s2 => wpAny M A (call (.type T) vs (((backToKw pos (keywordEach kws env)).filterMap (·.1)).zip kvs)) Q E s2) E s1) E s)
    (he : backTo pos (starEach (e :: rest) env) = (false, eval e env) :: backTo pos (starEach rest env)) (h1 : (backTo pos (starEach (e :: rest) env)).any (·.1) = false) (h2 : (backToKw pos (keywordEach kws env)).all (·.1.isSome) = true) (h3 : (backToKw pos (keywordEach kws env)).any (·.1.isNone) = false) :
    wpAny M A (callWith pos (.type T) [] (backTo pos (starEach (e :: rest) env)) (backToKw pos (keywordEach kws env))) Q E s := by
  have h' : wpAny M A (evalArgs (.type T) true (backTo pos (starEach (e :: rest) env)) (backToKw pos (keywordEach kws env))) (fun a s1 => wpAny M A (call (.type T) ([] ++ a.pos) a.kw) Q E s1) E s := by
    rw [he] at h ⊢
    exact evalArgs_kwB h2 h
  unfold callWith
  refine wpAny_bind (wpAny_holding (wpAny_mono h' (fun a s1 k => wpAny_bind (wpAny_standAt ?_)) (fun _ _ q => q)))
  simp only [h1, h3, Bool.or_false]
  exact wpAny_bind (wpAny_pure (wpAny_bind (wpAny_mono k (fun r s2 hr => wpAny_bind (wpAny_holding (wpAny_point (wpAny_pure hr)))) (fun _ _ q => q))))

def ItZp (J1 J2 : It) : It := ⟨fun i H => J1.go i H ∧ J2.go i H, fun i H v H' => ∃ T x y, v = .ref T ∧ H T = none ∧ H' = upd H T (.tup [x, y]) ∧ J1.yld i H x H ∧ J2.yld i H y H, fun i H => J1.stop i H ∧ J2.stop i H⟩
theorem turn_zp {P : Program} {w : World} {K : PySem.W.Frag} {elts : List Expr} {kk : Nat} {tpos : Pos} {z TI TO i1 i2 : Addr} {S1 S2 : Nat → Heap → Prop} {J1 J2 : It} (f : Bool) (D : ZpApart z TI TO i1 i2) (R1 : Inr P w K i1 S1 J1) (R2 : Inr P w K i2 S2 J2) :
    Turn P w K (.Tuple elts kk tpos) (ItZp J1 J2) [z, TI, TO, i1, i2] z (fun i h => IsZp f h z TI TO .none ∧ IsPair h TI (.ref i1) (.ref i2) ∧ (∃ x y, IsPair h TO x y) ∧ S1 i h ∧ S2 i h) where
  mem := by simp
  obj := fun i h st c hc => by
    obtain ⟨hz, hTI, ⟨x, y, hTO⟩, h1, h2⟩ := st
    rcases (show c = z ∨ c = TI ∨ c = TO ∨ c = i1 ∨ c = i2 by simpa using hc) with rfl | rfl | rfl | rfl | rfl
    · exact ⟨_, hz, fun v q => nomatch q⟩
    · exact ⟨_, hTI, fun v q => nomatch q⟩
    · exact ⟨_, hTO, fun v q => nomatch q⟩
    · exact R1.obj i h h1
    · exact R2.obj i h h2
  keep := fun i h h' st k => by
    obtain ⟨hz, hTI, ⟨x, y, hTO⟩, h1, h2⟩ := st
    exact ⟨k z (by simp) _ hz, k TI (by simp) _ hTI, ⟨x, y, k TO (by simp) _ hTO⟩, R1.frame i h h' h1 fun b hb o q => k b (by simp at hb; simp [hb]) o q, R2.frame i h h' h2 fun b hb o q => k b (by simp at hb; simp [hb]) o q⟩
  item := by
    intro X hP hw hK hc i pins s σ H E I hf st hg
    obtain ⟨hz, hTI, ⟨x0, y0, hTO⟩, h1, h2⟩ := st
    obtain ⟨sr1, src1, x, y1, q1, g1, n1, nx1⟩ := R1.item X hP hw hK i pins s σ H I hg.1
    obtain ⟨sr2, src2, y, y2, q2, g2, n2, nx2⟩ := R2.item X hP hw hK i pins s σ H I hg.2
    subst hP hw hK
    have off1 : ∀ c ∈ sr1, c ≠ z ∧ c ≠ TO ∧ c ≠ i1 ∧ c ≠ i2 := fun c hc => ⟨fun e => n1 c (by subst e; exact hf c (by simp)) hc, fun e => n1 c (by subst e; exact hf c (by simp)) hc, fun e => n1 c (by subst e; exact hf c (by simp)) hc, fun e => n1 c (by subst e; exact hf c (by simp)) hc⟩
    have off2 : ∀ c ∈ sr2, c ≠ z ∧ c ≠ TO ∧ c ≠ i1 ∧ c ≠ i2 := fun c hc => ⟨fun e => n2 c (by subst e; exact hf c (by simp)) hc, fun e => n2 c (by subst e; exact hf c (by simp)) hc, fun e => n2 c (by subst e; exact hf c (by simp)) hc, fun e => n2 c (by subst e; exact hf c (by simp)) hc⟩
    have hzl : z < s.heap.objs.size := Heap.lt_size hz
    refine zp_item f D hz hTI hTO h1 h2 q1 q2 nx1 nx2 (R1.frame i) (R1.frame (i + 1)) (R2.frame i) (R2.frame (i + 1)) g1 g2 off1 off2 fun u u2 h' tk ru ru2 z' TO' S1' S2' hT hsz hk => ?_
    refine ⟨_, rfl, ?_⟩
    have go : wpAny (model X.prog X.w) X.A (letOwnedTupleGo (.Tuple elts kk tpos) (.ref z) (.ref s.heap.objs.size)) (fun _ s2 => ∃ h'', IsZp f h'' z TI TO .none ∧ Heap.SameBut z h' h'' ∧ s2 = { s with heap := h'', toks := tk }) E { s with heap := h', toks := tk } := by
      unfold letOwnedTupleGo
      refine wpAny_bind (wpAny_load (s := { s with heap := h', toks := tk }) z' ?_)
      show wpAny _ _ (if (["enumerate", "zip", "dict_itemiterator", "dict_reverseitemiterator", "odict_iterator", "itertools.zip_longest", "itertools.pairwise"].contains "zip" && (#[rawInt s.heap.objs.size, .bool false, .bool f, .ref TI, .ref TO] : Array Value)[0]? == some (rawInt s.heap.objs.size)) = true then _ else _) _ E _
      rw [if_pos (by simp)]
      refine wpAny_bind (wpAny_rule ?_)
      show wpAny _ _ (setField (.ref z) 0 .none) _ E _
      exact setZ (s := { s with heap := h', toks := tk }) (h0 := z') fun h'' hz'' hs'' => ⟨h'', hz'', hs'', rfl⟩
    refine thn go fun _ s2 ⟨h'', z'', sb, es⟩ => ?_
    subst es
    have hT2 : h''.get? s.heap.objs.size = some { cls := .type "tuple", data := .seq #[u, u2] } := (sb.2 _ (Nat.ne_of_gt hzl)).trans hT
    have new : ObjOk X.prog X.w (upd H s.heap.objs.size (.tup [x, y])) h'' s.heap.objs.size (.tup [x, y]) := ⟨by show 2 ≤ sizeLine; decide, [u, u2], .cons ru (.cons ru2 .nil), ⟨_, hT2, rfl, _, rfl⟩⟩
    have I1 : Inv X pins σ (upd H s.heap.objs.size (.tup [x, y])) { s with heap := h'', toks := tk } :=
      I.turnedNew (ch := [z, TI, TO, i1, i2]) (fun c o hb q => (sb.2 c (fun q' => hb (by simp [q']))).trans (hk c o (fun q' => hb (by simp [q'])) (fun q' => hb (by simp [q'])) (fun q' => hb (by simp [q'])) (fun q' => hb (by simp [q'])) q)) hf (Nat.le_refl _) new
    refine ⟨.ref s.heap.objs.size, _, I1, rfl, ⟨_, x, y, rfl, I.hok.fresh (Nat.le_refl _), rfl, y1, y2⟩, ⟨z'', ?_, ⟨u, u2, ?_⟩, ?_, ?_⟩, fun c hcm => ?_⟩
    · exact (sb.2 _ D.TIz).trans (hk _ _ D.TIz D.TITO D.TIi1 D.TIi2 hTI)
    · exact (sb.2 _ D.TOz).trans TO'
    · refine R1.frame (i + 1) _ _ S1' fun b hb o q => ?_
      obtain rfl : b = i1 := by simpa using hb
      exact (sb.2 _ D.i1z).trans q
    · refine R2.frame (i + 1) _ _ S2' fun b hb o q => ?_
      obtain rfl : b = i2 := by simpa using hb
      exact (sb.2 _ D.i2z).trans q
    · have hlt : c < s.heap.objs.size := by
        rcases (show c = z ∨ c = TI ∨ c = TO ∨ c = i1 ∨ c = i2 by simpa using hcm) with q | q | q | q | q
        · rw [q]; exact hzl
        · rw [q]; exact Heap.lt_size hTI
        · rw [q]; exact Heap.lt_size hTO
        · rw [q]; obtain ⟨_, e1, _⟩ := R1.obj i _ h1; exact Heap.lt_size e1
        · rw [q]; obtain ⟨_, e1, _⟩ := R2.obj i _ h2; exact Heap.lt_size e1
      rw [upd_ne (Nat.ne_of_lt hlt)]
      exact (hf c hcm).1
  done := by
    intro X hP hw hK hc i pins s σ H E I hf st hg
    obtain ⟨hz, hTI, ⟨x0, y0, hTO⟩, h1, h2⟩ := st
    obtain ⟨sr1, src1, q1, g1, n1, nx1⟩ := R1.done X hP hw hK i pins s σ H I hg.1
    obtain ⟨sr2, src2, q2, g2, n2, nx2⟩ := R2.done X hP hw hK i pins s σ H I hg.2
    subst hP hw hK
    have off1 : ∀ c ∈ sr1, c ≠ z ∧ c ≠ TO ∧ c ≠ i1 ∧ c ≠ i2 := fun c hc => ⟨fun e => n1 c (by subst e; exact hf c (by simp)) hc, fun e => n1 c (by subst e; exact hf c (by simp)) hc, fun e => n1 c (by subst e; exact hf c (by simp)) hc, fun e => n1 c (by subst e; exact hf c (by simp)) hc⟩
    have off2 : ∀ c ∈ sr2, c ≠ z ∧ c ≠ TO ∧ c ≠ i1 ∧ c ≠ i2 := fun c hc => ⟨fun e => n2 c (by subst e; exact hf c (by simp)) hc, fun e => n2 c (by subst e; exact hf c (by simp)) hc, fun e => n2 c (by subst e; exact hf c (by simp)) hc, fun e => n2 c (by subst e; exact hf c (by simp)) hc⟩
    exact zp_done f (I.ok.hd hc) D hz hTI hTO h1 h2 q1 q2 nx1 nx2 (R1.frame i) (R2.frame i) g1 g2 off1 off2 fun h' hk => ⟨rfl, I.turnedL (t' := s.toks) (ch := [z, TI, TO, i1, i2]) (fun c o hb q =>
      hk c o (fun q' => hb (by simp [q'])) (fun q' => hb (by simp [q'])) (fun q' => hb (by simp [q'])) (fun q' => hb (by simp [q'])) q) hf⟩
  self := fun A i s Q E st h => by
    have hT : s.TypeIs (.ref z) "zip" := ⟨_, st.1, rfl⟩
    refine wpAny_pyIter_slot hT F.slot_zip_iter (wpAny_call_entry F.slot_zip_iter hT F.entry_zip_iter ?_ (F.args_zip_iter_1 _))
    show wpAny _ _ (ret (.ref z)) _ _ s
    exact wpAny_pure ⟨_, rfl, "zip", _, hT, F.slot_zip_next.lookup, h⟩
end Bk

set_option maxHeartbeats 8000000
namespace Bk
open PySem PySem.Spec PyProof.Rows L2

/-- a value that is walked, its iterator -/
def SeqJ (K : PySem.W.Frag) (v : V) (H : Hp) (J : It) : Prop := (∃ l xs, v = .ref l ∧ SqL K H l xs ∧ J = Itl K l) ∨ (∃ l xs, v = .ref l ∧ SqT K H l xs ∧ J = Itt K l) ∨ ∃ z, v = .str z ∧ J = Its z
theorem SeqJ.mk {X : Cx} {pins : List (Addr × Obj)} {σ : L2.St} {H : Hp} {s : Shared} {v : V} {u : Value} {J : It} (I : Inv X pins σ H s) (h : SeqJ X.K v H J) (r : L2.RelV v u) : ∃ (io : Obj) (pre : Shared → Prop), MakesIt u io pre ∧ io.isFreed = false ∧ pre s ∧ (∀ s' : Shared, (∀ b o, s.heap.get? b = some o → s'.heap.get? b = some o) → pre s') ∧ ∀ it, ∃ S : Nat → Heap → Prop, Inr X.prog X.w X.K it S J ∧ ∀ h, h.get? it = some io → S 0 h := by
  rcases h with ⟨l, xs, rfl, hq, rfl⟩ | ⟨l, xs, rfl, hq, rfl⟩ | ⟨z, rfl, rfl⟩
  · cases r
    obtain ⟨its, rv, pl, hz⟩ := I.list hq
    obtain ⟨o, ho, hr⟩ := pl.isList
    exact ⟨_, _, mk_list (xs := its.toArray), rfl, ⟨o, ho, hr⟩, fun s' k => ⟨o, k _ _ ho, hr⟩, fun it => ⟨_, inr_list, fun h q => ⟨_, q, rfl, rfl⟩⟩⟩
  · cases r
    obtain ⟨its, rv, pl, hz⟩ := I.tuple hq
    obtain ⟨o, ho, hr⟩ := (show s.heap.IsTuple l its.toArray from pl)
    exact ⟨_, _, mk_tuple (xs := its.toArray), rfl, ⟨o, ho, hr⟩, fun s' k => ⟨o, k _ _ ho, hr⟩, fun it => ⟨_, inr_tup, fun h q => ⟨_, q, rfl, rfl⟩⟩⟩
  · obtain ⟨t, rfl⟩ := r
    cases ha : z.cps.all (· < 128)
    · exact ⟨_, _, mk_wide ha, rfl, trivial, fun _ _ => trivial, fun it => ⟨_, inr_str (.inr rfl), fun h q => ⟨_, q, rfl, rfl⟩⟩⟩
    · exact ⟨_, _, mk_ascii ha, rfl, trivial, fun _ _ => trivial, fun it => ⟨_, inr_str (.inl rfl), fun h q => ⟨_, q, rfl, rfl⟩⟩⟩
def zpKw (kw : Option (Bool × Nat × Pos × Pos)) : List Keyword := match kw with
  | none => []
  | some (f, k, p1, p2) => [⟨some (Str.ofString "strict"), .Constant (.bool f) k p1, p2⟩]
def iZp (K : PySem.W.Frag) (ta : TA) : TI := fun σ H R => ta σ H fun vs H1 => ∃ v1 v2 J1 J2, vs = [v1, v2] ∧ SeqJ K v1 H1 J1 ∧ SeqJ K v2 H1 J2 ∧ R (ItZp J1 J2) H1
theorem zpPie {X : Cx} {pins : List (Addr × Obj)} {σ : L2.St} {H1 : Hp} {s1 : Shared} {elts : List Expr} {kk : Nat} {tpos : Pos} {R : It → Hp → Prop} {vs : List V} {us : List Value} {E : Value → Shared → Prop} (kw : Option Bool) (I1 : Inv X pins σ H1 s1) (r1 : Vals vs us) (q : ∃ v1 v2 J1 J2, vs = [v1, v2] ∧ SeqJ X.K v1 H1 J1 ∧ SeqJ X.K v2 H1 J2 ∧ R (ItZp J1 J2) H1) :
    wpAny (model X.prog X.w) X.A (call (.type "zip") us (kwOf kw)) (fun v s2 => wpAny (model X.prog X.w) X.A (pyIter v) (PIE X pins σ (.Tuple elts kk tpos) R) E s2) E s1 := by
  obtain ⟨v1, v2, J1, J2, rfl, a1, a2, q⟩ := q
  cases r1 with
  | cons ra rr =>
    cases rr with
    | cons rb rr =>
      cases rr
      obtain ⟨o1, p1, m1, f1, b1, c1, d1⟩ := a1.mk I1 ra
      obtain ⟨o2, p2, m2, f2, b2, c2, d2⟩ := a2.mk I1 rb
      obtain ⟨S1, R1, e1⟩ := d1 s1.heap.objs.size
      obtain ⟨S2, R2, e2⟩ := d2 (s1.heap.objs.size + 1)
      have hp2 : ∀ s : Shared, (fun s' : Shared => p2 s' ∧ ∀ b o, s1.heap.get? b = some o → s'.heap.get? b = some o) s → (fun s' : Shared => p2 s' ∧ ∀ b o, s1.heap.get? b = some o → s'.heap.get? b = some o) { s with heap := s.heap.push o1 } := fun s ⟨_, k⟩ => ⟨c2 _ fun b o z => Heap.get?_push_of_some _ (k b o z), fun b o z => Heap.get?_push_of_some _ (k b o z)⟩
      have m2' : MakesIt _ o2 (fun s' : Shared => p2 s' ∧ ∀ b o, s1.heap.get? b = some o → s'.heap.get? b = some o) := fun s Q k q => m2 s Q k.1 q
      refine call_zp kw m1 m2' hp2 b1 ⟨b2, fun _ _ z => z⟩ ?_ f1 f2
      obtain ⟨hz, hTI, hTO, g1, g2, hk⟩ := zpH_facts (f := kw.getD false) (h := s1.heap) f1 f2
      have I2 : Inv X pins σ H1 { s1 with heap := zpH (kw.getD false) s1.heap o1 o2 } := I1.kept (t' := s1.toks) hk
      have D : ZpApart (s1.heap.objs.size + 4) (s1.heap.objs.size + 2) (s1.heap.objs.size + 3) s1.heap.objs.size (s1.heap.objs.size + 1) := by constructor <;> (show @Ne Nat _ _; omega)
      have T := turn_zp (elts := elts) (kk := kk) (tpos := tpos) (kw.getD false) D R1 R2
      have st0 : IsZp (kw.getD false) (zpH (kw.getD false) s1.heap o1 o2) (s1.heap.objs.size + 4) (s1.heap.objs.size + 2) (s1.heap.objs.size + 3) .none ∧ IsPair (zpH (kw.getD false) s1.heap o1 o2) (s1.heap.objs.size + 2) (.ref s1.heap.objs.size) (.ref (s1.heap.objs.size + 1)) ∧ (∃ x y, IsPair (zpH (kw.getD false) s1.heap o1 o2) (s1.heap.objs.size + 3) x y) ∧ S1 0 (zpH (kw.getD false) s1.heap o1 o2) ∧ S2 0 (zpH (kw.getD false) s1.heap o1 o2) := ⟨hz, hTI, ⟨_, _, hTO⟩, e1 _ g1, e2 _ g2⟩
      refine T.self X.A 0 { s1 with heap := zpH (kw.getD false) s1.heap o1 o2 } _ _ st0 ⟨_, _, _, _, H1, rfl, I2, T, st0, fun c hc => ?_, q⟩
      have hle : s1.heap.objs.size ≤ c := by
        rcases (show c = s1.heap.objs.size + 4 ∨ c = s1.heap.objs.size + 2 ∨ c = s1.heap.objs.size + 3 ∨ c = s1.heap.objs.size ∨ c = s1.heap.objs.size + 1 by simpa using hc) with z | z | z | z | z <;> (subst z; first | exact Nat.le_add_right _ _ | exact Nat.le_refl _)
      exact I1.fpOk hle (I1.hok.fresh hle)
section
variable {X : Cx} {e e2 : Expr} {ta : TA} {p pos tpos : Pos} {elts : List Expr} {kk : Nat}
theorem pi_zp (hg : Gl X "zip") (hm : X.mg "zip" = none) (ha : PA X [e, e2] ta) (hs : starEach [e, e2] X.env = (false, eval e X.env) :: starEach [e2] X.env := by rfl) (hpl : (backTo pos (starEach [e2] X.env)).any (·.1) = false := by rfl) : PI X (.Tuple elts kk tpos) (.Call (.Name "zip" p) [e, e2] [] pos) (iZp X.K ta) := by
  refine ⟨fun pins s σ H R I h => Call_ (ld_blt I hg hm PyProof.Rows.boot_zip (PyProof.Rows.callWith_type1 (thn (ha.run pos pins s σ H _ I h) fun us s1 ⟨vs, H1, I1, r1, q1⟩ => ?_) hs hpl))⟩
  exact zpPie none I1 r1 q1
theorem pi_zpS {f : Bool} {k1 : Nat} {p1 p2 : Pos} (hg : Gl X "zip") (hm : X.mg "zip" = none) (ha : PA X [e, e2] ta) (he : backTo pos (starEach [e, e2] X.env) = (false, eval e X.env) :: backTo pos (starEach [e2] X.env) := by rfl) (h1 : (backTo pos (starEach [e, e2] X.env)).any (·.1) = false := by rfl) :
    PI X (.Tuple elts kk tpos) (.Call (.Name "zip" p) [e, e2] [⟨some (Str.ofString "strict"), .Constant (.bool f) k1 p1, p2⟩] pos) (iZp X.K ta) := by
  refine ⟨fun pins s σ H R I h => wpAny_Call_Name_kw (ld_blt I hg hm PyProof.Rows.boot_zip ?_)⟩
  refine typeKw (thn (ha.run pos pins s σ H _ I h) fun us s1 ⟨vs, H1, I1, r1, q1⟩ => ?_) he h1 rfl rfl
  refine thn ((pk_cons (X := X) (nm := some (Str.ofString "strict")) (kpos := p2) (pe_bl (b := f) (j := k1) (pos := p1)) pk_nil).run pos pins s1 σ H1 (fun zs H2 => zs = [.bl f] ∧ H2 = H1) I1 ⟨rfl, rfl⟩) fun ws s2 ⟨zs, H2, I2, rz, ez, eH⟩ => ?_
  subst ez eH
  cases rz with
  | cons rz rr =>
    cases rr
    cases rz
    exact zpPie (some f) I2 r1 q1
end

/-! ### the walks' data -/
def enD (ds : List PD) : List PD := ds.zipIdx.map fun p => .tuple [.int (p.2 : Nat), p.1]
def zpD (ds es : List PD) : List PD := List.zipWith (fun a b => .tuple [a, b]) ds es
theorem enD_len (ds : List PD) : (enD ds).length = ds.length := by simp [enD]
theorem enD_get {ds : List PD} {i : Nat} {d : PD} (h : (enD ds)[i]? = some d) : ∃ x, ds[i]? = some x ∧ d = .tuple [.int (i : Nat), x] := by
  unfold enD at h
  rw [List.getElem?_map, List.getElem?_zipIdx] at h
  cases q : ds[i]? with
  | none => rw [q] at h; cases h
  | some x =>
    rw [q] at h
    refine ⟨x, rfl, ?_⟩
    have h := Option.some.inj h
    rw [← h]
    simp
theorem zpD_get {ds es : List PD} {i : Nat} {d : PD} (h : (zpD ds es)[i]? = some d) : ∃ x y, ds[i]? = some x ∧ es[i]? = some y ∧ d = .tuple [x, y] := by
  unfold zpD at h
  rw [List.getElem?_zipWith] at h
  cases q : ds[i]? with
  | none => rw [q] at h; cases h
  | some x =>
    cases q2 : es[i]? with
    | none => rw [q, q2] at h; cases h
    | some y =>
      rw [q, q2] at h
      exact ⟨x, y, rfl, rfl, (Option.some.inj h).symm⟩
theorem Wk.mono {K : PySem.W.Frag} {J : It} {G1 G2 : Hp} {ds : List PD} (h : Wk K J G1 ds) (s : Same G1 G2) : Wk K J G2 ds :=
  ⟨fun F w σ H G E i hi I s' => h.go F w σ H G E i hi I (s.trans s'), fun F w σ H G E I s' => h.stop F w σ H G E I (s.trans s'), fun F w σ H G E i d x H' hd I s' y => h.yld F w σ H G E i d x H' hd I (s.trans s') y⟩
theorem pair_new {K : PySem.W.Frag} {F : Fm} {w : Addr → Option Nat} {σ : L2.St} {H G : Hp} {E : EnvB} (I : In K F w σ H G E) {T : Addr} {x y : V} {a b : PD} (hT : H T = none) (r1 : Rp K G x a) (r2 : Rp K G y b) : ∃ G', In K F w σ (upd H T (.tup [x, y])) G' E ∧ Same G G' ∧ Same H (upd H T (.tup [x, y])) ∧ (∀ b, H b ≠ none → G' b = G b) ∧ Rp K G' (.ref T) (.tuple [a, b]) := by
  obtain ⟨I', s, rp⟩ := I.newT hT (.cons r1 (.cons r2 .nil))
  exact ⟨_, I', s, same_new hT, fun b hb => upd_ne fun z => by subst z; exact hb hT, rp⟩
theorem wk_en {K : PySem.W.Frag} {J : It} {G1 : Hp} {ds : List PD} (h : Wk K J G1 ds) : Wk K (ItEn J) G1 (enD ds) where
  go := fun F w σ H G E i hi I s => h.go F w σ H G E i (by rw [enD_len] at hi; exact hi) I s
  stop := fun F w σ H G E I s => by rw [enD_len]; exact h.stop F w σ H G E I s
  yld := fun F w σ H G E i d x H' hd I s y => by
    obtain ⟨T, v, rfl, hT, rfl, y⟩ := y
    obtain ⟨e, he, rfl⟩ := enD_get hd
    obtain ⟨G2, I2, s2, _, k2, r⟩ := h.yld F w σ H G E i e v H he I s y
    obtain ⟨G3, I3, s3, sH, k3, rp⟩ := pair_new I2 hT (.int (i : Nat)) r
    exact ⟨G3, I3, s2.trans s3, sH, fun b hb => (k3 b hb).trans (k2 b hb), rp⟩
theorem wk_zp {K : PySem.W.Frag} {J1 J2 : It} {G1 : Hp} {ds es : List PD} (h1 : Wk K J1 G1 ds) (h2 : Wk K J2 G1 es) (hl : ds.length = es.length) : Wk K (ItZp J1 J2) G1 (zpD ds es) where
  go := fun F w σ H G E i hi I s => by
    have hi : i < min ds.length es.length := by simpa [zpD] using hi
    exact ⟨h1.go F w σ H G E i (by omega) I s, h2.go F w σ H G E i (by omega) I s⟩
  stop := fun F w σ H G E I s => by
    have e1 : (zpD ds es).length = ds.length := by simp [zpD, hl]
    rw [e1]
    exact ⟨h1.stop F w σ H G E I s, by rw [hl]; exact h2.stop F w σ H G E I s⟩
  yld := fun F w σ H G E i d x H' hd I s y => by
    obtain ⟨T, v1, v2, rfl, hT, rfl, y1, y2⟩ := y
    obtain ⟨a, b, ha, hb, rfl⟩ := zpD_get hd
    obtain ⟨G2, I2, s2, _, k2, r1⟩ := h1.yld F w σ H G E i a v1 H ha I s y1
    obtain ⟨G3, I3, s3, _, k3, r2⟩ := h2.yld F w σ H G2 E i b v2 H hb I2 (s.trans s2) y2
    obtain ⟨G4, I4, s4, sH, k4, rp⟩ := pair_new I3 hT (r1.mono s3) r2
    exact ⟨G4, I4, (s2.trans s3).trans s4, sH, fun b hb => ((k4 b hb).trans (k3 b hb)).trans (k2 b hb), rp⟩
section
variable {X : Cx} {F : Fm} {E : EnvB} {a b e tg iter : Expr} {Θ : EnvB → List PD → Prop} {pos p tpos : Pos} {elts : List Expr} {kk : Nat}
theorem ItD.seqJ {w : Addr → Option Nat} {σ : L2.St} {H G : Hp} {v : V} {r : Rs} {E' : EnvB} {ds : List PD} (I : In X.K F w σ H G E) (h : ItD E r E' ds) (rv : RV X.K F w σ H G v r) : ∃ w' G' J, In X.K F w' σ H G' E' ∧ Same G G' ∧ Wk X.K J G' ds ∧ SeqJ X.K v H J := by
  rcases h.go I rv (R := fun J H' => H' = H ∧ ∃ w' G', In X.K F w' σ H G' E' ∧ Same G G' ∧ Wk X.K J G' ds) fun w' G' J a b c => ⟨rfl, w', G', a, b, c⟩ with ⟨l, e, ⟨xs, hq⟩, _, w', G', x, y, z⟩ | ⟨l, e, ⟨xs, hq⟩, _, w', G', x, y, z⟩ | ⟨zz, e, _, w', G', x, y, z⟩
  · exact ⟨w', G', _, x, y, z, .inl ⟨l, xs, e, hq, rfl⟩⟩
  · exact ⟨w', G', _, x, y, z, .inr (.inl ⟨l, xs, e, hq, rfl⟩)⟩
  · exact ⟨w', G', _, x, y, z, .inr (.inr ⟨zz, e, rfl⟩)⟩
theorem xi_en (hm : X.mg "enumerate" = none) (h : XE X F e E fun E1 r => ∃ E2 ds, ItD E1 r E2 ds ∧ Θ E2 (enD ds)) (hg : Gl X "enumerate" := by rfl) (hs : starEach [e] X.env = [(false, eval e X.env)] := by rfl) : XI X F (.Tuple elts kk tpos) (.Call (.Name "enumerate" p) [e] [] pos) E Θ :=
  xi_of (pi_en hg hm (pa_cons (pe_tE (F := F)) pa_nil hs) hs) fun w σ H G I => tE_go I h fun v w1 H1 G1 E1 r I1 s1 rv ⟨E2, ds, it, q⟩ => ⟨v, rfl, it.go (R := fun J H => KI X.K F σ G Θ (ItEn J) H) I1 rv fun w2 G2 J I2 s2 wk => ⟨w2, G2, E2, enD ds, I2, s1.trans s2, wk_en wk, q⟩⟩
theorem zp_read {w : Addr → Option Nat} {σ : L2.St} {H G : Hp} (I : In X.K F w σ H G E) (h : XA X F [a, b] E fun E1 rs => ∃ r1 r2 E2 E3 ds es, rs = [r1, r2] ∧ ItD E1 r1 E2 ds ∧ ItD E2 r2 E3 es ∧ ds.length = es.length ∧ Θ E3 (zpD ds es)) : iZp X.K (tA X F [a, b]) σ H (KI X.K F σ G Θ) :=
  tA_go I h fun vs w1 H1 G1 E1 rs I1 s1 rvs ⟨r1, r2, E2, E3, ds, es, er, i1, i2, hl, q⟩ => by
    subst er
    obtain ⟨v1, v2, rfl, q1, q2⟩ := rv_two (F := F) rvs
    obtain ⟨w2, G2, J1, I2, s2, wk1, sj1⟩ := i1.seqJ I1 q1
    have q2' : RV X.K F w2 σ H1 G2 v2 r2 := by
      cases rvs with
      | sh _ t => cases t with
        | sh t _ => exact Rp.mono s2 _ _ t
        | br t _ => exact t
      | br _ t => cases t with
        | sh t _ => exact Rp.mono s2 _ _ t
        | br t _ => exact t
    obtain ⟨w3, G3, J2, I3, s3, wk2, sj2⟩ := i2.seqJ I2 q2'
    exact ⟨v1, v2, J1, J2, rfl, sj1, sj2, w3, G3, E3, _, I3, (s1.trans s2).trans s3, wk_zp (wk1.mono s3) wk2 hl, q⟩
theorem xi_zp (hm : X.mg "zip" = none) (h : XA X F [a, b] E fun E1 rs => ∃ r1 r2 E2 E3 ds es, rs = [r1, r2] ∧ ItD E1 r1 E2 ds ∧ ItD E2 r2 E3 es ∧ ds.length = es.length ∧ Θ E3 (zpD ds es)) (hg : Gl X "zip" := by rfl) (hs : starEach [a, b] X.env = (false, eval a X.env) :: starEach [b] X.env := by rfl) (hpl : (backTo pos (starEach [b] X.env)).any (·.1) = false := by rfl) :
    XI X F (.Tuple elts kk tpos) (.Call (.Name "zip" p) [a, b] [] pos) E Θ := xi_of (pi_zp hg hm pa_tA hs hpl) fun w σ H G I => zp_read I h
theorem xi_zpS {f : Bool} {k1 : Nat} {p1 p2 : Pos} (hm : X.mg "zip" = none) (h : XA X F [a, b] E fun E1 rs => ∃ r1 r2 E2 E3 ds es, rs = [r1, r2] ∧ ItD E1 r1 E2 ds ∧ ItD E2 r2 E3 es ∧ ds.length = es.length ∧ Θ E3 (zpD ds es)) (hg : Gl X "zip" := by rfl) (he : backTo pos (starEach [a, b] X.env) = (false, eval a X.env) :: backTo pos (starEach [b] X.env) := by rfl) (h1 : (backTo pos (starEach [a, b] X.env)).any (·.1) = false := by rfl) :
    XI X F (.Tuple elts kk tpos) (.Call (.Name "zip" p) [a, b] [⟨some (Str.ofString "strict"), .Constant (.bool f) k1 p1, p2⟩] pos) E Θ := xi_of (pi_zpS hg hm pa_tA he h1) fun w σ H G I => zp_read I h
end
end Bk

set_option maxHeartbeats 4000000
namespace Bk
open PySem PySem.Spec PyProof.Rows L2

/-! ### a def that is lent its first argument -/
section
variable {P : Program} {w : World} {K : PySem.W.Frag} {mg : Str → Option Value} {base : Heap}
def env1 (N : List Str) (o : Oc) (ds : List PD) : EnvB := .ib 0 o :: (ds.map Bd.sh ++ List.replicate (N.length - 1 - ds.length) .un)
theorem ok_def1 {x qual : Str} {st : Stmt} {f : Addr} {fd : FuncData} {N ps : List Str} {k : Nat} {spec : Oc → List PD → (Rs → Oc → Prop) → Prop} (Fn : L2.Fun K x qual st f fd) (S : FnScope N ps (defScope st))
    (hb : ∀ (cdv : Value) (A : Around) (outer : List Env) (s : Shared) (H : Hp) (E : XK) (F : Fm) (o : Oc) (ds : List PD) (Ψ : Rs → Oc → Prop), Room k (A.deeper (envOfC qual (defScope st) s.heap.objs.size f cdv)) → ds.length + 1 = ps.length → spec o ds Ψ →
      XSs (cxOf CX0 P w K mg base N qual (defScope st) f cdv A outer s H E).nox F (defBody st) (env1 N o ds) { nx := fun E => ∃ o', E[0]? = some (.ib 0 o') ∧ Ψ (.sh .none) o', rt := fun E r => ∃ r' o', RtE E r r' ∧ E[0]? = some (.ib 0 o') ∧ Ψ r' o' }) : FnOk P w K mg base CX0 (k + 1) f fd ps (Pm1 K ps.length spec) := by
  refine Fn.ok S (fun vs H Q E ⟨G, l, o, ws, ds, e, s, hl, c, r, hn, _⟩ => by rw [e, List.length_cons, r.length]; exact hn) fun cdv A outer s H vs Q E hr ⟨G, l, o, ws, ds, e, sG, gl, c, r, hn, sp⟩ => ?_
  subst e
  let F : Fm := ⟨H, G, fun b => if b = l then none else H b, [l]⟩
  refine ⟨tSs _ F (defBody st), pss_tSs, ?_⟩
  have hN : ds.length + 1 ≤ N.length := by
    rw [hn]
    have := congrArg List.length S.pre
    rw [List.length_take] at this
    omega
  have hlen := r.length
  have hs : Same F.M H := fun b x q => by
    have q : (if b = l then none else H b) = some x := q
    by_cases z : b = l
    · rw [if_pos z] at q; cases q
    · rw [if_neg z] at q; exact q
  have I0 : In K F (fun b => if b = l then some 0 else none) (L2.start N (.ref l :: ws)) H G (env1 N o ds) := by
    refine ⟨sG, fun _ _ => rfl, hs, fun _ q => q, fun b i q => ?_, ?_, fun i b q => ?_⟩
    · have q : (if b = l then some 0 else none) = some i := q
      by_cases z : b = l
      · subst z
        refine ⟨gl, if_pos rfl, ?_⟩
        obtain ⟨x, hx⟩ := c.ex1
        rw [hx]; exact Option.some_ne_none x
      · rw [if_neg z] at q; cases q
    · unfold env1 L2.start
      simp only [List.length_append, List.length_map, List.length_replicate, List.length_cons]
      omega
    · cases i with
      | zero =>
        have q : Bd.ib 0 o = b := Option.some.inj q
        subst q
        exact ⟨l, rfl, if_pos rfl, c, rfl⟩
      | succ i =>
        have q : (ds.map Bd.sh ++ List.replicate (N.length - 1 - ds.length) Bd.un)[i]? = some b := q
        by_cases hi : i < ds.length
        · rw [List.getElem?_append_left (by simpa using hi), List.getElem?_map, List.getElem?_eq_getElem hi] at q
          cases q
          obtain ⟨v, hv, rv⟩ := r.get (List.getElem?_eq_getElem hi)
          refine ⟨v, ?_, rv⟩
          unfold L2.start
          have hi : i < ws.length := (List.getElem?_eq_some_iff.mp hv).1
          rw [List.getElem?_append_left (by simpa using hi), List.getElem?_map, List.getElem?_cons_succ, hv]
          rfl
        · rw [List.getElem?_append_right (by simpa using Nat.le_of_not_lt hi), List.getElem?_replicate] at q
          split at q
          · cases q; trivial
          · cases q
  have done : ∀ {w' σ' H' G' E' v r' o'}, In K F w' σ' H' G' E' → RVn K H H' G' v r' → E'[0]? = some (.ib 0 o') → (∀ v H' G', (∀ b x, b ≠ l → H b = some x → H' b = some x) → Same G' H' → (∀ b, H b ≠ none → G' b = G b) → Cont K G' (H' l) o' → RVn K H H' G' v r' → Q v H') → Q v H' := fun {w' σ' H' G' E' v r' o'} I' rn hE q => by
    obtain ⟨l', e1, e2, c', e3⟩ := I'.slot 0 _ hE
    have e3 : some l = some l' := e3
    cases e3
    exact q v H' G' (fun b x z hb => I'.keep b x (by show (if b = l then none else H b) = some x; rw [if_neg z]; exact hb)) I'.sub I'.old c' rn
  refine tSs_go I0 (hb cdv A outer s H E F o ds _ hr hn sp) ⟨fun σ' H' ⟨w', G', E', I', s', o', hE, q⟩ => ?_, fun v H' ⟨w', σ', G', E', r, I', s', rv, r', o', rt, hE, q⟩ => ?_, fun σ' H' ⟨w', G', E', I', s', q⟩ => q, fun σ' H' ⟨w', G', E', I', s', q⟩ => q⟩
  · exact done I' (r' := .sh .none) .non hE q
  · exact done I' (rt.go I' rv) hE q
end

/-! ### slices -/
section
variable {X : Cx} {F : Fm} {E : EnvB} {a b c e o : Expr} {Φ : EnvB → Rs → Prop} {pos p p2 : Pos} {x : Str} {lo hi : Option Expr}
def KO (K : PySem.W.Frag) (F : Fm) (σ : L2.St) (G : Hp) (Ψ : EnvB → Option Int → Prop) : Option Int → Hp → Prop := fun b H' => ∃ w' G' E', In K F w' σ H' G' E' ∧ Same G G' ∧ Ψ E' b
def XO (X : Cx) (F : Fm) (e : Option Expr) (E : EnvB) (Ψ : EnvB → Option Int → Prop) : Prop := ∀ (pins : List (Addr × Obj)) (s : Shared) (w : Addr → Option Nat) (σ : L2.St) (H G : Hp), Inv X pins σ H s → In X.K F w σ H G E →
  wpAny (model X.prog X.w) X.A (evalPart e X.env) (fun u s' => ∃ o H', Inv X pins σ H' s' ∧ IsPart u o ∧ KO X.K F σ G Ψ o H') X.xe s
def tO (X : Cx) (F : Fm) (e : Option Expr) : L2.TO := fun σ H Q => ∃ E Ψ w G, In X.K F w σ H G E ∧ XO X F e E Ψ ∧ ∀ v H', KO X.K F σ G Ψ v H' → Q v H'
theorem po_tO : PO X lo (tO X F lo) := ⟨fun pins s σ H Q I h => by
  obtain ⟨E, Φ, w, G, i, h, q⟩ := h
  exact thn (h pins s w σ H G I i) fun u s' ⟨v, H', I', r, k⟩ => ⟨v, H', I', r, q v H' k⟩⟩
theorem xo_none {Ψ : EnvB → Option Int → Prop} (q : Ψ E none) : XO X F none E Ψ := fun pins s w σ H G I i => po_none.run pins s σ H _ I ⟨w, G, E, i, Same.refl G, q⟩
theorem xo_some {Ψ : EnvB → Option Int → Prop} (h : XE X F e E fun E1 r => ∃ n : Int, r = .sh (.int n) ∧ Ψ E1 (some n)) : XO X F (some e) E Ψ := fun pins s w σ H G I i =>
  (po_some (pe_tE (F := F))).run pins s σ H _ I (tE_go i h fun v w1 H1 G1 E1 r I1 s1 rv ⟨n, e, q⟩ => by
    subst e
    obtain rfl := rvI rv
    exact ⟨n, rfl, w1, G1, E1, I1, s1, q⟩)
theorem tO_go {w : Addr → Option Nat} {σ : L2.St} {H G : Hp} {Q : Option Int → Hp → Prop} {Ψ : EnvB → Option Int → Prop} (I : In X.K F w σ H G E) (h : XO X F lo E Ψ) (q : ∀ v w' H' G' E', In X.K F w' σ H' G' E' → Same G G' → Ψ E' v → Q v H') : tO X F lo σ H Q :=
  ⟨E, Ψ, w, G, I, h, fun v H' ⟨w', G', E', a, b, d⟩ => q v w' H' G' E' a b d⟩
def cutD {α : Type} (xs : List α) (lo hi : Option Int) : List α := (xs.drop (HT.sIx xs.length 0 lo)).take (HT.sIx xs.length xs.length hi - HT.sIx xs.length 0 lo)
theorem Rps.cut {K : PySem.W.Frag} {G : Hp} {xs : List V} {ds : List PD} (h : Rps K G xs ds) (lo hi : Option Int) : Rps K G (cutV xs lo hi) (cutD ds lo hi) := by
  unfold cutV cutD
  rw [h.length]
  exact (h.drop _).take _
abbrev rSl (K : PySem.W.Frag) : V → Option Int → Option Int → Hp → VK → Prop := fun x lo hi H Q => rSlL K x lo hi H Q ∨ (rSlA K x lo hi H Q ∨ rSlS x lo hi H Q)
theorem slr : SlR X (rSl X.K) := sl_list.or (sl_tupA.or sl_str)
def SlJ (X : Cx) (F : Fm) (E : EnvB) (r1 : Rs) (l u : Option Int) (Φ : EnvB → Rs → Prop) : Prop := ∀ (w : Addr → Option Nat) (σ : L2.St) (H G : Hp) (x : V) (Q : VK), In X.K F w σ H G E → RV X.K F w σ H G x r1 → (∀ v H', KE X.K F σ G Φ v H' → Q v H') → rSl X.K x l u H Q
theorem xe_slice (h : XE X F a E fun E1 r1 => ∃ r1', Fz r1 r1' ∧ XO X F lo E1 fun E2 l => XO X F hi E2 fun E3 u => SlJ X F E3 r1' l u Φ) : XE X F (.Subscript a (.Slice lo hi none p2) pos) E Φ :=
  xe_of (pe_slice slr pe_tE po_tO po_tO) fun w σ H G I => tE_go I h fun v1 w1 H1 G1 E1 r1 I1 s1 rv1 ⟨r1', f1, h1⟩ => by
    obtain ⟨G1', I1', s1', rv1'⟩ := f1.go I1 rv1
    exact tO_go I1' h1 fun l w2 H2 G2 E2 I2 s2 h2 => tO_go I2 h2 fun u w3 H3 G3 E3 I3 s3 h3 => h3 w3 σ H3 G3 v1 _ I3 (f1.keep (s2.trans s3) rv1') fun v H' k => k.tr (((s1.trans s1').trans s2).trans s3)
theorem slj_L {r : Rs} {ds : List PD} {l u : Option Int} (h : RD E r (.list ds)) (q : Φ E (.nw (.lst (cutD ds l u)))) : SlJ X F E r l u Φ := fun w σ H G x Q I rv k => by
  obtain ⟨a, xs, rfl, hx, rx⟩ := h.lst I rv
  refine .inl ⟨a, xs, rfl, .inl (.inl hx), fun p hp => k _ _ ?_⟩
  obtain ⟨I3, rp⟩ := I.newL hp (rx.cut l u)
  exact ke I3 (Same.refl G) rp q
theorem slj_scr {ds : List PD} {l u : Option Int} (q : Φ E (.nw (.lst (cutD ds l u)))) : SlJ X F E (.sh (.dict [(.none, .list ds)])) l u Φ := fun w σ H G x Q I rv k => by
  have rv : Rp X.K G x _ := rv
  cases rv with
  | scr h1 h2 =>
    refine .inl ⟨_, _, rfl, I.sub.seq h1, fun p hp => k _ _ ?_⟩
    obtain ⟨I3, rp⟩ := I.newL hp (h2.cut l u)
    exact ke I3 (Same.refl G) rp q
  | dic _ h => cases h
theorem slj_T {r : Rs} {ds : List PD} {l u : Option Int} (h : RD E r (.tuple ds)) (q : Φ E (.sh (.tuple (cutD ds l u)))) : SlJ X F E r l u Φ := fun w σ H G x Q I rv k => by
  obtain ⟨a, xs, rfl, hx, rx⟩ := h.tup I rv
  refine .inr (.inl ⟨a, xs, rfl, sqT_mono I.sub hx, fun z => k _ _ ?_, fun _ p hp => k _ _ ?_⟩)
  · have e : cutD ds l u = ds := by
      unfold cutD
      rw [← rx.length, z.1, z.2, List.drop_zero, Nat.sub_zero, rx.length, List.take_length]
    rw [e] at q
    exact ke I (Same.refl G) (r := .sh (.tuple ds)) (.tup hx rx) q
  · obtain ⟨I3, s3, rp⟩ := I.newT hp (rx.cut l u)
    exact ke I3 s3 (r := .sh (.tuple (cutD ds l u))) rp q
theorem slj_S {z : Str} {l u : Option Int} (hz : z.length ≤ 100000) (q : Φ E (.sh (.str (cutS z l u)))) : SlJ X F E (.sh (.str z)) l u Φ := fun w σ H G x Q I rv k => by
  obtain rfl := rvS rv
  exact .inr (.inr ⟨z, rfl, Nat.le_trans hz (by decide), k _ _ (keS I q)⟩)

/-! ### dicts -/
theorem xe_dict0 (q : Φ E (.nw (.dic []))) : XE X F (.Dict [] [] pos) E Φ := xe_of pe_dnewK fun w σ H G I => fun p hp => by
  obtain ⟨I3, rp⟩ := I.newD hp (kvs := []) (es := []) .nil
  exact ke I3 (Same.refl G) rp q
theorem xe_dget2 {apos : Pos} (hu : X.A.units + 64 < cLine) (h : XE X F o E fun E1 r0 => ∃ i b1 es1, r0 = .br i ∧ E1[i]? = some b1 ∧ b1.oc = some (.dic es1) ∧ XE X F e E1 fun E2 r1 => ∃ dk k, r1 = .sh dk ∧ kOf dk = some k ∧ XE X F a E2 fun E3 r2 => ∃ d b es, r2 = .sh d ∧ E3[i]? = some b ∧ b.oc = some (.dic es) ∧ Φ E3 (.sh ((dlook es k).getD d)))
    (m : M2 X o "get" apos e a pos := by exact ⟨rfl, rfl, rfl, rfl⟩) : XE X F (.Call (.Attribute o "get" apos) [e, a] [] pos) E Φ :=
  xe_of (pe_dget2 (by omega) pe_tE pe_tE pe_tE m) fun w σ H G I => tE_go I h fun v w1 H1 G1 E1 r I1 s1 rv ⟨i, b1, es1, e0, hE1, hb1, h1⟩ => by
    subst e0
    obtain ⟨l, el, hw, c⟩ := I1.owned hE1 hb1
    have rv : σ[i]? = some (some v) := rv
    rw [rv] at el
    cases el
    obtain ⟨kvs, c1, c2⟩ := c.dic
    refine ⟨l, rfl, .inl ⟨kvs, .inl c1⟩, tE_go I1 h1 fun v2 w2 H2 G2 E2 r2 I2 s2 rv2 ⟨dk, k, e2, hk, h2⟩ => tE_go I2 h2 fun v3 w3 H3 G3 E3 r3 I3 s3 rv3 ⟨d, b, es, e3, hE3, hb3, q⟩ => ?_⟩
    subst e2 e3
    obtain ⟨l', el, hw', c'⟩ := I3.owned hE3 hb3
    rw [rv] at el
    cases el
    obtain ⟨kvs', c1', c2'⟩ := c'.dic
    have rk : v2 = kV k := rp_key hk rv2
    subst rk
    refine ⟨_, DGet.k c1', ?_⟩
    rcases c2'.look k with ⟨q1, q2⟩ | ⟨v, d', q1, q2, q3⟩
    · rw [q2]
      rw [q1] at q
      exact ke I3 ((s1.trans s2).trans s3) (r := .sh d) rv3 q
    · rw [q2]
      rw [q1] at q
      exact ke I3 ((s1.trans s2).trans s3) (r := .sh d') q3 q
theorem xe_cmpR {op : CmpOp} {r : R2} (ho : OpR X (compareOp op) r) (h : XE X F a E fun E1 r1 => ∃ r1', Fz r1 r1' ∧ XE X F b E1 fun E2 r2 => OpJ X F r E2 r1' r2 Φ) (hm : behindInMarks op b = false := by first | exact nomark _ | rfl) : XE X F (.Compare a [op] [b] pos) E Φ :=
  xe_of (pe_cmpR ho pe_tE pe_tE hm) fun w σ H G I => tE_go I h fun v1 w1 H1 G1 E1 r1 I1 s1 rv1 ⟨r1', f1, h1⟩ => by
    obtain ⟨G1', I1', s1', rv1'⟩ := f1.go I1 rv1
    exact tE_go I1' h1 fun v2 w2 H2 G2 E2 r2 I2 s2 rv2 h2 => h2 w2 σ H2 G2 v1 v2 _ I2 (f1.keep s2 rv1') rv2 fun v H' k => k.tr ((s1.trans s1').trans s2)
theorem oj_eqDic {i : Nat} {bd : Bd} {es fs : List (Key × PD)} (hE : E[i]? = some bd) (hb : bd.oc = some (.dic es)) (hl : es.length = fs.length) (hv : ∀ p ∈ es, ∃ n : Int, p.2 = .int n ∧ dlook fs p.1 = some (.int n)) (q : Φ E (.sh (.bool true))) : OpJ X F rEqDA E (.br i) (.nw (.dic fs)) Φ := fun w σ H G x y Q I rx ry k => by
  obtain ⟨l, el, hw, c⟩ := I.owned hE hb
  have rx : σ[i]? = some (some x) := rx
  rw [rx] at el
  cases el
  obtain ⟨kvs, c1, c2⟩ := c.dic
  obtain ⟨p, rfl, c', _⟩ := ry
  obtain ⟨lvs, d1, d2⟩ := c'.dic
  refine ⟨l, p, kvs, lvs, rfl, rfl, c1, d1, by rw [c2.length, d2.length]; exact hl, ?_, k _ _ (keB I q)⟩
  clear c c1 hl hb hE
  induction c2 with
  | nil => intro p hp; cases hp
  | @cons k' v kvs d es r t ih =>
    intro pr hp
    rcases List.mem_cons.mp hp with rfl | hp
    · obtain ⟨n, e1, e2⟩ := hv (k', d) List.mem_cons_self
      have e1 : d = .int n := e1
      subst e1
      cases r
      rcases d2.look k' with ⟨q1, q2⟩ | ⟨v, d', q1, q2, q3⟩
      · rw [q1] at e2; cases e2
      · have e2 : dlook fs k' = some (.int n) := e2
        rw [q1] at e2
        cases e2
        cases q3
        exact ⟨q2, rfl⟩
    · exact ih (fun p hp => hv p (List.mem_cons_of_mem _ hp)) pr hp
def mergeD (kvs more : List (Key × PD)) : List (Key × PD) := more.foldl (fun acc kv => dput acc kv.1 kv.2) kvs
theorem Rkv.merge {K : PySem.W.Frag} {G : Hp} {ms : List (Key × V)} {ns : List (Key × PD)} (h2 : Rkv K G ms ns) : ∀ {kvs : List (Key × V)} {es : List (Key × PD)}, Rkv K G kvs es → Rkv K G (mergeK kvs ms) (mergeD es ns) := by
  induction h2 with
  | nil => exact fun h => h
  | cons r _ ih => exact fun h => ih (h.put _ r)
theorem kOf_kD (k : Key) : kOf (kD k) = some k := by cases k <;> rfl
theorem cj_dictP {r : Rs} {es : List (Key × PD)} (h : RD E r (.list (es.map fun p => .tuple [kD p.1, p.2]))) (q : Φ E (.nw (.dic (mergeD [] es)))) : CJ X F (fun xs H Q => ∃ (a : Addr) (ps : List Addr) (kvs : List (Key × V)), xs = [.ref a] ∧ SqL X.K H a (ps.map V.ref) ∧ Paired (fun p kv => SqT X.K H p [kV kv.1, kv.2]) ps kvs ∧
    ∀ p, H p = none → Q (.ref p) (upd H p (.dK (mergeK [] kvs)))) E [r] Φ := fun w σ H G vs Q I rvs kk => by
  obtain ⟨v, rfl, rv⟩ := rv_one (F := F) rvs
  obtain ⟨l, xs, rfl, hx, rx⟩ := h.lst I rv
  have go : ∀ (es : List (Key × PD)) (xs : List V), Rps X.K G xs (es.map fun p => .tuple [kD p.1, p.2]) → ∃ (ps : List Addr) (kvs : List (Key × V)), xs = ps.map V.ref ∧ Paired (fun p kv => SqT X.K H p [kV kv.1, kv.2]) ps kvs ∧ Rkv X.K G kvs es := fun es => by
    induction es with
    | nil => intro xs h; cases h; exact ⟨[], [], rfl, .nil, .nil⟩
    | cons p es ih =>
      intro xs h
      cases h with
      | cons h1 h2 =>
        obtain ⟨ps, kvs, e, pr, rk⟩ := ih _ h2
        cases h1 with
        | tup t1 t2 =>
          cases t2 with
          | cons u1 t2 =>
            cases t2 with
            | cons u2 t2 =>
              cases t2
              obtain rfl := rp_key (kOf_kD p.1) u1
              exact ⟨_ :: ps, (p.1, _) :: kvs, by rw [e]; rfl, .cons (sqT_mono I.sub t1) pr, .cons u2 rk⟩
  obtain ⟨ps, kvs, e, pr, rk⟩ := go es xs rx
  subst e
  refine ⟨l, ps, kvs, rfl, .inl (.inl hx), pr, fun p hp => kk _ _ ?_⟩
  obtain ⟨I3, rp⟩ := I.newD hp (rk.merge .nil)
  exact ke I3 (Same.refl G) rp q

/-! ### methods of texts -/
theorem mj_count {s z : Str} (q : Φ E (.sh (.int (Txt.count s z)))) : MJ X F (fun x xs H Q => ∃ a b, x = .str a ∧ xs = [.str b] ∧ Q (.int (Txt.count a b)) H) E (.sh (.str s)) [.sh (.str z)] Φ := fun w σ H G x vs Q I r0 rvs kk => by
  obtain ⟨v, rfl, rv⟩ := rv_one (F := F) rvs
  exact ⟨s, z, rvS r0, by rw [rvS rv], kk _ _ (keI I q)⟩
theorem mj_join {s : Str} {r : Rs} {ys : List Str} (h : RD E r (.list (ys.map .str)) ∨ RD E r (.tuple (ys.map .str))) (hz : (ys.map (·.length)).sum + ys.length * s.length ≤ 100000) (q : Φ E (.sh (.str (Txt.join s ys)))) : MJ X F (fun x xs H Q => ∃ a p, ∃ ys : List Str, x = .str a ∧ xs = [.ref p] ∧ (SqL X.K H p (ys.map V.str) ∨ SqT X.K H p (ys.map V.str)) ∧
    (ys.map (·.length)).sum + ys.length * a.length ≤ 16777216 ∧ Q (.str (Txt.join a ys)) H) E (.sh (.str s)) [r] Φ := fun w σ H G x vs Q I r0 rvs kk => by
  obtain ⟨v, rfl, rv⟩ := rv_one (F := F) rvs
  rcases h with h | h
  · obtain ⟨l, xs, rfl, hx, rx⟩ := h.lst I rv
    obtain rfl := rx.strs
    exact ⟨s, l, ys, rvS r0, rfl, .inl (.inl (.inl hx)), Nat.le_trans hz (by decide), kk _ _ (keS I q)⟩
  · obtain ⟨l, xs, rfl, hx, rx⟩ := h.tup I rv
    obtain rfl := rx.strs
    exact ⟨s, l, ys, rvS r0, rfl, .inr (sqT_mono I.sub hx), Nat.le_trans hz (by decide), kk _ _ (keS I q)⟩

/-! ### assignments of pairs, by any target -/
theorem xs_asg {Φ : Post} {tg : Expr} (h : XE X F e E fun E1 r => ∃ d, Fz r (.sh d) ∧ XG X F tg (.sh d) E1 Φ.nx) (hs : swapsWithSole [tg] e pos.line X.env = pure false := by rfl) (hw : swappedStores [tg] e X.env = pure none := by rfl)
    (h1 : (assignEach [tg] X.env).map (·.2) = [assign tg X.env] := by rfl) : XS X F (.Assign [tg] e pos) E Φ :=
  xs_of (ps_asg pe_tE (pg_tG (F := F)) hs hw h1) fun w σ H G I => tE_go I h fun v w1 H1 G1 E1 r I1 s1 rv ⟨d, f, q⟩ => by
    obtain ⟨G1', I1', s1', rv1'⟩ := f.go I1 rv
    exact ⟨E1, .sh d, _, w1, G1', I1', rv1', q, fun σ' H' k => k.tr (s1.trans s1')⟩
theorem xs_par {Φ : Post} {i j : Nat} {y : Str} {px py pt : Pos} {kt k2 pt2} (h : XA X F [a, b] E fun E1 rs => ∃ E2 d1 d2 E3 E4, Fzs E1 rs E2 [d1, d2] ∧ SetE E2 i (.sh d1) E3 ∧ SetE E3 j (.sh d2) E4 ∧ Φ.nx E4) (hij : i ≠ j := by decide) (hN : X.N.Nodup := by assumption) (hi : X.N[i]? = some x := by rfl) (hj : X.N[j]? = some y := by rfl)
    (hx : X.env.scope.names.lookup x = some .local := by rfl) (hy : X.env.scope.names.lookup y = some .local := by rfl) (hw : swappedStores [.Tuple [.Name x px, .Name y py] kt pt] (.Tuple [a, b] k2 pt2) X.env = pure (some [x, y]) := by rfl) (hc : X.calm = true := by rfl)
    (hs : swapsWithSole [.Tuple [.Name x px, .Name y py] kt pt] (.Tuple [a, b] k2 pt2) pos.line X.env = pure false := by rfl) : XS X F (.Assign [.Tuple [.Name x px, .Name y py] kt pt] (.Tuple [a, b] k2 pt2) pos) E Φ :=
  xs_of (ps_par hc hN hi hj hij hx hy pa_tA hw hs) fun w σ H G I => tA_go I h fun vs w1 H1 G1 E1 rs I1 s1 rvs ⟨E2, d1, d2, E3, E4, f, h3, h4, q⟩ => by
    obtain ⟨w2, G2, I2, s2, rps⟩ := f.go I1 rvs
    cases rps with
    | cons r1 rr =>
      cases rr with
      | cons r2 rr =>
        cases rr
        refine ⟨_, _, rfl, w2, G2, E4, ?_, s1.trans s2, q⟩
        rw [h4.eq, h3.eq]
        exact (I2.setSh r1).setSh r2

/-! ### f(k = v) -/
def KAk (K : PySem.W.Frag) (F : Fm) (σ : L2.St) (G : Hp) (Φ : EnvB → List Rs → Prop) := KA K F σ G Φ
def XKw (X : Cx) (F : Fm) (kws : List Keyword) (E : EnvB) (Φ : EnvB → List Rs → Prop) : Prop := ∀ (pos : Pos) (pins : List (Addr × Obj)) (s : Shared) (w : Addr → Option Nat) (σ : L2.St) (H G : Hp), Inv X pins σ H s → In X.K F w σ H G E →
  wpAny (model X.prog X.w) X.A (evalAll ((backToKw pos (keywordEach kws X.env)).map (·.2))) (AP X pins σ (KA X.K F σ G Φ)) X.xe s
def tKw (X : Cx) (F : Fm) (kws : List Keyword) : TA := fun σ H Q => ∃ E Φ w G, In X.K F w σ H G E ∧ XKw X F kws E Φ ∧ ∀ v H', KA X.K F σ G Φ v H' → Q v H'
theorem pk_tKw {kws : List Keyword} : PK X kws (tKw X F kws) := ⟨fun pos pins s σ H Q I h => by
  obtain ⟨E, Φ, w, G, i, h, q⟩ := h
  exact thn (h pos pins s w σ H G I i) fun u s' ⟨v, H', I', r, k⟩ => ⟨v, H', I', r, q v H' k⟩⟩
theorem xk_nil {Φ : EnvB → List Rs → Prop} (q : Φ E []) : XKw X F [] E Φ := fun pos pins s w σ H G I i => pk_nil.run pos pins s σ H _ I ⟨w, G, E, [], i, Same.refl G, .nil, q⟩
theorem tKw_go {kws : List Keyword} {w : Addr → Option Nat} {σ : L2.St} {H G : Hp} {Q : List V → Hp → Prop} {Φ : EnvB → List Rs → Prop} (I : In X.K F w σ H G E) (h : XKw X F kws E Φ) (q : ∀ v w' H' G' E' r, In X.K F w' σ H' G' E' → Same G G' → RVs X.K w' σ H' G' v r → Φ E' r → Q v H') : tKw X F kws σ H Q :=
  ⟨E, Φ, w, G, I, h, fun v H' ⟨w', G', E', r, a, b, c, d⟩ => q v w' H' G' E' r a b c d⟩
theorem xk_cons {Φ : EnvB → List Rs → Prop} {nm : Option Str} {kpos : Pos} {kws : List Keyword} (h : XE X F e E fun E1 r => ∃ r', Fz r r' ∧ XKw X F kws E1 fun E2 rs => Φ E2 (r' :: rs)) : XKw X F (⟨nm, e, kpos⟩ :: kws) E Φ := fun pos pins s w σ H G I i =>
  (pk_cons pe_tE pk_tKw).run pos pins s σ H _ I (tE_go i h fun v w1 H1 G1 E1 r I1 s1 rv ⟨r', f, h1⟩ => by
    obtain ⟨G1', I1', s1', rv1'⟩ := f.go I1 rv
    exact tKw_go I1' h1 fun vs w2 H2 G2 E2 rs I2 s2 rvs q => ⟨w2, G2, E2, r' :: rs, I2, (s1.trans s1').trans s2, f.cons (f.keep s2 rv1') rvs, q⟩)
/-- the keywords' values, put into the parameters' order; nothing is given by its place -/
def prm {α : Type} (js : List Nat) (us ws : List α) : List α := match us with
  | [] => js.filterMap fun j => ws[j]?
  | _ :: _ => []
structure CalK (P : Program) (w : World) (K : PySem.W.Frag) (mg : Str → Option Value) (base : Heap) (x : Str) (ks : List Str) (js : List Nat) (k : Nat) (sp : Sp) : Prop where
  ex : ∃ (f : Addr) (fd : FuncData) (ps : List Str), FnOk P w K mg base CX0 k f fd ps sp ∧ mg x = some (.ref f) ∧ PySem.W.keepIn K (.ref f) = true ∧ KBinds K fd ps ks (prm js) (prm js)
theorem vals_get {vs : List V} {us : List Value} (r : Vals vs us) : ∀ j : Nat, (vs[j]? = none ∧ us[j]? = none) ∨ ∃ v u, vs[j]? = some v ∧ us[j]? = some u ∧ RelV v u := by
  induction r with
  | nil => intro j; exact .inl ⟨rfl, rfl⟩
  | cons r _ ih =>
    intro j
    cases j with
    | zero => exact .inr ⟨_, _, rfl, rfl, r⟩
    | succ j => simpa using ih j
theorem vals_prm {vs : List V} {us : List Value} {zs : List V} {ws : List Value} (js : List Nat) (r : Vals vs us) (r2 : Vals zs ws) : Vals (prm js vs zs) (prm js us ws) := by
  cases r with
  | cons _ _ => exact .nil
  | nil =>
    unfold prm
    induction js with
    | nil => exact .nil
    | cons j js ih =>
      rw [List.filterMap_cons, List.filterMap_cons]
      rcases vals_get r2 j with ⟨e1, e2⟩ | ⟨v, u, e1, e2, h⟩
      · rw [e1, e2]; exact ih
      · rw [e1, e2]; exact .cons h ih
theorem rps_prm {K : PySem.W.Frag} {G : Hp} {vs : List V} {ds : List PD} (js : List Nat) (r : Rps K G vs ds) : Rps K G (prm js [] vs) (prm js [] ds) := by
  unfold prm
  induction js with
  | nil => exact .nil
  | cons j js ih =>
    rw [List.filterMap_cons, List.filterMap_cons]
    cases e : ds[j]? with
    | none =>
      have e2 : vs[j]? = none := by
        rw [List.getElem?_eq_none_iff] at e ⊢
        rw [r.length]; exact e
      rw [e2]; exact ih
    | some d =>
      obtain ⟨v, e2, h⟩ := r.get e
      rw [e2]; exact .cons h ih
theorem pe_callK0 {CX : CXT} {k : Nat} {f : Addr} {fd : FuncData} {ps ks : List Str} {sp : Sp} {EX : XK} {kws : List Keyword} {tk : TA} {g : List Value → List Value → List Value} {gV : List V → List V → List V} (Fk : FnOk X.prog X.w X.K X.mg X.base CX k f fd ps sp) (hr : Room k X.A) (hg : Gl X x) (hm : X.mg x = some (.ref f)) (hk : PySem.W.keepIn X.K (.ref f) = true) (hb : KBinds X.K fd ps ks g gV) (hx : Passes CX X EX)
    (hkw : PK X kws tk) (hall : (backToKw pos (keywordEach kws X.env)).all (·.1.isSome) = true := by rfl) (hks : (backToKw pos (keywordEach kws X.env)).filterMap (·.1) = ks := by rfl)
    (hdb : (x == ("__debug__" : Str)) = false := by decide) (hpl : ((backTo pos (starEach [] X.env)).any (·.1) || (backToKw pos (keywordEach kws X.env)).any (·.1.isNone)) = false := by rfl) :
    PE X (.Call (.Name x p) [] kws pos) (tCallK sp gV EX tNil tk) := by
  refine ⟨fun pins s σ H Q I h => ?_⟩
  refine wpAny_Call_Name_kw (ld_glob I hg hm ?_ hdb)
  refine PySem.W.callWith_KW0 (h₀ := X.base) I.ok.mod.kin hk hall (thn (hkw.run pos pins s σ H _ I h) fun ws s2 ⟨zs, H2, I2, rz, q2⟩ => ⟨I2.kIn, ?_⟩) hpl
  rw [hks]
  exact run_fnk (us := []) Fk hr hb hx I2 .nil rz q2
theorem xe_callK0 {kws : List Keyword} {ks : List Str} {js : List Nat} {k n : Nat} {spec : List PD → (Rs → Prop) → Prop} (C : CalK X.prog X.w X.K X.mg X.base x ks js k (Pm X.K n spec)) (hr : Room k X.A) (h : XKw X F kws E fun E1 rs => ∃ E2 ds, Fzs E1 rs E2 ds ∧ (prm js [] ds).length = n ∧ ∀ Ψ : Rs → Prop, (∀ r, Φ E2 r → Ψ r) → spec (prm js [] ds) Ψ)
    (hg : Gl X x := by rfl) (hdb : (x == ("__debug__" : Str)) = false := by decide) (hall : (backToKw pos (keywordEach kws X.env)).all (·.1.isSome) = true := by rfl) (hks : (backToKw pos (keywordEach kws X.env)).filterMap (·.1) = ks := by rfl)
    (hpl : ((backTo pos (starEach [] X.env)).any (·.1) || (backToKw pos (keywordEach kws X.env)).any (·.1.isNone)) = false := by rfl) : XE X F (.Call (.Name x p) [] kws pos) E Φ := by
  obtain ⟨f, fd, ps, Fk, hm, hk, hb⟩ := C.ex
  refine xe_of (pe_callK0 Fk hr hg hm hk hb pass0 pk_tKw hall hks hdb hpl) fun w σ H G I => tKw_go I h fun vs w1 H1 G1 E1 rs I1 s1 rvs ⟨E2, ds, fz, hn, q⟩ => ?_
  obtain ⟨w2, G2, I2, s2, rps⟩ := fz.go I1 rvs
  refine ⟨G2, prm js [] ds, I2.sub, rps_prm js rps, hn, q _ fun r hr v H' G' h1 h2 h3 rv => ?_⟩
  obtain ⟨I3, s3⟩ := I2.after h1 h2 h3
  exact ke I3 ((s1.trans s2).trans s3) (rv.rv I2) hr
end
end Bk

set_option maxHeartbeats 4000000
namespace Bk
open PySem PySem.Spec PyProof.Rows L2

/-! ### comprehensions, by what each item is -/
def blkB (N : List Str) (sc scope : Scope) (own : List (Str × Nat)) : Bool :=
  decide (scope.kind = .function) && scope.names.all (fun y => decide (scope.names.lookup y.1 = some y.2)) && own.all (fun p => decide (N[p.2]? = some p.1)) &&
  scope.names.all (fun y => !decide (y.2 = .free) || (decide (sc.names.lookup y.1 = some .cell) || decide (sc.names.lookup y.1 = some .free))) &&
  scope.names.all (fun y => !(decide (y.2 = .local) || decide (y.2 = .cell)) || (decide (y.1 ∈ own.map (·.1)) || decide (y.1 ∉ N)))
theorem blk_ok {N : List Str} {sc scope : Scope} {own : List (Str × Nat)} (h : blkB N sc scope own = true) : BlkOk N sc scope own := by
  unfold blkB at h
  simp only [Bool.and_eq_true, List.all_eq_true, decide_eq_true_eq, Bool.or_eq_true, Bool.not_eq_true', decide_eq_false_iff_not] at h
  obtain ⟨⟨⟨⟨h1, h2⟩, h3⟩, h4⟩, h5⟩ := h
  exact ⟨h1, h2, h3, fun y hy e => (h4 y hy).resolve_left fun z => z e, fun y hy e => (h5 y hy).resolve_left fun z => by rcases e with e | e <;> simp [e] at z⟩
section
variable {X : Cx} {F : Fm} {E : EnvB} {elt iter : Expr} {pos : Pos} {x y : Str} {scope : Scope} {Φ : EnvB → Rs → Prop} {p p1 p2 tpos : Pos} {i i2 kk : Nat}
/-- one name -/
def LcN (X : Cx) (F : Fm) (scope : Scope) (elt : Expr) (x : Str) (p : Pos) (iter : Expr) (i : Nat) (E : EnvB) (Φ : EnvB → Rs → Prop) : Prop :=
  XI X F (.Name x p) iter E fun E1 ds => ds.length ≤ 100000 ∧ ∃ (Iv : Nat → EnvB → Prop) (R : Nat → PD → Prop), (∃ E2, SetE E1 i .un E2 ∧ Iv 0 E2) ∧
    (∀ k d E2 F', ds[k]? = some d → Iv k E2 → ∃ E3, SetE E2 i (.sh d) E3 ∧ ∀ j, XE (Bx X scope j) F' elt E3 fun E5 r => ∃ r' E6 y E7, Fz r r' ∧ Fzs E5 [r'] E6 [y] ∧ SetE E6 i .un E7 ∧ Iv (k + 1) E7 ∧ R k y) ∧
    ∀ E2 ys, Iv ds.length E2 → ys.length = ds.length → (∀ k y, ys[k]? = some y → R k y) → Φ E2 (.nw (.lst ys))
/-- a pair of names -/
def LcP (X : Cx) (F : Fm) (scope : Scope) (elt : Expr) (x y : Str) (p1 p2 tpos : Pos) (kk : Nat) (iter : Expr) (i i2 : Nat) (E : EnvB) (Φ : EnvB → Rs → Prop) : Prop :=
  XI X F (.Tuple [.Name x p1, .Name y p2] kk tpos) iter E fun E1 ds => ds.length ≤ 100000 ∧ ∃ (Iv : Nat → EnvB → Prop) (R : Nat → PD → Prop), (∃ E2 E3, SetE E1 i2 .un E2 ∧ SetE E2 i .un E3 ∧ Iv 0 E3) ∧
    (∀ k d E2 F', ds[k]? = some d → Iv k E2 → ∃ d1 d2 E3 E4, d = .tuple [d1, d2] ∧ SetE E2 i (.sh d1) E3 ∧ SetE E3 i2 (.sh d2) E4 ∧ ∀ j, XE (Bx X scope j) F' elt E4 fun E5 r => ∃ r' E6 y E7 E8, Fz r r' ∧ Fzs E5 [r'] E6 [y] ∧ SetE E6 i2 .un E7 ∧ SetE E7 i .un E8 ∧ Iv (k + 1) E8 ∧ R k y) ∧
    ∀ E2 ys, Iv ds.length E2 → ys.length = ds.length → (∀ k y, ys[k]? = some y → R k y) → Φ E2 (.nw (.lst ys))
theorem acc_all {R : Nat → PD → Prop} {acc : List PD} {k : Nat} {y : PD} (hk : acc.length = k) (h : ∀ j z, acc[j]? = some z → R j z) (q : R k y) : ∀ j z, (acc ++ [y])[j]? = some z → R j z := fun j z e => by
  by_cases hj : j < acc.length
  · rw [List.getElem?_append_left hj] at e
    exact h j z e
  · rw [List.getElem?_append_right (Nat.le_of_not_lt hj)] at e
    have hj2 : j - acc.length = 0 := by
      cases q2 : j - acc.length with
      | zero => rfl
      | succ m => rw [q2] at e; simp at e
    rw [hj2] at e
    have e : some y = some z := e
    cases e
    have : j = k := by omega
    subst this
    exact q
theorem LcN.to (h : LcN X F scope elt x p iter i E Φ) : LcJ X F scope elt (.Name x p) iter [] (gName i) [i] [i] E Φ := fun pins s w σ H G I0 i0 => by
  refine thn (h pins s w σ H G I0 i0) fun v s1 h1 => thn h1 fun u s2 h2 => pie_imp (fun J H' q => ?_) h2
  obtain ⟨w', G', E1, ds, a, b, c, hds, Iv, R, ⟨E2, hs2, h0⟩, hst, hd⟩ := q
  refine ⟨w', G', E1, ds, a, b, c, hds, fun k E acc => Iv k E ∧ acc.length = k ∧ ∀ j z, acc[j]? = some z → R j z, ⟨E2, .cons .nil hs2, h0, rfl, fun j z e => by simp at e⟩, fun k d E2 acc F' hk ⟨hiv, hl, hr⟩ => ?_, fun E2 acc ⟨hiv, hl, hr⟩ => hd E2 acc hiv hl hr⟩
  obtain ⟨E3, hs3, he⟩ := hst k d E2 F' hk hiv
  refine ⟨E3, gok_name hs3, fun j => xts_nil ⟨fun _ j2 => xe_cut (he j2) fun E5 r ⟨r', E6, y, E7, f, fs, wp, iv, q⟩ => ⟨r', E6, y, E7, f, fs, .cons .nil wp, iv, by rw [List.length_append, hl]; rfl, acc_all hl hr q⟩, fun z => by cases z⟩⟩
theorem LcP.to (h : LcP X F scope elt x y p1 p2 tpos kk iter i i2 E Φ) : LcJ X F scope elt (.Tuple [.Name x p1, .Name y p2] kk tpos) iter [] (gTup X.K 2 (gCons (gName i) (gCons (gName i2) gNil))) [i, i2] [i, i2] E Φ := fun pins s w σ H G I0 i0 => by
  refine thn (h pins s w σ H G I0 i0) fun v s1 h1 => thn h1 fun u s2 h2 => pie_imp (fun J H' q => ?_) h2
  obtain ⟨w', G', E1, ds, a, b, c, hds, Iv, R, ⟨E2, E2', hs2, hs2', h0⟩, hst, hd⟩ := q
  refine ⟨w', G', E1, ds, a, b, c, hds, fun k E acc => Iv k E ∧ acc.length = k ∧ ∀ j z, acc[j]? = some z → R j z, ⟨E2', .cons (.cons .nil hs2) hs2', h0, rfl, fun j z e => by simp at e⟩, fun k d E2 acc F' hk ⟨hiv, hl, hr⟩ => ?_, fun E2 acc ⟨hiv, hl, hr⟩ => hd E2 acc hiv hl hr⟩
  obtain ⟨d1, d2, E3, E4, rfl, hs3, hs4, he⟩ := hst k d E2 F' hk hiv
  refine ⟨E4, gok_pair hs3 hs4, fun j => xts_nil ⟨fun _ j2 => xe_cut (he j2) fun E5 r ⟨r', E6, y, E7, E8, f, fs, wp, wp2, iv, q⟩ => ⟨r', E6, y, E8, f, fs, .cons (.cons .nil wp) wp2, iv, by rw [List.length_append, hl]; rfl, acc_all hl hr q⟩, fun z => by cases z⟩⟩
theorem bx_local {j : BIx} (h : scope.names.lookup x = some .local) : (Bx X scope j).env.scope.names.lookup x = some .local := lookup_relabel_local h
theorem pg_bx {j : BIx} (hN : X.N.Nodup) (hi : X.N[i]? = some x) (hl : scope.names.lookup x = some .local) : PG (Bx X scope j) (.Name x p) (gName i) :=
  pg_name (X := Bx X scope j) hN hi (.inl (bx_local hl)) (.inr (bx_local hl))
theorem xe_lcN (h : LcN X F scope elt x p iter i E Φ) (ok : blkB X.N X.env.scope scope [(x, i)] = true := by kernel_rfl) (hi : X.N[i]? = some x := by rfl) (hl : scope.names.lookup x = some .local := by rfl) (hN : X.N.Nodup := by assumption) (hc : X.calm = true := by rfl) (hs : ∀ x, foldedSetIterable iter X.env x = pure x := by intro _; rfl) :
    XE X F (.ListComp elt [⟨.Name x p, iter, [], 0⟩] scope pos) E Φ := xe_lc (own := [(x, i)]) (fun j => pg_bx hN hi hl) (fun j hj => hj) (blk_ok ok) h.to hN hc hs
theorem pg_bxP {j : BIx} (hc : X.calm = true) (hN : X.N.Nodup) (hi : X.N[i]? = some x) (hl : scope.names.lookup x = some .local) (hi2 : X.N[i2]? = some y) (hl2 : scope.names.lookup y = some .local)
    (q1 : (assignEach [.Name x p1, .Name y p2] (Bx X scope j).env).map (·.2) = assign (.Name x p1) (Bx X scope j).env :: (assignEach [.Name y p2] (Bx X scope j).env).map (·.2)) (q2 : (assignEach [.Name y p2] (Bx X scope j).env).map (·.2) = assign (.Name y p2) (Bx X scope j).env :: (assignEach [] (Bx X scope j).env).map (·.2))
    (hn : (assignEach [.Name x p1, .Name y p2] (Bx X scope j).env).length = 2) (hst : (assignEach [.Name x p1, .Name y p2] (Bx X scope j).env).findIdx? (·.1) = none) : PG (Bx X scope j) (.Tuple [.Name x p1, .Name y p2] kk tpos) (gTup X.K 2 (gCons (gName i) (gCons (gName i2) gNil))) :=
  pg_tup (X := Bx X scope j) hc (pgs_cons (pg_bx hN hi hl) (pgs_cons (pg_bx hN hi2 hl2) pgs_nil q2) q1) hn hst
theorem xe_lcP (h : LcP X F scope elt x y p1 p2 tpos kk iter i i2 E Φ) (ok : blkB X.N X.env.scope scope [(x, i), (y, i2)] = true := by kernel_rfl) (hi : X.N[i]? = some x := by rfl) (hl : scope.names.lookup x = some .local := by rfl) (hi2 : X.N[i2]? = some y := by rfl) (hl2 : scope.names.lookup y = some .local := by rfl) (hN : X.N.Nodup := by assumption) (hc : X.calm = true := by rfl) (hs : ∀ x, foldedSetIterable iter X.env x = pure x := by intro _; rfl) :
    XE X F (.ListComp elt [⟨.Tuple [.Name x p1, .Name y p2] kk tpos, iter, [], 0⟩] scope pos) E Φ := xe_lc (own := [(x, i), (y, i2)]) (fun j => pg_bxP hc hN hi hl hi2 hl2 rfl rfl rfl rfl) (fun j hj => hj) (blk_ok ok) h.to hN hc hs
theorem xs_setLcN {Φ : Post} {i0 : Nat} {x0 : Str} {py spos : Pos} (h : LcN X F scope elt x p iter i E fun E1 r => ∃ E2, AsgE E1 i0 r E2 ∧ Φ.nx E2) (ok : blkB X.N X.env.scope scope [(x, i)] = true := by kernel_rfl) (hi : X.N[i]? = some x := by rfl) (hl : scope.names.lookup x = some .local := by rfl)
    (hsw : swapsWith (.ListComp elt [⟨.Name x p, iter, [], 0⟩] scope pos) (some (.Name x0 py)) spos.line X.env = pure true := by rfl) (hN : X.N.Nodup := by assumption) (hc : X.calm = true := by rfl) (hy : X.N[i0]? = some x0 := by rfl) (hyl : X.env.scope.names.lookup x0 = some .local := by rfl) (hs : ∀ x, foldedSetIterable iter X.env x = pure x := by intro _; rfl) :
    XS X F (.Assign [.Name x0 py] (.ListComp elt [⟨.Name x p, iter, [], 0⟩] scope pos) spos) E Φ := xs_setLc (own := [(x, i)]) (fun j => pg_bx hN hi hl) (fun j hj => hj) (blk_ok ok) h.to hsw hN hc hy hyl hs
theorem xs_setLcP {Φ : Post} {i0 : Nat} {x0 : Str} {py spos : Pos} (h : LcP X F scope elt x y p1 p2 tpos kk iter i i2 E fun E1 r => ∃ E2, AsgE E1 i0 r E2 ∧ Φ.nx E2) (ok : blkB X.N X.env.scope scope [(x, i), (y, i2)] = true := by kernel_rfl) (hi : X.N[i]? = some x := by rfl) (hl : scope.names.lookup x = some .local := by rfl) (hi2 : X.N[i2]? = some y := by rfl) (hl2 : scope.names.lookup y = some .local := by rfl)
    (hsw : swapsWith (.ListComp elt [⟨.Tuple [.Name x p1, .Name y p2] kk tpos, iter, [], 0⟩] scope pos) (some (.Name x0 py)) spos.line X.env = pure true := by rfl) (hN : X.N.Nodup := by assumption) (hc : X.calm = true := by rfl) (hy : X.N[i0]? = some x0 := by rfl) (hyl : X.env.scope.names.lookup x0 = some .local := by rfl) (hs : ∀ x, foldedSetIterable iter X.env x = pure x := by intro _; rfl) :
    XS X F (.Assign [.Name x0 py] (.ListComp elt [⟨.Tuple [.Name x p1, .Name y p2] kk tpos, iter, [], 0⟩] scope pos) spos) E Φ := xs_setLc (own := [(x, i), (y, i2)]) (fun j => pg_bxP hc hN hi hl hi2 hl2 rfl rfl rfl rfl) (fun j hj => hj) (blk_ok ok) h.to hsw hN hc hy hyl hs
end
end Bk

set_option maxHeartbeats 4000000
namespace Bk
open PySem PySem.Spec PyProof.Rows L2

theorem xe_neg {X : Cx} {F : Fm} {E : EnvB} {a : Expr} {Φ : EnvB → Rs → Prop} {pos : Pos} (h : XE X F a E fun E1 r => ∃ n : Int, r = .sh (.int n) ∧ Φ E1 (.sh (.int (-n)))) : XE X F (.UnaryOp .USub a pos) E Φ :=
  xe_of (pe_un un_neg pe_tE) fun w σ H G I => tE_go I h fun v w1 H1 G1 E1 r I1 s1 rv ⟨n, e, q⟩ => by
    subst e
    obtain rfl := rvI rv
    exact ⟨n, rfl, ke I1 s1 (r := .sh (.int (-n))) (.int (-n)) q⟩

/-! ### lists of numbers, as data -/
abbrev pI (ns : List Int) : List PD := ns.map PyData.int
theorem nds_ints : ∀ ns : List Int, nds (pI ns) = true
  | [] => rfl
  | n :: ns => by
    show (nd (.int n) && nds (pI ns)) = true
    rw [nds_ints ns]; rfl
theorem lay_ints : ∀ ns : List Int, PyData.canLayAll0 (pI ns) = true
  | [] => by unfold pI; simp [PyData.canLayAll0]
  | n :: ns => by
    show PyData.canLayAll0 (.int n :: pI ns) = true
    simp [PyData.canLayAll0, PyData.canLay0, lay_ints ns]
theorem dep_ints : ∀ ns : List Int, PyData.depthAll (pI ns) = 0
  | [] => by unfold pI; simp [PyData.depthAll]
  | n :: ns => by
    show PyData.depthAll (.int n :: pI ns) = 0
    simp [PyData.depthAll, PyData.depth, dep_ints ns]
theorem shp_listI (ns : List Int) : SeqAt.shaped (.list (pI ns)) = true := by
  simp [SeqAt.shaped, PyData.canLay0, PyData.depth, lay_ints, dep_ints]
theorem shp_tupI (ns : List Int) : SeqAt.shaped (.tuple (pI ns)) = true := by
  simp [SeqAt.shaped, PyData.canLay0, PyData.depth, lay_ints, dep_ints]
theorem eqvA_ints : ∀ ns ms : List Int, PyData.eqvAll (pI ns) (pI ms) = decide (ns = ms)
  | [], [] => by unfold pI; simp [PyData.eqvAll]
  | n :: ns, [] => by unfold pI; simp [PyData.eqvAll]
  | [], m :: ms => by unfold pI; simp [PyData.eqvAll]
  | n :: ns, m :: ms => by
    show PyData.eqvAll (.int n :: pI ns) (.int m :: pI ms) = _
    simp [PyData.eqvAll, PyData.eqv, eqvA_ints ns ms]
    by_cases h : n = m <;> simp [h]
theorem eqv_listI (ns ms : List Int) : PyData.eqv (.list (pI ns)) (.list (pI ms)) = decide (ns = ms) := by
  simp only [PyData.eqv]; exact eqvA_ints ns ms
theorem eqv_tupI (ns ms : List Int) : PyData.eqv (.tuple (pI ns)) (.tuple (pI ms)) = decide (ns = ms) := by
  simp only [PyData.eqv]; exact eqvA_ints ns ms
section
variable {X : Cx} {F : Fm} {E : EnvB} {Φ : EnvB → Rs → Prop} {r1 r2 : Rs}
theorem oj_eqLI {ns ms : List Int} (h1 : RD E r1 (.list (pI ns))) (h2 : RD E r2 (.list (pI ms))) (q : Φ E (.sh (.bool (decide (ns = ms))))) : OpJ X F (rEqX X.K) E r1 r2 Φ :=
  oj_eqD h1 h2 (by simp [nd, nds_ints]) (by simp [nd, nds_ints]) (shp_listI _) (shp_listI _) (by rw [eqv_listI]; exact q)
theorem oj_neLI {ns ms : List Int} (h1 : RD E r1 (.list (pI ns))) (h2 : RD E r2 (.list (pI ms))) (q : Φ E (.sh (.bool (!decide (ns = ms))))) : OpJ X F (rNeX X.K) E r1 r2 Φ :=
  oj_neD h1 h2 (by simp [nd, nds_ints]) (by simp [nd, nds_ints]) (shp_listI _) (shp_listI _) (by rw [eqv_listI]; exact q)
theorem oj_eqTI {ns ms : List Int} (h1 : RD E r1 (.tuple (pI ns))) (h2 : RD E r2 (.tuple (pI ms))) (q : Φ E (.sh (.bool (decide (ns = ms))))) : OpJ X F (rEqX X.K) E r1 r2 Φ :=
  oj_eqD h1 h2 (by simp [nd, nds_ints]) (by simp [nd, nds_ints]) (shp_tupI _) (shp_tupI _) (by rw [eqv_tupI]; exact q)
theorem oj_neTI {ns ms : List Int} (h1 : RD E r1 (.tuple (pI ns))) (h2 : RD E r2 (.tuple (pI ms))) (q : Φ E (.sh (.bool (!decide (ns = ms))))) : OpJ X F (rNeX X.K) E r1 r2 Φ :=
  oj_neD h1 h2 (by simp [nd, nds_ints]) (by simp [nd, nds_ints]) (shp_tupI _) (shp_tupI _) (by rw [eqv_tupI]; exact q)
end
theorem ints_get {ns : List Int} {k : Nat} {d : PD} (h : (pI ns)[k]? = some d) : ∃ n, ns[k]? = some n ∧ d = .int n := by
  unfold pI at h
  rw [List.getElem?_map] at h
  cases e : ns[k]? with
  | none => rw [e] at h; cases h
  | some n => rw [e] at h; exact ⟨n, rfl, (Option.some.inj h).symm⟩
theorem ints_of (ys : List PD) (ns : List Int) (hl : ys.length = ns.length) (h : ∀ (k : Nat) (y : PD), ys[k]? = some y → ∃ n, y = .int n ∧ ns[k]? = some n) : ys = pI ns := by
  unfold pI
  refine List.ext_getElem? fun k => ?_
  rw [List.getElem?_map]
  cases e : ys[k]? with
  | none =>
    rw [List.getElem?_eq_none_iff] at e
    rw [List.getElem?_eq_none (by omega)]
    rfl
  | some y =>
    obtain ⟨n, rfl, h2⟩ := h k y e
    rw [h2]
    rfl
theorem atI_ints {ns : List Int} {k : Nat} {n : Int} (h : ns[k]? = some n) : atI (pI ns) (k : Nat) = some (.int n) := by
  have hk : k < ns.length := (List.getElem?_eq_some_iff.mp h).1
  refine atI_of (j := k) ?_ ?_
  · unfold ixN
    simp [pI]; omega
  · unfold pI
    rw [List.getElem?_map, h]
    rfl
theorem zpD_ints (a b : List Int) : zpD (pI a) (pI b) = List.zipWith (fun x y => PyData.tuple [.int x, .int y]) a b := by
  unfold zpD pI
  rw [List.zipWith_map]
theorem zip_at {a b : List Int} {i : Nat} {d : PD} (h : (List.zipWith (fun x y => PyData.tuple [.int x, .int y]) a b)[i]? = some d) : ∃ x y, a[i]? = some x ∧ b[i]? = some y ∧ d = .tuple [.int x, .int y] := by
  rw [List.getElem?_zipWith] at h
  cases q : a[i]? with
  | none => rw [q] at h; cases h
  | some x =>
    cases q2 : b[i]? with
    | none => rw [q, q2] at h; cases h
    | some y =>
      rw [q, q2] at h
      exact ⟨x, y, rfl, rfl, (Option.some.inj h).symm⟩

/-! ### the pen: [a list of numbers, a place, what is left of the last number] -/
def Pen (ns : List Int) (a d : Nat) : Oc := .lst [.list (pI ns), .int (a : Nat), .int (d : Nat)]
def spPen : List PD → (Rs → Prop) → Prop := fun ds Ψ => ∃ ns : List Int, ds = [.dict [(.none, .list (pI ns))]] ∧ ns.length ≤ 63 ∧ Ψ (.nw (Pen ns 0 0))
def spFresh : Oc → List PD → (Rs → Oc → Prop) → Prop := fun o ds Ψ => ∃ (ns : List Int) (a d : Nat), o = Pen ns a d ∧ ds = [] ∧ ns.length ≤ 63 ∧ ∀ x : Nat, Ψ (.sh (.int x)) (Pen ns (a + 1) d)
def spDraw : Oc → List PD → (Rs → Oc → Prop) → Prop := fun o ds Ψ => ∃ (ns : List Int) (a d m : Nat), o = Pen ns a d ∧ ds = [.int m] ∧ ns.length ≤ 63 ∧ 0 < m ∧ m.log2 < 9000 ∧ ∀ x a' d' : Nat, x < m → Ψ (.sh (.int x)) (Pen ns a' d')
def spLaw : List PD → (Rs → Prop) → Prop := fun ds Ψ => ∃ ns : List Int, ds = [.dict [(.none, .list (pI ns))]] ∧ ns.length ≤ 63 ∧ Ψ (.sh (.bool true))
theorem sp_start {K : PySem.W.Frag} {H : Hp} {a : Addr} {ns : List Int} (hl : ns.length ≤ 63) (hS : SqL K H a (ns.map V.int)) : Pm K 1 spLaw [.ref a] H (fun v _ => v = .bl true) fun _ _ _ => False :=
  ⟨H, [.dict [(.none, .list (pI ns))]], Same.refl H, .cons (.scr hS (Rps.of_ints ns)) .nil, rfl, ns, rfl, hl, fun v H' G' _ _ _ rv => by
    have rv : Rp K G' v (.bool true) := rv
    cases rv
    rfl⟩
theorem cut_63 {ds : List PD} (h : ds.length ≤ 63) : cutD ds none (some 63) = ds := by
  unfold cutD
  rw [show HT.sIx ds.length ds.length (some 63) = min 63 ds.length from HT.sIx_nat ds.length ds.length 63, HT.sIx_none, List.drop_zero, Nat.sub_zero]
  exact List.take_of_length_le (by omega)
end Bk

set_option maxHeartbeats 4000000
namespace Bk
open PySem PySem.Spec PyProof.Rows L2
open PySem.StrLaws PySem.Builtin PySem.Builtin.Str in
theorem occ_count (x : PySem.Str) (c : Nat) : ∀ (m k : Nat) (st : Array Nat × Nat), st.fst.size ≤ k → st.snd ≤ k → k + m ≤ x.length + 1 →
    (forIn (List.range' k m) st (occBody x ⟨#[c]⟩ x.length (x.length + 1))).run.fst.size = st.fst.size + ((x.cps.toList.drop k).take m).count c
  | 0, k, st, _, _, _ => by simp
  | m + 1, k, st, h1, h2, h3 => by
    rw [List.range'_succ, List.forIn_cons]
    unfold occBody
    have e1 := subAt_one x c k
    cases q : x.cps.toList[k]? with
    | none =>
      have hc : ¬ (((st.fst.size < x.length + 1 ∧ st.snd ≤ k) ∧ k + (⟨#[c]⟩ : PySem.Str).length ≤ x.length) ∧ subAt x ⟨#[c]⟩ k = true) := fun z => by
        have := e1.mp ⟨z.1.2, z.2⟩
        rw [q] at this; cases this
      rw [if_neg hc]
      refine (occ_count x c m (k + 1) _ (Nat.le_succ_of_le h1) (Nat.le_succ_of_le h2) (by omega)).trans ?_
      rw [List.getElem?_eq_none_iff] at q
      rw [List.drop_eq_nil_of_le q, List.drop_eq_nil_of_le (Nat.le_succ_of_le q)]
      simp
    | some d =>
      have hk : k < x.cps.toList.length := (List.getElem?_eq_some_iff.mp q).1
      have hd : x.cps.toList.drop k = d :: x.cps.toList.drop (k + 1) := by
        rw [List.drop_eq_getElem_cons hk]
        congr 1
        exact (List.getElem?_eq_some_iff.mp q).2
      rw [hd, List.take_succ_cons]
      by_cases e : d = c
      · subst e
        have hz := e1.mpr q
        have hc : (((st.fst.size < x.length + 1 ∧ st.snd ≤ k) ∧ k + (⟨#[d]⟩ : PySem.Str).length ≤ x.length) ∧ subAt x ⟨#[d]⟩ k = true) := ⟨⟨⟨by omega, h2⟩, hz.1⟩, hz.2⟩
        rw [if_pos hc]
        refine (occ_count x d m (k + 1) _ (by simp only [Array.size_push]; omega) (Nat.le_refl _) (by omega)).trans ?_
        rw [List.count_cons_self, Array.size_push]
        omega
      · have hc : ¬ (((st.fst.size < x.length + 1 ∧ st.snd ≤ k) ∧ k + (⟨#[c]⟩ : PySem.Str).length ≤ x.length) ∧ subAt x ⟨#[c]⟩ k = true) := fun z => by
          have := e1.mp ⟨z.1.2, z.2⟩
          rw [q] at this
          exact e (Option.some.inj this)
        rw [if_neg hc]
        refine (occ_count x c m (k + 1) _ (Nat.le_succ_of_le h1) (Nat.le_succ_of_le h2) (by omega)).trans ?_
        rw [List.count_cons_of_ne e]
open PySem.StrLaws in
theorem count_one (x : PySem.Str) (c : Nat) : Txt.count x ⟨#[c]⟩ = (x.cps.toList.count c : Nat) := by
  unfold Txt.count
  rw [occ_eq, Array.length_toList]
  refine congrArg Nat.cast ((occ_count x c (x.length + 1 - 0) 0 (#[], 0) (Nat.le_refl _) (Nat.le_refl _) (by omega)).trans ?_)
  have hl : x.cps.toList.length = x.length := rfl
  rw [List.drop_zero, List.take_of_length_le (by omega)]
  simp
end Bk

set_option maxHeartbeats 4000000
namespace Bk
open PySem PySem.Spec PyProof.Rows L2

/-! ### defs that show lists and tuples: nobody shows anything around them -/
structure FnG (P : Program) (w : World) (K : PySem.W.Frag) (mg : Str → Option Value) (base : Heap) (k : Nat) (f : Addr) (fd : FuncData) (ps : List Str) (sp : Sp) : Prop where
  many : ∀ vs H Q E, sp vs H Q E → vs.length = ps.length
  goes : ∀ {A : Around} {outer : List Env} {s : Shared} {H : Hp} {args : Args} {us : List Value} {vs : List V} {Q : VK} {E : XK}, A.guards = some [] → Room k A → Env0 P w K mg base A outer s H → BindsTo s fd args (ps.zip us) → Vals vs us → sp vs H Q E → codeAny (model P w) A (.call (.ref f) args) (CR CX0 outer P w H s Q E) s
section
variable {P : Program} {w : World} {K : PySem.W.Frag} {mg : Str → Option Value} {base : Heap}
theorem FnG.of {k : Nat} {f : Addr} {fd : FuncData} {ps : List Str} {sp : Sp} (h : FnOk P w K mg base CX0 k f fd ps sp) : FnG P w K mg base k f fd ps sp := ⟨h.len, fun {A o s H ar us vs Q E} _ r e b v q => h.run A o s H ar us vs Q E r e b v q⟩
/-- how a body's end is the call's end -/
theorem end_ok {X : Cx} {outer : List Env} {Q : VK} {E : XK} {N : List Str} {qual : Str} {sc : Scope} {f : Addr} {cdv : Value} {A : Around} {s s' : Shared} {H : Hp} {fl : Flow} (h : SP (cxOf CX0 P w K mg base N qual sc f cdv A outer s H E) [] { nx := fun _ H' => Q .non H', rt := Q } fl s') : match fl with
    | .ret u => CE outer P w H s Q u s'
    | .next => CE outer P w H s Q .none s'
    | _ => False := by
  cases fl with
  | brk => obtain ⟨_, _, _, z⟩ := h; exact z
  | cont => obtain ⟨_, _, _, z⟩ := h; exact z
  | next => obtain ⟨σ1, H1, J, z⟩ := h; exact ⟨.non, H1, J.os, J.bare, J.base, J.hok, rfl, z⟩
  | ret u => obtain ⟨v1, σ1, H1, J, rv, z⟩ := h; exact ⟨v1, H1, J.os, J.bare, J.base, J.hok, rv, z⟩
theorem Fun.okG {x qual : Str} {st : Stmt} {f : Addr} {fd : FuncData} {N ps : List Str} {k : Nat} {sp : Sp} (Fn : L2.Fun K x qual st f fd) (S : FnScope N ps (defScope st)) (many : ∀ vs H Q E, sp vs H Q E → vs.length = ps.length)
    (hb : ∀ (cdv : Value) (A : Around) (outer : List Env) (s : Shared) (H : Hp) (vs : List V) (Q : VK) (E : XK), Room k (A.deeper (envOfC qual (defScope st) s.heap.objs.size f cdv)) → (A.deeper (envOfC qual (defScope st) s.heap.objs.size f cdv)).guards = some [] → sp vs H Q E →
      ∃ t, PSs (cxOf CX0 P w K mg base N qual (defScope st) f cdv A outer s H E).nox (defBody st) t ∧ t { nx := fun _ H' => Q .non H', rt := Q } (L2.start N vs) H) : FnG P w K mg base (k + 1) f fd ps sp := by
  obtain ⟨oc, od, kV, doc, pm, an, cdv, ct, osl, rfl, lk, hcd⟩ := Fn.ex
  refine ⟨many, fun {A outer s H args us vs Q E} hg hr e0 hbd r q => ?_⟩
  have hold : ∀ b o, base.get? b = some o → s.heap.get? b = some o := fun b o z => (e0.bs b o z).1
  have hK : K.In s.heap := e0.mod.kin.keeps hold
  have hL : s.heap.NoLimit := e0.mod.nolimit.keeps hold
  obtain ⟨t, pt, qt⟩ := hb cdv A outer s H vs Q E (hr.deeper _) (by rw [← hg]; rfl) q
  refine codeAny_call_function hr.depth (hK _ _ lk) rfl S.co S.gen rfl (PySem.W.codeRec_of hK hcd) (hbd _ _ _ _ ?_)
  refine wpAny_newFunctionEnv_cells S.kind (fun y hy => (S.par y.1 (List.of_mem_zip hy).1).imp (fun z => z) fun z => ⟨z, PySem.W.cellsFrom_some _ _ _ (.inl z)⟩) fun env he s1 x => ?_
  subst he
  refine ⟨hL.keeps x.toInCall.keep, codeAny_func (wpAny_mono (pt.nox.run [] s1 _ H _ (inv_start S hr.hd e0 (many _ _ _ _ q) r x) qt) (fun fl s' z => ?_) fun e s' z => z)⟩
  have z := end_ok (X := cxOf CX0 P w K mg base N qual (defScope st) f cdv A outer s H E) z
  cases fl with
  | brk => exact False.elim z
  | cont => exact False.elim z
  | next => exact z
  | ret u => exact z
end
end Bk
namespace Bk
open PySem PySem.Spec PyProof.Rows L2
section
variable {P : Program} {w : World} {K : PySem.W.Frag} {mg mb : Str → Option Value} {t : Shared} {l a : Addr} {fd : FuncData} {k : Nat} {x : Str} {sp : Sp} {vs : List Value} {ns : List Int} {H : Hp}
/-- what the law's caller sees behind the call -/
abbrev Said (t : Shared) (r : Except Value Flow) (t' : Shared) : Prop := r = .ok (.ret (.bool true)) ∧ OldK t.heap t'.heap ∧ t'.os = t.os ∧ AllBare t'.gens
/-- a heap that tracks the script at most, frozen -/
structure Lone (K : PySem.W.Frag) (a : Addr) (H : Hp) : Prop where
  only : Only H
  at1 : ∀ b, H b ≠ none → b = a ∧ K.lookup a = none
theorem lone_get (L : Lone K a H) {b : Addr} {o : Obj} (e : t.heap.get? b = some o) (h : b = a → K.lookup a ≠ none) : (hidT t.heap H).get? b = some o := by
  refine hidT_get e ?_
  cases q : H b with
  | none => rfl
  | some u =>
    have z := L.at1 b (by rw [q]; exact Option.some_ne_none u)
    exact absurd z.2 (h z.1)
theorem lone_dict (L : Lone K a H) (ha : t.heap.get? a = some { cls := .type "list", data := .seq vs.toArray }) {b : Addr} {o : Obj} (e : t.heap.get? b = some o) {es : Array DictEntry} {n : Nat} (d : o.data = .dict es n) : (hidT t.heap H).get? b = some o := by
  refine hidT_get e ?_
  cases q : H b with
  | none => rfl
  | some u =>
    obtain ⟨z, _⟩ := L.at1 b (by rw [q]; exact Option.some_ne_none u)
    rw [z, ha] at e
    cases e
    cases d
theorem lone_run (L : Lone K a H) (KX : K.In t.heap) (hmg : t.heap.Ns mainGlobals mg) (hmb : t.heap.Ns builtinsNs mb) (hbb : ∀ y : Str, y ≠ "__name__" → mb y = bootBuiltins y) (hlim : t.heap.NoLimit) (hgen : t.gens = #[])
    (ha : t.heap.get? a = some { cls := .type "list", data := .seq vs.toArray }) (hr : Room k callerA) (F : ∀ base : Heap, K.In base → base.Ns mainGlobals mg → FnG P w K mg base k l fd [x] sp) (hbd : ∀ (s : Shared) (u : Value), BindsTo s fd ⟨[u], []⟩ [(x, u)])
    (hsp : sp [.ref a] H (fun v _ => v = .bl true) fun _ _ _ => False) (hok : HOk P w H t.heap) : codeAny (model P w) callerA (.call (.ref l) ⟨[.ref a], []⟩) (Said t) t := by
  have dicts : ∀ {b : Addr} {m : Str → Option Value}, t.heap.Ns b m → (hidT t.heap H).Ns b m := fun ⟨o, es, n, e, d, r⟩ => ⟨o, es, n, lone_dict L ha e d, d, r⟩
  have kin : K.In (hidT t.heap H) := fun b o e => lone_get L (KX b o e) fun z n => by subst z; rw [n] at e; cases e
  obtain ⟨mc, c1, c2⟩ := hlim
  have en : Env0 P w K mg (hidT t.heap H) callerA [] t H := by
    refine ⟨rfl, ⟨kin, dicts hmg, ⟨mb, dicts hmb, hbb⟩, mc, dicts c1, c2⟩, fun b o e => of_hidT e, Nat.le_of_eq (hidT_size _ _), trivial, fun b hb => ?_, hok, .of_eq hgen⟩
    cases (show b ∈ ([] : List Addr) from hb)
  refine codeAny_mono ((F _ kin (dicts hmg)).goes (us := [.ref a]) (vs := [V.ref a]) rfl hr en (hbd t (.ref a)) (.cons rfl .nil) hsp) fun r t' z => ?_
  cases r with
  | error e => exact False.elim z
  | ok fl =>
    cases fl with
    | next => exact False.elim z
    | brk => exact False.elim z
    | cont => exact False.elim z
    | ret u =>
      obtain ⟨v, H', os, bare, un, hok', rv, rfl⟩ := z
      have rv : u = Value.bool true := rv
      subst rv
      refine ⟨rfl, OldK.of_keep fun b o e => ?_, os, bare⟩
      rcases L.only b with q | ⟨ob, xs, q⟩
      · refine un.keep b o e q (fun z => ?_) (fun z => ?_)
        · cases (show b ∈ ([] : List Addr) from z)
        · cases (show b ∈ ([] : List Addr) from z)
      · have e2 : o = ob := by
          have := (hok b _ q).1
          rw [e] at this
          exact Option.some.inj this
        rw [e2]
        exact (hok' b _ (un.frzs b ob _ q)).1
/-- THE CALL of the law, by a promise under guards -/
theorem lone_call (KX : K.In t.heap) (hmg : t.heap.Ns mainGlobals mg) (hmb : t.heap.Ns builtinsNs mb) (hbb : ∀ y : Str, y ≠ "__name__" → mb y = bootBuiltins y) (hlim : t.heap.NoLimit) (hgen : t.gens = #[])
    (ha : t.heap.get? a = some { cls := .type "list", data := .seq vs.toArray }) (hi : IntsAre vs ns) (hl : ns.length ≤ sizeLine) (hr : Room k callerA) (F : ∀ base : Heap, K.In base → base.Ns mainGlobals mg → FnG P w K mg base k l fd [x] sp) (hbd : ∀ (s : Shared) (u : Value), BindsTo s fd ⟨[u], []⟩ [(x, u)])
    (hsp : ∀ H : Hp, Only H → SqL K H a (ns.map V.int) → sp [.ref a] H (fun v _ => v = .bl true) fun _ _ _ => False) : codeAny (model P w) callerA (.call (.ref l) ⟨[.ref a], []⟩) (Said t) t := by
  have rv := vals_ints hi
  have len := hi.length
  cases hk : K.lookup a with
  | some o =>
    have e := (KX a o hk).symm.trans ha
    cases e
    have L : Lone K a fun _ => none := ⟨fun _ => .inl rfl, fun b z => absurd rfl z⟩
    refine lone_run L KX hmg hmb hbb hlim hgen ha hr F hbd (hsp _ L.only (.inr ⟨_, vs.toArray, _, hk, rfl, rfl, rfl, ?_, by simpa using rv⟩)) fun b u z => ?_
    · rw [List.size_toArray, len]; exact hl
    · cases (show (none : Option HO) = some u from z)
  | none =>
    have hd : ∀ b, b ≠ a → (if b = a then some (HO.frz { cls := .type "list", data := .seq vs.toArray } (.lst (ns.map V.int))) else none) = none := fun b z => if_neg z
    have L : Lone K a fun b => if b = a then some (.frz { cls := .type "list", data := .seq vs.toArray } (.lst (ns.map V.int))) else none := by
      constructor
      · intro b
        by_cases z : b = a
        · exact .inr ⟨_, _, if_pos z⟩
        · exact .inl (hd b z)
      · intro b z
        by_cases y : b = a
        · exact ⟨y, hk⟩
        · exact absurd (hd b y) z
    refine lone_run L KX hmg hmb hbb hlim hgen ha hr F hbd (hsp _ L.only (.inl (.inr ⟨_, if_pos rfl⟩))) fun b u z => ?_
    by_cases y : b = a
    · subst y
      have z := (if_pos rfl).symm.trans z
      cases z
      exact ⟨ha, by rw [List.length_map]; exact hl, vs, _, rv, ha⟩
    · have z := (hd b y).symm.trans z
      cases z
end
/-- the goal that the head leaves -/
theorem walk_G {l : PySem.W.OpenLaw} {n k : Nat} {q : Program} {loose : List Str} {XP : (Str → Option Value) → Heap → Prop} {YP : World → Heap → Prop} {d : DefRec} {K : Params → PySem.W.Frag} {sp : World → Sp} {x : Str} (hn : l.most = some n) (hn2 : n ≤ sizeLine) (hdf : d.params.defaults = []) (hr : Room k callerA)
    (hY : ∀ (w : World) (h : Heap), YP w h → (K w.params).In h) (F : ∀ (w : World) (mg : Str → Option Value) (fa : Addr) (h : Heap), (K w.params).In h → h.Ns mainGlobals mg → mg d.name = some (.ref fa) → ∃ fd : FuncData, (∀ (s : Shared) (u : Value), BindsTo s fd ⟨[u], []⟩ [(x, u)]) ∧ ∀ base : Heap, (K w.params).In base → base.Ns mainGlobals mg → FnG l.prog w (K w.params) mg base k fa fd [x] (sp w))
    (hsp : ∀ (w : World) (H : Hp) (a : Addr) (ns : List Int), ns.length ≤ n → Only H → SqL (K w.params) H a (ns.map V.int) → sp w [.ref a] H (fun v _ => v = .bl true) fun _ _ _ => False) : PySem.W.WalkO q loose XP YP l.row.toRowW d [] (fun f vs => PySem.call f vs) := by
  refine Att.attach_call hn hdf fun w s₀ t mg mb fa o pm cd doc a vs ns G Y ho hd hcd hmg hobj hi hl hg => ?_
  obtain ⟨fd, hb, hF⟩ := F w mg fa _ (hY w _ Y) G.T.g hmg
  exact lone_call (hY w _ Y) G.T.g G.T.b G.T.builtins G.T.nolimit hg hobj hi (Nat.le_trans hl hn2) hr hF hb fun H hO hS => hsp w H a ns hl hO hS
end Bk

set_option maxHeartbeats 4000000
namespace Bk
open PySem PySem.Spec PyProof.Rows L2

/-! ### how long a shown datum is at most -/
mutual
def swD : PD → Nat
  | .none => 4
  | .bool _ => 5
  | .int _ => 1921
  | .str x => (reprText x).length
  | .list ds => 2 + swA ds
  | .tuple ds => 3 + swA ds
  | .dict _ => 0
def swA : List PD → Nat
  | [] => 0
  | d :: ds => swD d + 2 + swA ds
end
theorem len_app (a b : PySem.Str) : (a ++ b).length = a.length + b.length := PySem.Str.length_append a b
theorem text_le : ∀ (ts : List PySem.Str) (k : Nat) (acc : PySem.Str), (textFrom k acc ts).length ≤ acc.length + piled ts
  | [], k, acc => by rw [piled_nil]; exact Nat.le_refl _
  | t :: ts, k, acc => by
    refine Nat.le_trans (text_le ts (k + 1) _) ?_
    rw [piled_cons, len_app, len_app]
    have : (PySem.Str.ofString (if k > 0 then ", " else "")).length ≤ 2 := by
      by_cases h : k > 0
      · rw [if_pos h]; decide +kernel
      · rw [if_neg h]; decide +kernel
    omega
theorem one_le {c : String} {n : Nat} (h : (PySem.Str.ofString c).length ≤ n) : (PySem.Str.ofString c).length ≤ n := h
theorem list_le (ts : List PySem.Str) : (listText ts).length ≤ 2 + piled ts := by
  unfold listText
  rw [len_app]
  have h1 := text_le ts 0 (PySem.Str.ofString "[")
  have h2 : (PySem.Str.ofString "[").length = 1 := by decide +kernel
  have h3 : (PySem.Str.ofString "]").length = 1 := by decide +kernel
  omega
theorem tuple_le (ts : List PySem.Str) : (tupleText ts).length ≤ 3 + piled ts := by
  unfold tupleText
  rw [len_app, len_app]
  have h2 : (PySem.Str.ofString "(").length = 1 := by decide +kernel
  have h3 : (PySem.Str.ofString (if (ts.length == 1) = true then ",)" else ")")).length ≤ 2 := by
    by_cases h : (ts.length == 1) = true
    · rw [if_pos h]; decide +kernel
    · rw [if_neg h]; decide +kernel
  have h4 : (PySem.Str.join ", " ts).length ≤ piled ts := by
    cases ts with
    | nil => show (PySem.Str.empty).length ≤ _; exact Nat.zero_le _
    | cons t ts =>
      have := join_length_add (t :: ts) (by simp)
      omega
  omega
mutual
theorem shown_le : ∀ d : PD, d.showable = true → nd d = true → d.shown.length ≤ swD d
  | .none, _, _ => by simp only [PyData.shown, swD]; decide +kernel
  | .bool b, _, _ => by cases b <;> simp only [PyData.shown, swD] <;> decide +kernel
  | .int i, h, _ => by
    simp only [PyData.showable, decide_eq_true_eq] at h
    simp only [PyData.shown, swD]
    exact int_text_len_1921 h
  | .str x, _, _ => by simp only [PyData.shown, swD]; exact Nat.le_refl _
  | .list ds, h, q => by
    simp only [PyData.showable] at h
    simp only [nd] at q
    simp only [PyData.shown, swD]
    have := list_le (PyData.shownAll ds)
    have := shownA_le ds h q
    omega
  | .tuple ds, h, q => by
    simp only [PyData.showable] at h
    simp only [nd] at q
    simp only [PyData.shown, swD]
    have := tuple_le (PyData.shownAll ds)
    have := shownA_le ds h q
    omega
  | .dict _, _, q => by simp only [nd] at q; cases q
theorem shownA_le : ∀ ds : List PD, PyData.showableAll ds = true → nds ds = true → piled (PyData.shownAll ds) ≤ swA ds
  | [], _, _ => by simp only [PyData.shownAll, piled_nil]; exact Nat.zero_le _
  | d :: ds, h, q => by
    simp only [PyData.showableAll, Bool.and_eq_true] at h
    simp only [nds, Bool.and_eq_true] at q
    simp only [PyData.shownAll, piled_cons, swA]
    have := shown_le d h.1 q.1
    have := shownA_le ds h.2 q.2
    omega
end
mutual
theorem no_dict : ∀ d : PD, nd d = true → d.hasDict = false
  | .none, _ => by simp only [PyData.hasDict]
  | .bool _, _ => by simp only [PyData.hasDict]
  | .int _, _ => by simp only [PyData.hasDict]
  | .str _, _ => by simp only [PyData.hasDict]
  | .list ds, q => by simp only [nd] at q; simp only [PyData.hasDict]; exact no_dicts ds q
  | .tuple ds, q => by simp only [nd] at q; simp only [PyData.hasDict]; exact no_dicts ds q
  | .dict _, q => by simp only [nd] at q; cases q
theorem no_dicts : ∀ ds : List PD, nds ds = true → PyData.hasDictAll ds = false
  | [], _ => by simp only [PyData.hasDictAll]
  | d :: ds, q => by
    simp only [nds, Bool.and_eq_true] at q
    simp only [PyData.hasDictAll, no_dict d q.1, no_dicts ds q.2, Bool.or_self]
end
section
variable {X : Cx} {F : Fm} {E : EnvB} {Φ : EnvB → Rs → Prop}
/-- repr of a list | a tuple of data -/
theorem call_reprD (hg : X.A.guards = some []) (hu : X.A.units + 66 < cLine) : CallR X (.builtin "repr") (fun xs H Q => ∃ a d, xs = [.ref a] ∧ Dp X.K H (.ref a) d ∧ d.showable = true ∧ nd d = true ∧ d.depth ≤ 64 ∧ swD d ≤ 16000000 ∧ Q (.str d.shown) H) := by
  intro pins s σ H xs us Q I r h
  obtain ⟨a, d, rfl, hd, h1, h2, h3, h4, q⟩ := h
  cases r with
  | cons r1 r =>
    cases r
    obtain ⟨as, rd⟩ := Dp.reads I d _ _ hd r1
    cases r1
    exact repr_of_reads' rd h1 (fun z => by rw [no_dict d h2] at z; cases z) hg (by omega) (fun b o z => z)
      (fun h' u tk kp => ⟨.str d.shown, H, I.kept (t' := tk) kp, ⟨u, rfl⟩, q⟩) (Nat.le_trans (shown_le d h1 h2) (Nat.le_trans h4 (by decide)))
theorem cj_reprD {r : Rs} {d : PD} (h : RD E r d) (hl : (∃ ds, d = .list ds) ∨ ∃ ds, d = .tuple ds) (h1 : d.showable = true) (h2 : nd d = true) (h3 : d.depth ≤ 64) (h4 : swD d ≤ 16000000) (q : Φ E (.sh (.str d.shown))) : CJ X F (fun xs H Q => ∃ a d, xs = [.ref a] ∧ Dp X.K H (.ref a) d ∧ d.showable = true ∧ nd d = true ∧ d.depth ≤ 64 ∧ swD d ≤ 16000000 ∧ Q (.str d.shown) H) E [r] Φ := fun w σ H G vs Q I rvs kk => by
  obtain ⟨v, rfl, rv⟩ := rv_one (F := F) rvs
  have rp := h.rp I rv
  have isr : ∃ a, v = .ref a := by
    rcases hl with ⟨ds, rfl⟩ | ⟨ds, rfl⟩ <;> cases rp <;> exact ⟨_, rfl⟩
  obtain ⟨a, rfl⟩ := isr
  exact ⟨a, d, rfl, Rp.dp _ _ h2 rp, h1, h2, h3, h4, kk _ _ (keS I q)⟩
end
/-- .. of numbers -/
theorem show_ints : ∀ ns : List Int, (∀ n ∈ ns, n.natAbs.log2 < 1920) → PyData.showableAll (pI ns) = true
  | [], _ => by unfold pI; simp [PyData.showableAll]
  | n :: ns, h => by
    show PyData.showableAll (.int n :: pI ns) = true
    simp only [PyData.showableAll, PyData.showable, Bool.and_eq_true, decide_eq_true_eq]
    exact ⟨h n List.mem_cons_self, show_ints ns fun m hm => h m (List.mem_cons_of_mem _ hm)⟩
theorem sw_ints : ∀ ns : List Int, swA (pI ns) = 1923 * ns.length
  | [] => rfl
  | n :: ns => by
    show swA (.int n :: pI ns) = _
    simp only [swA, swD, sw_ints ns, List.length_cons]
    omega
section
variable {X : Cx} {F : Fm} {E : EnvB} {Φ : EnvB → Rs → Prop}
theorem cj_reprTI {r : Rs} {ns : List Int} (h : RD E r (.tuple (pI ns))) (h1 : ∀ n ∈ ns, n.natAbs.log2 < 1920) (h2 : ns.length ≤ 8000) (q : Φ E (.sh (.str (PyData.shown (.tuple (pI ns)))))) : CJ X F (fun xs H Q => ∃ a d, xs = [.ref a] ∧ Dp X.K H (.ref a) d ∧ d.showable = true ∧ nd d = true ∧ d.depth ≤ 64 ∧ swD d ≤ 16000000 ∧ Q (.str d.shown) H) E [r] Φ :=
  cj_reprD h (.inr ⟨_, rfl⟩) (by simp only [PyData.showable]; exact show_ints ns h1) (by simp [nd, nds_ints]) (by simp [PyData.depth, dep_ints]) (by simp only [swD, sw_ints]; omega) q
end
end Bk

set_option maxHeartbeats 4000000
namespace Bk
open PySem PySem.Spec PyProof.Rows L2
section
variable {P : Program} {w : World} {K : PySem.W.Frag} {mg : Str → Option Value} {base : Heap}
/-- a def that may show lists and tuples -/
theorem ok_defG {x qual : Str} {st : Stmt} {f : Addr} {fd : FuncData} {N ps : List Str} {k : Nat} {spec : List PD → (Rs → Prop) → Prop} (Fn : L2.Fun K x qual st f fd) (S : FnScope N ps (defScope st))
    (hb : ∀ (cdv : Value) (A : Around) (outer : List Env) (s : Shared) (H : Hp) (E : XK) (F : Fm) (ds : List PD) (Ψ : Rs → Prop), Room k (A.deeper (envOfC qual (defScope st) s.heap.objs.size f cdv)) → (A.deeper (envOfC qual (defScope st) s.heap.objs.size f cdv)).guards = some [] → ds.length = ps.length → spec ds Ψ →
      XSs (cxOf CX0 P w K mg base N qual (defScope st) f cdv A outer s H E).nox F (defBody st) (env0 N ds) { nx := fun _ => Ψ (.sh .none), rt := fun E r => ∃ r', RtE E r r' ∧ Ψ r' }) : FnG P w K mg base (k + 1) f fd ps (Pm K ps.length spec) := by
  refine Fun.okG Fn S (fun vs H Q E ⟨G, ds, s, r, e, _⟩ => by rw [r.length]; exact e) fun cdv A outer s H vs Q E hr hg ⟨G, ds, sG, r, e, sp⟩ => ?_
  let F : Fm := ⟨H, G, H, []⟩
  refine ⟨tSs _ F (defBody st), pss_tSs, ?_⟩
  have hN : ds.length ≤ N.length := by
    rw [e]
    have := congrArg List.length S.pre
    rw [List.length_take] at this
    omega
  have hlen := r.length
  have I0 : In K F (fun _ => none) (L2.start N vs) H G (env0 N ds) := by
    refine ⟨sG, fun _ _ => rfl, Same.refl H, fun _ q => q, fun b i q => (by cases q), ?_, fun i b q => ?_⟩
    · unfold env0 L2.start
      rw [List.length_append, List.length_append, List.length_map, List.length_map, List.length_replicate, List.length_replicate]
      omega
    · rcases env0_get q with ⟨d, hd, rfl⟩ | rfl
      · obtain ⟨v, hv, rv⟩ := r.get hd
        refine ⟨v, ?_, rv⟩
        unfold L2.start
        have hi : i < vs.length := (List.getElem?_eq_some_iff.mp hv).1
        rw [List.getElem?_append_left (by simpa using hi), List.getElem?_map, hv]
        rfl
      · trivial
  have done : ∀ {w' σ' H' G' E' v r'}, In K F w' σ' H' G' E' → RVn K H H' G' v r' → (∀ v H' G', Same H H' → Same G' H' → (∀ b, H b ≠ none → G' b = G b) → RVn K H H' G' v r' → Q v H') → Q v H' := fun {w' σ' H' G' E' v r'} I' rn q => q v H' G' I'.keep I'.sub I'.old rn
  refine tSs_go I0 (hb cdv A outer s H E F ds _ hr hg e sp) ⟨fun σ' H' ⟨w', G', E', I', s', q⟩ => ?_, fun v H' ⟨w', σ', G', E', r, I', s', rv, r', rt, q⟩ => ?_, fun σ' H' ⟨w', G', E', I', s', q⟩ => q, fun σ' H' ⟨w', G', E', I', s', q⟩ => q⟩
  · exact done I' (r' := .sh .none) .non q
  · exact done I' (rt.go I' rv) q
end
/-- a def that shows, as a caller under guards finds it -/
structure CalG (P : Program) (w : World) (K : PySem.W.Frag) (mg : Str → Option Value) (base : Heap) (x : Str) (k : Nat) (sp : Sp) : Prop where
  ex : ∃ (f : Addr) (fd : FuncData) (ps : List Str), FnG P w K mg base k f fd ps sp ∧ mg x = some (.ref f) ∧ PySem.W.keepIn K (.ref f) = true ∧ Binds K fd ps []
section
variable {X : Cx} {F : Fm} {E : EnvB} {a b c e o : Expr} {es : List Expr} {pos p : Pos} {x : Str} {Φ : EnvB → Rs → Prop} {k n : Nat}
theorem run_G {k : Nat} {f : Addr} {fd : FuncData} {ps : List Str} {sp : Sp} {pins : List (Addr × Obj)} {σ : L2.St} {H : Hp} {s : Shared} {Q : VK} {us : List Value} {vs : List V} {EX : XK} (Fk : FnG X.prog X.w X.K X.mg X.base k f fd ps sp) (hg : X.A.guards = some []) (hr : Room k X.A) (hb : Binds X.K fd ps []) (I : Inv X pins σ H s) (r : Vals vs us) (h : sp vs H Q EX) : wpAny (model X.prog X.w) X.A (call (.ref f) us) (EP X pins σ Q) X.xe s := by
  have hl : (us ++ []).length = ps.length := by rw [List.append_nil, ← r.length]; exact Fk.many _ _ _ _ h
  have hbd := hb s us I.kIn hl
  rw [List.append_nil] at hbd
  refine wpAny_call (codeAny_mono (Fk.goes hg hr I.env0 hbd r h) fun z s' hq => ?_)
  cases z with
  | error e => exact False.elim hq
  | ok fl =>
    cases fl with
    | ret u => exact I.after hq
    | next => exact False.elim hq
    | brk => exact False.elim hq
    | cont => exact False.elim hq
theorem xe_callG {spec : List PD → (Rs → Prop) → Prop} (C : CalG X.prog X.w X.K X.mg X.base x k (Pm X.K n spec)) (hgd : X.A.guards = some []) (hr : Room k X.A) (h : XA X F (e :: es) E fun E1 rs => ∃ E2 ds, Fzs E1 rs E2 ds ∧ ds.length = n ∧ ∀ Ψ : Rs → Prop, (∀ r, Φ E2 r → Ψ r) → spec ds Ψ)
    (hg : Gl X x := by rfl) (hdb : (x == ("__debug__" : Str)) = false := by decide) (he : starEach (e :: es) X.env = (false, eval e X.env) :: starEach es X.env := by rfl) (hpl : (backTo pos (starEach es X.env)).any (·.1) = false := by rfl) : XE X F (.Call (.Name x p) (e :: es) [] pos) E Φ := by
  obtain ⟨f, fd, ps, Fk, hm, hk, hb⟩ := C.ex
  intro pins s w σ H G I i
  refine wpAny_Call_Name_kw (ld_glob I hg hm ?_ hdb)
  refine PySem.W.callWith_K (h₀ := X.base) I.ok.mod.kin hk (thn (h pos pins s w σ H G I i) fun us s1 ⟨vs, H1, I1, r, w1, G1, E1, rs, i1, s1', rvs, E2, ds, fz, hn, q⟩ => ⟨I1.kIn, ?_⟩) he hpl
  obtain ⟨w2, G2, i2, s2, rps⟩ := fz.go i1 rvs
  refine run_G (EX := fun _ _ _ => False) Fk hgd hr hb I1 r ⟨G2, ds, i2.sub, rps, hn, q _ fun r hr v H' G' h1 h2 h3 rv => ?_⟩
  obtain ⟨i3, s3⟩ := i2.after h1 h2 h3
  exact ke i3 ((s1'.trans s2).trans s3) (rv.rv i2) hr

/-! ### sum of numbers; one sign, n times -/
theorem cj_sum {r : Rs} {ns : List Int} (h : RD E r (.list (pI ns))) (q : Φ E (.sh (.int ns.sum))) : CJ X F (rSum X.K) E [r] Φ := fun w σ H G vs Q I rvs kk => by
  obtain ⟨v, rfl, rv⟩ := rv_one (F := F) rvs
  obtain ⟨l, xs, rfl, hx, rx⟩ := h.lst I rv
  obtain rfl := rx.ints
  exact ⟨l, ns, rfl, .inl (.inl hx), kk _ _ (keI I q)⟩
def rMulS : R2 := fun x y H Q => ∃ (c n : Nat), x = .str ⟨#[c]⟩ ∧ y = .int (n : Nat) ∧ n ≤ 100000 ∧ Q (.str ⟨(List.replicate n c).toArray⟩) H
theorem fold_rep (c : Nat) : ∀ (n : Nat) (acc : Array Nat), (List.replicate n #[c]).foldl (· ++ ·) acc = acc ++ (List.replicate n c).toArray
  | 0, acc => by simp
  | n + 1, acc => by
    rw [List.replicate_succ, List.foldl_cons, fold_rep c n, List.replicate_succ]
    apply Array.ext'
    simp
theorem opr_mulS : OpR X (binaryOp .Mult) rMulS := by
  intro pins s σ H x y v u Q I rx ry h
  obtain ⟨c, n, rfl, rfl, hn, q⟩ := h
  obtain ⟨t, rfl⟩ := rx
  obtain ⟨t', rfl⟩ := ry
  have h1 : ∀ z : PySem.Str, z = ⟨(List.replicate n c).toArray⟩ → ∀ (tk : Tok) (k : Nat), EP X pins σ Q (.str z tk) { s with toks := k } := fun z e tk k => ⟨.str z, H, I.tok k, ⟨tk, rfl⟩, by rw [e]; exact q⟩
  refine PySem.P.mul_str ?_ (fun hz _ => ?_) (fun _ _ => ?_) ?_
  · rw [decide_eq_false (by omega), decide_eq_false (by omega)]; rfl
  · have hp : (0 : Int) < (n : Int) := by omega
    have : (1 : Int) ≤ (2 ^ 63 - 1) / (n : Int) := Int.le_ediv_of_mul_le hp (by omega)
    show ¬ ((1 : Nat) : Int) > _
    omega
  · show Builtin.Str.tooLong (1 * (n : Int).toNat) = false
    rw [Nat.one_mul, Int.toNat_natCast]
    exact decide_eq_false (Nat.not_lt.mpr (Nat.le_trans hn (by decide)))
  · by_cases h0 : (n : Int) < 1
    · rw [if_pos h0]
      have e : n = 0 := by omega
      subst e
      exact ⟨by decide, h1 _ rfl _ _⟩
    · rw [if_neg h0]
      by_cases h2 : ((n : Int) == 1 || (⟨#[c]⟩ : PySem.Str).length == 0) = true
      · rw [if_pos h2]
        have e : n = 1 := by
          rcases Bool.or_eq_true_iff.mp h2 with z | z
          · have := eq_of_beq z; omega
          · cases z
        subst e
        exact h1 _ rfl _ _
      · rw [if_neg h2, Int.toNat_natCast, fold_rep]
        refine ⟨?_, h1 _ (by simp) _ _⟩
        show (#[] ++ (List.replicate n c).toArray).size ≤ sizeLine
        exact Nat.le_trans (by simpa using hn) (by decide : 100000 ≤ sizeLine)
theorem oj_mulS {c n : Nat} (hn : n ≤ 100000) (q : Φ E (.sh (.str ⟨(List.replicate n c).toArray⟩))) : OpJ X F rMulS E (.sh (.str ⟨#[c]⟩)) (.sh (.int (n : Nat))) Φ := fun w σ H G x y Q I a b k => ⟨c, n, rvS a, rvI b, hn, k _ _ (keS I q)⟩
end
end Bk

set_option maxHeartbeats 4000000
namespace Bk
open PySem PySem.Spec PyProof.Rows L2
section
variable {X : Cx} {F : Fm} {E : EnvB} {a b c e o : Expr} {pos p : Pos} {x : Str} {Φ : EnvB → Rs → Prop}
/-! ### xs[i] op= e, xs an own list -/
theorem get_list : PGet X (rIxL X.K) := by
  intro pins s σ H y z v u Q I ry rz h
  obtain ⟨l, xs, i, w, rfl, rfl, hq, he, q⟩ := h
  cases ry
  obtain ⟨t, rfl⟩ := rz
  obtain ⟨its, r, pl, hz⟩ := I.list hq
  obtain ⟨j, h1, h2, h3, h4, h5⟩ := L2.atI_get he
  obtain ⟨u, eu, ru⟩ := r.get h2
  have hl := r.length
  have hn := line63
  have fin : EP X pins σ Q u s := ⟨w, H, I, ru, q⟩
  by_cases h0 : 0 ≤ i
  · rw [seqIndex_of h0 h5] at h1
    refine wpAny_getItem_list pl.isList h0 (by omega) ?_ fin
    rw [Option.some.inj h1]
    simpa using eu
  · rw [seqIndex_neg (by omega) h4] at h1
    refine wpAny_getItem_list_neg pl.isList (by omega) (by rw [List.size_toArray] <;> omega) (by omega) ?_ fin
    rw [List.size_toArray, ← hl, Option.some.inj h1]
    simpa using eu
theorem xs_augI {Φ : Post} {op : Operator} {r : R2} {tpos : Pos} (ho : OpR X (inplaceOp op) r) (hu : X.A.units + 64 < cLine) (h : XE X F a E fun E1 r1 => ∃ i b1 ds1, r1 = .br i ∧ E1[i]? = some b1 ∧ b1.oc = some (.lst ds1) ∧ XE X F b E1 fun E2 r2 => ∃ (k : Int) (j : Nat) (d : PD) (ds : List PD) (b2 : Bd), r2 = .sh (.int k) ∧ E2[i]? = some b2 ∧ b2.oc = some (.lst ds) ∧ ixN ds.length k = some j ∧ ds[j]? = some d ∧ XE X F e E2 fun E3 r3 => ∃ r3' b3 ds3, Fz r3 r3' ∧ E3[i]? = some b3 ∧ b3.oc = some (.lst ds3) ∧ ds3.length = ds.length ∧ OpJ X F r E3 (.sh d) r3' fun E4 r4 => ∃ d4 E5, r4 = .sh d4 ∧ E4 = E3 ∧ SetE E4 i (b3.put (.lst (ds3.set j d4))) E5 ∧ Φ.nx E5)
    (ha : ∀ ov iv new, augStore b ov iv new = (do holding [new, ov, iv] (setItem ov iv new); release [new, ov, iv] []; pure .next) := by intros; rfl) : XS X F (.AugAssign (.Subscript a b tpos) op e pos) E Φ :=
  xs_of (ps_augS pe_tE pe_tE get_list pe_tE (show PIp X op r from ho) set_list ha) fun w σ H G I => tE_go I h fun v1 w1 H1 G1 E1 r1 I1 s1 rv1 ⟨i, b1, ds1, e1, hE1, hb1, h1⟩ => by
    subst e1
    refine tE_go I1 h1 fun v2 w2 H2 G2 E2 r2 I2 s2 rv2 ⟨k, j, d, ds, b2, e2, hE2, hb2, hj, hd, h2⟩ => ?_
    subst e2
    obtain rfl := rvI rv2
    have rv1 : σ[i]? = some (some v1) := rv1
    obtain ⟨l, el, hw, cc⟩ := I2.owned hE2 hb2
    rw [rv1] at el
    cases el
    obtain ⟨xs, c1, c2⟩ := cc.lst
    obtain ⟨z, hz, rz⟩ := c2.get hd
    refine ⟨l, xs, k, z, rfl, rfl, .inl (.inl c1), atI_of (by rw [c2.length]; exact hj) hz, tE_go I2 h2 fun v3 w3 H3 G3 E3 r3 I3 s3 rv3 ⟨r3', b3, ds3, f3, hE3, hb3, hl3, h3⟩ => ?_⟩
    obtain ⟨G3', I3', s3', rv3'⟩ := f3.go I3 rv3
    refine h3 w3 σ H3 G3' z v3 _ I3' (Rp.mono (s3.trans s3') _ _ rz) rv3' fun v4 H4 ⟨w4, G4, E4, r4, I4, s4, rv4, d4, E5, e4, ee, hs, q⟩ => ?_
    subst e4 ee
    obtain ⟨l', el, hw', cc'⟩ := I4.owned hE3 hb3
    rw [rv1] at el
    cases el
    obtain ⟨xs', c1', c2'⟩ := cc'.lst
    refine ⟨l, xs', k, j, rfl, rfl, c1', by rw [c2'.length, hl3]; exact hj, ?_⟩
    have I5 := I4.mut hE3 hb3 rv1 (.ls (c2'.set j rv4))
    rw [← hs.eq] at I5
    exact ⟨w4, G4, E5, I5, ((((s1.trans s2).trans s3).trans s3').trans s4), q⟩

/-! ### xs.pop(), xs an own list -/
theorem xe_pop {apos : Pos} (h : XE X F o E fun E1 r0 => ∃ i b1 ds d E2, r0 = .br i ∧ E1[i]? = some b1 ∧ b1.oc = some (.lst ds) ∧ ds[ds.length - 1]? = some d ∧ SetE E1 i (b1.put (.lst ds.dropLast)) E2 ∧ Φ E2 (.sh d))
    (hbase : attributeBase o "pop" X.env (eval o X.env) = eval o X.env := by rfl) (hline : (apos.endLine == pos.line) = true := by rfl) : XE X F (.Call (.Attribute o "pop" apos) [] [] pos) E Φ :=
  xe_of (pe_bm0 PySem.F.plainAttrs_list PySem.F.slot_list_pop PySem.F.type_list_pop mt_pop pe_tE hbase hline) fun w σ H G I => tE_go I h fun v w1 H1 G1 E1 r I1 s1 rv ⟨i, b1, ds, d, E2, e0, hE, hb, hd, hs, q⟩ => by
    subst e0
    obtain ⟨l, el, hw, cc⟩ := I1.owned hE hb
    have rv : σ[i]? = some (some v) := rv
    rw [rv] at el
    cases el
    obtain ⟨xs, c1, c2⟩ := cc.lst
    obtain ⟨z, hz, rz⟩ := c2.get hd
    refine ⟨.inl ⟨rfl, xs, .inl (.inl c1)⟩, l, xs, z, rfl, rfl, c1, by rw [c2.length]; exact hz, ?_⟩
    have dl : Rps X.K G1 xs.dropLast ds.dropLast := by
      rw [List.dropLast_eq_take, List.dropLast_eq_take, c2.length]
      exact c2.take _
    have I2 := I1.mut hE hb rv (.ls dl)
    rw [← hs.eq] at I2
    exact ke I2 s1 (r := .sh d) rz q
end
end Bk

set_option maxHeartbeats 4000000
namespace Bk
open PySem PySem.Spec PyProof.Rows L2
/-! ### a tuple, no times or once -/
theorem tup_once (l : Addr) (items : Array Value) (n : Nat) (dd : Option Addr) (sl : Array (Option Value)) (x : Int) (u : Tok) (c0 : (decide (x < -(2 ^ 63)) || decide (x ≥ 2 ^ 63)) = false) (c1 : (items.isEmpty || x == 1) = true) :
    Meets (Builtin.«tuple.__mul__» ⟨[.ref l, .int x u], []⟩) (fun _ R s => s.heap.get? l = some { cls := .type "tuple", dict := dd, data := .seq items n, slots := sl } ∧ R (.ok (.ret (Value.ref l))) s) :=
  .of_wp fun prog w A R s h => by
    obtain ⟨hp, g, d, tk, os⟩ := s
    obtain ⟨hl, h⟩ := h
    have f1 := AutoSeq1.idx_int
    wp_walk using wpAny_loadPart' hl
    repeat (first
      | (refine wpAny_ite_false (decide_eq_false (by rw [c0]; exact Bool.false_ne_true)) ?_; wp_walk using wpAny_loadPart' hl)
      | (refine wpAny_ite_true (decide_eq_true (by rw [c1])) ?_; wp_walk using wpAny_loadPart' hl))
    exact ⟨_, rfl, h⟩
theorem tup_none (l : Addr) (items : Array Value) (n : Nat) (dd : Option Addr) (sl : Array (Option Value)) (x : Int) (u : Tok) (c0 : (decide (x < -(2 ^ 63)) || decide (x ≥ 2 ^ 63)) = false) (c1 : (items.isEmpty || x == 1) = false) (c2 : (decide (x ≤ 0) || items.isEmpty) = true) :
    Meets (Builtin.«tuple.__mul__» ⟨[.ref l, .int x u], []⟩) (fun _ R s => s.heap.get? l = some { cls := .type "tuple", dict := dd, data := .seq items n, slots := sl } ∧
      R (.ok (.ret (Value.ref s.heap.objs.size))) { s with heap := s.heap.push { cls := Value.type "tuple", data := Data.seq #[] }, toks := s.toks }) :=
  .of_wp fun prog w A R s h => by
    obtain ⟨hp, g, d, tk, os⟩ := s
    obtain ⟨hl, h⟩ := h
    have f1 := AutoSeq1.idx_int
    wp_walk using wpAny_loadPart' hl
    repeat (first
      | (refine wpAny_ite_false (decide_eq_false (by rw [c0]; exact Bool.false_ne_true)) ?_; wp_walk using wpAny_loadPart' hl)
      | (refine wpAny_ite_false (decide_eq_false (by rw [c1]; exact Bool.false_ne_true)) ?_; wp_walk using wpAny_loadPart' hl)
      | (refine wpAny_ite_true (decide_eq_true (by rw [c2])) ?_; wp_walk using wpAny_loadPart' hl))
    exact ⟨_, rfl, h⟩
section
variable {X : Cx}
def rRep01 (K : PySem.W.Frag) : R2 := fun x y H Q => ∃ l k xs, x = .ref l ∧ y = .int k ∧ SqT K H l xs ∧ -1000000 ≤ k ∧ k ≤ 1 ∧ (xs = [] ∨ k = 1 → Q (.ref l) H) ∧ (xs ≠ [] → k ≤ 0 → ∀ p, H p = none → Q (.ref p) (upd H p (.tup [])))
theorem op_rep01 : OpR X (binaryOp .Mult) (rRep01 X.K) := by
  intro pins s σ H x y v u Q I rx ry h
  obtain ⟨l, k, xs, rfl, rfl, hT, h1, h2, q1, q2⟩ := h
  cases rx
  obtain ⟨t, rfl⟩ := ry
  obtain ⟨its, r, ⟨⟨cls, dd, data, sl⟩, ho, hc, n, hd⟩, hs⟩ := I.tuple hT
  simp only at hc hd
  subst hc hd
  have hle : its.length = xs.length := r.length.symm
  have c0 : (decide (k < -(2 ^ 63)) || decide (k ≥ 2 ^ 63)) = false := by
    rw [decide_eq_false (by omega), decide_eq_false (by omega)]; rfl
  have go : wpAny (model X.prog X.w) X.A (call (.builtin "tuple.__mul__") [.ref l, .int k t]) (EP X pins σ Q) X.xe s → wpAny (model X.prog X.w) X.A (binaryOp .Mult (.ref l) (.int k t)) (EP X pins σ Q) X.xe s := fun z => by
    refine wpAny_binaryOp_repeat_ref (T := "tuple") (U := "int") (by decide) ⟨_, ho, rfl⟩ (fun s' => typeIs_int s' k t) noFill_tuple_mul F.fills_int_mul F.slot_int_rmul repeat_tuple F.slot_int_index.lookup ?_
    exact call_meets F.slot_int_rmul (typeIs_int s k t) F.entry_int_rmul (F.args_int_rmul_2 _ _) (int_rmul_tuple k t l its.toArray n dd sl) ⟨ho, rfl, ⟨_, ho, rfl⟩, z⟩
  by_cases c1 : (its.toArray.isEmpty || k == 1) = true
  · refine go (call_meets F.slot_tuple_mul ⟨_, ho, rfl⟩ F.entry_tuple_mul (F.args_tuple_mul_2 _ _) (tup_once l its.toArray n dd sl k t c0 c1) ⟨ho, .ref l, H, I, rfl, q1 ?_⟩)
    rcases Bool.or_eq_true_iff.mp c1 with z | z
    · have : its = [] := by simpa using z
      subst this
      exact .inl (List.eq_nil_of_length_eq_zero hle.symm)
    · exact .inr (eq_of_beq z)
  · have c1 : (its.toArray.isEmpty || k == 1) = false := by simpa using c1
    have hk : k ≠ 1 := fun e => by subst e; simp at c1
    have hne : xs ≠ [] := fun e => by
      subst e
      have : its = [] := List.eq_nil_of_length_eq_zero hle
      subst this
      simp at c1
    refine go (call_meets F.slot_tuple_mul ⟨_, ho, rfl⟩ F.entry_tuple_mul (F.args_tuple_mul_2 _ _) (tup_none l its.toArray n dd sl k t c0 c1 (by rw [decide_eq_true (by omega)]; rfl)) ⟨ho, ?_⟩)
    refine ⟨.ref s.heap.objs.size, _, I.laid (t' := s.toks) (o := .tup []) (fun b ob q => Heap.get?_push_of_some _ q) (Nat.le_refl _) ?_, rfl, q2 hne (by omega) _ (I.hok.fresh (Nat.le_refl _))⟩
    exact ⟨Nat.zero_le _, [], .nil, IsTup.new _ _⟩
end
end Bk

set_option maxHeartbeats 4000000
namespace Bk
open PySem PySem.Spec PyProof.Rows L2
section
variable {X : Cx} {F : Fm} {E : EnvB} {Φ : EnvB → Rs → Prop} {r1 : Rs}
/-- (d,) * n, any n -/
theorem opr_mulT : OpR X (binaryOp .Mult) (rOr (rRep01 X.K) (rRepT X.K)) := op_rep01.or op_repT
theorem oj_mulT {d : PD} {n : Int} (h1 : RD E r1 (.tuple [d])) (c : -1000 ≤ n ∧ n ≤ 1000) (q : Φ E (.sh (.tuple (List.replicate n.toNat d)))) : OpJ X F (rOr (rRep01 X.K) (rRepT X.K)) E r1 (.sh (.int n)) Φ := fun w σ H G x y Q I rx ry k => by
  obtain ⟨l, xs, rfl, hx, rxs⟩ := h1.tup I rx
  obtain rfl := rvI ry
  have hl := rxs.length
  have hne : xs ≠ [] := fun e => by subst e; cases hl
  by_cases h2 : n ≤ 1
  · refine .inl ⟨l, n, xs, rfl, rfl, sqT_mono I.sub hx, by omega, h2, fun z => k _ _ ?_, fun _ h0 p hp => k _ _ ?_⟩
    · have e : n = 1 := z.resolve_left hne
      subst e
      exact ke I (Same.refl G) (r := .sh (.tuple [d])) (.tup hx rxs) q
    · have e : n.toNat = 0 := by omega
      rw [e] at q
      obtain ⟨I3, s3, rp⟩ := I.newT hp (xs := []) (ds := []) .nil
      exact ke I3 s3 (r := .sh (.tuple [])) rp q
  · refine .inr ⟨l, n, xs, rfl, rfl, sqT_mono I.sub hx, hne, by omega, by omega, by rw [hl]; show 1 ≤ 1000; decide, fun p hp => k _ _ ?_⟩
    have rr : ∀ m, Rps X.K G (List.replicate m xs).flatten (List.replicate m d) := fun m => by
      induction m with
      | zero => exact .nil
      | succ m ih =>
        rw [List.replicate_succ, List.replicate_succ, List.flatten_cons]
        cases rxs with
        | cons h1 h2 =>
          cases h2
          exact .cons h1 ih
    obtain ⟨I3, s3, rp⟩ := I.newT hp (rr n.toNat)
    exact ke I3 s3 (r := .sh (.tuple (List.replicate n.toNat d))) rp q
end
end Bk

set_option maxHeartbeats 4000000
namespace Bk
open PySem PySem.Spec PyProof.Rows L2
/-! ### dicts of numbers by numbers -/
def alook (al : List (Int × Int)) (k : Int) : Option Int := (al.find? fun kv => decide (kv.1 = k)).map (·.2)
def aput (al : List (Int × Int)) (k v : Int) : List (Int × Int) := if (al.any fun kv => decide (kv.1 = k)) = true then al.map (fun kv => if kv.1 = k then (kv.1, v) else kv) else al ++ [(k, v)]
def mapd (al : List (Int × Int)) : List (Key × PD) := al.map fun p => (.inl p.1, .int p.2)
theorem dlook_mapd (al : List (Int × Int)) (k : Int) : dlook (mapd al) (.inl k) = (alook al k).map PyData.int := by
  unfold dlook alook mapd
  induction al with
  | nil => rfl
  | cons p al ih =>
    rw [List.map_cons]
    by_cases h : p.1 = k
    · rw [List.find?_cons_of_pos (by simp [h]), List.find?_cons_of_pos (by simp [h])]
      rfl
    · rw [List.find?_cons_of_neg (by simp [h]), List.find?_cons_of_neg (by simp [h])]
      exact ih
theorem dput_mapd (al : List (Int × Int)) (k v : Int) : dput (mapd al) (.inl k) (.int v) = mapd (aput al k v) := by
  have e : (mapd al).any (fun kv => decide (kv.1 = .inl k)) = al.any fun kv => decide (kv.1 = k) := by
    unfold mapd
    induction al with
    | nil => rfl
    | cons p al ih =>
      rw [List.map_cons, List.any_cons, List.any_cons, ih]
      congr 1
      by_cases h : p.1 = k <;> simp [h]
  unfold dput aput
  rw [e]
  split
  · unfold mapd
    rw [List.map_map, List.map_map]
    refine List.map_congr_left fun p _ => ?_
    by_cases h : p.1 = k <;> simp [h]
  · unfold mapd
    rw [List.map_append]
    rfl
theorem aput_len (al : List (Int × Int)) (k v : Int) : (aput al k v).length ≤ al.length + 1 := by
  unfold aput
  split
  · rw [List.length_map]; omega
  · rw [List.length_append]; exact Nat.le_refl _
theorem alook_aput (al : List (Int × Int)) (k v j : Int) : alook (aput al k v) j = if j = k then some v else alook al j := by
  unfold aput
  by_cases h : (al.any fun kv => decide (kv.1 = k)) = true
  · rw [if_pos h]
    induction al with
    | nil => simp at h
    | cons p al ih =>
      unfold alook at ih ⊢
      rw [List.map_cons]
      by_cases hp : p.1 = k
      · rw [if_pos hp]
        by_cases hj : j = k
        · rw [if_pos hj, List.find?_cons_of_pos (by simp [hp, hj])]
          rfl
        · rw [if_neg hj, List.find?_cons_of_neg (by simp [hp]; omega), List.find?_cons_of_neg (by simp [hp]; omega)]
          by_cases h2 : (al.any fun kv => decide (kv.1 = k)) = true
          · have := ih h2
            rw [if_neg hj] at this
            exact this
          · have e : al.map (fun kv => if kv.1 = k then (kv.1, v) else kv) = al := by
              refine (List.map_congr_left fun q hq => ?_).trans (List.map_id al)
              have : ¬ q.1 = k := fun z => h2 (List.any_eq_true.mpr ⟨q, hq, by simp [z]⟩)
              rw [if_neg this]
              rfl
            rw [e]
      · rw [if_neg hp]
        by_cases hpj : p.1 = j
        · have : ¬ j = k := fun z => hp (hpj.trans z)
          rw [if_neg this, List.find?_cons_of_pos (by simp [hpj]), List.find?_cons_of_pos (by simp [hpj])]
        · rw [List.find?_cons_of_neg (by simp [hpj]), List.find?_cons_of_neg (by simp [hpj])]
          refine ih ?_
          rw [List.any_cons] at h
          simpa [hp] using h
  · rw [if_neg h]
    unfold alook
    rw [List.find?_append]
    have hn : ∀ q ∈ al, ¬ q.1 = k := fun q hq z => h (List.any_eq_true.mpr ⟨q, hq, by simp [z]⟩)
    by_cases hj : j = k
    · rw [if_pos hj]
      have : al.find? (fun kv => decide (kv.1 = j)) = none := List.find?_eq_none.mpr fun q hq => by simp [hj]; exact hn q hq
      rw [this]
      simp [hj]
    · rw [if_neg hj]
      have : ([(k, v)] : List (Int × Int)).find? (fun kv => decide (kv.1 = j)) = none := List.find?_eq_none.mpr fun q hq => by
        simp at hq; subst hq; simp; omega
      rw [this, Option.or_none]
end Bk

set_option maxHeartbeats 4000000
namespace Bk
open PySem PySem.Spec PyProof.Rows L2
/-! ### t[::-1] -/
section
variable {prog : Program} {w : World} {A : Around} {E : Value → Shared → Prop} {s : Shared}
theorem adjust_rev (n : Nat) : Builtin.Slice.sliceAdjust none none (-1) (n : Int) = ((n : Int) - 1, -1) := by
  unfold Builtin.Slice.sliceAdjust
  have h1 : ((-1 : Int) < 0) := by decide
  simp only [h1, if_true]
theorem places_rev (n : Nat) : Builtin.Slice.slicePlaces ((n : Int) - 1) (-1) (-1) = n := by
  unfold Builtin.Slice.slicePlaces
  have h1 : ¬ ((-1 : Int) > 0) := by decide
  simp only [h1, if_false]
  have e : (- -1 : Int) = 1 := by decide
  rw [e, Int.ediv_one]
  split <;> omega
theorem pick_rev (xs : Array Value) : ((List.range xs.size).filterMap fun (m : Nat) => xs[(((xs.size : Int) - 1) + (m : Int) * -1).toNat]?).toArray = xs.toList.reverse.toArray := by
  have h := PySem.W.krv_pick xs
  unfold slicePick at h
  rw [← h]
  congr 1
  have hb : sliceBounds none none (some (-1)) xs.size = ((xs.size : Int) - 1, -1, -1) := by
    first
    | rfl
    | simp [sliceBounds]
  rw [hb]
  show _ = (sliceRange ((xs.size : Int) - 1) (-1) (-1)).filterMap (xs[·]?)
  rw [PySem.W.krv_sliceRange, List.filterMap_map]
  have go : ∀ l : List Nat, (∀ k ∈ l, k < xs.size) → (l.filterMap fun (m : Nat) => xs[(((xs.size : Int) - 1) + (m : Int) * -1).toNat]?) = l.filterMap ((fun x => xs[x]?) ∘ fun k => xs.size - 1 - k) := fun l => by
    induction l with
    | nil => intro _; rfl
    | cons k l ih =>
      intro h
      have := h k List.mem_cons_self
      have e : (((xs.size : Int) - 1) + (k : Int) * -1).toNat = xs.size - 1 - k := by omega
      rw [List.filterMap_cons, List.filterMap_cons, ih fun m hm => h m (List.mem_cons_of_mem _ hm), e]
      rfl
  exact go _ fun k hk => List.mem_range.mp hk
theorem sliceApplied_rev {sl : Addr} {n : Nat} {c : Value} {Q : Int × Int × Nat → Shared → Prop} (hs : s.heap.IsSliceOf sl .none .none c) (pc : IsPart c (some (-1)))
    (h : Q ((n : Int) - 1, -1, n) s) : wpAny (model prog w) A (Builtin.Slice.sliceApplied (.ref sl) (pure (n : Int))) Q E s := by
  obtain ⟨os, hos, hcs, hds⟩ := id hs
  unfold Builtin.Slice.sliceApplied Builtin.Slice.sliceFields
  refine wpAny_bind (wpAny_bind (wpAny_field hos hds (x := .none) rfl (wpAny_bind (wpAny_field hos hds (x := .none) rfl (wpAny_bind (wpAny_field hos hds (x := c) rfl (wpAny_pure ?_)))))))
  refine wpAny_bind (HT.slicePart_ pc ?_)
  show wpAny _ _ (if ((-1 : Int) == 0) = true then _ else _) _ _ s
  rw [if_neg (by decide)]
  refine wpAny_bind (slicePart_none (wpAny_bind (slicePart_none (wpAny_bind (wpAny_pure ?_)))))
  show wpAny _ _ (match Builtin.Slice.sliceAdjust none none (-1) (n : Int) with | (lo, hi) => pure (lo, (-1 : Int), Builtin.Slice.slicePlaces lo hi (-1))) _ _ s
  rw [adjust_rev]
  show wpAny _ _ (pure ((n : Int) - 1, (-1 : Int), Builtin.Slice.slicePlaces ((n : Int) - 1) (-1) (-1))) _ _ s
  rw [places_rev]
  exact wpAny_pure h
theorem getItem_tuple_rev {t sl : Addr} {items : Array Value} {c : Value} {Q : Value → Shared → Prop} (ht : IsTup s.heap t items) (hs : s.heap.IsSliceOf sl .none .none c) (pc : IsPart c (some (-1)))
    (h : Q (.ref s.heap.objs.size) { s with heap := s.heap.push { cls := .type "tuple", data := .seq items.toList.reverse.toArray } })
    (hsz : items.size ≤ sizeLine) : wpAny (model prog w) A (getItem (.ref t) (.ref sl)) Q E s := by
  have htake : sizeOk (.seq items.toList.reverse.toArray) := by
    show items.toList.reverse.toArray.size ≤ sizeLine
    rw [List.size_toArray, List.length_reverse, Array.length_toList]
    exact hsz
  obtain ⟨os, hos, hcs, hds⟩ := id hs
  have hTs : s.TypeIs (.ref sl) "slice" := ⟨os, hos, hcs⟩
  unfold getItem
  try with_reducible refine wpAny_holding ?_
  first | refine wpAny_bind (wpAny_pure ?_) | skip
  refine wpAny_bind (wpAny_sequenceKey ht.typeIs (by decide) ?_)
  refine wpAny_bind (wpAny_callSpecial?_slot (name := Str.ofString "__getitem__") ht.typeIs PyProof.Rows.slot_tuple_getitem
    (wpAny_call_entry PyProof.Rows.slot_tuple_getitem ht.typeIs entry_tuple_getitem ?_ (args_tuple_getitem _ _)))
  show wpAny _ _ (Builtin.Tuple.tupleItemsOf (.ref t) >>= _) _ _ s
  refine wpAny_bind (tupleItemsOf_ ht ?_)
  refine wpAny_bind (wpAny_typeOf hTs ?_)
  rw [if_pos (by decide)]
  refine wpAny_bind (sliceApplied_rev hs pc ?_)
  have hno : ¬ ((((items.size : Int) - 1) == 0 && (-1 : Int) == 1 && items.size == items.size) = true) := by
    intro q
    rw [Bool.and_eq_true, Bool.and_eq_true] at q
    exact absurd q.1.2 (by decide)
  show wpAny _ _ (if (((items.size : Int) - 1) == 0 && (-1 : Int) == 1 && items.size == items.size) = true then _ else _) _ _ s
  rw [if_neg hno, pick_rev]
  first
    | exact wpAny_bind (m := Builtin.Tuple.tupleExact _) (wpAny_newObj_type (wpAny_pure ⟨_, rfl, wpAny_pure h⟩) htake)
    | exact wpAny_bind (m := Builtin.Tuple.tupleExact _) (wpAny_newObj_type (wpAny_bind (wpAny_pure (wpAny_pure ⟨_, rfl, wpAny_pure h⟩))) htake)
    | exact wpAny_bind (wpAny_bind (m := Builtin.Tuple.tupleExact _) (wpAny_newObj_type (wpAny_pure (wpAny_pure ⟨_, rfl, wpAny_pure h⟩)) htake))
    | exact wpAny_bind (wpAny_bind (m := Builtin.Tuple.tupleExact _) (wpAny_newObj_type (wpAny_pure ⟨_, rfl, wpAny_pure h⟩) htake))
end
def tRevT (K : PySem.W.Frag) (te : TE) : TE := fun σ H Q => te σ H fun x H1 => ∃ a xs, x = .ref a ∧ SqT K H1 a xs ∧ ∀ p, H1 p = none → Q (.ref p) (upd H1 p (.tup xs.reverse))
theorem pe_revT {X : Cx} {e : Expr} {te : TE} {k : Nat} {p1 p2 p3 pos : Pos} (he : PE X e te) : PE X (.Subscript e (.Slice none none (some (.UnaryOp .USub (.Constant (.int 1) k p1) p2)) p3) pos) (tRevT X.K te) := by
  refine ⟨fun pins s σ H Q I h => ?_⟩
  refine Subscript_ (thn (he.run pins s σ H _ I h) fun v s1 ⟨x, H1, I1, r1, q1⟩ => ?_)
  obtain ⟨a, xs, ex, hx, q⟩ := q1
  subst ex
  cases r1
  have hst : PO X (some (.UnaryOp .USub (.Constant (.int 1) k p1) p2)) (tPart (tUn (rU fun i => .int (-i)) (tC (.int 1)))) := po_some (pe_un un_neg pe_int)
  refine wpAny_Slice (thn (po_none.run pins s1 σ H1 (fun o H2 => o = none ∧ H2 = H1) I1 ⟨rfl, rfl⟩) fun vl s2 ⟨l, H2, I2, pl, el, e2⟩ => ?_)
  subst el e2
  refine thn (po_none.run pins s2 σ H2 (fun o H3 => o = none ∧ H3 = H2) I2 ⟨rfl, rfl⟩) fun vu s3 ⟨u, H3, I3, pu, eu, e3⟩ => ?_
  subst eu e3
  refine thn (hst.run pins s3 σ H3 (fun o H4 => o = some (-1) ∧ H4 = H3) I3 ⟨1, rfl, -1, rfl, rfl, rfl⟩) fun vs s4 ⟨o, H4, I4, ps, eo, e4⟩ => ?_
  subst eo e4
  cases pl
  cases pu
  have I5 : Inv X pins σ H4 { s4 with heap := s4.heap.push { cls := .type "slice", data := .fields #[.none, .none, vs] } } := I4.kept (t' := s4.toks) fun b ob q => Heap.get?_push_of_some _ q
  obtain ⟨its, r, ht, hz⟩ := I5.tuple hx
  have hlen := r.length
  show wpAny (model X.prog X.w) X.A (subscriptTail e (.Slice none none (some (.UnaryOp .USub (.Constant (.int 1) k p1) p2)) p3) (.ref a) (.ref s4.heap.objs.size)) (EP X pins σ Q) X.xe { s4 with heap := s4.heap.push { cls := .type "slice", data := .fields #[.none, .none, vs] } }
  refine tail_any (ops := [.ref a, .ref s4.heap.objs.size]) ht.typeIs PyProof.Rows.slot_tuple_getitem.lookup ?_ (by with_unfolding_all rfl)
  refine getItem_tuple_rev ht (Heap.IsSliceOf.new _ .none .none vs) ps ?_ (by rw [List.size_toArray]; omega)
  refine ⟨.ref _, _, I5.laid (t' := s4.toks) (o := .tup xs.reverse) (fun b ob q => Heap.get?_push_of_some _ q) (Nat.le_refl _) ?_, rfl, q _ (I5.hok.fresh (Nat.le_refl _))⟩
  exact ⟨by rw [List.length_reverse]; exact hz, _, r.reverse, IsTup.new _ _⟩
section
variable {X : Cx} {F : Fm} {E : EnvB} {a : Expr} {Φ : EnvB → Rs → Prop} {k : Nat} {p1 p2 p3 pos : Pos}
theorem xe_revT (h : XE X F a E fun E1 r => ∃ r' ds, Fz r r' ∧ RD E1 r' (.tuple ds) ∧ Φ E1 (.sh (.tuple ds.reverse))) : XE X F (.Subscript a (.Slice none none (some (.UnaryOp .USub (.Constant (.int 1) k p1) p2)) p3) pos) E Φ :=
  xe_of (pe_revT pe_tE) fun w σ H G I => tE_go I h fun v w1 H1 G1 E1 r I1 s1 rv ⟨r', ds, f, hd, q⟩ => by
    obtain ⟨G1', I1', s1', rv1'⟩ := f.go I1 rv
    obtain ⟨l, xs, rfl, hx, rx⟩ := hd.tup I1' rv1'
    refine ⟨l, xs, rfl, sqT_mono I1'.sub hx, fun p hp => ?_⟩
    obtain ⟨I3, s3, rp⟩ := I1'.newT hp rx.rev
    exact ke I3 ((s1.trans s1').trans s3) (r := .sh (.tuple ds.reverse)) rp q
theorem xe_revL (h : XE X F a E fun E1 r => ∃ r' ds, Fz r r' ∧ RD E1 r' (.list ds) ∧ Φ E1 (.nw (.lst ds.reverse))) : XE X F (.Subscript a (.Slice none none (some (.UnaryOp .USub (.Constant (.int 1) k p1) p2)) p3) pos) E Φ :=
  xe_of (pe_revL pe_tE) fun w σ H G I => tE_go I h fun v w1 H1 G1 E1 r I1 s1 rv ⟨r', ds, f, hd, q⟩ => by
    obtain ⟨G1', I1', s1', rv1'⟩ := f.go I1 rv
    obtain ⟨l, xs, rfl, hx, rx⟩ := hd.lst I1' rv1'
    refine ⟨l, xs, rfl, .inl (.inl hx), fun p hp => ?_⟩
    obtain ⟨I3, rp⟩ := I1'.newL hp rx.rev
    exact ke I3 (s1.trans s1') (r := .nw (.lst ds.reverse)) rp q
end
end Bk

set_option maxHeartbeats 4000000
namespace Bk
open PySem PySem.Spec PyProof.Rows L2
section
variable {X : Cx} {F : Fm} {E : EnvB} {a b e o t1 t2 : Expr} {Φ : EnvB → Rs → Prop} {pos p : Pos}
/-! ### targets: xs[i], and two of any kind -/
theorem xg_sub {d : PD} {Ψ : EnvB → Prop} (hu : X.A.units + 64 < cLine) (h : XE X F a E fun E2 r2 => ∃ i, r2 = .br i ∧ XE X F b E2 fun E3 r3 => ∃ dk E5, r3 = .sh dk ∧ PutE E3 i dk d E5 ∧ Ψ E5)
    (ha : ∀ v, assign (.Subscript a b pos) X.env v = (do
      let ov ← holding [v] (eval a X.env)
      let iv ← holding [v, ov] (eval b X.env)
      standAt pos
      holding [v, ov, iv] (setItem ov iv v)
      release [v, ov, iv] []) := by intro _; rfl) : XG X F (.Subscript a b pos) (.sh d) E Ψ :=
  xg_of (pg_sub pe_tE pe_tE (op_putItem hu) ha) fun w σ H G v I r => tE_go I h fun v2 w2 H2 G2 E2 r2 I2 s2 rv2 ⟨i, e2, h2⟩ => by
    subst e2
    refine tE_go I2 h2 fun v3 w3 H3 G3 E3 r3 I3 s3 rv3 ⟨dk, E5, e3, pp, q⟩ => ?_
    subst e3
    have r : Rp X.K G v d := r
    refine pp.go I3 (show σ[i]? = some (some v2) from rv2) rv3 (Rp.mono (s2.trans s3) _ _ r) fun H' I5 => ?_
    exact ⟨w3, G3, E5, I5, s2.trans s3, q⟩
theorem tG_go {tg : Expr} {w : Addr → Option Nat} {σ : L2.St} {H G : Hp} {Q : L2.St → Hp → Prop} {r : Rs} {v : V} {Ψ : EnvB → Prop} (I : In X.K F w σ H G E) (rv : RV X.K F w σ H G v r) (h : XG X F tg r E Ψ) (q : ∀ σ' w' H' G' E', In X.K F w' σ' H' G' E' → Same G G' → Ψ E' → Q σ' H') : tG X F tg v σ H Q :=
  ⟨E, r, Ψ, w, G, I, rv, h, fun σ' H' ⟨w', G', E', a, b, d⟩ => q σ' w' H' G' E' a b d⟩
theorem xg_two {d1 d2 : PD} {kk : Nat} {Ψ : EnvB → Prop} (h : XG X F t1 (.sh d1) E fun E2 => XG X F t2 (.sh d2) E2 Ψ) (hc : X.calm = true := by rfl)
    (q1 : (assignEach [t1, t2] X.env).map (·.2) = assign t1 X.env :: (assignEach [t2] X.env).map (·.2) := by rfl) (q2 : (assignEach [t2] X.env).map (·.2) = assign t2 X.env :: (assignEach [] X.env).map (·.2) := by rfl)
    (hn : (assignEach [t1, t2] X.env).length = 2 := by rfl) (hst : (assignEach [t1, t2] X.env).findIdx? (·.1) = none := by rfl) : XG X F (.Tuple [t1, t2] kk pos) (.sh (.tuple [d1, d2])) E Ψ :=
  xg_of (pg_tup hc (pgs_cons pg_tG (pgs_cons pg_tG pgs_nil q2) q1) hn hst) fun w σ H G v I r => by
    have r : Rp X.K G v (.tuple [d1, d2]) := r
    cases r with
    | tup hq rr =>
      cases rr with
      | cons r1 rr =>
        cases rr with
        | cons r2 rr =>
          cases rr
          refine ⟨_, _, rfl, sqT_mono I.sub hq, rfl, _, _, rfl, ?_⟩
          refine tG_go I (r := .sh d1) r1 h fun σ1 w1 H1 G1 E1 I1 s1 h1 => ⟨_, _, rfl, ?_⟩
          exact tG_go I1 (r := .sh d2) (Rp.mono s1 _ _ r2) h1 fun σ2 w2 H2 G2 E2 I2 s2 q => ⟨rfl, w2, G2, E2, I2, s1.trans s2, q⟩
/-! ### list(range(n)) -/
theorem xe_listRg {p p2 pos2 : Pos} (hl : X.mg "list" = none) (hr : X.mg "range" = none) (h : XE X F a E fun E1 r => ∃ n : Int, r = .sh (.int n) ∧ (0 ≤ n ∧ n ≤ 100000) ∧ Φ E1 (.nw (.lst (rngD 0 n.toNat)))) (hc : X.calm = true := by rfl) (hg : Gl X "list" := by rfl) (hg2 : Gl X "range" := by rfl)
    (na : starEach [.Call (.Name "range" p2) [a] [] pos2] X.env = (false, eval (.Call (.Name "range" p2) [a] [] pos2) X.env) :: starEach [] X.env := by rfl) (na2 : starEach [a] X.env = (false, eval a X.env) :: starEach [] X.env := by rfl) : XE X F (.Call (.Name "list" p) [.Call (.Name "range" p2) [a] [] pos2] [] pos) E Φ :=
  xe_of (pe_listRg hc hg hl (prg_1 hg2 hr pe_tE na2) na) fun w σ H G I => tE_go I h fun v w1 H1 G1 E1 r I1 s1 rv ⟨n, e, ⟨h0, h1⟩, q⟩ => by
    subst e
    obtain rfl := rvI rv
    refine ⟨n, rfl, RgOk.of_le (by decide) (by omega) (by decide) h0, fun l hl => ?_⟩
    have e : rgV 0 n = ((List.range n.toNat).map fun i : Nat => (0 : Int) + (i : Nat)).map V.int := by
      unfold rgV
      rw [Int.sub_zero, List.map_map]
      rfl
    have e2 : rngD 0 n.toNat = ((List.range n.toNat).map fun i : Nat => (0 : Int) + (i : Nat)).map PyData.int := by
      unfold rngD
      rw [List.map_map]
      rfl
    rw [e]
    rw [e2] at q
    obtain ⟨I3, rp⟩ := I1.newL hl (Rps.of_ints (K := X.K) (G := G1) _)
    exact ke I3 s1 (r := .nw (.lst _)) rp q
/-! ### xs.index(n), numbers -/
theorem xe_indexI {apos : Pos} (h : XE X F o E fun E1 r0 => ∃ r0' ns, Fz r0 r0' ∧ RD E1 r0' (.list (pI ns)) ∧ XE X F e E1 fun E2 r1 => ∃ n : Int, r1 = .sh (.int n) ∧ E2 = E1 ∧ ∃ j, ns[j]? = some n ∧ (∀ m, m < j → ns[m]? ≠ some n) ∧ Φ E2 (.sh (.int (j : Nat))))
    (hbase : attributeBase o "index" X.env (eval o X.env) = eval o X.env := by rfl) (he : starEach (e :: []) X.env = (false, eval e X.env) :: starEach [] X.env := by rfl)
    (hfew : ((backTo pos (starEach (e :: []) X.env)).all (fun x => !x.1) && (backToKw pos (keywordEach [] X.env)).all (fun x => x.1.isSome) && decide ((e :: []).length + ([] : List Keyword).length + (if ([] : List Keyword).isEmpty then 0 else 1) < 30)) = true := by rfl)
    (hline : (apos.endLine == pos.line) = true := by rfl) : XE X F (.Call (.Attribute o "index" apos) [e] [] pos) E Φ :=
  xe_of (pe_bm PySem.F.plainAttrs_list PySem.F.slot_list_index PySem.F.type_list_index mt_index pe_tE (pa_cons (pe_tE (F := F)) pa_nil he) hbase hfew (hs := he) (hline := hline)) fun w σ H G I => tE_go I h fun v w1 H1 G1 E1 r I1 s1 rv ⟨r0', ns, f0, hd, h1⟩ => by
    obtain ⟨G1', I1', s1', rv1'⟩ := f0.go I1 rv
    obtain ⟨l, xs, rfl, hx, rx⟩ := hd.lst I1' rv1'
    obtain rfl := rx.ints
    refine ⟨.inl ⟨rfl, _, .inl (.inl hx)⟩, tE_go I1' h1 fun v2 w2 H2 G2 E2 r2 I2 s2 rv2 ⟨n, e2, e3, j, hj, hno, q⟩ => ?_⟩
    subst e2 e3
    obtain rfl := rvI rv2
    obtain ⟨G2', I2', s2', rv2'⟩ : ∃ G', In X.K F w2 σ H2 G' E2 ∧ Same G2 G' ∧ RV X.K F w2 σ H2 G' (.ref l) r0' := ⟨G2, I2, Same.refl _, f0.keep s2 rv1'⟩
    obtain ⟨l', xs', e4, hx', rx'⟩ := hd.lst I2' rv2'
    cases e4
    obtain rfl := rx'.ints
    refine ⟨l, _, .int n, j, .int n, rfl, rfl, .inl (.inl hx'), rfl, ?_, ?_, ?_, fun m z' hm hz => ?_, ?_⟩
    · rw [List.all_eq_true]
      intro x hx
      obtain ⟨y, _, rfl⟩ := List.mem_map.mp hx
      rfl
    · rw [List.getElem?_map, hj]
      rfl
    · show decide (n = n) = true
      exact decide_eq_true rfl
    · rw [List.getElem?_map] at hz
      cases e5 : ns[m]? with
      | none => rw [e5] at hz; cases hz
      | some y =>
        rw [e5] at hz
        cases hz
        show decide (y = n) = false
        refine decide_eq_false fun e6 => hno m hm ?_
        rw [e5, e6]
    · exact ke I2 ((s1.trans s1').trans s2) (r := .sh (.int (j : Nat))) (.int _) q
end
end Bk

set_option maxHeartbeats 4000000
namespace Bk
open PySem PySem.Spec PyProof.Rows L2
/-! ### tapes: texts of H and T -/
theorem pI_len (a : List Int) : (pI a).length = a.length := by simp [pI]
theorem pI_app (a b : List Int) : pI a ++ pI b = pI (a ++ b) := by unfold pI; rw [List.map_append]
theorem pI_rep (n : Nat) : List.replicate n (PyData.int 0) = pI (List.replicate n 0) := by unfold pI; rw [List.map_replicate]
theorem drop_at {cs : List Nat} {i c : Nat} (h : cs[i]? = some c) : cs.drop i = c :: cs.drop (i + 1) := by
  have hk : i < cs.length := (List.getElem?_eq_some_iff.mp h).1
  rw [List.drop_eq_getElem_cons hk]
  congr 1
  exact (List.getElem?_eq_some_iff.mp h).2
theorem sgn_at {z : PySem.Str} {i : Nat} {d : PD} (h : (sgnD z)[i]? = some d) : ∃ c, z.cps.toList[i]? = some c ∧ d = .str ⟨#[c]⟩ := by
  unfold sgnD at h
  rw [List.getElem?_map] at h
  cases e : z.cps.toList[i]? with
  | none => rw [e] at h; cases h
  | some c => rw [e] at h; exact ⟨c, rfl, (Option.some.inj h).symm⟩
theorem lit_H : PySem.Str.ofString "H" = ⟨#[72]⟩ := by decide +kernel
theorem lit_T : PySem.Str.ofString "T" = ⟨#[84]⟩ := by decide +kernel
theorem lit_E : PySem.Str.ofString "" = ⟨([] : List Nat).toArray⟩ := by decide +kernel
theorem one_H (c : Nat) : ((⟨#[c]⟩ : PySem.Str) = PySem.Str.ofString "H") ↔ c = 72 := by
  rw [lit_H]
  constructor
  · intro h; simpa using h
  · rintro rfl; rfl
theorem one_T (c : Nat) : ((⟨#[c]⟩ : PySem.Str) = PySem.Str.ofString "T") ↔ c = 84 := by
  rw [lit_T]
  constructor
  · intro h; simpa using h
  · rintro rfl; rfl
theorem str_app (a b : List Nat) : ((⟨a.toArray⟩ : PySem.Str) ++ (⟨b.toArray⟩ : PySem.Str)) = ⟨(a ++ b).toArray⟩ := TL.ext_tl (TL.tl_append _ _)
theorem str_snoc (r : List Nat) (c : Nat) (s : String) (h : PySem.Str.ofString s = ⟨#[c]⟩) : ((⟨r.toArray⟩ : PySem.Str) ++ PySem.Str.ofString s) = ⟨(r ++ [c]).toArray⟩ := by
  rw [h]
  exact TL.ext_tl (TL.tl_append _ _)
theorem str_eq (a b : List Nat) : ((⟨a.toArray⟩ : PySem.Str) = ⟨b.toArray⟩) ↔ a = b := by
  constructor
  · intro h
    have := congrArg (fun z : PySem.Str => z.cps.toList) h
    simpa using this
  · rintro rfl; rfl
def sD (cs : List Nat) : PD := .str ⟨cs.toArray⟩
def sgS (c : Nat) : PySem.Str := ⟨#[c]⟩
theorem join_sg : ∀ cs : List Nat, Txt.join PySem.Str.empty (cs.map sgS) = ⟨cs.toArray⟩ := fun cs => by
  refine TL.ext_tl ?_
  rw [TL.join_eq, TL.tl_join, List.map_map]
  show TL.joinL [] _ = cs
  have e : cs.map (TL.tl ∘ sgS) = cs.map fun c => [c] := rfl
  rw [e]
  induction cs with
  | nil => rfl
  | cons c cs ih =>
    cases cs with
    | nil => rfl
    | cons d ds =>
      show [c] ++ ([] ++ TL.joinL [] ((d :: ds).map fun c => [c])) = _
      rw [ih rfl]
      rfl
theorem side_at (x : Nat) (h : x < 2) : atI (PySem.Str.ofString "HT").cps.toList (x : Int) = some (if x = 0 then 72 else 84) := by
  match x, h with
  | 0, _ => decide +kernel
  | 1, _ => decide +kernel
  | n + 2, h => exact absurd h (by omega)
theorem ht_len : (PySem.Str.ofString "HT").length ≤ 100000 := by decide +kernel
theorem sg_of (ys : List PD) (h : ∀ (k : Nat) (y : PD), ys[k]? = some y → ∃ c, (c = 72 ∨ c = 84) ∧ y = .str (sgS c)) : ∃ cs : List Nat, ys = (cs.map sgS).map .str ∧ ∀ c ∈ cs, c = 72 ∨ c = 84 := by
  induction ys with
  | nil => exact ⟨[], rfl, fun c hc => by cases hc⟩
  | cons y ys ih =>
    obtain ⟨c, hc, rfl⟩ := h 0 y rfl
    obtain ⟨cs, e, q⟩ := ih fun k y hk => h (k + 1) y hk
    refine ⟨c :: cs, by rw [e]; rfl, fun d hd => ?_⟩
    rcases List.mem_cons.mp hd with rfl | hd
    · exact hc
    · exact q d hd
theorem sg_sum (cs : List Nat) : ((cs.map sgS).map (·.length)).sum = cs.length := by
  induction cs with
  | nil => rfl
  | cons c cs ih =>
    rw [List.map_cons, List.map_cons, List.sum_cons, ih, List.length_cons]
    show 1 + cs.length = cs.length + 1
    omega
theorem sg_fits {cs : List Nat} (h : cs.length ≤ 1000) : ((cs.map sgS).map (·.length)).sum + (cs.map sgS).length * (PySem.Str.ofString "").length ≤ 100000 := by
  rw [sg_sum, List.length_map, lit_E]
  show cs.length + cs.length * 0 ≤ 100000
  omega
theorem join_e (cs : List Nat) : Txt.join (PySem.Str.ofString "") (cs.map sgS) = ⟨cs.toArray⟩ := join_sg cs
theorem cut_to {cs : List Nat} {k : Nat} : cutS ⟨cs.toArray⟩ none (some ((k : Nat) : Int)) = ⟨(cs.take k).toArray⟩ := by
  unfold cutS
  have hl : (⟨cs.toArray⟩ : PySem.Str).length = cs.length := rfl
  rw [hl, HT.sIx_none, HT.sIx_nat, List.drop_zero, Nat.sub_zero]
  congr 2
  rw [List.take_eq_take_iff]
  simp
theorem sD_get {rs : List (List Nat)} {j : Nat} {d : PD} (h : (rs.map sD)[j]? = some d) : ∃ r, rs[j]? = some r ∧ d = sD r := by
  rw [List.getElem?_map] at h
  cases e : rs[j]? with
  | none => rw [e] at h; cases h
  | some r => rw [e] at h; exact ⟨r, rfl, (Option.some.inj h).symm⟩
def Ht (cs : List Nat) : Prop := ∀ c ∈ cs, c = 72 ∨ c = 84
/-- lists of things of one form -/
theorem all_of {α : Type} (f : α → PD) (R : α → Prop) (ys : List PD) (h : ∀ (k : Nat) (y : PD), ys[k]? = some y → ∃ x, y = f x ∧ R x) : ∃ l : List α, ys = l.map f ∧ ∀ x ∈ l, R x := by
  induction ys with
  | nil => exact ⟨[], rfl, fun x hx => by cases hx⟩
  | cons y ys ih =>
    obtain ⟨x, rfl, hx⟩ := h 0 y rfl
    obtain ⟨l, e, q⟩ := ih fun k y hk => h (k + 1) y hk
    refine ⟨x :: l, by rw [e]; rfl, fun z hz => ?_⟩
    rcases List.mem_cons.mp hz with rfl | hz
    · exact hx
    · exact q z hz
theorem map_get {α : Type} {f : α → PD} {l : List α} {j : Nat} {d : PD} (h : (l.map f)[j]? = some d) : ∃ x, l[j]? = some x ∧ d = f x := by
  rw [List.getElem?_map] at h
  cases e : l[j]? with
  | none => rw [e] at h; cases h
  | some r => rw [e] at h; exact ⟨r, rfl, (Option.some.inj h).symm⟩
theorem atI_map {α : Type} {f : α → PD} {l : List α} {j : Nat} {x : α} (h : l[j]? = some x) : atI (l.map f) ((j : Nat) : Int) = some (f x) := by
  refine atI_of (j := j) ?_ (by rw [List.getElem?_map, h]; rfl)
  have hj : j < (l.map f).length := by
    rw [List.length_map]
    exact (List.getElem?_eq_some_iff.mp h).1
  unfold ixN
  rw [if_pos (by omega), if_pos (by omega)]
  rfl
end Bk

set_option maxHeartbeats 4000000
namespace Bk
open PySem PySem.Spec PyProof.Rows L2
/-! ### machines -/
inductive Plc where
  | toss (i j : Nat)
  | fin (a : Int)
  | nev
def wToss : PySem.Str := PySem.Str.ofString "toss"
def wEnd : PySem.Str := PySem.Str.ofString "end"
def wNever : PySem.Str := PySem.Str.ofString "never"
def wEnded : PySem.Str := PySem.Str.ofString "ended"
def wGoing : PySem.Str := PySem.Str.ofString "going"
theorem w_te : wToss ≠ wEnd := by decide +kernel
theorem w_tn : wToss ≠ wNever := by decide +kernel
theorem w_en : wEnd ≠ wNever := by decide +kernel
theorem w_dg : wEnded ≠ wGoing := by decide +kernel
theorem w_ng : wNever ≠ wGoing := by decide +kernel
def Plc.word : Plc → PySem.Str
  | .toss _ _ => wToss
  | .fin _ => wEnd
  | .nev => wNever
def plI : Plc → List PD
  | .toss i j => [.str wToss, .int (i : Nat), .int (j : Nat)]
  | .fin a => [.str wEnd, .int a]
  | .nev => [.str wNever]
def plD (p : Plc) : PD := .tuple (plI p)
def mD (m : List Plc) : PD := .tuple (m.map plD)
theorem pl_0 (p : Plc) : atI (plI p) 0 = some (.str p.word) := by cases p <;> rfl
theorem word_t {p : Plc} (h : p.word = wToss) : ∃ i j, p = .toss i j := by
  cases p with
  | toss i j => exact ⟨i, j, rfl⟩
  | fin a => exact (w_te h.symm).elim
  | nev => exact (w_tn h.symm).elim
theorem word_e {p : Plc} (h : p.word = wEnd) : ∃ a, p = .fin a := by
  cases p with
  | toss i j => exact (w_te h).elim
  | fin a => exact ⟨a, rfl⟩
  | nev => exact (w_en h.symm).elim
theorem word_n {p : Plc} (h : p.word = wNever) : p = .nev := by
  cases p with
  | toss i j => exact (w_tn h).elim
  | fin a => exact (w_en h).elim
  | nev => rfl
/-- a place that a machine of n places may have -/
def Fit (n : Nat) : Plc → Prop
  | .toss i j => i < n ∧ j < n
  | .fin a => 0 ≤ a ∧ a ≤ 10000
  | .nev => True
structure Mac (m : List Plc) : Prop where
  ne : 0 < m.length
  few : m.length ≤ 100
  fit : ∀ p ∈ m, Fit m.length p
theorem Mac.at {m : List Plc} (M : Mac m) {k : Nat} (h : k < m.length) : ∃ p, m[k]? = some p ∧ Fit m.length p := ⟨m[k], List.getElem?_eq_getElem h, M.fit _ (List.getElem_mem h)⟩
/-- a run -/
def runM (m : List Plc) : Nat → List Nat → Nat → Nat × Nat
  | k, [], used => (k, used)
  | k, c :: cs, used => match m[k]? with
    | some (.toss i j) => runM m (if c = 72 then i else j) cs (used + 1)
    | _ => (k, used)
def outI (m : List Plc) (r : Nat × Nat) : List PD := match m[r.1]? with
  | some (.fin a) => [.str wEnded, .int a, .int (r.2 : Nat)]
  | some .nev => [.str wNever, .int (r.2 : Nat)]
  | _ => [.str wGoing, .int (r.1 : Nat)]
def outD (m : List Plc) (r : Nat × Nat) : PD := .tuple (outI m r)
theorem runM_stop {m : List Plc} {k : Nat} {p : Plc} (h : m[k]? = some p) (hp : p.word ≠ wToss) (cs : List Nat) (used : Nat) : runM m k cs used = (k, used) := by
  cases cs with
  | nil => rfl
  | cons c cs =>
    show (match m[k]? with | some (.toss i j) => _ | _ => (k, used)) = _
    rw [h]
    cases p with
    | toss i j => exact absurd rfl hp
    | fin a => rfl
    | nev => rfl
theorem runM_toss {m : List Plc} {k i j c : Nat} (h : m[k]? = some (.toss i j)) (cs : List Nat) (used : Nat) : runM m k (c :: cs) used = runM m (if c = 72 then i else j) cs (used + 1) := by
  show (match m[k]? with | some (.toss i j) => runM m (if c = 72 then i else j) cs (used + 1) | _ => (k, used)) = _
  rw [h]
theorem runM_in {m : List Plc} (M : Mac m) : ∀ (cs : List Nat) (k used : Nat), k < m.length → (runM m k cs used).1 < m.length ∧ used ≤ (runM m k cs used).2 ∧ (runM m k cs used).2 ≤ used + cs.length
  | [], k, used, h => ⟨h, Nat.le_refl _, Nat.le_refl _⟩
  | c :: cs, k, used, h => by
    obtain ⟨p, hp, hf⟩ := M.at h
    by_cases hw : p.word = wToss
    · obtain ⟨i, j, rfl⟩ := word_t hw
      rw [runM_toss hp]
      have hn : (if c = 72 then i else j) < m.length := by split; exact hf.1; exact hf.2
      obtain ⟨a, b, d⟩ := runM_in M cs _ (used + 1) hn
      refine ⟨a, by omega, ?_⟩
      rw [List.length_cons]
      omega
    · rw [runM_stop hp hw]
      refine ⟨h, Nat.le_refl _, ?_⟩
      omega
/-- a run that has come to an end goes on alike, whatever follows -/
theorem runM_more {m : List Plc} {q : Plc} (hq : q.word ≠ wToss) (ex : List Nat) : ∀ (cs : List Nat) (k used : Nat), m[(runM m k cs used).1]? = some q → runM m k (cs.take ((runM m k cs used).2 - used) ++ ex) used = runM m k cs used
  | [], k, used, h => by
    have h : m[k]? = some q := h
    rw [runM_stop h hq, runM_stop h hq]
  | c :: cs, k, used, h => by
    by_cases ht : ∃ i j, m[k]? = some (.toss i j)
    · obtain ⟨i, j, ht⟩ := ht
      rw [runM_toss ht] at h ⊢
      have hle : ∀ (cs : List Nat) (k used : Nat), used ≤ (runM m k cs used).2 := fun cs => by
        induction cs with
        | nil => intro k used; exact Nat.le_refl _
        | cons c cs ih =>
          intro k used
          show used ≤ (match m[k]? with | some (.toss i j) => runM m (if c = 72 then i else j) cs (used + 1) | _ => (k, used)).2
          split
          · exact Nat.le_trans (Nat.le_succ _) (ih _ _)
          · exact Nat.le_refl _
      have hl := hle cs (if c = 72 then i else j) (used + 1)
      have e : (runM m (if c = 72 then i else j) cs (used + 1)).2 - used = ((runM m (if c = 72 then i else j) cs (used + 1)).2 - (used + 1)) + 1 := by omega
      rw [e, List.take_succ_cons, List.cons_append, runM_toss ht]
      exact runM_more hq ex cs _ _ h
    · have hs : ∀ cs : List Nat, runM m k cs used = (k, used) := fun cs => by
        cases cs with
        | nil => rfl
        | cons c cs =>
          show (match m[k]? with | some (.toss i j) => runM m (if c = 72 then i else j) cs (used + 1) | _ => (k, used)) = _
          split
          · rename_i i j e; exact absurd ⟨i, j, e⟩ ht
          · rfl
      rw [hs, hs]
/-- the first place of a number -/
theorem first_at : ∀ {L : List Int} {n : Int}, n ∈ L → ∃ j, j < L.length ∧ L[j]? = some n ∧ ∀ m, m < j → L[m]? ≠ some n
  | x :: L, n, h => by
    by_cases e : x = n
    · subst e
      exact ⟨0, by simp, rfl, fun m hm => absurd hm (Nat.not_lt_zero m)⟩
    · have h2 : n ∈ L := by
        rcases List.mem_cons.mp h with rfl | h
        · exact absurd rfl e
        · exact h
      obtain ⟨j, hj, h3, h4⟩ := first_at h2
      refine ⟨j + 1, by rw [List.length_cons]; omega, h3, fun m hm => ?_⟩
      cases m with
      | zero => intro z; exact e (Option.some.inj z)
      | succ m => exact h4 m (by omega)
/-- places in another order -/
def natI (L : List Nat) : List Int := L.map fun n : Nat => (n : Int)
structure Ord (L : List Nat) (n : Nat) : Prop where
  len : L.length = n
  lt : ∀ x ∈ L, x < n
  all : ∀ i, i < n → i ∈ L
def swapL (n f : Nat) : List Nat := ((List.range n).set 0 f).set f 0
theorem swap_get {n f k : Nat} (hf : f < n) (hk : k < n) : (swapL n f)[k]? = some (if k = f then 0 else if k = 0 then f else k) := by
  unfold swapL
  by_cases e : k = f
  · subst e
    rw [List.getElem?_set_self (by simpa using hk), if_pos rfl]
  · rw [List.getElem?_set_ne (fun z => e z.symm), if_neg e]
    by_cases e0 : k = 0
    · subst e0
      rw [List.getElem?_set_self (by simpa using hk), if_pos rfl]
    · rw [List.getElem?_set_ne (fun z => e0 z.symm), if_neg e0, List.getElem?_range hk]
theorem swap_ord {n f : Nat} (hf : f < n) : Ord (swapL n f) n := by
  have hl : (swapL n f).length = n := by simp [swapL]
  refine ⟨hl, fun x hx => ?_, fun i hi => ?_⟩
  · obtain ⟨k, hk, e⟩ := List.getElem_of_mem hx
    rw [hl] at hk
    have := swap_get hf hk
    rw [List.getElem?_eq_getElem (by omega), e] at this
    have := Option.some.inj this
    rw [this]
    split
    · omega
    · split <;> omega
  · have key : ∃ k, k < n ∧ (swapL n f)[k]? = some i := by
      by_cases e : i = 0
      · refine ⟨f, hf, ?_⟩
        rw [swap_get hf hf, if_pos rfl, e]
      · by_cases e2 : i = f
        · refine ⟨0, by omega, ?_⟩
          rw [swap_get hf (by omega), if_neg (by omega), if_pos rfl, e2]
        · refine ⟨i, hi, ?_⟩
          rw [swap_get hf hi, if_neg e2, if_neg e]
    obtain ⟨k, _, hk⟩ := key
    exact List.mem_of_getElem? hk
end Bk

set_option maxHeartbeats 4000000
namespace Bk
open PySem PySem.Spec PyProof.Rows L2
/-! ### range(a, b, -1) -/
def dwnD (m : Int) (n : Nat) : List PD := (List.range n).map fun i => .int (m - (i : Nat))
theorem dwnD_len (m : Int) (n : Nat) : (dwnD m n).length = n := by simp [dwnD]
theorem dwnD_get {m : Int} {n i : Nat} {d : PD} (h : (dwnD m n)[i]? = some d) : i < n ∧ d = .int (m - (i : Nat)) := by
  unfold dwnD at h
  rw [List.getElem?_map] at h
  by_cases hi : i < n
  · rw [List.getElem?_range hi] at h
    exact ⟨hi, (Option.some.inj h).symm⟩
  · rw [List.getElem?_eq_none (by simpa using Nat.le_of_not_lt hi)] at h
    cases h
theorem wk_dwn {K : PySem.W.Frag} {G1 : Hp} {m : Int} {n : Nat} : Wk K (Itc m (-1) n) G1 (dwnD m n) where
  go := fun F w σ H G E i hi I s => by rw [dwnD_len] at hi; exact hi
  stop := fun F w σ H G E I s => by rw [dwnD_len]; exact Nat.le_refl _
  yld := fun F w σ H G E i d x H' hd I s y => by
    obtain ⟨rfl, rfl⟩ := y
    obtain ⟨_, rfl⟩ := dwnD_get hd
    have e : m + (i : Nat) * (-1) = m - (i : Nat) := by omega
    rw [e]
    exact in_same I (.int _)
section
variable {X : Cx} {F : Fm} {E : EnvB} {a b c e tg iter : Expr} {es : List Expr} {Θ : EnvB → List PD → Prop} {Φ : EnvB → Rs → Prop} {pos p : Pos} {x : Str}
theorem xi_rangeD (hm : X.mg "range" = none) (h : XE X F a E fun E1 r => ∃ m : Int, r = .sh (.int m) ∧ (-1000000 ≤ m ∧ m ≤ 1000000) ∧ XE X F b E1 fun E2 r2 => ∃ n : Int, r2 = .sh (.int n) ∧ (-1000000 ≤ n ∧ n ≤ 1000000) ∧ XE X F c E2 fun E3 r3 => r3 = .sh (.int (-1)) ∧ Θ E3 (dwnD m (m - n).toNat)) (hg : Gl X "range" := by rfl)
    (hs : starEach [a, b, c] X.env = (false, eval a X.env) :: starEach [b, c] X.env := by rfl) (hs1 : starEach [b, c] X.env = (false, eval b X.env) :: starEach [c] X.env := by rfl) (hs2 : starEach [c] X.env = (false, eval c X.env) :: starEach [] X.env := by rfl)
    (hpl : (backTo pos (starEach [b, c] X.env)).any (·.1) = false := by rfl) : XI X F tg (.Call (.Name "range" p) [a, b, c] [] pos) E Θ := by
  refine xi_of (pi_range3 hg hm (pa_cons (pe_tE (F := F)) (pa_cons (pe_tE (F := F)) (pa_cons (pe_tE (F := F)) pa_nil hs2) hs1) hs) hs hpl) fun w σ H G I => tE_go I h fun v w1 H1 G1 E1 r I1 s1 rv ⟨m, e, hm, q⟩ => ?_
  subst e
  obtain rfl := rvI rv
  refine tE_go I1 q fun v w2 H2 G2 E2 r I2 s2 rv ⟨n, e, hn, q⟩ => ?_
  subst e
  obtain rfl := rvI rv
  refine tE_go I2 q fun v w3 H3 G3 E3 r I3 s3 rv ⟨e, q⟩ => ?_
  subst e
  obtain rfl := rvI rv
  exact ⟨m, n, -1, _, rfl, RgC.neg (by omega) (by omega) (by omega) (by omega), w3, G3, E3, _, I3, (s1.trans s2).trans s3, wk_dwn, q⟩
/-! ### isinstance -/
def tyD : PD → String
  | .none => "NoneType"
  | .bool _ => "bool"
  | .int _ => "int"
  | .str _ => "str"
  | .list _ => "list"
  | .tuple _ => "tuple"
  | .dict _ => "dict"
def noDict : PD → Bool
  | .dict _ => false
  | _ => true
theorem RD.ty {w : Addr → Option Nat} {σ : L2.St} {H G : Hp} {x : V} {r : Rs} {d : PD} (I : In X.K F w σ H G E) (h : RD E r d) (hn : noDict d = true) (v : RV X.K F w σ H G x r) : TyX X.K H x (.type (tyD d)) := by
  have rp := h.rp I v
  cases d with
  | none => cases rp; exact .base .non
  | bool b => cases rp; exact .base (.bl b)
  | int i => cases rp; exact .base (.int i)
  | str z => cases rp; exact .base (.str z)
  | list ds =>
    obtain ⟨a, xs, rfl, hx, _⟩ := h.lst I v
    exact .base (.lst hx)
  | tuple ds =>
    obtain ⟨a, xs, rfl, hx, _⟩ := h.tup I v
    rcases sqT_mono I.sub hx with (q | ⟨ob, q⟩) | ⟨o, its, n, e1, e2, _⟩
    · exact .base (.tup q)
    · exact .fTuple q
    · exact .kTuple e1 e2
  | dict es => cases hn
theorem xe_isi {T : String} {p2 : Pos} (hm : X.mg "isinstance" = none) (hv : bootBuiltins x = some (.type T)) (hmt : X.mg x = none) (h : XE X F a E fun E1 r => ∃ r' d b, Fz r r' ∧ RD E1 r' d ∧ noDict d = true ∧ kitB (tyD d) T = some b ∧ Φ E1 (.sh (.bool b))) (hg : Gl X "isinstance" := by rfl) (hgt : Gl X x := by rfl) (hn : x ≠ "__name__" := by decide) (hdb : (x == ("__debug__" : Str)) = false := by decide)
    (he : starEach [a, .Name x p2] X.env = (false, eval a X.env) :: starEach [.Name x p2] X.env := by rfl) (he2 : starEach [.Name x p2] X.env = (false, eval (.Name x p2) X.env) :: starEach [] X.env := by rfl) (hpl : (backTo pos (starEach [.Name x p2] X.env)).any (·.1) = false := by rfl) : XE X F (.Call (.Name "isinstance" p) [a, .Name x p2] [] pos) E Φ :=
  xe_of (pe_callB call_isi hg hm boot_isinstance (pa_cons (pe_tE (F := F)) (pa_cons (pe_bltn (v := .ty T) hgt hmt hv rfl hn hdb) pa_nil he2) he) (by decide) (by decide) he hpl) fun w σ H G I => tE_go I h fun v w1 H1 G1 E1 r I1 s1 rv ⟨r', d, b, f, hd, hnd, hk, q⟩ => by
    obtain ⟨G1', I1', s1', rv1'⟩ := f.go I1 rv
    exact ⟨v, .ty T, .type (tyD d), .type T, b, rfl, .ty T, hd.ty I1' hnd rv1', kit_ty hk, ke I1' (s1.trans s1') (r := .sh (.bool b)) (.bl b) q⟩
/-! ### all([..]) -/
theorem Rps.bls {K : PySem.W.Frag} {G : Hp} : ∀ {vs : List V} {bs : List Bool}, Rps K G vs (bs.map PyData.bool) → vs = bs.map V.bl
  | _, [], .nil => rfl
  | _, b :: bs, .cons r t => by
    cases r
    rw [Rps.bls t]
    rfl
theorem cj_all {r : Rs} {bs : List Bool} (h : RD E r (.list (bs.map PyData.bool))) (q : Φ E (.sh (.bool (bs.all id)))) : CJ X F (rAll X.K) E [r] Φ := fun w σ H G vs Q I rvs kk => by
  obtain ⟨v, rfl, rv⟩ := rv_one (F := F) rvs
  obtain ⟨l, xs, rfl, hx, rx⟩ := h.lst I rv
  obtain rfl := rx.bls
  exact ⟨l, bs, rfl, .inl (.inl hx), kk _ _ (keB I q)⟩
theorem call_all (hc : X.calm = true) : CallR X (.builtin "all") (rAll X.K) := cr_all hc
/-! ### a or b, by truth -/
def truD : PD → Bool
  | .none => false
  | .bool b => b
  | .int i => i != 0
  | .str z => (z.length : Int) != 0
  | .list ds => !ds.isEmpty
  | .tuple ds => !ds.isEmpty
  | .dict _ => false
def truOk : PD → Prop
  | .str z => z.length ≤ 100000
  | .dict _ => False
  | _ => True
theorem rps_empty {K : PySem.W.Frag} {G : Hp} {vs : List V} {ds : List PD} (h : Rps K G vs ds) : vs.isEmpty = ds.isEmpty := by cases h <;> rfl
theorem RD.tru {w : Addr → Option Nat} {σ : L2.St} {H G : Hp} {v : V} {r : Rs} {d : PD} (I : In X.K F w σ H G E) (h : RD E r d) (ho : truOk d) (rv : RV X.K F w σ H G v r) : TruV X.K v H (truD d) := by
  have rp := h.rp I rv
  cases d with
  | none => cases rp; rfl
  | bool b => cases rp; rfl
  | int i => cases rp; rfl
  | str z => cases rp; exact ⟨Nat.le_trans ho (by decide), rfl⟩
  | list ds =>
    obtain ⟨a, xs, rfl, hx, rx⟩ := h.lst I rv
    exact .inl ⟨xs, .inl (.inl hx), by rw [rps_empty rx]; rfl⟩
  | tuple ds =>
    obtain ⟨a, xs, rfl, hx, rx⟩ := h.tup I rv
    exact .inr (.inl ⟨xs, sqT_mono I.sub hx, by rw [rps_empty rx]; rfl⟩)
  | dict es => exact ho.elim
theorem xe_orT (h : XE X F a E fun E1 r => ∃ r' d, Fz r r' ∧ RD E1 r' d ∧ truOk d ∧ (truD d = true → Φ E1 r') ∧ (truD d = false → XE X F (.BoolOp .Or (b :: es) pos) E1 Φ)) : XE X F (.BoolOp .Or (a :: b :: es) pos) E Φ :=
  xe_of (pe_orT pe_tE pe_tE) fun w σ H G I => tE_go I h fun v w1 H1 G1 E1 r I1 s1 rv ⟨r', d, f, hd, ho, q1, q2⟩ => by
    obtain ⟨G1', I1', s1', rv1'⟩ := f.go I1 rv
    refine ⟨truD d, hd.tru I1' ho rv1', ?_⟩
    cases ht : truD d with
    | true => exact iteT (ke I1' (s1.trans s1') rv1' (q1 ht))
    | false => exact iteF (tE_go I1' (q2 ht) fun v w2 H2 G2 E2 r I2 s2 rv q => ke I2 ((s1.trans s1').trans s2) rv q)
end
end Bk

set_option maxHeartbeats 4000000
namespace Bk
open PySem PySem.Spec PyProof.Rows L2
/-! ### trailing noughts -/
def stripL (ns : List Int) : List Int := (ns.reverse.dropWhile fun x => decide (x = 0)).reverse
theorem strip_0 (L : List Int) : stripL (L ++ [0]) = stripL L := by simp [stripL]
theorem strip_x {L : List Int} {x : Int} (h : x ≠ 0) : stripL (L ++ [x]) = L ++ [x] := by simp [stripL, h]
theorem strip_nil : stripL [] = [] := rfl
theorem last_of {L : List Int} (h : L ≠ []) : ∃ L' x, L = L' ++ [x] := ⟨L.dropLast, L.getLast h, (List.dropLast_concat_getLast h).symm⟩
theorem strip_len (L : List Int) : (stripL L).length ≤ L.length := by
  unfold stripL
  rw [List.length_reverse]
  refine Nat.le_trans (List.dropWhile_sublist _).length_le ?_
  rw [List.length_reverse]
  exact Nat.le_refl _
theorem strip_mem {L : List Int} {x : Int} (h : x ∈ stripL L) : x ∈ L := by
  unfold stripL at h
  rw [List.mem_reverse] at h
  exact List.mem_reverse.mp ((List.dropWhile_sublist _).subset h)
theorem atI_last (L : List Int) (x : Int) : atI (pI (L ++ [x])) (-1) = some (.int x) := by
  refine atI_of (j := L.length) ?_ ?_
  · unfold ixN
    have : (pI (L ++ [x])).length = L.length + 1 := by simp [pI]
    rw [this, if_neg (by decide), if_pos (by omega)]
    congr 1
    omega
  · unfold pI
    rw [List.getElem?_map, List.getElem?_append_right (Nat.le_refl _), Nat.sub_self]
    rfl
inductive SeqI (ns : List Int) : PD → Prop
  | l : SeqI ns (.list (pI ns))
  | t : SeqI ns (.tuple (pI ns))
/-! ### the sum of products, place by place -/
def addAt (f : Nat → Int) (k : Nat) (v : Int) : Nat → Int := fun x => if x = k then f x + v else f x
def accT (f : Nat → Int) (i : Nat) (x : Int) (b : List Int) : Nat → Nat → Int
  | 0 => f
  | m + 1 => addAt (accT f i x b m) (i + m) (x * b.getD m 0)
def accO (a b : List Int) : Nat → Nat → Int
  | 0 => fun _ => 0
  | n + 1 => accT (accO a b n) n (a.getD n 0) b b.length
def row (f : Nat → Int) (L : Nat) : List Int := (List.range L).map f
def mulL (a b : List Int) : List Int := stripL (row (accO a b a.length) (a.length + b.length))
theorem row_len (f : Nat → Int) (L : Nat) : (row f L).length = L := by simp [row]
theorem row_get {f : Nat → Int} {L k : Nat} (h : k < L) : (row f L)[k]? = some (f k) := by
  unfold row
  rw [List.getElem?_map, List.getElem?_range h]
  rfl
theorem row_set {f : Nat → Int} {L k : Nat} (h : k < L) (v : Int) : (row f L).set k (f k + v) = row (addAt f k v) L := by
  refine List.ext_getElem? fun j => ?_
  by_cases hj : j < L
  · rw [row_get hj]
    by_cases e : k = j
    · subst e
      rw [List.getElem?_set_self (by rw [row_len]; exact hj)]
      unfold addAt
      rw [if_pos rfl]
    · rw [List.getElem?_set_ne e, row_get hj]
      unfold addAt
      rw [if_neg fun z => e z.symm]
  · rw [List.getElem?_eq_none (by rw [List.length_set, row_len]; omega), List.getElem?_eq_none (by rw [row_len]; omega)]
/-- nothing beyond -/
theorem accT_off {f : Nat → Int} {i : Nat} {x : Int} {b : List Int} {n k : Nat} (h : i + n ≤ k) : accT f i x b n k = f k := by
  induction n with
  | zero => rfl
  | succ n ih =>
    show addAt (accT f i x b n) (i + n) _ k = f k
    unfold addAt
    rw [if_neg (by omega)]
    exact ih (by omega)
theorem accO_off {a b : List Int} {n k : Nat} (h : n + b.length ≤ k + 1) : accO a b n k = 0 := by
  induction n with
  | zero => rfl
  | succ n ih =>
    show accT _ _ _ _ _ k = 0
    rw [accT_off (by omega)]
    exact ih (by omega)
theorem row_succ (f : Nat → Int) (L : Nat) : row f (L + 1) = row f L ++ [f L] := by
  unfold row
  rw [List.range_succ, List.map_append]
  rfl
theorem strip_row {f : Nat → Int} {L : Nat} (h : f L = 0) : stripL (row f (L + 1)) = stripL (row f L) := by rw [row_succ, h, strip_0]
theorem strip_none : ∀ {f : Nat → Int} {L : Nat}, (∀ k, f k = 0) → stripL (row f L) = []
  | f, 0, _ => rfl
  | f, L + 1, h => by rw [strip_row (h L)]; exact strip_none h
theorem mul_pack {a b : List Int} (ha : a ≠ []) (hb : b ≠ []) : mulL a b = stripL (row (accO a b a.length) (a.length + b.length - 1)) := by
  have h1 : 0 < a.length := List.length_pos_iff.mpr ha
  unfold mulL
  have e : a.length + b.length = (a.length + b.length - 1) + 1 := by omega
  conv => lhs; rw [e]
  exact strip_row (accO_off (by omega))
theorem accT_nil {f : Nat → Int} {i : Nat} {x : Int} : accT f i x [] 0 = f := rfl
theorem mul_nil (a : List Int) : mulL a [] = [] := by
  unfold mulL
  refine strip_none fun k => ?_
  have : ∀ n, accO a [] n k = 0 := fun n => by
    induction n with
    | zero => rfl
    | succ n ih => exact ih
  exact this _
theorem nil_mul (b : List Int) : mulL [] b = [] := strip_none fun _ => rfl
/-- how large -/
theorem accT_le {f : Nat → Int} {i : Nat} {x : Int} {b : List Int} {M B : Nat} (hf : ∀ k, (f k).natAbs ≤ M) (hb : ∀ j, (x * b.getD j 0).natAbs ≤ B) : ∀ n k, (accT f i x b n k).natAbs ≤ M + n * B
  | 0, k => by have := hf k; show (f k).natAbs ≤ _; omega
  | n + 1, k => by
    have ih := accT_le (i := i) hf hb n k
    have h2 := hb n
    show (addAt (accT f i x b n) (i + n) _ k).natAbs ≤ _
    unfold addAt
    rw [Nat.succ_mul]
    split
    · have := Int.natAbs_add_le (accT f i x b n k) (x * b.getD n 0)
      omega
    · omega
theorem getD_le {b : List Int} {B : Nat} (h : ∀ x ∈ b, x.natAbs ≤ B) (j : Nat) : (b.getD j 0).natAbs ≤ B := by
  rw [List.getD_eq_getElem?_getD]
  cases e : b[j]? with
  | none => exact Nat.zero_le _
  | some x => exact h x (List.mem_of_getElem? e)
theorem accO_le {a b : List Int} {A B : Nat} (ha : ∀ x ∈ a, x.natAbs ≤ A) (hb : ∀ x ∈ b, x.natAbs ≤ B) : ∀ n k, (accO a b n k).natAbs ≤ n * (b.length * (A * B))
  | 0, k => by show (0 : Int).natAbs ≤ _; exact Nat.zero_le _
  | n + 1, k => by
    have h := accT_le (i := n) (x := a.getD n 0) (b := b) (accO_le ha hb n) (fun j => by rw [Int.natAbs_mul]; exact Nat.mul_le_mul (getD_le ha n) (getD_le hb j)) b.length k
    rw [Nat.succ_mul]
    exact h
theorem log_le {x : Int} {n : Nat} (h : x.natAbs ≤ 2 ^ n) : x.natAbs.log2 ≤ n := by
  by_cases h0 : x.natAbs = 0
  · rw [h0]; exact Nat.zero_le _
  · have := (Nat.log2_lt h0 (k := n + 1)).mpr (Nat.lt_of_le_of_lt h (Nat.pow_lt_pow_right (by decide) (Nat.lt_succ_self n)))
    omega
theorem getD_at {b : List Int} {j : Nat} {x : Int} (h : b[j]? = some x) : b.getD j 0 = x := by
  rw [List.getD_eq_getElem?_getD, h]
  rfl
theorem getD_off {b : List Int} {j : Nat} (h : b.length ≤ j) : b.getD j 0 = 0 := by
  rw [List.getD_eq_getElem?_getD, List.getElem?_eq_none h]
  rfl
theorem pI_row_set (f : Nat → Int) {L k : Nat} (h : k < L) (v : Int) : (pI (row f L)).set k (.int (f k + v)) = pI (row (addAt f k v) L) := by
  rw [← row_set h]
  unfold pI
  rw [List.map_set]
theorem row_getD (f : Nat → Int) (L k : Nat) : (row f L).getD k 0 = if k < L then f k else 0 := by
  by_cases h : k < L
  · rw [if_pos h, getD_at (row_get h)]
  · rw [if_neg h, getD_off (by rw [row_len]; omega)]
theorem row_self (L : List Int) : row (fun k => L.getD k 0) L.length = L := by
  refine List.ext_getElem? fun k => ?_
  by_cases h : k < L.length
  · rw [row_get h, List.getElem?_eq_getElem h, List.getD_eq_getElem?_getD, List.getElem?_eq_getElem h]
    rfl
  · rw [List.getElem?_eq_none (by rw [row_len]; omega), List.getElem?_eq_none (by omega)]
theorem row_cong {f g : Nat → Int} {L : Nat} (h : ∀ k, k < L → f k = g k) : row f L = row g L := by
  unfold row
  exact List.map_congr_left fun k hk => h k (List.mem_range.mp hk)
theorem strip_grow {f : Nat → Int} {L : Nat} (h : ∀ k, L ≤ k → f k = 0) : ∀ m, stripL (row f (L + m)) = stripL (row f L)
  | 0 => rfl
  | m + 1 => by
    rw [← Nat.add_assoc, strip_row (h _ (by omega))]
    exact strip_grow h m
/-- a stripped row is known by its numbers -/
theorem strip_ext {a b : List Int} (h : ∀ k, a.getD k 0 = b.getD k 0) : stripL a = stripL b := by
  have h1 := strip_grow (f := fun k => a.getD k 0) (L := a.length) (fun k hk => getD_off hk) b.length
  have h2 := strip_grow (f := fun k => b.getD k 0) (L := b.length) (fun k hk => getD_off hk) a.length
  rw [row_self] at h1 h2
  rw [← h1, ← h2, Nat.add_comm b.length, row_cong fun k _ => h k]
theorem strip_getD : ∀ (n : Nat) (L : List Int), L.length = n → ∀ k, (stripL L).getD k 0 = L.getD k 0
  | 0, L, h, k => by
    have : L = [] := List.length_eq_zero_iff.mp h
    subst this
    rfl
  | n + 1, L, h, k => by
    obtain ⟨L', x, rfl⟩ := last_of (L := L) (fun z => by rw [z] at h; cases h)
    have hl : L'.length = n := by simpa using h
    by_cases hx : x = 0
    · subst hx
      rw [strip_0, strip_getD n L' hl k]
      by_cases hk : k < L'.length
      · rw [List.getD_eq_getElem?_getD, List.getD_eq_getElem?_getD, List.getElem?_append_left hk]
      · rw [getD_off (by omega)]
        by_cases hk2 : k = L'.length
        · subst hk2
          rw [List.getD_eq_getElem?_getD, List.getElem?_append_right (Nat.le_refl _), Nat.sub_self]
          rfl
        · rw [getD_off (by rw [List.length_append]; simp; omega)]
    · rw [strip_x hx]
theorem strip_idem (L : List Int) : stripL (stripL L) = stripL L := strip_ext fun k => strip_getD _ L rfl k
/-- L is the row of the function P -/
structure Is (P : Nat → Int) (L : List Int) : Prop where
  at1 : ∀ k, L.getD k 0 = P k
  strip : stripL L = L
theorem Is.uniq {P Q : Nat → Int} {L M : List Int} (h : Is P L) (q : Is Q M) (e : ∀ k, P k = Q k) : L = M := by
  rw [← h.strip, ← q.strip]
  exact strip_ext fun k => by rw [h.at1, q.at1, e]
theorem Is.of_strip {P : Nat → Int} {L : List Int} (h : ∀ k, L.getD k 0 = P k) : Is P (stripL L) := ⟨fun k => by rw [strip_getD _ L rfl, h], strip_idem L⟩
theorem Is.mem {P : Nat → Int} {L : List Int} (h : Is P L) {x : Int} (hx : x ∈ L) : ∃ k, x = P k := by
  obtain ⟨k, hk, e⟩ := List.getElem_of_mem hx
  exact ⟨k, by rw [← h.at1, getD_at (List.getElem?_eq_some_iff.mpr ⟨hk, e⟩)]⟩
theorem Is.len {P : Nat → Int} {L : List Int} (h : Is P L) {N : Nat} (q : ∀ k, N ≤ k → P k = 0) : L.length ≤ N := by
  refine Nat.le_of_not_lt fun hlt => ?_
  obtain ⟨L', x, rfl⟩ := last_of (L := L) (fun z => by rw [z] at hlt; exact absurd hlt (Nat.not_lt_zero _))
  have hl : (L' ++ [x]).length = L'.length + 1 := by simp
  have hx : x = 0 := by
    have h1 := h.at1 L'.length
    rw [q _ (by omega), List.getD_eq_getElem?_getD, List.getElem?_append_right (Nat.le_refl _), Nat.sub_self] at h1
    exact h1
  subst hx
  have h2 := h.strip
  rw [strip_0] at h2
  have h3 := strip_len L'
  rw [h2] at h3
  omega
theorem Is.cong {P Q : Nat → Int} {L : List Int} (h : Is P L) (e : ∀ k, P k = Q k) : Is Q L := ⟨fun k => by rw [h.at1, e], h.strip⟩
theorem Is.le {P : Nat → Int} {L : List Int} (h : Is P L) {B : Nat} (q : ∀ k, (P k).natAbs ≤ B) : ∀ x ∈ L, x.natAbs ≤ B := fun x hx => by
  obtain ⟨k, rfl⟩ := h.mem hx
  exact q k
theorem Is.nil : Is (fun _ => 0) [] := ⟨fun k => rfl, rfl⟩
/-! ### products -/
def shF (P : Nat → Int) : Nat → Int
  | 0 => 0
  | k + 1 => P k
def cnv : List Int → (Nat → Int) → Nat → Int
  | [], _ => fun _ => 0
  | v :: b, P => fun j => v * P j + shF (cnv b P) j
def hdF (n : Nat) : Nat → Int := fun j => if j = n then 1 else 0
theorem shF_add (P Q : Nat → Int) (c : Int) (j : Nat) : shF (fun k => P k + c * Q k) j = shF P j + c * shF Q j := by
  cases j with
  | zero => simp [shF]
  | succ j => rfl
theorem shF_cong {P Q : Nat → Int} (h : ∀ k, P k = Q k) (j : Nat) : shF P j = shF Q j := by
  cases j with
  | zero => rfl
  | succ j => exact h j
theorem cnv_add (P Q : Nat → Int) (c : Int) : ∀ (b : List Int) (j : Nat), cnv b (fun k => P k + c * Q k) j = cnv b P j + c * cnv b Q j
  | [], j => by simp [cnv]
  | v :: b, j => by
    show v * (P j + c * Q j) + shF (cnv b fun k => P k + c * Q k) j = (v * P j + shF (cnv b P) j) + c * (v * Q j + shF (cnv b Q) j)
    rw [shF_cong (fun k => cnv_add P Q c b k), shF_add]
    grind
theorem cnv_cong {P Q : Nat → Int} (h : ∀ k, P k = Q k) : ∀ (b : List Int) (j : Nat), cnv b P j = cnv b Q j
  | [], j => rfl
  | v :: b, j => by
    show v * P j + shF (cnv b P) j = v * Q j + shF (cnv b Q) j
    rw [h, shF_cong (cnv_cong h b)]
theorem cnv_hd (n : Nat) : ∀ (b : List Int) (j : Nat), cnv b (hdF n) j = if n ≤ j then b.getD (j - n) 0 else 0
  | [], j => by simp [cnv]
  | v :: b, 0 => by
    show v * hdF n 0 + 0 = _
    unfold hdF
    by_cases h : n = 0
    · subst h; simp
    · rw [if_neg (fun z => h z.symm), if_neg (by omega)]
      simp
  | v :: b, j + 1 => by
    show v * hdF n (j + 1) + cnv b (hdF n) j = _
    rw [cnv_hd n b j]
    unfold hdF
    by_cases h : j + 1 = n
    · subst h
      rw [if_pos rfl, if_neg (by omega), if_pos (Nat.le_refl _), Nat.sub_self]
      simp
    · rw [if_neg h]
      by_cases h2 : n ≤ j
      · rw [if_pos h2, if_pos (by omega)]
        have e : j + 1 - n = (j - n) + 1 := by omega
        rw [e]
        simp
      · rw [if_neg h2, if_neg (by omega)]
        simp
theorem accT_at (f : Nat → Int) (i : Nat) (x : Int) (b : List Int) : ∀ (m k : Nat), accT f i x b m k = f k + (if i ≤ k ∧ k < i + m then x * b.getD (k - i) 0 else 0)
  | 0, k => by
    show f k = _
    rw [if_neg (by omega)]
    omega
  | m + 1, k => by
    show addAt (accT f i x b m) (i + m) (x * b.getD m 0) k = _
    unfold addAt
    rw [accT_at f i x b m k]
    by_cases h : k = i + m
    · subst h
      rw [if_pos rfl, if_neg (by omega), if_pos (by omega), Nat.add_sub_cancel_left]
      omega
    · rw [if_neg h]
      by_cases h2 : i ≤ k ∧ k < i + m
      · rw [if_pos h2, if_pos (by omega)]
      · rw [if_neg h2, if_neg (by omega)]
theorem accT_all (f : Nat → Int) (i : Nat) (x : Int) (b : List Int) (k : Nat) : accT f i x b b.length k = f k + x * cnv b (hdF i) k := by
  rw [accT_at, cnv_hd]
  by_cases h : i ≤ k
  · rw [if_pos h]
    by_cases h2 : k < i + b.length
    · rw [if_pos ⟨h, h2⟩]
    · rw [if_neg (by omega), getD_off (by omega)]
      simp
  · rw [if_neg h, if_neg (by omega)]
    simp
theorem accO_cnv (a b : List Int) : ∀ (n k : Nat), accO a b n k = cnv b (fun j => if j < n then a.getD j 0 else 0) k
  | 0, k => by
    show 0 = _
    have e : ∀ j, (if j < 0 then a.getD j 0 else 0) = (0 : Int) := fun j => if_neg (Nat.not_lt_zero j)
    rw [cnv_cong (Q := fun _ => 0) e]
    have z : ∀ (b : List Int) (j : Nat), cnv b (fun _ => 0) j = 0 := fun b => by
      induction b with
      | nil => intro j; rfl
      | cons v b ih =>
        intro j
        show v * 0 + shF (cnv b fun _ => 0) j = 0
        rw [shF_cong ih]
        cases j <;> simp [shF]
    rw [z]
  | n + 1, k => by
    show accT (accO a b n) n (a.getD n 0) b b.length k = _
    rw [accT_all, accO_cnv a b n k, ← cnv_add]
    refine cnv_cong (fun j => ?_) b k
    unfold hdF
    by_cases h : j = n
    · subst h
      rw [if_neg (Nat.lt_irrefl _), if_pos rfl, if_pos (Nat.lt_succ_self _)]
      omega
    · rw [if_neg h]
      by_cases h2 : j < n
      · rw [if_pos h2, if_pos (by omega)]
        omega
      · rw [if_neg h2, if_neg (by omega)]
        omega
theorem mul_is {P : Nat → Int} {a : List Int} (h : ∀ k, a.getD k 0 = P k) (b : List Int) : Is (cnv b P) (mulL a b) := by
  unfold mulL
  refine Is.of_strip fun k => ?_
  rw [row_getD]
  have e : accO a b a.length k = cnv b P k := by
    rw [accO_cnv]
    refine cnv_cong (fun j => ?_) b k
    rw [← h]
    by_cases hj : j < a.length
    · rw [if_pos hj]
    · rw [if_neg hj, getD_off (by omega)]
  by_cases hk : k < a.length + b.length
  · rw [if_pos hk, e]
  · rw [if_neg hk, ← e, accO_off (by omega)]
end Bk

set_option maxHeartbeats 4000000
namespace Bk
open PySem PySem.Spec PyProof.Rows L2
section
variable {X : Cx} {F : Fm} {E : EnvB} {a b c e elt iter : Expr} {es : List Expr} {pos p : Pos} {x y : Str} {scope : Scope} {Φ : EnvB → Rs → Prop} {i i2 kk : Nat}
/-! ### [elt for x in iter if c] -/
def LcF (X : Cx) (F : Fm) (scope : Scope) (elt c : Expr) (x : Str) (p : Pos) (iter : Expr) (i : Nat) (E : EnvB) (Φ : EnvB → Rs → Prop) : Prop :=
  XI X F (.Name x p) iter E fun E1 ds => ds.length ≤ 100000 ∧ ∃ Iv : Nat → EnvB → List PD → Prop, (∃ E2, SetE E1 i .un E2 ∧ Iv 0 E2 []) ∧
    (∀ k d E2 acc F', ds[k]? = some d → Iv k E2 acc → ∃ E3, SetE E2 i (.sh d) E3 ∧ ∀ j, XT (Bx X scope j) F' c E3 fun E4 b => (b = true → ∀ j, XE (Bx X scope j) F' elt E4 fun E5 r => ∃ r' E6 y E7, Fz r r' ∧ Fzs E5 [r'] E6 [y] ∧ SetE E6 i .un E7 ∧ Iv (k + 1) E7 (acc ++ [y])) ∧ (b = false → ∃ E7, SetE E4 i .un E7 ∧ Iv (k + 1) E7 acc)) ∧
    ∀ E2 acc, Iv ds.length E2 acc → Φ E2 (.nw (.lst acc))
theorem LcF.to (h : LcF X F scope elt c x p iter i E Φ) : LcJ X F scope elt (.Name x p) iter [c] (gName i) [i] [i] E Φ := fun pins s w σ H G I0 i0 => by
  refine thn (h pins s w σ H G I0 i0) fun v s1 h1 => thn h1 fun u s2 h2 => pie_imp (fun J H' q => ?_) h2
  obtain ⟨w', G', E1, ds, a, b, c, hds, Iv, ⟨E2, hs2, h0⟩, hst, hd⟩ := q
  refine ⟨w', G', E1, ds, a, b, c, hds, Iv, ⟨E2, .cons .nil hs2, h0⟩, fun k d E2 acc F' hk hiv => ?_, hd⟩
  obtain ⟨E3, hs3, he⟩ := hst k d E2 acc F' hk hiv
  refine ⟨E3, gok_name hs3, fun j => xts_one (xt_cut (he j) fun E4 b ⟨q1, q2⟩ => ⟨fun z j2 => xe_cut (q1 z j2) fun E5 r ⟨r', E6, y, E7, f, fs, wp, iv⟩ => ⟨r', E6, y, E7, f, fs, .cons .nil wp, iv⟩, fun z => ?_⟩)⟩
  obtain ⟨E7, wp, iv⟩ := q2 z
  exact ⟨E7, .cons .nil wp, iv⟩
theorem xe_lcF (h : LcF X F scope elt c x p iter i E Φ) (ok : blkB X.N X.env.scope scope [(x, i)] = true := by kernel_rfl) (hi : X.N[i]? = some x := by rfl) (hl : scope.names.lookup x = some .local := by rfl) (hN : X.N.Nodup := by assumption) (hc : X.calm = true := by rfl) (hs : ∀ x, foldedSetIterable iter X.env x = pure x := by intro _; rfl) :
    XE X F (.ListComp elt [⟨.Name x p, iter, [c], 0⟩] scope pos) E Φ := xe_lc (own := [(x, i)]) (fun j => pg_bx hN hi hl) (fun j hj => hj) (blk_ok ok) h.to hN hc hs
theorem xs_setLcF {Φ : Post} {i0 : Nat} {x0 : Str} {py spos : Pos} (h : LcF X F scope elt c x p iter i E fun E1 r => ∃ E2, AsgE E1 i0 r E2 ∧ Φ.nx E2) (ok : blkB X.N X.env.scope scope [(x, i)] = true := by kernel_rfl) (hi : X.N[i]? = some x := by rfl) (hl : scope.names.lookup x = some .local := by rfl)
    (hsw : swapsWith (.ListComp elt [⟨.Name x p, iter, [c], 0⟩] scope pos) (some (.Name x0 py)) spos.line X.env = pure true := by rfl) (hN : X.N.Nodup := by assumption) (hc : X.calm = true := by rfl) (hy : X.N[i0]? = some x0 := by rfl) (hyl : X.env.scope.names.lookup x0 = some .local := by rfl) (hs : ∀ x, foldedSetIterable iter X.env x = pure x := by intro _; rfl) :
    XS X F (.Assign [.Name x0 py] (.ListComp elt [⟨.Name x p, iter, [c], 0⟩] scope pos) spos) E Φ := xs_setLc (own := [(x, i)]) (fun j => pg_bx hN hi hl) (fun j hj => hj) (blk_ok ok) h.to hsw hN hc hy hyl hs
/-! ### x, y = a, b: two new lists -/
theorem xs_parL {Φ : Post} {j : Nat} {px py pt : Pos} {kt k2 pt2} (h : XE X F a E fun E1 r => ∃ ds1, r = .nw (.lst ds1) ∧ ∀ F', XE X F' b E1 fun E2 r2 => ∃ ds2 E3 E4, r2 = .nw (.lst ds2) ∧ SetE E2 i (.ow (.lst ds1)) E3 ∧ SetE E3 j (.ow (.lst ds2)) E4 ∧ Φ.nx E4) (hij : i ≠ j := by decide) (hN : X.N.Nodup := by assumption) (hi : X.N[i]? = some x := by rfl) (hj : X.N[j]? = some y := by rfl)
    (hx : X.env.scope.names.lookup x = some .local := by rfl) (hy : X.env.scope.names.lookup y = some .local := by rfl) (hw : swappedStores [.Tuple [.Name x px, .Name y py] kt pt] (.Tuple [a, b] k2 pt2) X.env = pure (some [x, y]) := by rfl) (hc : X.calm = true := by rfl)
    (hs : swapsWithSole [.Tuple [.Name x px, .Name y py] kt pt] (.Tuple [a, b] k2 pt2) pos.line X.env = pure false := by rfl) (hs1 : starEach [a, b] X.env = (false, eval a X.env) :: starEach [b] X.env := by rfl) (hs2 : starEach [b] X.env = (false, eval b X.env) :: starEach [] X.env := by rfl) : XS X F (.Assign [.Tuple [.Name x px, .Name y py] kt pt] (.Tuple [a, b] k2 pt2) pos) E Φ :=
  xs_of (ps_par hc hN hi hj hij hx hy (pa_cons (pe_tE (F := F)) (pa_cons (pe_tEF (X := X) (e := b)) pa_nil hs2) hs1) hw hs) fun w σ H G I => tE_go I h fun v1 w1 H1 G1 E1 r1 I1 s1 rv1 ⟨ds1, e1, h2⟩ => by
    subst e1
    obtain ⟨D, rfl, c1, gD, hD0, hM0, wD⟩ := rv1
    obtain ⟨xs, hx1, rx1⟩ := c1.lst
    have I1' := I1.toSub hx1 gD hD0 wD
    refine ⟨F.sub D xs, tE_go I1' (h2 (F.sub D xs)) fun v2 w2 H2 G2 E2 r2 I2 s2 rv2 ⟨ds2, E3, E4, e2, q3, q4, q⟩ => ?_⟩
    subst e2
    obtain ⟨I2', hx2, gD2, wD2⟩ := I2.ofSub hD0 hM0
    obtain ⟨D2, rfl, c2, gE, hE0, hEM, wE⟩ := rv2
    have hne : D2 ≠ D := fun z => by
      subst z
      have : upd F.H0 D2 (.lst []) D2 = none := hE0
      rw [upd_same] at this
      cases this
    have hE0' : F.H0 D2 = none := by
      have : upd F.H0 D (.lst []) D2 = none := hE0
      rw [upd_ne hne] at this
      exact this
    have hEM' : F.M D2 = none := by
      have : upd F.M D (.lst xs) D2 = none := hEM
      rw [upd_ne hne] at this
      exact this
    -- both become slots
    have rvD : RV X.K F w2 σ H2 G2 (.ref D) (.nw (.lst ds1)) := ⟨D, rfl, by rw [hx2]; exact .ls (rx1.mono s2), gD2, hD0, hM0, wD2⟩
    obtain ⟨p1, e1, cc1, n1, n2, n3, n4⟩ := id rvD
    cases e1
    have J : In X.K F (fun b => if b = D then some i else w2 b) (σ.set i (some (.ref D))) H2 G2 (E2.set i (.ow (.lst ds1))) := by
      have I' : In X.K F (fun b => if b = D then some i else w2 b) σ H2 G2 E2 := by
        refine ⟨I2'.sub, I2'.old, I2'.keep, I2'.has, fun b j q => ?_, I2'.len, fun j b q => (I2'.slot j b q).other fun l hl => ⟨rfl, ?_⟩⟩
        · by_cases z : b = D
          · subst z
            obtain ⟨x, hx⟩ := cc1.ex1
            exact ⟨n1, n3, by rw [hx]; exact Option.some_ne_none x⟩
          · have q : (if b = D then some i else w2 b) = some j := q
            rw [if_neg z] at q
            exact I2'.own b j q
        · have z : l ≠ D := fun z => by subst z; rw [n4] at hl; cases hl
          show (if l = D then some i else w2 l) = some j
          rw [if_neg z]; exact hl
      exact I'.set ⟨D, rfl, if_pos rfl, cc1, n2⟩
    have rvE : RV X.K F (fun b => if b = D then some i else w2 b) (σ.set i (some (.ref D))) H2 G2 (.ref D2) (.nw (.lst ds2)) := ⟨D2, rfl, c2, gE, hE0', hEM', by show (if D2 = D then some i else w2 D2) = none; rw [if_neg hne]; exact wE⟩
    obtain ⟨w5, J2⟩ := J.setNw (i := j) rvE
    refine ⟨_, _, rfl, w5, G2, E4, ?_, s1.trans s2, q⟩
    rw [q4.eq, q3.eq]
    exact J2
/-! ### repr of any datum but dicts -/
theorem shown_none : PyData.shown .none = PySem.Str.ofString "None" := by simp [PyData.shown]
theorem call_reprA (hg : X.A.guards = some []) (hu : X.A.units + 66 < cLine) : CallR X (.builtin "repr") (fun xs H Q => ∃ v d, xs = [v] ∧ Dp X.K H v d ∧ d.showable = true ∧ nd d = true ∧ d.depth ≤ 64 ∧ swD d ≤ 16000000 ∧ Q (.str d.shown) H) := by
  intro pins s σ H xs us Q I r h
  obtain ⟨v, d, rfl, hd, h1, h2, h3, h4, q⟩ := h
  cases hd with
  | non =>
    obtain ⟨u, rfl, ru⟩ := vals1 r
    cases (show u = Value.none from ru)
    rw [shown_none] at q
    exact PySem.P.repr_of_none ⟨.str _, H, I.tok _, ⟨_, rfl⟩, q⟩
  | bl b =>
    obtain ⟨u, rfl, ru⟩ := vals1 r
    cases (show u = Value.bool b from ru)
    refine PySem.P.repr_of_bool ⟨.str _, H, I.tok _, ⟨_, rfl⟩, ?_⟩
    have e : PyData.shown (.bool b) = (if b then "True" else "False" : PySem.Str) := by cases b <;> simp [PyData.shown]
    rw [e] at q
    exact q
  | int i =>
    obtain ⟨u, rfl, t, rfl⟩ := vals1 r
    refine PySem.P.repr_of_int (by simpa [PyData.showable] using h1) ⟨.str _, H, I.tok _, ⟨_, rfl⟩, ?_⟩
    have e : PyData.shown (.int i) = (toString i : PySem.Str) := by simp [PyData.shown]
    rw [e] at q
    exact q
  | str z =>
    obtain ⟨u, rfl, t, rfl⟩ := vals1 r
    have e : PyData.shown (.str z) = reprText z := by simp [PyData.shown]
    rw [e] at q
    exact PySem.P.repr_of_str ⟨.str _, H, I.tok _, ⟨_, rfl⟩, q⟩ (Nat.le_trans (show (reprText z).length ≤ 16000000 from h4) (by decide))
  | @lst a xs ds hq ha =>
    exact call_reprD hg hu pins s σ H _ us Q I r ⟨a, _, rfl, .lst hq ha, h1, h2, h3, h4, q⟩
  | @tup a xs ds hq ha =>
    exact call_reprD hg hu pins s σ H _ us Q I r ⟨a, _, rfl, .tup hq ha, h1, h2, h3, h4, q⟩
theorem cj_reprA {r : Rs} {d : PD} (h : RD E r d) (h1 : d.showable = true) (h2 : nd d = true) (h3 : d.depth ≤ 64) (h4 : swD d ≤ 16000000) (q : Φ E (.sh (.str d.shown))) : CJ X F (fun xs H Q => ∃ v d, xs = [v] ∧ Dp X.K H v d ∧ d.showable = true ∧ nd d = true ∧ d.depth ≤ 64 ∧ swD d ≤ 16000000 ∧ Q (.str d.shown) H) E [r] Φ := fun w σ H G vs Q I rvs kk => by
  obtain ⟨v, rfl, rv⟩ := rv_one (F := F) rvs
  exact ⟨v, d, rfl, Rp.dp _ _ h2 (h.rp I rv), h1, h2, h3, h4, kk _ _ (keS I q)⟩
end
end Bk

set_option maxHeartbeats 4000000
namespace Bk
open PySem PySem.Spec PyProof.Rows L2
/-! ### data with empty dicts, shown -/
mutual
def ndE : PD → Bool
  | .dict [] => true
  | .dict _ => false
  | .list ds => ndEs ds
  | .tuple ds => ndEs ds
  | _ => true
def ndEs : List PD → Bool
  | [] => true
  | d :: ds => ndE d && ndEs ds
end
section
variable {X : Cx} {pins : List (Addr × Obj)} {σ : L2.St} {H : Hp} {s : Shared}
mutual
theorem Rp.rk (I : L2.Inv X pins σ H s) : ∀ (d : PD) (v : V) (u : Value), ndE d = true → Rp X.K H v d → RelV v u → d.showable = true → d.shown.length ≤ sizeLine → ∃ as, Reads s.heap u d as ∧ ∃ bs, ReadAtMost s.heap d.depth bs ∧ ReprK X.prog X.w bs s.heap d.depth u d.shown
  | .none, _, _, _, h, r, _, _ => by
    cases h
    cases r
    exact ⟨_, Reads.none, [], (fun _ h => nomatch h), by simp only [PyData.shown]; exact .of_is ReprIs.none _ _ _⟩
  | .bool b, _, _, _, h, r, _, _ => by
    cases h
    cases r
    exact ⟨_, Reads.bool b, [], (fun _ h => nomatch h), by simp only [PyData.shown]; exact .of_is (ReprIs.bool b) _ _ _⟩
  | .int i, _, _, _, h, r, hs, _ => by
    cases h
    obtain ⟨t, rfl⟩ := r
    exact ⟨_, Reads.int i t, [], (fun _ h => nomatch h), by simp only [PyData.shown]; exact .of_is (ReprIs.int t (by simpa [PyData.showable] using hs)) _ _ _⟩
  | .str x, _, _, _, h, r, _, hz => by
    cases h
    obtain ⟨t, rfl⟩ := r
    exact ⟨_, Reads.str x t, [], (fun _ h => nomatch h), by simp only [PyData.shown]; exact .of_is (ReprIs.str x t (by simpa only [PyData.shown] using hz)) _ _ _⟩
  | .list ds, _, _, hn, h, r, hs, hz => by
    cases h with
    | lst hl ha =>
      cases r
      obtain ⟨its, rv, ⟨o, n, ho, hc, _, hd⟩, _⟩ := I.list (.inl (.inl hl))
      have hz' : (listText (PyData.shownAll ds)).length ≤ sizeLine := by simpa only [PyData.shown] using hz
      obtain ⟨as, hr, bs, hb, hk⟩ := Rps.rk I ds _ its (by simpa only [ndE] using hn) ha rv (by simpa [PyData.showable] using hs) (fun t ht => Nat.le_trans (listText_mem_le ht) hz')
      have q : Reads s.heap (.ref _) (.list ds) _ := Reads.list ho hc hd hr
      have hna := not_mem_of_deeper q (by simp only [PyData.depth]; omega) hb
      refine ⟨_, q, _, ReadAtMost.cons q (by simp only [PyData.depth]; omega) hb, ?_⟩
      simp only [PyData.depth, PyData.shown]
      cases its with
      | nil =>
        cases hr
        simp only [PyData.shownAll, listText_nil]
        exact ReprK.listEmpty ho hc hd
      | cons x l => exact ReprK.list ho hc hd hna (by simpa using hk.length_eq) (fun i y e => hk.item i y (by simpa using e))
  | .tuple ds, _, _, hn, h, r, hs, hz => by
    cases h with
    | tup hl ha =>
      cases r
      obtain ⟨its, rv, ⟨o, ho, hc, n, hd⟩, _⟩ := I.tuple hl
      have hz' : (tupleText (PyData.shownAll ds)).length ≤ sizeLine := by simpa only [PyData.shown] using hz
      obtain ⟨as, hr, bs, hb, hk⟩ := Rps.rk I ds _ its (by simpa only [ndE] using hn) ha rv (by simpa [PyData.showable] using hs) (fun t ht => Nat.le_trans (tupleText_mem_le ht) hz')
      have q : Reads s.heap (.ref _) (.tuple ds) _ := Reads.tuple ho hc hd hr
      have hna := not_mem_of_deeper q (by simp only [PyData.depth]; omega) hb
      refine ⟨_, q, _, ReadAtMost.cons q (by simp only [PyData.depth]; omega) hb, ?_⟩
      simp only [PyData.depth, PyData.shown]
      exact ReprK.tuple ho hc hd hna hk
  | .dict [], _, _, _, h, r, _, _ => by
    cases h with
    | dic hl hp0 =>
      cases hp0
      cases r
      obtain ⟨z, hsys, vs, rel, dd⟩ := dk_rd I.hok (.inr ⟨_, hl⟩)
      cases rel
      obtain ⟨o, es, ep, h1, ⟨h2, _, _⟩, h3, _, hp, _⟩ := dd
      have he : es.toList = [] := by
        have hp : Pairs _ es.toList [] := hp
        generalize es.toList = l at hp
        cases hp
        rfl
      have q : Reads s.heap (.ref _) (.dict []) _ := Reads.dict h1 h2 h3 (by rw [he]; exact .nil) (by rw [he]; exact .nil)
      have k : ReprK X.prog X.w _ s.heap (0 + 1) (.ref _) (dictText []) := ReprK.dict h1 h2 h3 hsys (as := []) (by simp) (by rw [he]; exact .nil)
      have nb : ReadAtMost s.heap 0 [] := fun b h => absurd h (List.not_mem_nil)
      refine ⟨_, q, _, ReadAtMost.cons q (Nat.zero_le _) nb, ?_⟩
      simp only [PyData.depth, PyData.shown, PyData.shownKv, PyData.depthKv]
      exact k
  | .dict (_ :: _), _, _, hn, _, _, _, _ => by simp only [ndE] at hn; cases hn
theorem Rps.rk (I : L2.Inv X pins σ H s) : ∀ (ds : List PD) (vs : List V) (us : List Value), ndEs ds = true → Rps X.K H vs ds → Vals vs us → PyData.showableAll ds = true → (∀ t ∈ PyData.shownAll ds, t.length ≤ sizeLine) → ∃ as, ReadsAll s.heap us ds as ∧ ∃ bs, ReadAtMost s.heap (PyData.depthAll ds) bs ∧ ReprAllK X.prog X.w bs s.heap (PyData.depthAll ds) us (PyData.shownAll ds)
  | [], _, _, _, h, r, _, _ => by
    cases h
    cases r
    exact ⟨_, ReadsAll.nil, [], (fun _ h => nomatch h), by simp only [PyData.shownAll]; exact .nil⟩
  | d :: ds, _, _, hn, h, r, hs, hz => by
    cases h with
    | cons h1 h2 =>
      cases r with
      | cons r1 r2 =>
        have hs' : d.showable = true ∧ PyData.showableAll ds = true := by simpa [PyData.showableAll] using hs
        have hn' : ndE d = true ∧ ndEs ds = true := by simpa only [ndEs, Bool.and_eq_true] using hn
        obtain ⟨as, q1, b1, hb1, k1⟩ := Rp.rk I d _ _ hn'.1 h1 r1 hs'.1 (hz _ (by simp only [PyData.shownAll]; exact List.mem_cons_self ..))
        obtain ⟨as2, q2, b2, hb2, k2⟩ := Rps.rk I ds _ _ hn'.2 h2 r2 hs'.2 (fun t ht => hz t (by simp only [PyData.shownAll]; exact List.mem_cons_of_mem _ ht))
        refine ⟨_, ReadsAll.cons q1 q2, b1 ++ b2, ?_, ?_⟩
        · simp only [PyData.depthAll]
          exact (hb1.mono (Nat.le_max_left _ _)).append (hb2.mono (Nat.le_max_right _ _))
        · simp only [PyData.depthAll, PyData.shownAll]
          exact .cons ((k1.more fun b hb => List.mem_append_left _ hb).level_le (Nat.le_max_left _ _)) (k2.more_le (fun b hb => List.mem_append_right _ hb) (Nat.le_max_right _ _))
end
end
mutual
def swE : PD → Nat
  | .none => 4
  | .bool _ => 5
  | .int _ => 1921
  | .str x => (reprText x).length
  | .list ds => 2 + swEs ds
  | .tuple ds => 3 + swEs ds
  | .dict _ => 2
def swEs : List PD → Nat
  | [] => 0
  | d :: ds => swE d + 2 + swEs ds
end
mutual
theorem shownE_le : ∀ d : PD, d.showable = true → ndE d = true → d.shown.length ≤ swE d
  | .none, _, _ => by simp only [PyData.shown, swE]; decide +kernel
  | .bool b, _, _ => by cases b <;> simp only [PyData.shown, swE] <;> decide +kernel
  | .int i, h, _ => by
    simp only [PyData.showable, decide_eq_true_eq] at h
    simp only [PyData.shown, swE]
    exact int_text_len_1921 h
  | .str x, _, _ => by simp only [PyData.shown, swE]; exact Nat.le_refl _
  | .list ds, h, q => by
    simp only [PyData.showable] at h
    simp only [ndE] at q
    simp only [PyData.shown, swE]
    have := list_le (PyData.shownAll ds)
    have := shownEs_le ds h q
    omega
  | .tuple ds, h, q => by
    simp only [PyData.showable] at h
    simp only [ndE] at q
    simp only [PyData.shown, swE]
    have := tuple_le (PyData.shownAll ds)
    have := shownEs_le ds h q
    omega
  | .dict [], _, _ => by
    simp only [PyData.shown, PyData.shownKv, swE]
    decide +kernel
  | .dict (_ :: _), _, q => by simp only [ndE] at q; cases q
theorem shownEs_le : ∀ ds : List PD, PyData.showableAll ds = true → ndEs ds = true → piled (PyData.shownAll ds) ≤ swEs ds
  | [], _, _ => by simp only [PyData.shownAll, piled_nil]; exact Nat.zero_le _
  | d :: ds, h, q => by
    simp only [PyData.showableAll, Bool.and_eq_true] at h
    simp only [ndEs, Bool.and_eq_true] at q
    simp only [PyData.shownAll, piled_cons, swEs]
    have := shownE_le d h.1 q.1
    have := shownEs_le ds h.2 q.2
    omega
end
section
variable {X : Cx} {pins : List (Addr × Obj)} {σ : L2.St} {H : Hp} {s : Shared}
/-- how a list | tuple | empty dict is shown -/
theorem Rp.shows (I : L2.Inv X pins σ H s) (d : PD) (a : Addr) (hn : ndE d = true) (h : Rp X.K H (.ref a) d) (hs : d.showable = true) (hz : d.shown.length ≤ sizeLine) : ∃ T idr, ShowsBy X.prog X.w s.heap a d T idr := by
  obtain ⟨as, rd, _⟩ := Rp.rk I d _ _ hn h (show RelV (.ref a) (.ref a) from rfl) hs hz
  cases d with
  | none => cases h
  | bool b => cases h
  | int i => cases h
  | str z => cases h
  | list ds =>
    cases h with
    | lst hl ha =>
      obtain ⟨its, rv, ⟨o, n, ho, hc, _, hd⟩, _⟩ := I.list (.inl (.inl hl))
      have hz' : (listText (PyData.shownAll ds)).length ≤ sizeLine := by simpa only [PyData.shown] using hz
      obtain ⟨as, hr, bs, hb, hk⟩ := Rps.rk I ds _ its (by simpa only [ndE] using hn) ha rv (by simpa [PyData.showable] using hs) (fun t ht => Nat.le_trans (listText_mem_le ht) hz')
      have hna := not_mem_of_deeper (Reads.list ho hc hd hr) (by simp only [PyData.depth]; omega) hb
      refine ⟨"list", "list.__repr__", F.slot_list_repr.toG, F.slot_list_str, F.slot_list_format, fun s hk0 => ⟨o, hk0 _ _ ho, hc⟩, fun A E s' Q hg hu hk0 hQ => ?_⟩
      simp only [PyData.depth] at hu
      simp only [PyData.shown] at hQ
      cases its with
      | nil =>
        cases hr
        simp only [PyData.shownAll, listText_nil] at hQ
        exact call_list_repr_empty ⟨o, hk0 _ _ ho, hc⟩ (hk0 _ _ ho) hd (hQ s'.heap _ _ fun _ _ e => e)
      | cons x l => exact call_list_reprK ho hc hd hna (by simpa using hk.length_eq) (fun i y e => hk.item i y (by simpa using e)) hg (fun b _ => Clear.nil b) hu hk0 hQ hz'
  | tuple ds =>
    cases h with
    | tup hl ha =>
      obtain ⟨its, rv, ⟨o, ho, hc, n, hd⟩, _⟩ := I.tuple hl
      have hz' : (tupleText (PyData.shownAll ds)).length ≤ sizeLine := by simpa only [PyData.shown] using hz
      obtain ⟨as, hr, bs, hb, hk⟩ := Rps.rk I ds _ its (by simpa only [ndE] using hn) ha rv (by simpa [PyData.showable] using hs) (fun t ht => Nat.le_trans (tupleText_mem_le ht) hz')
      have hna := not_mem_of_deeper (Reads.tuple ho hc hd hr) (by simp only [PyData.depth]; omega) hb
      refine ⟨"tuple", "tuple.__repr__", F.slot_tuple_repr, F.slot_tuple_str, F.slot_tuple_format, fun s hk0 => ⟨o, hk0 _ _ ho, hc⟩, fun A E s' Q hg hu hk0 hQ => ?_⟩
      simp only [PyData.depth] at hu
      simp only [PyData.shown] at hQ
      exact call_tuple_reprK ho hc hd hna hk hg (fun b _ => Clear.nil b) hu hk0 hQ hz'
  | dict es =>
    cases es with
    | cons _ _ => simp only [ndE] at hn; cases hn
    | nil =>
      cases h with
      | dic hl hp0 =>
        cases hp0
        obtain ⟨z, hsys, vs, rel, dd⟩ := dk_rd I.hok (.inr ⟨_, hl⟩)
        cases rel
        obtain ⟨o, es, ep, h1, ⟨h2, _, _⟩, h3, _, hp, _⟩ := dd
        have he : es.toList = [] := by
          have hp : Pairs _ es.toList [] := hp
          generalize es.toList = l at hp
          cases hp
          rfl
        refine ⟨"dict", "dict.__repr__", F.slot_dict_repr, F.slot_dict_str, F.slot_dict_format, fun s hk0 => ⟨o, hk0 _ _ h1, h2⟩, fun A E s' Q hg hu hk0 hQ => ?_⟩
        simp only [PyData.depth, PyData.depthKv] at hu
        simp only [PyData.shown, PyData.shownKv] at hQ
        exact call_dict_reprK h1 h2 h3 hsys (as := []) List.not_mem_nil (by rw [he]; exact .nil) hg (fun b _ => Clear.nil b) hu hk0 hQ (by decide +kernel)
end
section
variable {X : Cx} {F : Fm} {E : EnvB} {Φ : EnvB → Rs → Prop}
def rRpE (X : Cx) : List V → Hp → VK → Prop := fun xs H Q => ∃ v d, xs = [v] ∧ Rp X.K H v d ∧ d.showable = true ∧ ndE d = true ∧ d.depth ≤ 64 ∧ swE d ≤ 16000000 ∧ Q (.str d.shown) H
/-- repr of any datum, empty dicts among them -/
theorem call_reprE (hg : X.A.guards = some []) (hu : X.A.units + 66 < cLine) : CallR X (.builtin "repr") (rRpE X) := by
  intro pins s σ H xs us Q I r h
  obtain ⟨v, d, rfl, hd, h1, h2, h3, h4, q⟩ := h
  have byRef : ∀ a, v = .ref a → wpAny (model X.prog X.w) X.A (call (.builtin "repr") us) (EP X pins σ Q) X.xe s := by
    rintro a rfl
    obtain ⟨u, rfl, ru⟩ := vals1 r
    cases ru
    obtain ⟨T, idr, S⟩ := Rp.shows I d a h2 hd h1 (Nat.le_trans (shownE_le d h1 h2) (Nat.le_trans h4 (by decide)))
    exact call_repr_slot (by omega) (S.typeIs s fun _ _ e => e) S.slotRepr (S.call X.A.in1 X.xe s _ hg (by show X.A.units + 1 + d.depth < cLine; omega) (fun _ _ e => e) fun h' u tk kp => ⟨_, _, rfl, .str d.shown, H, I.kept (t' := tk) kp, ⟨u, rfl⟩, q⟩)
  cases d with
  | none =>
    cases hd
    obtain ⟨u, rfl, ru⟩ := vals1 r
    cases (show u = Value.none from ru)
    rw [shown_none] at q
    exact PySem.P.repr_of_none ⟨.str _, H, I.tok _, ⟨_, rfl⟩, q⟩
  | bool b =>
    cases hd
    obtain ⟨u, rfl, ru⟩ := vals1 r
    cases (show u = Value.bool b from ru)
    refine PySem.P.repr_of_bool ⟨.str _, H, I.tok _, ⟨_, rfl⟩, ?_⟩
    have e : PyData.shown (.bool b) = (if b then "True" else "False" : PySem.Str) := by cases b <;> simp [PyData.shown]
    rw [e] at q
    exact q
  | int i =>
    cases hd
    obtain ⟨u, rfl, t, rfl⟩ := vals1 r
    refine PySem.P.repr_of_int (by simpa [PyData.showable] using h1) ⟨.str _, H, I.tok _, ⟨_, rfl⟩, ?_⟩
    have e : PyData.shown (.int i) = (toString i : PySem.Str) := by simp [PyData.shown]
    rw [e] at q
    exact q
  | str z =>
    cases hd
    obtain ⟨u, rfl, t, rfl⟩ := vals1 r
    have e : PyData.shown (.str z) = reprText z := by simp [PyData.shown]
    rw [e] at q
    exact PySem.P.repr_of_str ⟨.str _, H, I.tok _, ⟨_, rfl⟩, q⟩ (Nat.le_trans (show (reprText z).length ≤ 16000000 from h4) (by decide))
  | list ds => cases hd; exact byRef _ rfl
  | tuple ds => cases hd; exact byRef _ rfl
  | dict es =>
    cases es with
    | cons _ _ => simp only [ndE] at h2; cases h2
    | nil => cases hd; exact byRef _ rfl
theorem cj_reprE {r : Rs} {d : PD} (h : RD E r d) (h1 : d.showable = true) (h2 : ndE d = true) (h3 : d.depth ≤ 64) (h4 : swE d ≤ 16000000) (q : Φ E (.sh (.str d.shown))) : CJ X F (rRpE X) E [r] Φ := fun w σ H G vs Q I rvs kk => by
  obtain ⟨v, rfl, rv⟩ := rv_one (F := F) rvs
  exact ⟨v, d, rfl, h.rp I rv, h1, h2, h3, h4, kk _ _ (keS I q)⟩
/-- {} as a datum -/
theorem pe_lockV {X : Cx} {e : Expr} {t : TE} (h : PE X e t) : PE X e (fun σ H Q => t σ H fun v H1 => ∃ d u, v = .ref d ∧ H1 d = some u ∧ Mut (some u) ∧ ∀ od, Q v (upd H1 d (.frz od u))) := by
  refine ⟨fun pins s σ H Q I hw => ?_⟩
  refine thn (h.run pins s σ H _ I hw) fun v s1 ⟨x, H1, I1, r, d, u, e, hd, mu, q⟩ => ?_
  obtain ⟨od, I2⟩ := I1.lock hd mu
  exact ⟨x, _, I2, r, q od⟩
theorem upd2 {H : Hp} {p : Addr} {o u : HO} : upd (upd H p o) p u = upd H p u := by
  funext b
  unfold upd
  split <;> rfl
theorem xe_edict (q : Φ E (.sh (.dict []))) : XE X F (.Dict [] [] pos) E Φ := xe_of (pe_lockV pe_dnewK) fun w σ H G I => fun p hp => by
  refine ⟨p, _, rfl, upd_same, trivial, fun od => ?_⟩
  rw [upd2]
  obtain ⟨I3, s3⟩ := I.allocSh (o := .frz od (.dK [])) hp
  exact ke I3 s3 (r := .sh (.dict [])) (.edict upd_same) q
/-! ### chained comparisons -/
section
variable {Ψ : EnvB → Bool → Prop} {a b c d : Expr} {pos : Pos}
theorem xt_two {op op' : CmpOp} {r r' : R2} (ho : OpR X (compareOp op) r) (ho' : OpR X (compareOp op') r') (h : XE X F a E fun E1 r1 => ∃ d1, r1 = .sh d1 ∧ XE X F b E1 fun E2 r2 => ∃ d2, r2 = .sh d2 ∧ OpJ X F r E2 r1 r2 fun E3 r3 => ∃ k, r3 = .sh (.bool k) ∧
    (k = true → XE X F c E3 fun E4 r4 => ∃ d4, r4 = .sh d4 ∧ OpJ X F r' E4 r2 r4 fun E5 r5 => ∃ k, r5 = .sh (.bool k) ∧ Ψ E5 k) ∧ (k = false → Ψ E3 false))
    (hm : lastMarks [op, op'] [b, c] = false := by with_unfolding_all rfl) : XT X F (.Compare a [op, op'] [b, c] pos) E Ψ :=
  xt_of (pt_chain ho ho' pe_tE pe_tE pe_tE hm) fun w σ H G I => tE_go I h fun v1 w1 H1 G1 E1 r1 I1 s1 rv1 ⟨d1, e1, h1⟩ => by
    subst e1
    refine tE_go I1 h1 fun v2 w2 H2 G2 E2 r2 I2 s2 rv2 ⟨d2, e2, h2⟩ => ?_
    subst e2
    refine h2 w2 σ H2 G2 v1 v2 _ I2 (Fz.sh.keep s2 rv1) rv2 fun v H' ⟨w3, G3, E3, r3, I3, s3, rv3, k, e3, qt, qf⟩ => ?_
    subst e3
    have rv3 : Rp X.K G3 v (.bool k) := rv3
    cases rv3
    refine ⟨k, rfl, ?_⟩
    cases k with
    | false => exact ⟨false, rfl, w3, G3, E3, I3, ((s1.trans s2)).trans s3, qf rfl⟩
    | true =>
      refine tE_go I3 (qt rfl) fun v4 w4 H4 G4 E4 r4 I4 s4 rv4 ⟨d4, e4, h4⟩ => ?_
      subst e4
      refine h4 w4 σ H4 G4 v2 v4 _ I4 (Fz.sh.keep (s3.trans s4) rv2) rv4 fun v' H'' ⟨w5, G5, E5, r5, I5, s5, rv5, k', e5, q⟩ => ?_
      subst e5
      have rv5 : Rp X.K G5 v' (.bool k') := rv5
      cases rv5
      exact ⟨k', rfl, w5, G5, E5, I5, ((((s1.trans s2)).trans s3).trans s4).trans s5, q⟩
def tChain3 (r r' r2 : R2) (ta tb tc td : TE) : TT := fun σ H Q => ta σ H fun x H1 => tb σ H1 fun y H2 => r x y H2 fun z H3 => ∃ k, z = .bl k ∧
  (if k = true then tc σ H3 fun w H4 => r' y w H4 fun z' H5 => ∃ k', z' = .bl k' ∧ (if k' = true then td σ H5 fun u H6 => r2 w u H6 fun z2 H7 => ∃ k2, z2 = .bl k2 ∧ Q k2 H7 else Q false H5) else Q false H3)
theorem pt_chain3 {op op' op2 : CmpOp} {r r' r2 : R2} {ta tb tc td : TE} (ho : OpR X (compareOp op) r) (ho' : OpR X (compareOp op') r') (ho2 : OpR X (compareOp op2) r2) (ha : PE X a ta) (hb : PE X b tb) (hc : PE X c tc) (hd : PE X d td)
    (hm : lastMarks [op, op', op2] [b, c, d] = false := by with_unfolding_all rfl) : PT X (.Compare a [op, op', op2] [b, c, d] pos) (tChain3 r r' r2 ta tb tc td) := by
  refine ⟨fun pins s σ H Q I h => ?_⟩
  refine isTrue_chain (thn (ha.run pins s σ H _ I h) fun v s1 ⟨x, H1, I1, r1, q1⟩ => test_link (thn (hb.run pins s1 σ H1 _ I1 q1) fun u s2 ⟨y, H2, I2, r2, q2⟩ =>
    thn (ho pins s2 σ H2 x y v u _ I2 r1 r2 q2) fun d s3 ⟨z, H3, I3, r3, k, e, q3⟩ => ?_)) hm
  subst e
  cases r3
  refine wpAny_truthy_bool ?_
  cases k with
  | false => exact ite_ff ⟨H3, I3, q3⟩
  | true =>
    refine ite_tt (test_link (thn (hc.run pins s3 σ H3 _ I3 q3) fun w' s4 ⟨z', H4, I4, r4, q4⟩ => thn (ho' pins s4 σ H4 y z' u w' _ I4 r2 r4 q4) fun d' s5 ⟨z2, H5, I5, r5, k2, e2, q5⟩ => ?_))
    subst e2
    cases r5
    refine wpAny_truthy_bool ?_
    cases k2 with
    | false => exact ite_ff ⟨H5, I5, q5⟩
    | true =>
      refine ite_tt (test_last (thn (hd.run pins s5 σ H5 _ I5 q5) fun w2 s6 ⟨z3, H6, I6, r6, q6⟩ => thn (ho2 pins s6 σ H6 z' z3 w' w2 _ I6 r4 r6 q6) fun d2 s7 ⟨z4, H7, I7, r7, k4, e4, q7⟩ => ?_))
      subst e4
      cases r7
      exact wpAny_truthy_bool ⟨H7, I7, q7⟩
theorem xt_three {op op' op2 : CmpOp} {r r' r2 : R2} (ho : OpR X (compareOp op) r) (ho' : OpR X (compareOp op') r') (ho2 : OpR X (compareOp op2) r2) (h : XE X F a E fun E1 r1 => ∃ d1, r1 = .sh d1 ∧ XE X F b E1 fun E2 rb => ∃ d2, rb = .sh d2 ∧ OpJ X F r E2 r1 rb fun E3 r3 => ∃ k, r3 = .sh (.bool k) ∧
    (k = true → XE X F c E3 fun E4 r4 => ∃ d4, r4 = .sh d4 ∧ OpJ X F r' E4 rb r4 fun E5 r5 => ∃ k, r5 = .sh (.bool k) ∧
      (k = true → XE X F d E5 fun E6 r6 => ∃ d6, r6 = .sh d6 ∧ OpJ X F r2 E6 r4 r6 fun E7 r7 => ∃ k, r7 = .sh (.bool k) ∧ Ψ E7 k) ∧ (k = false → Ψ E5 false)) ∧ (k = false → Ψ E3 false))
    (hm : lastMarks [op, op', op2] [b, c, d] = false := by with_unfolding_all rfl) : XT X F (.Compare a [op, op', op2] [b, c, d] pos) E Ψ :=
  xt_of (pt_chain3 ho ho' ho2 pe_tE pe_tE pe_tE pe_tE hm) fun w σ H G I => tE_go I h fun v1 w1 H1 G1 E1 r1 I1 s1 rv1 ⟨d1, e1, h1⟩ => by
    subst e1
    refine tE_go I1 h1 fun v2 w2 H2 G2 E2 rb I2 s2 rv2 ⟨d2, e2, h2⟩ => ?_
    subst e2
    refine h2 w2 σ H2 G2 v1 v2 _ I2 (Fz.sh.keep s2 rv1) rv2 fun v H' ⟨w3, G3, E3, r3, I3, s3, rv3, k, e3, qt, qf⟩ => ?_
    subst e3
    have rv3 : Rp X.K G3 v (.bool k) := rv3
    cases rv3
    refine ⟨k, rfl, ?_⟩
    cases k with
    | false => exact ite_ff ⟨w3, G3, E3, I3, (s1.trans s2).trans s3, qf rfl⟩
    | true =>
      refine ite_tt ?_
      refine tE_go I3 (qt rfl) fun v4 w4 H4 G4 E4 r4 I4 s4 rv4 ⟨d4, e4, h4⟩ => ?_
      subst e4
      refine h4 w4 σ H4 G4 v2 v4 _ I4 (Fz.sh.keep (s3.trans s4) rv2) rv4 fun v' H'' ⟨w5, G5, E5, r5, I5, s5, rv5, k', e5, qt', qf'⟩ => ?_
      subst e5
      have rv5 : Rp X.K G5 v' (.bool k') := rv5
      cases rv5
      refine ⟨k', rfl, ?_⟩
      cases k' with
      | false => exact ite_ff ⟨w5, G5, E5, I5, (((s1.trans s2).trans s3).trans s4).trans s5, qf' rfl⟩
      | true =>
        refine ite_tt ?_
        refine tE_go I5 (qt' rfl) fun v6 w6 H6 G6 E6 r6 I6 s6 rv6 ⟨d6, e6, h6⟩ => ?_
        subst e6
        refine h6 w6 σ H6 G6 v4 v6 _ I6 (Fz.sh.keep (s5.trans s6) rv4) rv6 fun v2' H2'' ⟨w7, G7, E7, r7, I7, s7, rv7, k7, e7, q⟩ => ?_
        subst e7
        have rv7 : Rp X.K G7 v2' (.bool k7) := rv7
        cases rv7
        exact ⟨k7, rfl, w7, G7, E7, I7, (((((s1.trans s2).trans s3).trans s4).trans s5).trans s6).trans s7, q⟩
/-! ### x, y, z = a tuple of three -/
theorem xg_three {x y z : Str} {i j k : Nat} {d1 d2 d3 : PD} {p1 p2 p3 : Pos} {kk : Nat} {Ψ : EnvB → Prop} (h : ∃ E2 E3 E4, SetE E i (.sh d1) E2 ∧ SetE E2 j (.sh d2) E3 ∧ SetE E3 k (.sh d3) E4 ∧ Ψ E4) (hN : X.N.Nodup := by assumption) (hi : X.N[i]? = some x := by rfl) (hx : Loc X.env.scope x := by first | exact Or.inl rfl | exact Or.inr rfl) (hj : X.N[j]? = some y := by rfl) (hy : Loc X.env.scope y := by first | exact Or.inl rfl | exact Or.inr rfl)
    (hk : X.N[k]? = some z := by rfl) (hz : Loc X.env.scope z := by first | exact Or.inl rfl | exact Or.inr rfl) (hf : X.fn x = true ∨ X.env.scope.names.lookup x = some .local := by first | exact .inl rfl | exact .inr rfl | assumption) (hf2 : X.fn y = true ∨ X.env.scope.names.lookup y = some .local := by first | exact .inl rfl | exact .inr rfl | assumption) (hf3 : X.fn z = true ∨ X.env.scope.names.lookup z = some .local := by first | exact .inl rfl | exact .inr rfl | assumption) (hc : X.calm = true := by rfl)
    (q1 : (assignEach [.Name x p1, .Name y p2, .Name z p3] X.env).map (·.2) = assign (.Name x p1) X.env :: (assignEach [.Name y p2, .Name z p3] X.env).map (·.2) := by rfl) (q2 : (assignEach [.Name y p2, .Name z p3] X.env).map (·.2) = assign (.Name y p2) X.env :: (assignEach [.Name z p3] X.env).map (·.2) := by rfl) (q3 : (assignEach [.Name z p3] X.env).map (·.2) = assign (.Name z p3) X.env :: (assignEach [] X.env).map (·.2) := by rfl)
    (hn : (assignEach [.Name x p1, .Name y p2, .Name z p3] X.env).length = 3 := by rfl) (hst : (assignEach [.Name x p1, .Name y p2, .Name z p3] X.env).findIdx? (·.1) = none := by rfl) : XG X F (.Tuple [.Name x p1, .Name y p2, .Name z p3] kk pos) (.sh (.tuple [d1, d2, d3])) E Ψ :=
  xg_of (pg_tup hc (pgs_cons (pg_name hN hi hx hf) (pgs_cons (pg_name hN hj hy hf2) (pgs_cons (pg_name hN hk hz hf3) pgs_nil q3) q2) q1) hn hst) fun w σ H G v I r => by
    obtain ⟨E2, E3, E4, h1, h2, h3, q⟩ := h
    have r : Rp X.K G v (.tuple [d1, d2, d3]) := r
    cases r with
    | tup hq rr =>
      cases rr with
      | cons r1 rr =>
        cases rr with
        | cons r2 rr =>
          cases rr with
          | cons r3 rr =>
            cases rr
            refine ⟨_, _, rfl, sqT_mono I.sub hq, rfl, _, _, rfl, _, _, rfl, _, _, rfl, rfl, w, G, E4, ?_, Same.refl G, q⟩
            rw [h3.eq, h2.eq, h1.eq]
            exact ((I.setSh r1).setSh r2).setSh r3
/-! ### isinstance of a datum with empty dicts -/
theorem RD.tyE {w : Addr → Option Nat} {σ : L2.St} {H G : Hp} {x : V} {r : Rs} {d : PD} (I : In X.K F w σ H G E) (h : RD E r d) (hn : ndE d = true) (v : RV X.K F w σ H G x r) : TyX X.K H x (.type (tyD d)) := by
  cases d with
  | dict es =>
    cases es with
    | cons _ _ => simp only [ndE] at hn; cases hn
    | nil =>
      have rp := h.rp I v
      cases rp with
      | dic hl hp0 =>
        cases hp0
        exact .fDict hl
  | none => exact h.ty I rfl v
  | bool b => exact h.ty I rfl v
  | int i => exact h.ty I rfl v
  | str z => exact h.ty I rfl v
  | list ds => exact h.ty I rfl v
  | tuple ds => exact h.ty I rfl v
theorem xe_isE {x : Str} {T : String} {p p2 : Pos} (hm : X.mg "isinstance" = none) (hv : bootBuiltins x = some (.type T)) (hmt : X.mg x = none) (h : XE X F a E fun E1 r => ∃ r' d b, Fz r r' ∧ RD E1 r' d ∧ ndE d = true ∧ kitB (tyD d) T = some b ∧ Φ E1 (.sh (.bool b))) (hg : Gl X "isinstance" := by rfl) (hgt : Gl X x := by rfl) (hn : x ≠ "__name__" := by decide) (hdb : (x == ("__debug__" : Str)) = false := by decide)
    (he : starEach [a, .Name x p2] X.env = (false, eval a X.env) :: starEach [.Name x p2] X.env := by rfl) (he2 : starEach [.Name x p2] X.env = (false, eval (.Name x p2) X.env) :: starEach [] X.env := by rfl) (hpl : (backTo pos (starEach [.Name x p2] X.env)).any (·.1) = false := by rfl) : XE X F (.Call (.Name "isinstance" p) [a, .Name x p2] [] pos) E Φ :=
  xe_of (pe_callB call_isi hg hm boot_isinstance (pa_cons (pe_tE (F := F)) (pa_cons (pe_bltn (v := .ty T) hgt hmt hv rfl hn hdb) pa_nil he2) he) (by decide) (by decide) he hpl) fun w σ H G I => tE_go I h fun v w1 H1 G1 E1 r I1 s1 rv ⟨r', d, b, f, hd, hnd, hk, q⟩ => by
    obtain ⟨G1', I1', s1', rv1'⟩ := f.go I1 rv
    exact ⟨v, .ty T, .type (tyD d), .type T, b, rfl, .ty T, hd.tyE I1' hnd rv1', kit_ty hk, ke I1' (s1.trans s1') (r := .sh (.bool b)) (.bl b) q⟩
def isTup : PD → Bool
  | .tuple _ => true
  | _ => false
def isB : PD → Bool
  | .bool _ => true
  | _ => false
def isI : PD → Bool
  | .bool _ => true
  | .int _ => true
  | _ => false
theorem kit_tup : ∀ d : PD, kitB (tyD d) "tuple" = some (isTup d)
  | .none => (by decide +kernel : kitB "NoneType" "tuple" = some false)
  | .bool _ => (by decide +kernel : kitB "bool" "tuple" = some false)
  | .int _ => (by decide +kernel : kitB "int" "tuple" = some false)
  | .str _ => (by decide +kernel : kitB "str" "tuple" = some false)
  | .list _ => (by decide +kernel : kitB "list" "tuple" = some false)
  | .tuple _ => (by decide +kernel : kitB "tuple" "tuple" = some true)
  | .dict _ => (by decide +kernel : kitB "dict" "tuple" = some false)
theorem kit_bool : ∀ d : PD, kitB (tyD d) "bool" = some (isB d)
  | .none => (by decide +kernel : kitB "NoneType" "bool" = some false)
  | .bool _ => (by decide +kernel : kitB "bool" "bool" = some true)
  | .int _ => (by decide +kernel : kitB "int" "bool" = some false)
  | .str _ => (by decide +kernel : kitB "str" "bool" = some false)
  | .list _ => (by decide +kernel : kitB "list" "bool" = some false)
  | .tuple _ => (by decide +kernel : kitB "tuple" "bool" = some false)
  | .dict _ => (by decide +kernel : kitB "dict" "bool" = some false)
theorem kit_int : ∀ d : PD, kitB (tyD d) "int" = some (isI d)
  | .none => (by decide +kernel : kitB "NoneType" "int" = some false)
  | .bool _ => (by decide +kernel : kitB "bool" "int" = some true)
  | .int _ => (by decide +kernel : kitB "int" "int" = some true)
  | .str _ => (by decide +kernel : kitB "str" "int" = some false)
  | .list _ => (by decide +kernel : kitB "list" "int" = some false)
  | .tuple _ => (by decide +kernel : kitB "tuple" "int" = some false)
  | .dict _ => (by decide +kernel : kitB "dict" "int" = some false)
end
end
end Bk

set_option maxHeartbeats 4000000
namespace Bk
open PySem PySem.Spec PyProof.Rows L2
section
variable {X : Cx} {F : Fm} {E : EnvB} {a b c d e : Expr} {es : List Expr} {pos p : Pos} {Φ : EnvB → Rs → Prop} {Ψ : EnvB → Bool → Prop} {r1 r2 : Rs}
/-! ### the truth of a datum -/
theorem xt_tru (h : XE X F a E fun E1 r => ∃ r' d, Fz r r' ∧ RD E1 r' d ∧ truOk d ∧ Ψ E1 (truD d)) (he : ∀ whole, isTrue a X.env whole = (do let v ← whole; standAt a.pos; holding [v] (truthy v)) := by intro _; rfl) : XT X F a E Ψ :=
  xt_of (pt_truth pe_tE he) fun w σ H G I => tE_go I h fun v w1 H1 G1 E1 r I1 s1 rv ⟨r', d, f, hd, ho, q⟩ => by
    obtain ⟨G1', I1', s1', rv1'⟩ := f.go I1 rv
    exact ⟨truD d, hd.tru I1' ho rv1', w1, G1', E1, I1', s1.trans s1', q⟩
/-! ### a op b op' c as a value -/
theorem xe_two2 {op op' : CmpOp} {r r' : R2} (ho : OpR X (compareOp op) r) (ho' : OpR X (compareOp op') r') (h : XE X F a E fun E1 r1 => ∃ d1, r1 = .sh d1 ∧ XE X F b E1 fun E2 r2 => ∃ d2, r2 = .sh d2 ∧ OpJ X F r E2 r1 r2 fun E3 r3 => ∃ k, r3 = .sh (.bool k) ∧
    (k = true → XE X F c E3 fun E4 r4 => ∃ d4, r4 = .sh d4 ∧ OpJ X F r' E4 r2 r4 Φ) ∧ (k = false → Φ E3 (.sh (.bool false))))
    (hm : lastMarks [op, op'] [b, c] = false := by with_unfolding_all rfl) : XE X F (.Compare a [op, op'] [b, c] pos) E Φ :=
  xe_of (pe_chain ho ho' pe_tE pe_tE pe_tE hm) fun w σ H G I => tE_go I h fun v1 w1 H1 G1 E1 r1 I1 s1 rv1 ⟨d1, e1, h1⟩ => by
    subst e1
    refine tE_go I1 h1 fun v2 w2 H2 G2 E2 r2 I2 s2 rv2 ⟨d2, e2, h2⟩ => ?_
    subst e2
    refine h2 w2 σ H2 G2 v1 v2 _ I2 (Fz.sh.keep s2 rv1) rv2 fun v H' ⟨w3, G3, E3, r3, I3, s3, rv3, k, e3, qt, qf⟩ => ?_
    subst e3
    have rv3 : Rp X.K G3 v (.bool k) := rv3
    cases rv3
    refine ⟨k, rfl, ?_⟩
    cases k with
    | false => exact ite_ff (ke I3 ((s1.trans s2).trans s3) (r := .sh (.bool false)) (.bl false) (qf rfl))
    | true =>
      refine ite_tt ?_
      refine tE_go I3 (qt rfl) fun v4 w4 H4 G4 E4 r4 I4 s4 rv4 ⟨d4, e4, h4⟩ => ?_
      subst e4
      exact h4 w4 σ H4 G4 v2 v4 _ I4 (Fz.sh.keep (s3.trans s4) rv2) rv4 fun v' H'' k => k.tr ((((s1.trans s2)).trans s3).trans s4)
/-! ### == and != with an empty tuple | list -/
def rEqT0 (K : PySem.W.Frag) : R2 := fun x y H Q => ∃ p q xs, x = .ref p ∧ y = .ref q ∧ SqT K H p xs ∧ SqT K H q [] ∧ Q (.bl xs.isEmpty) H
theorem op_eqT0 (hu : X.A.units + 64 < cLine) : OpR X (compareOp .Eq) (rEqT0 X.K) := by
  intro pins s σ H x y v u Q I rx ry h
  obtain ⟨p, q, xs, rfl, rfl, h1, h2, k⟩ := h
  cases (show v = Value.ref p from rx)
  cases (show u = Value.ref q from ry)
  obtain ⟨its, rv, t1, _⟩ := I.tuple h1
  obtain ⟨its2, rv2, t2, _⟩ := I.tuple h2
  cases rv2
  refine SeqAt.eq_tupleAt (e := fun _ => true) t1 t2 (by omega) (fun j h1 h2 => absurd h2 (Nat.not_lt_zero j)) ⟨.bl xs.isEmpty, H, I, ?_, k⟩
  cases rv with
  | nil => exact (rfl : Value.bool true = .bool true)
  | cons r1 rr => exact congrArg Value.bool (by simp)
theorem oj_eqT0 {ds : List PD} (h1 : RD E r1 (.tuple ds)) (h2 : RD E r2 (.tuple [])) (q : Φ E (.sh (.bool ds.isEmpty))) : OpJ X F (rEqT0 X.K) E r1 r2 Φ := fun w σ H G x y Q I rx ry kk => by
  obtain ⟨p, xs, rfl, hx, rx'⟩ := h1.tup I rx
  obtain ⟨p2, ys, rfl, hy, ry'⟩ := h2.tup I ry
  cases ry'
  refine ⟨p, p2, xs, rfl, rfl, sqT_mono I.sub hx, sqT_mono I.sub hy, kk _ _ (keB I ?_)⟩
  rw [rps_empty rx']
  exact q
def rNeL0 (K : PySem.W.Frag) : R2 := fun x y H Q => ∃ p q xs, x = .ref p ∧ y = .ref q ∧ SqL K H p xs ∧ SqL K H q [] ∧ Q (.bl (!xs.isEmpty)) H
theorem op_neL0 (hu : X.A.units + 64 < cLine) : OpR X (compareOp .NotEq) (rNeL0 X.K) := by
  intro pins s σ H x y v u Q I rx ry h
  obtain ⟨p, q, xs, rfl, rfl, h1, h2, k⟩ := h
  cases (show v = Value.ref p from rx)
  cases (show u = Value.ref q from ry)
  obtain ⟨its, rv, t1, _⟩ := I.list h1
  obtain ⟨its2, rv2, t2, _⟩ := I.list h2
  cases rv2
  cases rv with
  | nil => exact SeqAt.RcNeAt.lists (e := fun _ => true) t1.isList t2.isList rfl (by omega) (fun j h1 h2 => absurd h2 (Nat.not_lt_zero j)) _ _ _ _ ⟨.bl false, H, I, rfl, k⟩
  | cons r1 rr => exact SeqAt.RcNeAt.lists_lengths t1.isList t2.isList (by simp) (by omega) _ _ _ _ ⟨.bl true, H, I, rfl, k⟩
theorem oj_neL0 {ds : List PD} (h1 : RD E r1 (.list ds)) (h2 : RD E r2 (.list [])) (q : Φ E (.sh (.bool (!ds.isEmpty)))) : OpJ X F (rNeL0 X.K) E r1 r2 Φ := fun w σ H G x y Q I rx ry kk => by
  obtain ⟨p, xs, rfl, hx, rx'⟩ := h1.lst I rx
  obtain ⟨p2, ys, rfl, hy, ry'⟩ := h2.lst I ry
  cases ry'
  refine ⟨p, p2, xs, rfl, rfl, .inl (.inl hx), .inl (.inl hy), kk _ _ (keB I ?_)⟩
  rw [rps_empty rx']
  exact q
/-! ### max and min of a tuple of numbers -/
theorem max_ints {P : Program} {w : World} {A : Around} {Ex : Value → Shared → Prop} {s : Shared} {l : Addr} {its : List Value} {ns : List Int} {Q : Value → Shared → Prop} (hh : A.handled = none) (hl : s.heap.IsTuple l its.toArray) (hi : IntsAre its ns) (hne : 0 < ns.length)
    (h : ∀ h' tk M t', (∀ b o, s.heap.get? b = some o → h'.get? b = some o) → M ∈ ns → (∀ a, a ∈ ns → a ≤ M) → Q (.int M t') { s with heap := h', toks := tk }) : wpAny (model P w) A (call (.builtin "max") [.ref l]) Q Ex s := by
  obtain ⟨xs, e⟩ := hi.allInts.items
  have hn : numsOf (intItems xs).toList = ns := by rw [← e]; exact hi.numsOf
  rw [nums_intItems] at hn
  subst hn
  rw [e] at hl
  have hsz : 0 < xs.size := by simpa using hne
  have hlt : l < s.heap.objs.size := by obtain ⟨_, e, _⟩ := hl; exact Heap.lt_size e
  refine call_max_walk (wpAny_pyIter_tuple hl ⟨_, _, _, _, _, _, _, rfl, Walks.tuple (A := A.in1) hh _ l (Nat.ne_of_lt hlt) (intItems xs), ⟨⟨_, Heap.get?_push_size _ rfl, rfl, rfl⟩, hl.push _⟩, fun b hb => ?_, by simpa [intItems] using hsz, CmpOf.ints_gt (numAt xs) (fun _ _ => intItems_at), fun v h' tk hP hk => ?_⟩)
  · show b < (s.heap.push _).objs.size
    have : b = s.heap.objs.size ∨ b = l := by simpa using hb
    rw [Heap.size_push]
    rcases this with rfl | rfl
    · exact Nat.lt_succ_self _
    · exact Nat.lt_succ_of_lt hlt
  · obtain ⟨t, rfl⟩ := intItems_at (by simpa [intItems] using hP)
    obtain ⟨h1, h2⟩ := argBest_gt (numAt xs) (xs.size - 1)
    have h1 : argBest (fun i j => decide (numAt xs j < numAt xs i)) (xs.size - 1) ≤ xs.size - 1 := h1
    refine h h' tk _ t (fun b o e => hk b o (fun hm => ?_) (Heap.get?_push_of_some _ e)) ?_ fun a ha => ?_
    · rcases List.mem_cons.mp hm with e1 | hm
      · exact absurd (e1 ▸ Heap.lt_size e) (Nat.lt_irrefl _)
      · cases hm
    · rw [numAt_eq]; exact PySem.getD_mem (by rw [List.length_map, Array.length_toList]; omega)
    · obtain ⟨j, hj, rfl⟩ := mem_getD ha
      rw [List.length_map, Array.length_toList] at hj
      rw [← numAt_eq]; exact h2 j (by omega)
def rMaxT (K : PySem.W.Frag) : List V → Hp → VK → Prop := fun vs H Q => ∃ (a : Addr) (ns : List Int), vs = [V.ref a] ∧ SqT K H a (ns.map V.int) ∧ 0 < ns.length ∧ ∀ m, m ∈ ns → (∀ a, a ∈ ns → a ≤ m) → Q (.int m) H
theorem cr_maxT (hc : X.calm = true) : CallR X (.builtin "max") (rMaxT X.K) := by
  intro pins s σ H vs us Q I r h
  obtain ⟨a, ns, rfl, hs, hne, q⟩ := h
  obtain ⟨its, rv, hl, _⟩ := I.tuple hs
  rw [Vals.ref1 r]
  exact max_ints (I.ok.hd hc) hl rv.ints hne fun h' tk m t' hk h1 h2 => ⟨.int _, H, I.kept hk, ⟨_, rfl⟩, q m h1 h2⟩
theorem cj_maxT {r : Rs} {ns : List Int} (h : RD E r (.tuple (pI ns))) (hne : 0 < ns.length) (q : ∀ m, m ∈ ns → (∀ a, a ∈ ns → a ≤ m) → Φ E (.sh (.int m))) : CJ X F (rMaxT X.K) E [r] Φ := fun w σ H G vs Q I rvs kk => by
  obtain ⟨v, rfl, rv⟩ := rv_one (F := F) rvs
  obtain ⟨a, xs, rfl, hx, rx⟩ := h.tup I rv
  have ex : xs = ns.map V.int := Rps.ints rx
  subst ex
  exact ⟨a, ns, rfl, sqT_mono I.sub hx, hne, fun m h1 h2 => kk _ _ (keI I (q m h1 h2))⟩
theorem min_ints {P : Program} {w : World} {A : Around} {Ex : Value → Shared → Prop} {s : Shared} {l : Addr} {its : List Value} {ns : List Int} {Q : Value → Shared → Prop} (hh : A.handled = none) (hl : s.heap.IsTuple l its.toArray) (hi : IntsAre its ns) (hne : 0 < ns.length)
    (h : ∀ h' tk M t', (∀ b o, s.heap.get? b = some o → h'.get? b = some o) → M ∈ ns → (∀ a, a ∈ ns → M ≤ a) → Q (.int M t') { s with heap := h', toks := tk }) : wpAny (model P w) A (call (.builtin "min") [.ref l]) Q Ex s := by
  obtain ⟨xs, e⟩ := hi.allInts.items
  have hn : numsOf (intItems xs).toList = ns := by rw [← e]; exact hi.numsOf
  rw [nums_intItems] at hn
  subst hn
  rw [e] at hl
  have hsz : 0 < xs.size := by simpa using hne
  have hlt : l < s.heap.objs.size := by obtain ⟨_, e, _⟩ := hl; exact Heap.lt_size e
  refine call_min_walk (wpAny_pyIter_tuple hl ⟨_, _, _, _, _, _, _, rfl, Walks.tuple (A := A.in1) hh _ l (Nat.ne_of_lt hlt) (intItems xs), ⟨⟨_, Heap.get?_push_size _ rfl, rfl, rfl⟩, hl.push _⟩, fun b hb => ?_, by simpa [intItems] using hsz, CmpOf.ints_lt (numAt xs) (fun _ _ => intItems_at), fun v h' tk hP hk => ?_⟩)
  · show b < (s.heap.push _).objs.size
    have : b = s.heap.objs.size ∨ b = l := by simpa using hb
    rw [Heap.size_push]
    rcases this with rfl | rfl
    · exact Nat.lt_succ_self _
    · exact Nat.lt_succ_of_lt hlt
  · obtain ⟨t, rfl⟩ := intItems_at (by simpa [intItems] using hP)
    obtain ⟨h1, h2⟩ := argBest_lt (numAt xs) (xs.size - 1)
    refine h h' tk _ t (fun b o e => hk b o (fun hm => ?_) (Heap.get?_push_of_some _ e)) ?_ fun a ha => ?_
    · rcases List.mem_cons.mp hm with e1 | hm
      · exact absurd (e1 ▸ Heap.lt_size e) (Nat.lt_irrefl _)
      · cases hm
    · rw [numAt_eq]; exact PySem.getD_mem (by rw [List.length_map, Array.length_toList]; omega)
    · obtain ⟨j, hj, rfl⟩ := mem_getD ha
      rw [List.length_map, Array.length_toList] at hj
      rw [← numAt_eq]; exact h2 j (by omega)
def rMinT (K : PySem.W.Frag) : List V → Hp → VK → Prop := fun vs H Q => ∃ (a : Addr) (ns : List Int), vs = [V.ref a] ∧ SqT K H a (ns.map V.int) ∧ 0 < ns.length ∧ ∀ m, m ∈ ns → (∀ a, a ∈ ns → m ≤ a) → Q (.int m) H
theorem cr_minT (hc : X.calm = true) : CallR X (.builtin "min") (rMinT X.K) := by
  intro pins s σ H vs us Q I r h
  obtain ⟨a, ns, rfl, hs, hne, q⟩ := h
  obtain ⟨its, rv, hl, _⟩ := I.tuple hs
  rw [Vals.ref1 r]
  exact min_ints (I.ok.hd hc) hl rv.ints hne fun h' tk m t' hk h1 h2 => ⟨.int _, H, I.kept hk, ⟨_, rfl⟩, q m h1 h2⟩
theorem cj_minT {r : Rs} {ns : List Int} (h : RD E r (.tuple (pI ns))) (hne : 0 < ns.length) (q : ∀ m, m ∈ ns → (∀ a, a ∈ ns → m ≤ a) → Φ E (.sh (.int m))) : CJ X F (rMinT X.K) E [r] Φ := fun w σ H G vs Q I rvs kk => by
  obtain ⟨v, rfl, rv⟩ := rv_one (F := F) rvs
  obtain ⟨a, xs, rfl, hx, rx⟩ := h.tup I rv
  have ex : xs = ns.map V.int := Rps.ints rx
  subst ex
  exact ⟨a, ns, rfl, sqT_mono I.sub hx, hne, fun m h1 h2 => kk _ _ (keI I (q m h1 h2))⟩
/-! ### d.get(k, n) of a module's dict of numbers by texts -/
def tKGet (es : Array DictEntry) (ty tx : TE) : TE := fun σ H Q => ty σ H fun y H2 => ∃ z, y = .str z ∧ tx σ H2 fun x H3 => (∃ i t, findBy Value.isStrOf es z = some (.int i t) ∧ Q (.int i) H3) ∨ (findBy Value.isStrOf es z = none ∧ Q x H3)
theorem pe_kget2 {o f : Expr} {apos cpos : Pos} {ty tx : TE} {dd : Addr} {es : Array DictEntry} {n : Nat} (D : KDict X.K X.w dd es n) (ho : PE X o (tC (.ref dd))) (he : PE X e ty) (hf : PE X f tx) (m : M2 X o "get" apos e f cpos) : PE X (.Call (.Attribute o "get" apos) [e, f] [] cpos) (tKGet es ty tx) := by
  refine ⟨fun pins s σ H Q I h => ?_⟩
  refine wpAny_Call_method m.base m.few m.line PySem.F.plainAttrs_dict PySem.F.slot_dict_get PySem.F.type_dict_get (thn (ho.run pins s σ H (fun v H' => v = .ref dd ∧ H' = H) I ⟨rfl, rfl⟩) fun u s1 ⟨x, H1, I1, rx, ex, eH⟩ => ?_)
  subst ex eH
  obtain rfl : u = Value.ref dd := rx
  refine ⟨kd_type D I1, fun b q => ?_, ?_⟩
  · cases q
    exact ⟨_, I1.kIn _ _ D.at_, rfl⟩
  rw [m.trees]
  refine Calls.callWith_builtin rfl (Calls.evalArgs_plain (Calls.spliced_cons (thn (he.run pins s1 σ H1 _ I1 h) fun iv s2 ⟨y, H2, I2, ry, z, ey, q2⟩ =>
    Calls.spliced_cons (thn (hf.run pins s2 σ H2 _ I2 q2) fun fv s3 ⟨x, H3, I3, rz, q3⟩ => Calls.spliced_nil ?_))))
  subst ey
  obtain ⟨t, rfl⟩ := ry
  refine call_meetsIn PySem.F.slot_dict_get (kd_type D I3) PySem.F.entry_dict_get (PySem.F.args_dict_get_3 _ _ _) (meets_dict_get_default (strKind X.prog X.w) dd (PySem.strKind_is X.prog X.w z t) D.low fv) ⟨_, PySem.W.mapOf_K (prog := X.prog) I3.kIn D.at_ D.lit, ?_⟩
  rcases q3 with ⟨i, t', e1, q⟩ | ⟨e1, q⟩
  · rw [e1]
    exact ⟨.int i, H3, I3.tok _, ⟨t', rfl⟩, q⟩
  · rw [e1]
    exact ⟨x, H3, I3.tok _, rz, q⟩
theorem xe_kget {f : Expr} {x : Str} {apos : Pos} {dd : Addr} {es : Array DictEntry} {n : Nat} (val : Str → Option Int) (hm : X.mg x = some (.ref dd)) (D : KDict X.K X.w dd es n) (hv : ∀ z, (∃ i t, findBy Value.isStrOf es z = some (.int i t) ∧ val z = some i) ∨ (findBy Value.isStrOf es z = none ∧ val z = none))
    (h : XE X F e E fun E1 r => ∃ z, r = .sh (.str z) ∧ XE X F f E1 fun E2 r2 => ∃ n0 : Int, r2 = .sh (.int n0) ∧ Φ E2 (.sh (.int ((val z).getD n0)))) (hg : Gl X x := by rfl) (hd : (x == ("__debug__" : Str)) = false := by decide) (m : M2 X (.Name x p) "get" apos e f pos := by exact ⟨rfl, rfl, rfl, rfl⟩) : XE X F (.Call (.Attribute (.Name x p) "get" apos) [e, f] [] pos) E Φ :=
  xe_of (pe_kget2 D (pe_glob (v := .ref dd) hg hm rfl hd) pe_tE pe_tE m) fun w σ H G I => tE_go I h fun v w1 H1 G1 E1 r I1 s1 rv ⟨z, e1, h1⟩ => by
    subst e1
    obtain rfl := rvS rv
    refine ⟨z, rfl, tE_go I1 h1 fun v2 w2 H2 G2 E2 r2 I2 s2 rv2 ⟨n0, e2, q⟩ => ?_⟩
    subst e2
    obtain rfl := rvI rv2
    rcases hv z with ⟨i, t, e1, e2⟩ | ⟨e1, e2⟩
    · rw [e2] at q
      exact .inl ⟨i, t, e1, (keI I2 q).tr (s1.trans s2)⟩
    · rw [e2] at q
      exact .inr ⟨e1, (keI I2 q).tr (s1.trans s2)⟩
/-! ### {k: n, k: n, k: n}.get(k, n) -/
theorem xe_wget3 {f : Expr} {apos p0 p1 p2 p3 q1 q2 q3 : Pos} {k1 k2 k3 : Str} {v1 v2 v3 : Int} {j1 j2 j3 i1 i2 i3 : Nat} (val : Str → Option Int) (hu : X.A.units + 64 < cLine) (hv : ∀ z, valV (mergeK [] [(.inr k1, .int v1), (.inr k2, .int v2), (.inr k3, .int v3)]) (.inr z) = (val z).map V.int)
    (h : XE X F e E fun E1 r => ∃ z, r = .sh (.str z) ∧ XE X F f E1 fun E2 r2 => ∃ n0 : Int, r2 = .sh (.int n0) ∧ Φ E2 (.sh (.int ((val z).getD n0)))) (m : M2 X (.Dict [some (.Constant (.str k1) j1 p1), some (.Constant (.str k2) j2 p2), some (.Constant (.str k3) j3 p3)] [.Constant (.int v1) i1 q1, .Constant (.int v2) i2 q2, .Constant (.int v3) i3 q3] p0) "get" apos e f pos := by exact ⟨rfl, rfl, rfl, rfl⟩) :
    XE X F (.Call (.Attribute (.Dict [some (.Constant (.str k1) j1 p1), some (.Constant (.str k2) j2 p2), some (.Constant (.str k3) j3 p3)] [.Constant (.int v1) i1 q1, .Constant (.int v2) i2 q2, .Constant (.int v3) i3 q3] p0) "get" apos) [e, f] [] pos) E Φ :=
  xe_of (pe_dget2 (by omega) (pe_disp (pps_cons pe_str pe_int (pps_cons pe_str pe_int (pps_cons pe_str pe_int pps_nil))) rfl rfl (by simp) (by simp)) pe_tE pe_tE m) fun w σ H G I p hp => by
    obtain ⟨I0, s0⟩ := I.allocSh (o := .dK (mergeK [] [(.inr k1, .int v1), (.inr k2, .int v2), (.inr k3, .int v3)])) hp
    have eu : upd (upd H p (.dK [])) p (.dK (mergeK [] [(.inr k1, V.int v1), (.inr k2, .int v2), (.inr k3, .int v3)])) = upd H p (.dK (mergeK [] [(.inr k1, V.int v1), (.inr k2, .int v2), (.inr k3, .int v3)])) := by
      funext b
      unfold upd
      split <;> rfl
    refine ⟨upd_same, [(.inr k1, .int v1), (.inr k2, .int v2), (.inr k3, .int v3)], rfl, (show 3 ≤ 15 by decide), ?_⟩
    rw [eu]
    refine ⟨p, rfl, .inl ⟨_, .inl upd_same⟩, tE_go I0 h fun v w1 H1 G1 E1 r I1 s1 rv ⟨z, e1, h1⟩ => tE_go I1 h1 fun v2 w2 H2 G2 E2 r2 I2 s2 rv2 ⟨n0, e2, q⟩ => ?_⟩
    subst e1 e2
    obtain rfl := rvS rv
    obtain rfl := rvI rv2
    have hG : H2 p = some (.dK (mergeK [] [(.inr k1, .int v1), (.inr k2, .int v2), (.inr k3, .int v3)])) := I2.sub _ _ (s2 _ _ (s1 _ _ upd_same))
    refine ⟨_, DGet.k (k := .inr z) hG, ?_⟩
    rw [hv z]
    have e3 : ((val z).map V.int).getD (.int n0) = .int ((val z).getD n0) := by cases val z <;> rfl
    rw [e3]
    exact (keI I2 q).tr ((s0.trans s1).trans s2)
/-! ### a number or a truth, and a number -/
def numV : PD → Option Int
  | .int i => some i
  | .bool b => some (if b = true then 1 else 0)
  | _ => none
def rAddN : R2 := fun x y H Q => ∃ i j, (x = .int i ∨ ∃ k, x = .bl k ∧ i = if k = true then 1 else 0) ∧ y = .int j ∧ Q (.int (i + j)) H
def rSubN : R2 := fun x y H Q => ∃ i j, (x = .int i ∨ ∃ k, x = .bl k ∧ i = if k = true then 1 else 0) ∧ y = .int j ∧ Q (.int (i - j)) H
theorem op_addN2 : OpR X (binaryOp .Add) rAddN := by
  intro pins s σ H x y v u Q I rx ry h
  obtain ⟨i, j, hx, rfl, q⟩ := h
  rcases hx with rfl | ⟨k, rfl, rfl⟩
  · exact op_add pins s σ H _ _ v u Q I rx ry ⟨i, j, rfl, rfl, q⟩
  · obtain ⟨t, rfl⟩ := ry
    cases rx
    exact PySem.IntBool.add_bool_int ⟨.int _, H, I.tok _, ⟨_, rfl⟩, q⟩
theorem op_subN2 : OpR X (binaryOp .Sub) rSubN := by
  intro pins s σ H x y v u Q I rx ry h
  obtain ⟨i, j, hx, rfl, q⟩ := h
  rcases hx with rfl | ⟨k, rfl, rfl⟩
  · exact op_sub pins s σ H _ _ v u Q I rx ry ⟨i, j, rfl, rfl, q⟩
  · obtain ⟨t, rfl⟩ := ry
    cases rx
    exact PySem.IntBool.sub_bool_int ⟨.int _, H, I.tok _, ⟨_, rfl⟩, q⟩
theorem numV_of {G : Hp} {K : PySem.W.Frag} {d : PD} {i : Int} {x : V} (h : numV d = some i) (r : Rp K G x d) : x = .int i ∨ ∃ k, x = .bl k ∧ i = if k = true then 1 else 0 := by
  cases d with
  | int j => cases h; cases r; exact .inl rfl
  | bool b => cases h; cases r; exact .inr ⟨b, rfl, rfl⟩
  | _ => cases h
theorem oj_addN {d : PD} {i j : Int} (h : numV d = some i) (q : Φ E (.sh (.int (i + j)))) : OpJ X F rAddN E (.sh d) (.sh (.int j)) Φ := fun w σ H G x y Q I rx ry kk => by
  obtain rfl := rvI ry
  exact ⟨i, j, numV_of h rx, rfl, kk _ _ (keI I q)⟩
theorem oj_subN {d : PD} {i j : Int} (h : numV d = some i) (q : Φ E (.sh (.int (i - j)))) : OpJ X F rSubN E (.sh d) (.sh (.int j)) Φ := fun w σ H G x y Q I rx ry kk => by
  obtain rfl := rvI ry
  exact ⟨i, j, numV_of h rx, rfl, kk _ _ (keI I q)⟩
end
end Bk

set_option maxHeartbeats 4000000
namespace Bk
open PySem PySem.Spec PyProof.Rows L2

/-! ### readings over plain data: what a piece of a def makes of the slots -/
abbrev DX := EnvB → (EnvB → Rs → Prop) → Prop
abbrev DB := EnvB → (EnvB → Bool → Prop) → Prop
abbrev DAs := EnvB → (EnvB → List Rs → Prop) → Prop
abbrev DS := EnvB → Post → Prop
abbrev DI := EnvB → (EnvB → List PD → Prop) → Prop
abbrev DG := PD → EnvB → (EnvB → Prop) → Prop
abbrev DOp := PD → PD → (Rs → Prop) → Prop
abbrev DUn := PD → (Rs → Prop) → Prop
abbrev DOpt := EnvB → (EnvB → Option Int → Prop) → Prop
structure RE (X : Cx) (e : Expr) (t : DX) : Prop where go : ∀ {F E Φ}, t E Φ → XE X F e E Φ
structure RT (X : Cx) (e : Expr) (t : DB) : Prop where go : ∀ {F E Φ}, t E Φ → XT X F e E Φ
structure RW (X : Cx) (e : Expr) (t : DB) : Prop where go : ∀ {F E Φ}, t E Φ → XW X F e E Φ
structure RA (X : Cx) (es : List Expr) (t : DAs) : Prop where go : ∀ {F E Φ}, t E Φ → XA X F es E Φ
structure RKw (X : Cx) (es : List Keyword) (t : DAs) : Prop where go : ∀ {F E Φ}, t E Φ → XKw X F es E Φ
structure RS (X : Cx) (st : Stmt) (t : DS) : Prop where go : ∀ {F E Φ}, t E Φ → XS X F st E Φ
structure RSs (X : Cx) (st : List Stmt) (t : DS) : Prop where go : ∀ {F E Φ}, t E Φ → XSs X F st E Φ
structure RI (X : Cx) (tg iter : Expr) (t : DI) : Prop where go : ∀ {F E Φ}, t E Φ → XI X F tg iter E Φ
structure RG (X : Cx) (tg : Expr) (t : DG) : Prop where go : ∀ {F E d Φ}, t d E Φ → XG X F tg (.sh d) E Φ
structure RO (X : Cx) (e : Option Expr) (t : DOpt) : Prop where go : ∀ {F E Φ}, t E Φ → XO X F e E Φ

/-! slots -/
def slG : EnvB → Nat → Bd
  | [], _ => .un
  | b :: _, 0 => b
  | _ :: E, n + 1 => slG E n
def slP : EnvB → Nat → Bd → (EnvB → Prop) → Prop
  | [], _, _, _ => False
  | _ :: E, 0, b, k => k (b :: E)
  | a :: E, n + 1, b, k => slP E n b fun E' => k (a :: E')
theorem slG_ok : ∀ {E : EnvB} {i : Nat} {b : Bd}, slG E i = b → b ≠ .un → E[i]? = some b
  | [], _, _, h, n => absurd h.symm n
  | _ :: _, 0, _, h, _ => by rw [← h]; rfl
  | _ :: E, i + 1, _, h, n => by
    rw [List.getElem?_cons_succ]
    exact slG_ok (E := E) (i := i) h n
theorem slP_ok : ∀ {E : EnvB} {i : Nat} {b : Bd} {k : EnvB → Prop}, slP E i b k → ∃ E', SetE E i b E' ∧ k E'
  | [], _, _, _, h => h.elim
  | _ :: E, 0, b, _, h => ⟨b :: E, .hd, h⟩
  | a :: E, i + 1, b, k, h => by
    obtain ⟨E', s, q⟩ := slP_ok (E := E) (i := i) h
    exact ⟨a :: E', .tl s, q⟩
/-- what is handed on lives by itself -/
def fzK : Rs → (Rs → Prop) → Prop
  | .sh d, k => k (.sh d)
  | .br i, k => k (.br i)
  | .nw (.lst ds), k => k (.sh (.list ds))
  | .nw (.dic _), _ => False
  | .nw (.set _), _ => False
theorem fzK_ok {r : Rs} {k : Rs → Prop} (h : fzK r k) : ∃ r', Fz r r' ∧ k r' := by
  match r, h with
  | .sh d, h => exact ⟨_, .sh, h⟩
  | .br i, h => exact ⟨_, .br, h⟩
  | .nw (.lst ds), h => exact ⟨_, .nw, h⟩
/-- what a value reads as -/
def rdK (E : EnvB) : Rs → (PD → Prop) → Prop
  | .sh d, k => k d
  | .br i, k => match slG E i with
    | .ow (.lst ds) => k (.list ds)
    | .ib _ (.lst ds) => k (.list ds)
    | .ow (.dic es) => k (.dict (dK es))
    | .ib _ (.dic es) => k (.dict (dK es))
    | _ => False
  | .nw _, _ => False
theorem rdK_ok {E : EnvB} {r : Rs} {k : PD → Prop} (h : rdK E r k) : ∃ d, RX E r d ∧ k d := by
  match r, h with
  | .sh d, h => exact ⟨d, .inl .sh, h⟩
  | .br i, h =>
    have h : (match slG E i with
      | .ow (.lst ds) => k (.list ds)
      | .ib _ (.lst ds) => k (.list ds)
      | .ow (.dic es) => k (.dict (dK es))
      | .ib _ (.dic es) => k (.dict (dK es))
      | _ => False) := h
    split at h
    · exact ⟨_, .inl (.ow (slG_ok ‹_› (by simp))), h⟩
    · exact ⟨_, .inl (.ib (slG_ok ‹_› (by simp))), h⟩
    · exact ⟨_, .inr ⟨i, _, _, rfl, slG_ok ‹_› (by simp), rfl, rfl⟩, h⟩
    · exact ⟨_, .inr ⟨i, _, _, rfl, slG_ok ‹_› (by simp), rfl, rfl⟩, h⟩
    · exact h.elim
/-- loans given up -/
def fzsK : EnvB → List Rs → (EnvB → List PD → Prop) → Prop
  | E, [], k => k E []
  | E, .sh d :: rs, k => fzsK E rs fun E' ds => k E' (d :: ds)
  | E, .br i :: rs, k => match slG E i with
    | .ow (.lst xs) => slP E i (.sh (.list xs)) fun E1 => fzsK E1 rs fun E' ds => k E' (.list xs :: ds)
    | .sh d => fzsK E rs fun E' ds => k E' (d :: ds)
    | _ => False
  | _, .nw _ :: _, _ => False
theorem fzsK_ok : ∀ {rs : List Rs} {E : EnvB} {k : EnvB → List PD → Prop}, fzsK E rs k → ∃ E' ds, Fzs E rs E' ds ∧ k E' ds
  | [], E, k, h => ⟨E, [], .nil, h⟩
  | .sh d :: rs, E, k, h => by
    obtain ⟨E', ds, f, q⟩ := fzsK_ok (rs := rs) h
    exact ⟨E', _, .sh f, q⟩
  | .br i :: rs, E, k, h => by
    unfold fzsK at h
    split at h
    · obtain ⟨E1, s, h⟩ := slP_ok h
      obtain ⟨E', ds, f, q⟩ := fzsK_ok (rs := rs) h
      exact ⟨E', _, .ow (slG_ok ‹_› (by simp)) s f, q⟩
    · obtain ⟨E', ds, f, q⟩ := fzsK_ok (rs := rs) h
      exact ⟨E', _, .br (slG_ok ‹_› (by simp)) f, q⟩
    · exact h.elim
/-- slot i takes r; S: a new list is frozen at once -/
def asgK (S : Bool) (E : EnvB) (i : Nat) : Rs → (EnvB → Prop) → Prop
  | .sh d, k => slP E i (.sh d) k
  | .nw (.lst ds), k => if S = true then slP E i (.sh (.list ds)) k else slP E i (.ow (.lst ds)) k
  | .nw (.dic es), k => slP E i (.ow (.dic es)) k
  | .nw (.set xs), k => slP E i (.ow (.set xs)) k
  | .br j, k => match slG E j with
    | .ow (.lst ds) => slP E j (.sh (.list ds)) fun E1 => slP E1 i (.sh (.list ds)) k
    | _ => False
theorem asgK_ok {S : Bool} {E : EnvB} {i : Nat} {r : Rs} {k : EnvB → Prop} (h : asgK S E i r k) : ∃ E', AsgE E i r E' ∧ k E' := by
  match r, h with
  | .sh d, h =>
    obtain ⟨E1, s, h⟩ := slP_ok h
    exact ⟨E1, .sh s, h⟩
  | .nw (.lst ds), h =>
    have h : (if S = true then slP E i (.sh (.list ds)) k else slP E i (.ow (.lst ds)) k) := h
    split at h
    · obtain ⟨E1, s, h⟩ := slP_ok h
      exact ⟨E1, .nwS s, h⟩
    · obtain ⟨E1, s, h⟩ := slP_ok h
      exact ⟨E1, .nw s, h⟩
  | .nw (.dic ds), h =>
    obtain ⟨E1, s, h⟩ := slP_ok h
    exact ⟨E1, .nw s, h⟩
  | .nw (.set xs), h =>
    obtain ⟨E1, s, h⟩ := slP_ok h
    exact ⟨E1, .nw s, h⟩
  | .br j, h =>
    have h : (match slG E j with
      | .ow (.lst ds) => slP E j (.sh (.list ds)) fun E1 => slP E1 i (.sh (.list ds)) k
        | _ => False) := h
    split at h
    · obtain ⟨E1, s, h⟩ := slP_ok h
      obtain ⟨E2, s2, h⟩ := slP_ok h
      exact ⟨E2, .br (slG_ok ‹_› (by simp)) s s2, h⟩
    · exact h.elim
/-- the object of slot i, to be changed -/
def ocG : Bd → Option Oc := Bd.oc
def ownK (E : EnvB) (r : Rs) (k : Nat → Oc → Prop) : Prop := match r with
  | .br i => match slG E i with
    | .ow o => k i o
    | .ib _ o => k i o
    | _ => False
  | _ => False
def putK' (E : EnvB) (i : Nat) (o : Oc) (k : EnvB → Prop) : Prop := match slG E i with
  | .ow _ => slP E i (.ow o) k
  | .ib j _ => slP E i (.ib j o) k
  | _ => False
theorem ownK_ok {E : EnvB} {r : Rs} {k : Nat → Oc → Prop} (h : ownK E r k) : ∃ i b o, r = .br i ∧ E[i]? = some b ∧ b.oc = some o ∧ k i o := by
  unfold ownK at h
  split at h
  · split at h
    · exact ⟨_, _, _, rfl, slG_ok ‹_› (by simp), rfl, h⟩
    · exact ⟨_, _, _, rfl, slG_ok ‹_› (by simp), rfl, h⟩
    · exact h.elim
  · exact h.elim
theorem putK_ok {E : EnvB} {i : Nat} {o : Oc} {k : EnvB → Prop} (h : putK' E i o k) : ∃ b o0 E', E[i]? = some b ∧ b.oc = some o0 ∧ SetE E i (b.put o) E' ∧ k E' := by
  unfold putK' at h
  split at h
  · next o0 hh =>
    obtain ⟨E1, s, h⟩ := slP_ok h
    exact ⟨.ow o0, _, E1, slG_ok hh (by simp), rfl, s, h⟩
  · next j o0 hh =>
    obtain ⟨E1, s, h⟩ := slP_ok h
    exact ⟨.ib j o0, _, E1, slG_ok hh (by simp), rfl, s, h⟩
  · exact h.elim
def bK : Rs → (Bool → Prop) → Prop
  | .sh (.bool b), k => k b
  | _, _ => False
theorem bK_ok {r : Rs} {k : Bool → Prop} (h : bK r k) : ∃ b, r = .sh (.bool b) ∧ k b := by
  unfold bK at h
  split at h
  · exact ⟨_, rfl, h⟩
  · exact h.elim
def iK : PD → (Int → Prop) → Prop
  | .int i, k => k i
  | _, _ => False
theorem iK_ok {d : PD} {k : Int → Prop} (h : iK d k) : ∃ i, d = .int i ∧ k i := by
  unfold iK at h
  split at h
  · exact ⟨_, rfl, h⟩
  · exact h.elim
def shK : Rs → (PD → Prop) → Prop
  | .sh d, k => k d
  | _, _ => False
theorem shK_ok {r : Rs} {k : PD → Prop} (h : shK r k) : ∃ d, r = .sh d ∧ k d := by
  unfold shK at h
  split at h
  · exact ⟨_, rfl, h⟩
  · exact h.elim

/-! ### expressions -/
def dVar (i : Nat) : DX := fun E Φ => match slG E i with
  | .sh d => Φ E (.sh d)
  | .ow _ => Φ E (.br i)
  | .ib _ _ => Φ E (.br i)
  | .un => False
def dC (d : PD) : DX := fun E Φ => Φ E (.sh d)
def dBin (o : DOp) (ta tb : DX) : DX := fun E Φ => ta E fun E1 r1 => fzK r1 fun r1 => tb E1 fun E2 r2 => fzK r2 fun r2 => rdK E2 r1 fun d1 => rdK E2 r2 fun d2 => o d1 d2 (Φ E2)
structure ROp (X : Cx) (r : R2) (o : DOp) : Prop where go : ∀ {F E r1 r2 d1 d2 Φ}, RX E r1 d1 → RX E r2 d2 → o d1 d2 (Φ E) → OpJ X F r E r1 r2 Φ
section
variable {X : Cx} {a b c e : Expr} {es : List Expr} {pos : Pos} {x : Str} {ta tb tc : DX} {o o' : DOp}
theorem re_var {i : Nat} (hN : X.N[i]? = some x := by rfl) (hv : Vis X.env.scope x := by first | exact Or.inl rfl | exact Or.inr (Or.inl rfl) | exact Or.inr (Or.inr rfl))
    (hd : (x == ("__debug__" : Str)) = false := by decide) (hcd : (x == ("__classdict__" : Str)) = false := by decide) : RE X (.Name x pos) (dVar i) := ⟨fun {F E Φ} h => by
  unfold dVar at h
  split at h
  · exact xe_var (slG_ok ‹_› (by simp)) h hN hv hd hcd
  · exact xe_own (slG_ok ‹_› (by simp)) h hN hv hd hcd
  · exact xe_lent (slG_ok ‹_› (by simp)) h hN hv hd hcd
  · exact h.elim⟩
theorem re_int {i : Int} {j p} : RE X (.Constant (.int i) j p) (dC (.int i)) := ⟨fun h => xe_int h⟩
theorem re_str {i : Str} {j p} : RE X (.Constant (.str i) j p) (dC (.str i)) := ⟨fun h => xe_str h⟩
theorem re_bl {i : Bool} {j p} : RE X (.Constant (.bool i) j p) (dC (.bool i)) := ⟨fun h => xe_bl h⟩
theorem re_non {j p} : RE X (.Constant .none j p) (dC .none) := ⟨fun h => xe_non h⟩
theorem re_gint {n : Int} {t : Tok} (hm : X.mg x = some (.int n t)) (hg : Gl X x := by rfl) (hd : (x == ("__debug__" : Str)) = false := by decide) : RE X (.Name x pos) (dC (.int n)) := ⟨fun h => xe_gint hm h hg hd⟩
theorem re_gstr {n : Str} {t : Tok} (hm : X.mg x = some (.str n t)) (hg : Gl X x := by rfl) (hd : (x == ("__debug__" : Str)) = false := by decide) : RE X (.Name x pos) (dC (.str n)) := ⟨fun h => xe_gstr hm h hg hd⟩
theorem dBin_ok {F : Fm} {E : EnvB} {Φ : EnvB → Rs → Prop} {r : R2} (hr : ROp X r o) (ha : RE X a ta) (hb : RE X b tb) (h : dBin o ta tb E Φ) : XE X F a E fun E1 r1 => ∃ r1', Fz r1 r1' ∧ XE X F b E1 fun E2 r2 => ∃ r2', Fz r2 r2' ∧ OpJ X F r E2 r1' r2' Φ :=
  xe_cut (ha.go h) fun E1 r1 h => by
    obtain ⟨r1', f1, h⟩ := fzK_ok h
    refine ⟨r1', f1, xe_cut (hb.go h) fun E2 r2 h => ?_⟩
    obtain ⟨r2', f2, h⟩ := fzK_ok h
    obtain ⟨d1, h1, h⟩ := rdK_ok h
    obtain ⟨d2, h2, h⟩ := rdK_ok h
    exact ⟨r2', f2, hr.go h1 h2 h⟩
theorem re_bin {op : Operator} {r : R2} (ho : OpR X (binaryOp op) r) (hr : ROp X r o) (ha : RE X a ta) (hb : RE X b tb) : RE X (.BinOp a op b pos) (dBin o ta tb) := ⟨fun h => xe_bin ho (dBin_ok hr ha hb h)⟩
theorem re_cmp {op : CmpOp} {r : R2} (ho : OpR X (compareOp op) r) (hr : ROp X r o) (ha : RE X a ta) (hb : RE X b tb) (hm : behindInMarks op b = false := by first | exact nomark _ | rfl) : RE X (.Compare a [op] [b] pos) (dBin o ta tb) := ⟨fun h => xe_cmp ho (dBin_ok hr ha hb h) hm⟩
/-- the value of a test -/
def dTst (t : DX) : DB := fun E Ψ => t E fun E1 r => bK r (Ψ E1)
theorem rt_cmp {op : CmpOp} {r : R2} (ho : OpR X (compareOp op) r) (hr : ROp X r o) (ha : RE X a ta) (hb : RE X b tb) (hm : behindInMarks op b = false := by first | exact nomark _ | rfl) : RT X (.Compare a [op] [b] pos) (dTst (dBin o ta tb)) := ⟨fun h => xt_cmp ho (xe_cut (dBin_ok (Φ := fun E3 r3 => bK r3 _) hr ha hb h) fun E1 r1 ⟨r1', f1, h⟩ => ⟨r1', f1, xe_cut h fun E2 r2 ⟨r2', f2, h⟩ => ⟨r2', f2, fun w σ H G x y Q I a b k => h w σ H G x y Q I a b fun v H' ⟨w', G', E', r, z1, z2, z3, z4⟩ => k v H' ⟨w', G', E', r, z1, z2, z3, bK_ok z4⟩⟩⟩) hm⟩
theorem rt_val (h : RE X e ta) (he : ∀ whole, isTrue e X.env whole = (do let v ← whole; standAt e.pos; holding [v] (truthy v)) := by intro _; rfl) : RT X e (dTst ta) := ⟨fun q => xt_val (xe_cut (h.go q) fun _ _ z => bK_ok z) he⟩
/-- truth of data -/
def dTru (t : DX) : DB := fun E Ψ => t E fun E1 r => fzK r fun r' => rdK E1 r' fun d => truOk d ∧ Ψ E1 (truD d)
theorem rt_tru (h : RE X e ta) (he : ∀ whole, isTrue e X.env whole = (do let v ← whole; standAt e.pos; holding [v] (truthy v)) := by intro _; rfl) : RT X e (dTru ta) := ⟨fun q => xt_tru (xe_cut (h.go q) fun E1 r z => by
  obtain ⟨r', f, z⟩ := fzK_ok z
  obtain ⟨d, rd, z⟩ := rdK_ok z
  exact ⟨r', d, f, rd.rd (by have := z.1; cases d <;> first | rfl | exact this.elim), z⟩) he⟩
def dNot (t : DB) : DB := fun E Ψ => t E fun E1 k => Ψ E1 (!k)
theorem rt_not {t : DB} (h : RT X a t) : RT X (.UnaryOp .Not a pos) (dNot t) := ⟨fun q => xt_not (h.go q)⟩
theorem rt_w {t : DB} (h : RW X e t) : RT X e t := ⟨fun q => xt_w (h.go q)⟩
theorem rw_and1 {t : DB} (h : RT X a t) : RW X (.BoolOp .And [a] pos) t := ⟨fun q => xw_and1 (h.go q)⟩
theorem rw_or1 {t : DB} (h : RT X a t) : RW X (.BoolOp .Or [a] pos) t := ⟨fun q => xw_or1 (h.go q)⟩
def dAnd (t u : DB) : DB := fun E Ψ => t E fun E1 k => (k = true → u E1 Ψ) ∧ (k = false → Ψ E1 false)
def dOr (t u : DB) : DB := fun E Ψ => t E fun E1 k => (k = true → Ψ E1 true) ∧ (k = false → u E1 Ψ)
theorem rw_and {t u : DB} (h : RT X a t) (h2 : RW X (.BoolOp .And (b :: es) pos) u) : RW X (.BoolOp .And (a :: b :: es) pos) (dAnd t u) := ⟨fun q => xw_and (xt_cut (h.go q) fun E1 k ⟨z1, z2⟩ => ⟨fun e => h2.go (z1 e), z2⟩)⟩
theorem rw_or {t u : DB} (h : RT X a t) (h2 : RW X (.BoolOp .Or (b :: es) pos) u) : RW X (.BoolOp .Or (a :: b :: es) pos) (dOr t u) := ⟨fun q => xw_or (xt_cut (h.go q) fun E1 k ⟨z1, z2⟩ => ⟨z1, fun e => h2.go (z2 e)⟩)⟩
def dIfe (t : DB) (ta tb : DX) : DX := fun E Φ => t E fun E1 k => (k = true → ta E1 Φ) ∧ (k = false → tb E1 Φ)
theorem re_ife {t : DB} (h : RT X c t) (ha : RE X a ta) (hb : RE X b tb) : RE X (.IfExp c a b pos) (dIfe t ta tb) := ⟨fun q => xe_ife (xt_cut (h.go q) fun E1 k ⟨z1, z2⟩ => ⟨fun e => ha.go (z1 e), fun e => hb.go (z2 e)⟩)⟩
def dNotV (t : DX) : DX := fun E Φ => t E fun E1 r => bK r fun k => Φ E1 (.sh (.bool (!k)))
theorem re_notV (h : RE X a ta) : RE X (.UnaryOp .Not a pos) (dNotV ta) := ⟨fun q => xe_notV (xe_cut (h.go q) fun _ _ z => bK_ok z)⟩
theorem re_one {op} (h : RE X a ta) : RE X (.BoolOp op [a] pos) ta := ⟨fun q => xe_one (h.go q)⟩
def dAndV (t u : DX) : DX := fun E Φ => t E fun E1 r => bK r fun k => (k = true → u E1 Φ) ∧ (k = false → Φ E1 (.sh (.bool false)))
def dOrV (t u : DX) : DX := fun E Φ => t E fun E1 r => bK r fun k => (k = true → Φ E1 (.sh (.bool true))) ∧ (k = false → u E1 Φ)
theorem re_andV (h : RE X a ta) (h2 : RE X (.BoolOp .And (b :: es) pos) tb) : RE X (.BoolOp .And (a :: b :: es) pos) (dAndV ta tb) := ⟨fun q => xe_andV (xe_cut (h.go q) fun E1 r z => by
  obtain ⟨k, e, z1, z2⟩ := bK_ok z
  exact ⟨k, e, fun e => h2.go (z1 e), z2⟩)⟩
theorem re_orV (h : RE X a ta) (h2 : RE X (.BoolOp .Or (b :: es) pos) tb) : RE X (.BoolOp .Or (a :: b :: es) pos) (dOrV ta tb) := ⟨fun q => xe_orV (xe_cut (h.go q) fun E1 r z => by
  obtain ⟨k, e, z1, z2⟩ := bK_ok z
  exact ⟨k, e, z1, fun e => h2.go (z2 e)⟩)⟩
/-- a < b < c: b's value is b's, c is looked at if the first holds -/
def dTwo (o o' : DOp) (ta tb tc : DX) : DX := fun E Φ => ta E fun E1 r1 => shK r1 fun d1 => tb E1 fun E2 r2 => shK r2 fun d2 => o d1 d2 fun r3 => bK r3 fun k => (k = true → tc E2 fun E4 r4 => shK r4 fun d4 => o' d2 d4 (Φ E4)) ∧ (k = false → Φ E2 (.sh (.bool false)))
theorem oj_imp {F : Fm} {r : R2} {E : EnvB} {r1 r2 : Rs} {Φ Φ' : EnvB → Rs → Prop} (h : OpJ X F r E r1 r2 Φ) (q : ∀ E r, Φ E r → Φ' E r) : OpJ X F r E r1 r2 Φ' := fun w σ H G x y Q I a b k =>
  h w σ H G x y Q I a b fun v H' ⟨w', G', E', r, z1, z2, z3, z4⟩ => k v H' ⟨w', G', E', r, z1, z2, z3, q _ _ z4⟩
/-- an operation leaves the slots -/
theorem ROp.at {r : R2} (hr : ROp X r o) {F : Fm} {E : EnvB} {r1 r2 : Rs} {d1 d2 : PD} {k : Rs → Prop} {Φ : EnvB → Rs → Prop} (h1 : RX E r1 d1) (h2 : RX E r2 d2) (h : o d1 d2 k) (q : ∀ r, k r → Φ E r) : OpJ X F r E r1 r2 Φ := by
  refine oj_imp (hr.go (Φ := fun E3 r3 => E3 = E ∧ k r3) h1 h2 ?_) fun E3 r3 ⟨z1, z2⟩ => z1 ▸ q r3 z2
  have : (fun r3 => E = E ∧ k r3) = k := by funext r3; simp
  rw [this]
  exact h
theorem re_two {op op' : CmpOp} {r r' : R2} (ho : OpR X (compareOp op) r) (ho' : OpR X (compareOp op') r') (hr : ROp X r o) (hr' : ROp X r' o') (ha : RE X a ta) (hb : RE X b tb) (hc : RE X c tc)
    (hm : lastMarks [op, op'] [b, c] = false := by with_unfolding_all rfl) : RE X (.Compare a [op, op'] [b, c] pos) (dTwo o o' ta tb tc) := ⟨fun {F E Φ} h => xe_two2 ho ho' (xe_cut (ha.go h) fun E1 r1 h => by
  obtain ⟨d1, rfl, h⟩ := shK_ok h
  refine ⟨d1, rfl, xe_cut (hb.go h) fun E2 r2 h => ?_⟩
  obtain ⟨d2, rfl, h⟩ := shK_ok h
  refine ⟨d2, rfl, hr.at (.inl .sh) (.inl .sh) h fun r3 z => ?_⟩
  obtain ⟨k, e, z1, z2⟩ := bK_ok z
  refine ⟨k, e, fun hk => xe_cut (hc.go (z1 hk)) fun E4 r4 z => ?_, z2⟩
  obtain ⟨d4, rfl, z⟩ := shK_ok z
  exact ⟨d4, rfl, hr'.go (.inl .sh) (.inl .sh) z⟩) hm⟩
end
end Bk

set_option maxHeartbeats 4000000
namespace Bk
open PySem PySem.Spec PyProof.Rows L2

/-! ### operations on data -/
def oAdd : DOp := fun a b k => match a, b with
  | .int i, .int j => k (.sh (.int (i + j)))
  | .str x, .str y => x.length + y.length ≤ 100000 ∧ k (.sh (.str (x ++ y)))
  | .list x, .list y => x.length + y.length ≤ 100000 ∧ k (.nw (.lst (x ++ y)))
  | .tuple x, .tuple y => x.length + y.length ≤ 100000 ∧ k (.sh (.tuple (x ++ y)))
  | _, _ => False
def oSub : DOp := fun a b k => match a, b with
  | .int i, .int j => k (.sh (.int (i - j)))
  | _, _ => False
def oMul : DOp := fun a b k => match a, b with
  | .int i, .int j => MulOk i j ∧ k (.sh (.int (i * j)))
  | .list [d], .int n => (-100000 ≤ n ∧ n ≤ 100000) ∧ k (.nw (.lst (List.replicate n.toNat d)))
  | _, _ => False
def oMulT : DOp := fun a b k => match a, b with
  | .tuple [d], .int n => (-1000 ≤ n ∧ n ≤ 1000) ∧ k (.sh (.tuple (List.replicate n.toNat d)))
  | _, _ => False
def oMulS : DOp := fun a b k => match a, b with
  | .str z, .int n => ∃ c m : Nat, z = ⟨#[c]⟩ ∧ n = m ∧ m ≤ 100000 ∧ k (.sh (.str ⟨(List.replicate m c).toArray⟩))
  | _, _ => False
def oDiv : DOp := fun a b k => match a, b with
  | .int i, .int j => (0 < j ∧ j.natAbs.log2 < 9000) ∧ k (.sh (.int (i / j)))
  | _, _ => False
def oDivN : DOp := fun a b k => match a, b with
  | .int i, .int j => (j ≠ 0 ∧ j.natAbs.log2 < 9000) ∧ k (.sh (.int (i.fdiv j)))
  | _, _ => False
def oMod : DOp := fun a b k => match a, b with
  | .int i, .int j => 0 < j ∧ k (.sh (.int (i % j)))
  | _, _ => False
def oModN : DOp := fun a b k => match a, b with
  | .int i, .int j => j ≠ 0 ∧ k (.sh (.int (i.fmod j)))
  | _, _ => False
def oPow : DOp := fun a b k => match a, b with
  | .int i, .int j => CPow i j ∧ k (.sh (.int (i ^ j.toNat)))
  | _, _ => False
def oCmp (g : Int → Int → Bool) : DOp := fun a b k => match a, b with
  | .int i, .int j => k (.sh (.bool (g i j)))
  | _, _ => False
abbrev oLt := oCmp fun i j => decide (i < j)
abbrev oLe := oCmp fun i j => decide (i ≤ j)
abbrev oGt := oCmp fun i j => decide (j < i)
abbrev oGe := oCmp fun i j => decide (j ≤ i)
/-- what == asks of data that are no numbers, no texts -/
structure EqOk (d : PD) : Prop where
  n : nd d = true
  s : SeqAt.shaped d = true
def oEq : DOp := fun a b k => match a, b with
  | .int i, .int j => k (.sh (.bool (decide (i = j))))
  | .str i, .str j => k (.sh (.bool (decide (i = j))))
  | a, b => EqOk a ∧ EqOk b ∧ k (.sh (.bool (PyData.eqv a b)))
def oNe : DOp := fun a b k => match a, b with
  | .int i, .int j => k (.sh (.bool (!decide (i = j))))
  | .str i, .str j => k (.sh (.bool (!decide (i = j))))
  | a, b => EqOk a ∧ EqOk b ∧ k (.sh (.bool (!PyData.eqv a b)))
def oIsN : DOp := fun a b k => match b with
  | .none => k (.sh (.bool (isNo a)))
  | _ => False
def oNotN : DOp := fun a b k => match b with
  | .none => k (.sh (.bool (!isNo a)))
  | _ => False
/-- == of numbers, truths, texts, None -/
def eqW : PD → PD → Bool
  | .int i, .int j => decide (i = j)
  | .str i, .str j => decide (i = j)
  | .none, .none => true
  | .bool i, .bool j => decide (i = j)
  | .bool a, .int b => decide ((if a then 1 else 0) = b)
  | .int a, .bool b => decide (a = (if b then 1 else 0))
  | _, _ => false
def inW (d : PD) (ds : List PD) : Bool := ds.any fun e => eqW e d
/-- the value at a key -/
def kLook (es : List (PD × PD)) (d : PD) : Option PD := (es.find? fun p => eqF p.1 d).map (·.2)
def hasK (es : List (PD × PD)) (d : PD) : Bool := es.any fun p => eqF p.1 d
def keyD : PD → Bool
  | .int _ => true
  | .str _ => true
  | _ => false
def oIn (neg : Bool) : DOp := fun a b k => match b with
  | .list ds => flatD a = true ∧ ds.all flatD = true ∧ k (.sh (.bool (if neg then !inW a ds else inW a ds)))
  | .tuple ds => flatD a = true ∧ ds.all flatD = true ∧ k (.sh (.bool (if neg then !inW a ds else inW a ds)))
  | .dict es => (∃ fs, es = dK fs) ∧ keyD a = true ∧ k (.sh (.bool (if neg then !hasK es a else hasK es a)))
  | .str z => ∃ c : Nat, a = .str ⟨#[c]⟩ ∧ k (.sh (.bool (if neg then !decide (c ∈ z.cps.toList) else decide (c ∈ z.cps.toList))))
  | _ => False
def oIx : DOp := fun a b k => match a, b with
  | .list ds, .int i => ∃ d, atI ds i = some d ∧ k (.sh d)
  | .tuple ds, .int i => ∃ d, atI ds i = some d ∧ k (.sh d)
  | .str z, .int i => z.length ≤ 100000 ∧ ∃ c, atI z.cps.toList i = some c ∧ k (.sh (.str ⟨#[c]⟩))
  | .dict es, b => (∃ fs, es = dK fs) ∧ keyD b = true ∧ ∃ d, kLook es b = some d ∧ k (.sh d)
  | _, _ => False

section
variable {X : Cx}
theorem rd_int {E : EnvB} {r : Rs} {i : Int} (h : RX E r (.int i)) : r = .sh (.int i) := by cases h.rd rfl; rfl
theorem rd_str {E : EnvB} {r : Rs} {i : Str} (h : RX E r (.str i)) : r = .sh (.str i) := by cases h.rd rfl; rfl
theorem rd_non {E : EnvB} {r : Rs} (h : RX E r .none) : r = .sh .none := by cases h.rd rfl; rfl
theorem nd_dic {d : PD} (h : nd d = true) : isDic d = false := by cases d <;> first | rfl | (simp [nd] at h)
theorem ndE_scr : ndE (.dict [(.none, .list [])]) = false := rfl
theorem rop_add : ROp X (rAdd X.K) oAdd := ⟨fun {F E r1 r2 d1 d2 Φ} h1 h2 h => by
  unfold oAdd at h
  split at h
  · cases rd_int h1; cases rd_int h2; exact oj_addI h
  · cases rd_str h1; cases rd_str h2; exact oj_addS h.1 h.2
  · exact oj_addL (h1.rd rfl) (h2.rd rfl) h.1 h.2
  · exact oj_addT (h1.rd rfl) (h2.rd rfl) h.1 h.2
  · exact h.elim⟩
theorem rop_sub : ROp X rSub oSub := ⟨fun {F E r1 r2 d1 d2 Φ} h1 h2 h => by
  unfold oSub at h
  split at h
  · cases rd_int h1; cases rd_int h2; exact oj_subI h
  · exact h.elim⟩
theorem rop_mul : ROp X (rMul X.K) oMul := ⟨fun {F E r1 r2 d1 d2 Φ} h1 h2 h => by
  unfold oMul at h
  split at h
  · cases rd_int h1; cases rd_int h2; exact oj_mulI h.1 h.2
  · cases rd_int h2; exact oj_repL (h1.rd rfl) h.1 h.2
  · exact h.elim⟩
theorem rop_mulT : ROp X (rOr (rRep01 X.K) (rRepT X.K)) oMulT := ⟨fun {F E r1 r2 d1 d2 Φ} h1 h2 h => by
  unfold oMulT at h
  split at h
  · cases rd_int h2; exact oj_mulT (h1.rd rfl) h.1 h.2
  · exact h.elim⟩
theorem rop_mulS : ROp X rMulS oMulS := ⟨fun {F E r1 r2 d1 d2 Φ} h1 h2 h => by
  unfold oMulS at h
  split at h
  · cases rd_int h2; cases rd_str h1
    obtain ⟨c, m, rfl, rfl, hm, h⟩ := h
    exact oj_mulS hm h
  · exact h.elim⟩
theorem rop_div : ROp X rDiv oDiv := ⟨fun {F E r1 r2 d1 d2 Φ} h1 h2 h => by
  unfold oDiv at h
  split at h
  · cases rd_int h1; cases rd_int h2; exact oj_divP h.1 h.2
  · exact h.elim⟩
theorem rop_divN : ROp X rDiv oDivN := ⟨fun {F E r1 r2 d1 d2 Φ} h1 h2 h => by
  unfold oDivN at h
  split at h
  · cases rd_int h1; cases rd_int h2; exact oj_divN h.1 h.2
  · exact h.elim⟩
theorem rop_mod : ROp X rMod oMod := ⟨fun {F E r1 r2 d1 d2 Φ} h1 h2 h => by
  unfold oMod at h
  split at h
  · cases rd_int h1; cases rd_int h2; exact oj_modP h.1 h.2
  · exact h.elim⟩
theorem rop_modN : ROp X rMod oModN := ⟨fun {F E r1 r2 d1 d2 Φ} h1 h2 h => by
  unfold oModN at h
  split at h
  · cases rd_int h1; cases rd_int h2; exact oj_modN h.1 h.2
  · exact h.elim⟩
theorem rop_pow : ROp X rPow oPow := ⟨fun {F E r1 r2 d1 d2 Φ} h1 h2 h => by
  unfold oPow at h
  split at h
  · cases rd_int h1; cases rd_int h2; exact oj_pow h.1 h.2
  · exact h.elim⟩
theorem rop_cmp {g : Int → Int → Bool} : ROp X (rI0 fun i j => .bl (g i j)) (oCmp g) := ⟨fun {F E r1 r2 d1 d2 Φ} h1 h2 h => by
  unfold oCmp at h
  split at h
  · cases rd_int h1; cases rd_int h2; exact oj_B0 h
  · exact h.elim⟩
theorem rop_eq : ROp X (rEqX X.K) oEq := ⟨fun {F E r1 r2 d1 d2 Φ} h1 h2 h => by
  unfold oEq at h
  split at h
  · cases rd_int h1; cases rd_int h2; exact oj_eqI h
  · cases rd_str h1; cases rd_str h2; exact oj_eqS h
  · exact oj_eqD (h1.rd (nd_dic h.1.n)) (h2.rd (nd_dic h.2.1.n)) h.1.n h.2.1.n h.1.s h.2.1.s h.2.2⟩
theorem rop_ne : ROp X (rNeX X.K) oNe := ⟨fun {F E r1 r2 d1 d2 Φ} h1 h2 h => by
  unfold oNe at h
  split at h
  · cases rd_int h1; cases rd_int h2; exact oj_neI h
  · cases rd_str h1; cases rd_str h2; exact oj_neS h
  · exact oj_neD (h1.rd (nd_dic h.1.n)) (h2.rd (nd_dic h.2.1.n)) h.1.n h.2.1.n h.1.s h.2.1.s h.2.2⟩
theorem rd_no {K : PySem.W.Frag} {F : Fm} {w : Addr → Option Nat} {σ : L2.St} {H G : Hp} {E : EnvB} (I : In K F w σ H G E) {x : V} {r : Rs} {d : PD} (h : RX E r d) (v : RV K F w σ H G x r) : decide (x = .non) = isNo d := by
  rcases h with h | ⟨i, b, es, rfl, hE, hb, rfl⟩
  · exact rp_none (h.rp I v)
  · obtain ⟨l, el, hw, c⟩ := I.owned hE hb
    have e2 : some (some x) = some (some (V.ref l)) := v.symm.trans el
    cases e2
    rfl
theorem rop_isN : ROp X (rIsN false) oIsN := ⟨fun {F E r1 r2 d1 d2 Φ} h1 h2 h => by
  unfold oIsN at h
  split at h
  · cases rd_non h2
    intro w σ H G x y Q I a c k
    have e := rd_no I h1 a
    refine ⟨rvN c, k _ _ (keB I ?_)⟩
    rw [if_neg Bool.false_ne_true, e]
    exact h
  · exact h.elim⟩
theorem rop_notN : ROp X (rIsN true) oNotN := ⟨fun {F E r1 r2 d1 d2 Φ} h1 h2 h => by
  unfold oNotN at h
  split at h
  · cases rd_non h2
    intro w σ H G x y Q I a c k
    have e := rd_no I h1 a
    refine ⟨rvN c, k _ _ (keB I ?_)⟩
    rw [if_pos rfl, e]
    exact h
  · exact h.elim⟩
theorem rd_flat {E : EnvB} {r : Rs} {d : PD} (h : RX E r d) (f : flatD d = true) : r = .sh d := by
  have h := h.rd (by cases d <;> first | rfl | cases f)
  cases h with
  | sh => rfl
  | _ => cases f
theorem vD_eq : ∀ {a b : PD}, flatD a = true → flatD b = true → eqV (vD b) (vD a) = eqW b a := by
  intro a b ha hb
  cases a <;> cases b <;> first
    | exact Bool.noConfusion (show false = true from ha)
    | exact Bool.noConfusion (show false = true from hb)
    | rfl
    | (simp only [vD, eqV, eqW, Bool.beq_eq_decide_eq]; done)
    | (simp only [vD, eqV, eqW, Bool.beq_eq_decide_eq]; rfl)
theorem inV_eq {a : PD} {ds : List PD} (ha : flatD a = true) (h : ds.all flatD = true) : inV (vD a) (ds.map vD) = inW a ds := by
  unfold inV inW
  rw [List.any_map]
  rw [List.all_eq_true] at h
  induction ds with
  | nil => rfl
  | cons d ds ih =>
    rw [List.any_cons, List.any_cons, ih fun x hx => h x (List.mem_cons_of_mem _ hx)]
    show (eqV (vD d) (vD a) || _) = _
    rw [vD_eq ha (h d List.mem_cons_self)]
theorem inW_int {i : Int} {ns : List Int} : inW (.int i) (pI ns) = decide (i ∈ ns) := by
  unfold inW pI
  rw [List.any_map, Bool.eq_iff_iff, List.any_eq_true]
  simp [eqW]
theorem flat_pI (ns : List Int) : (pI ns).all flatD = true := by
  unfold pI
  rw [List.all_map, List.all_eq_true]
  intro x _
  rfl
theorem kOf_key {d : PD} (h : keyD d = true) : ∃ k, kOf d = some k ∧ d = kD k := by
  cases d with
  | int i => exact ⟨.inl i, rfl, rfl⟩
  | str z => exact ⟨.inr z, rfl, rfl⟩
  | _ => cases h
theorem eqF_key (k k' : Key) : eqF (kD k') (kD k) = decide (k' = k) := by
  cases k with
  | inl i => cases k' with
    | inl j =>
      show decide (j = i) = decide (Sum.inl j = Sum.inl i)
      rw [Bool.eq_iff_iff, decide_eq_true_iff, decide_eq_true_iff]
      exact ⟨fun h => by rw [h], fun h => Sum.inl.inj h⟩
    | inr y => exact (decide_eq_false fun h => by cases h).symm
  | inr x => cases k' with
    | inl j => exact (decide_eq_false fun h => by cases h).symm
    | inr y =>
      show decide (y = x) = decide (Sum.inr y = Sum.inr x)
      rw [Bool.eq_iff_iff, decide_eq_true_iff, decide_eq_true_iff]
      exact ⟨fun h => by rw [h], fun h => Sum.inr.inj h⟩
theorem kLook_dK (es : List (Key × PD)) (k : Key) : kLook (dK es) (kD k) = dlook es k := by
  unfold kLook dlook dK
  induction es with
  | nil => rfl
  | cons p es ih =>
    obtain ⟨k', d⟩ := p
    rw [List.map_cons, List.find?_cons, List.find?_cons]
    show Option.map _ (match eqF (kD k') (kD k) with | true => _ | false => _) = _
    rw [eqF_key]
    cases decide (k' = k) with
    | true => rfl
    | false => exact ih
theorem hasK_dK (es : List (Key × PD)) (k : Key) : hasK (dK es) (kD k) = (dlook es k).isSome := by
  unfold hasK dlook dK
  induction es with
  | nil => rfl
  | cons p es ih =>
    obtain ⟨k', d⟩ := p
    rw [List.map_cons, List.any_cons, List.find?_cons]
    show (eqF (kD k') (kD k) || _) = _
    rw [eqF_key]
    cases decide (k' = k) with
    | true => rfl
    | false => exact ih
theorem rd_dget {K : PySem.W.Frag} {F : Fm} {w : Addr → Option Nat} {σ : L2.St} {H G : Hp} {E : EnvB} (I : In K F w σ H G E) {x y : V} {r : Rs} {es : List (Key × PD)} {k : Key} (h : RX E r (.dict (dK es))) (v : RV K F w σ H G x r) (hy : Rp K G y (kD k)) :
    ∃ a o, x = .ref a ∧ DGet H a y o ∧ o.isSome = (dlook es k).isSome ∧ ∀ d, dlook es k = some d → ∃ u, o = some u ∧ Rp K G u d := by
  obtain ⟨a, kvs, rfl, c1, c2⟩ := h.dic I v
  have rk : y = kV k := rp_key (by cases k <;> rfl) hy
  subst rk
  refine ⟨a, _, rfl, .inl ⟨kvs, k, c1, rfl, rfl⟩, ?_⟩
  rcases c2.look k with ⟨q1, q2⟩ | ⟨u, d', q1, q2, q3⟩
  · rw [q1, q2]
    exact ⟨rfl, fun d e => by cases e⟩
  · rw [q1, q2]
    refine ⟨rfl, fun d e => ?_⟩
    cases e
    exact ⟨u, rfl, q3⟩
theorem rop_in {neg : Bool} : ROp X (rInX X.K neg) (oIn neg) := ⟨fun {F E r1 r2 d1 d2 Φ} h1 h2 h => by
  unfold oIn at h
  split at h
  · obtain ⟨c1, c2, h⟩ := h
    cases rd_flat h1 c1
    exact oj_inSeq (.inl (h2.rd rfl)) c1 c2 (inV_eq c1 c2).symm h
  · obtain ⟨c1, c2, h⟩ := h
    cases rd_flat h1 c1
    exact oj_inSeq (.inr (h2.rd rfl)) c1 c2 (inV_eq c1 c2).symm h
  · obtain ⟨⟨fs, rfl⟩, c1, h⟩ := h
    obtain ⟨k, hk, rfl⟩ := kOf_key c1
    rw [hasK_dK] at h
    refine oj_r (oj_r fun w σ H G x y Q I a b kk => ?_)
    have r1e : r1 = .sh (kD k) := rd_flat h1 (by cases k <;> rfl)
    subst r1e
    obtain ⟨l, o, rfl, g, e, _⟩ := rd_dget I h2 b a
    refine ⟨l, o, rfl, g, kk _ _ (keB I ?_)⟩
    rw [e]
    exact h
  · obtain ⟨c, rfl, h⟩ := h
    cases rd_str h1
    cases rd_str h2
    exact oj_inS h
  · exact h.elim⟩
theorem rop_ix : ROp X (rIxX X.K) oIx := ⟨fun {F E r1 r2 d1 d2 Φ} h1 h2 h => by
  unfold oIx at h
  split at h
  · obtain ⟨d, e, h⟩ := h
    cases rd_int h2
    exact oj_ixL (h1.rd rfl) e h
  · obtain ⟨d, e, h⟩ := h
    cases rd_int h2
    exact oj_ixT (h1.rd rfl) e h
  · obtain ⟨hz, c, e, h⟩ := h
    cases rd_int h2
    cases rd_str h1
    exact oj_ixS hz e h
  · obtain ⟨⟨fs, rfl⟩, c1, d, e, h⟩ := h
    obtain ⟨k, hk, rfl⟩ := kOf_key c1
    rw [kLook_dK] at e
    refine oj_r fun w σ H G x y Q I a b kk => ?_
    have r1e : r2 = .sh (kD k) := rd_flat h2 (by cases k <;> rfl)
    subst r1e
    obtain ⟨l, o, rfl, g, _, f⟩ := rd_dget I h1 a b
    obtain ⟨u, rfl, ru⟩ := f d e
    exact ⟨l, u, rfl, g, kk _ _ (ke I (Same.refl G) (r := .sh d) ru h)⟩
  · exact h.elim⟩
theorem re_ix {a b : Expr} {ta tb : DX} {pos : Pos} {r : R2} {o : DOp} (ho : IxR X r) (hr : ROp X r o) (ha : RE X a ta) (hb : RE X b tb) (hs : PlainIx b := by exact fun _ _ => rfl) : RE X (.Subscript a b pos) (dBin o ta tb) := ⟨fun h => xe_ix ho (dBin_ok hr ha hb h) hs⟩
end
end Bk

set_option maxHeartbeats 4000000
namespace Bk
open PySem PySem.Spec PyProof.Rows L2

/-! ### arguments, displays, slices -/
def dA0 : DAs := fun E Φ => Φ E []
def dA (te : DX) (ta : DAs) : DAs := fun E Φ => te E fun E1 r => fzK r fun r' => ta E1 fun E2 rs => Φ E2 (r' :: rs)
def dTup (ta : DAs) : DX := fun E Φ => ta E fun E1 rs => fzsK E1 rs fun E2 ds => ds.length ≤ 100000 ∧ Φ E2 (.sh (.tuple ds))
def dLst (ta : DAs) : DX := fun E Φ => ta E fun E1 rs => fzsK E1 rs fun E2 ds => ds.length ≤ 100000 ∧ Φ E2 (.nw (.lst ds))
def dDic0 : DX := fun E Φ => Φ E (.nw (.dic []))
def dO0 : DOpt := fun E Ψ => Ψ E none
def dO1 (te : DX) : DOpt := fun E Ψ => te E fun E1 r => shK r fun d => iK d fun n => Ψ E1 (some n)
def cutK (l u : Option Int) : DUn := fun d k => match d with
  | .list ds => k (.nw (.lst (cutD ds l u)))
  | .tuple ds => k (.sh (.tuple (cutD ds l u)))
  | .str z => z.length ≤ 100000 ∧ k (.sh (.str (cutS z l u)))
  | .dict [(.none, .list ds)] => k (.nw (.lst (cutD ds l u)))
  | _ => False
def dSlc (ta : DX) (tl tu : DOpt) : DX := fun E Φ => ta E fun E1 r1 => fzK r1 fun r1' => tl E1 fun E2 l => tu E2 fun E3 u => rdK E3 r1' fun d => cutK l u d (Φ E3)
def dUn (o : DUn) (ta : DX) : DX := fun E Φ => ta E fun E1 r => fzK r fun r' => rdK E1 r' fun d => o d (Φ E1)
def uNeg : DUn := fun d k => match d with
  | .int i => k (.sh (.int (-i)))
  | _ => False
section
variable {X : Cx} {a b c e o : Expr} {es : List Expr} {pos p : Pos} {x : Str} {ta tb tc te : DX}
theorem ra_nil : RA X [] dA0 := ⟨fun h => xa_nil h⟩
theorem ra_cons {t : DAs} (he : RE X e te) (ht : RA X es t) (hs : starEach (e :: es) X.env = (false, eval e X.env) :: starEach es X.env := by rfl) : RA X (e :: es) (dA te t) := ⟨fun h => xa_cons (xe_cut (he.go h) fun E1 r h => by
  obtain ⟨r', f, h⟩ := fzK_ok h
  exact ⟨r', f, ht.go h⟩) hs⟩
theorem xa_cut {F : Fm} {E : EnvB} {Φ Φ' : EnvB → List Rs → Prop} (h : XA X F es E Φ') (q : ∀ E1 r, Φ' E1 r → Φ E1 r) : XA X F es E Φ := fun pos pins s w σ H G I i =>
  thn (h pos pins s w σ H G I i) fun u s' ⟨v, H', I', r, w', G', E', r', a, b, c, d⟩ => ⟨v, H', I', r, w', G', E', r', a, b, c, q E' r' d⟩
theorem re_tup {x1} {t : DAs} (h : RA X es t) : RE X (.Tuple es x1 pos) (dTup t) := ⟨fun q => xe_tup (xa_cut (h.go q) fun E1 rs z => by
  obtain ⟨E2, ds, f, z⟩ := fzsK_ok z
  exact ⟨E2, ds, f, z⟩)⟩
theorem re_lst {t : DAs} (h : RA X es t) : RE X (.List es pos) (dLst t) := ⟨fun q => xe_lst (xa_cut (h.go q) fun E1 rs z => by
  obtain ⟨E2, ds, f, z⟩ := fzsK_ok z
  exact ⟨E2, ds, f, z⟩)⟩
theorem re_dic0 : RE X (.Dict [] [] pos) dDic0 := ⟨fun q => xe_dict0 q⟩
theorem ro_none : RO X none dO0 := ⟨fun q => xo_none q⟩
theorem ro_some (h : RE X e te) : RO X (some e) (dO1 te) := ⟨fun q => xo_some (xe_cut (h.go q) fun E1 r z => by
  obtain ⟨d, rfl, z⟩ := shK_ok z
  obtain ⟨i, rfl, z⟩ := iK_ok z
  exact ⟨i, rfl, z⟩)⟩
theorem rd_scr {E : EnvB} {r : Rs} {ds : List PD} (h : RX E r (.dict [(.none, .list ds)])) : r = .sh (.dict [(.none, .list ds)]) := by
  rcases h with h | ⟨i, b, es, _, _, _, e⟩
  · cases h; rfl
  · cases es with
    | nil => cases e
    | cons p _ =>
      have h1 := PyData.dict.inj e
      injection h1 with h2 h3
      injection h2 with h4 h5
      cases hp : p.1 <;> rw [hp] at h4 <;> cases h4
theorem slj_ok {F : Fm} {E : EnvB} {r : Rs} {d : PD} {l u : Option Int} {Φ : EnvB → Rs → Prop} (h : RX E r d) (q : cutK l u d (Φ E)) : SlJ X F E r l u Φ := by
  unfold cutK at q
  split at q
  · exact slj_L (h.rd rfl) q
  · exact slj_T (h.rd rfl) q
  · cases rd_str h; exact slj_S q.1 q.2
  · cases rd_scr h; exact slj_scr q
  · exact q.elim
theorem xo_cut {F : Fm} {E : EnvB} {oe : Option Expr} {Ψ Ψ' : EnvB → Option Int → Prop} (h : XO X F oe E Ψ') (q : ∀ E1 r, Ψ' E1 r → Ψ E1 r) : XO X F oe E Ψ := by
  intro pins s w σ H G I i
  exact thn (h pins s w σ H G I i) fun u s' ⟨o, H', I', p, w', G', E', a, b, c⟩ => ⟨o, H', I', p, w', G', E', a, b, q E' o c⟩
theorem re_slc {lo hi : Option Expr} {tl tu : DOpt} {p2 : Pos} (ha : RE X a ta) (hl : RO X lo tl) (hu : RO X hi tu) : RE X (.Subscript a (.Slice lo hi none p2) pos) (dSlc ta tl tu) := ⟨fun q => xe_slice (xe_cut (ha.go q) fun E1 r1 z => by
  obtain ⟨r1', f, z⟩ := fzK_ok z
  refine ⟨r1', f, xo_cut (hl.go z) fun E2 l z => xo_cut (hu.go z) fun E3 u z => ?_⟩
  obtain ⟨d, rd, z⟩ := rdK_ok z
  exact slj_ok rd z)⟩
theorem re_neg (h : RE X a ta) : RE X (.UnaryOp .USub a pos) (dUn uNeg ta) := ⟨fun q => xe_neg (xe_cut (h.go q) fun E1 r z => by
  obtain ⟨r', f, z⟩ := fzK_ok z
  obtain ⟨d, rd, z⟩ := rdK_ok z
  unfold uNeg at z
  split at z
  · cases rd_int rd
    cases f
    exact ⟨_, rfl, z⟩
  · exact z.elim)⟩
def uRevT : DUn := fun d k => match d with
  | .tuple ds => k (.sh (.tuple ds.reverse))
  | _ => False
def uRevL : DUn := fun d k => match d with
  | .list ds => k (.nw (.lst ds.reverse))
  | _ => False
theorem re_revT {k : Nat} {p1 p2 p3 : Pos} (h : RE X a ta) : RE X (.Subscript a (.Slice none none (some (.UnaryOp .USub (.Constant (.int 1) k p1) p2)) p3) pos) (dUn uRevT ta) := ⟨fun q => xe_revT (xe_cut (h.go q) fun E1 r z => by
  obtain ⟨r', f, z⟩ := fzK_ok z
  obtain ⟨d, rd, z⟩ := rdK_ok z
  unfold uRevT at z
  split at z
  · exact ⟨r', _, f, rd.rd rfl, z⟩
  · exact z.elim)⟩
theorem re_revL {k : Nat} {p1 p2 p3 : Pos} (h : RE X a ta) : RE X (.Subscript a (.Slice none none (some (.UnaryOp .USub (.Constant (.int 1) k p1) p2)) p3) pos) (dUn uRevL ta) := ⟨fun q => xe_revL (xe_cut (h.go q) fun E1 r z => by
  obtain ⟨r', f, z⟩ := fzK_ok z
  obtain ⟨d, rd, z⟩ := rdK_ok z
  unfold uRevL at z
  split at z
  · exact ⟨r', _, f, rd.rd rfl, z⟩
  · exact z.elim)⟩
end
end Bk

set_option maxHeartbeats 4000000
namespace Bk
open PySem PySem.Spec PyProof.Rows L2

/-! ### calls -/
structure RCall (X : Cx) (r : List V → Hp → VK → Prop) (u : DUn) : Prop where go : ∀ {F E r1 d Φ}, RX E r1 d → u d (Φ E) → CJ X F r E [r1] Φ
structure RCall2 (X : Cx) (r : List V → Hp → VK → Prop) (u : DOp) : Prop where go : ∀ {F E r1 r2 d1 d2 Φ}, RX E r1 d1 → RX E r2 d2 → u d1 d2 (Φ E) → CJ X F r E [r1, r2] Φ
def seqK : PD → (List PD → Prop) → Prop
  | .list ds, k => k ds
  | .tuple ds, k => k ds
  | .dict [(.none, .list ds)], k => k ds
  | _, _ => False
theorem seqK_ok {E : EnvB} {r : Rs} {d : PD} {k : List PD → Prop} (rd : RX E r d) (h : seqK d k) : ∃ ds, SeqD E r ds ∧ k ds := by
  unfold seqK at h
  split at h
  · exact ⟨_, .lst (rd.rd rfl), h⟩
  · exact ⟨_, .tup (rd.rd rfl), h⟩
  · cases rd_scr rd; exact ⟨_, .scr, h⟩
  · exact h.elim
def uLen : DUn := fun d k => match d with
  | .list ds => k (.sh (.int (ds.length : Nat)))
  | .tuple ds => k (.sh (.int (ds.length : Nat)))
  | .str z => z.length ≤ 100000 ∧ k (.sh (.int (z.length : Nat)))
  | .dict [(.none, .list ds)] => k (.sh (.int (ds.length : Nat)))
  | .dict es => (∃ fs, es = dK fs) ∧ k (.sh (.int (es.length : Nat)))
  | _ => False
def uTup : DUn := fun d k => seqK d fun ds => k (.sh (.tuple ds))
def uLst : DUn := fun d k => seqK d fun ds => k (.nw (.lst ds))
def uInt : DUn := fun d k => match d with
  | .int i => k (.sh (.int i))
  | .bool b => k (.sh (.int (if b then 1 else 0)))
  | _ => False
def uAbs : DUn := fun d k => match d with
  | .int i => k (.sh (.int (if i < 0 then -i else i)))
  | _ => False
def oMax : DOp := fun a b k => match a, b with
  | .int i, .int j => k (.sh (.int (if j > i then j else i)))
  | _, _ => False
def oMin : DOp := fun a b k => match a, b with
  | .int i, .int j => k (.sh (.int (if j < i then j else i)))
  | _, _ => False
def uAll : DUn := fun d k => match d with
  | .list ds => ∃ bs : List Bool, ds = bs.map PyData.bool ∧ k (.sh (.bool (bs.all id)))
  | _ => False
def uSum : DUn := fun d k => match d with
  | .list ds => ∃ ns : List Int, ds = pI ns ∧ k (.sh (.int ns.sum))
  | _ => False
structure Shown (x : PD) : Prop where
  s : x.showable = true
  n : ndE x = true
  d : x.depth ≤ 64
  w : swE x ≤ 16000000
/-- what a value reads as, own dicts not among them -/
def rdD (E : EnvB) : Rs → (PD → Prop) → Prop
  | .sh d, k => k d
  | .br i, k => match slG E i with
    | .ow (.lst ds) => k (.list ds)
    | .ib _ (.lst ds) => k (.list ds)
    | _ => False
  | .nw _, _ => False
theorem rdD_ok {E : EnvB} {r : Rs} {k : PD → Prop} (h : rdD E r k) : ∃ d, RD E r d ∧ k d := by
  match r, h with
  | .sh d, h => exact ⟨d, .sh, h⟩
  | .br i, h =>
    have h : (match slG E i with
      | .ow (.lst ds) => k (.list ds)
      | .ib _ (.lst ds) => k (.list ds)
      | _ => False) := h
    split at h
    · exact ⟨_, .ow (slG_ok ‹_› (by simp)), h⟩
    · exact ⟨_, .ib (slG_ok ‹_› (by simp)), h⟩
    · exact h.elim
def dRepr (ta : DX) : DX := fun E Φ => ta E fun E1 r => fzK r fun r' => rdD E1 r' fun d => Shown d ∧ Φ E1 (.sh (.str d.shown))
def uStr : DUn := fun d k => match d with
  | .int i => i.natAbs.log2 < 1920 ∧ k (.sh (.str (toString i)))
  | _ => False
section
variable {X : Cx} {a b c e o : Expr} {es : List Expr} {pos p : Pos} {x : Str} {ta tb tc te : DX}
theorem CallR.or {f : Value} {r r' : List V → Hp → VK → Prop} (h : CallR X f r) (h' : CallR X f r') : CallR X f fun xs H Q => r xs H Q ∨ r' xs H Q := fun pins s σ H xs us Q I rv q => q.elim (fun q => h pins s σ H xs us Q I rv q) fun q => h' pins s σ H xs us Q I rv q
theorem cj_or1 {F : Fm} {E : EnvB} {rs : List Rs} {Φ : EnvB → Rs → Prop} {r r' : List V → Hp → VK → Prop} (h : CJ X F r E rs Φ) : CJ X F (fun xs H Q => r xs H Q ∨ r' xs H Q) E rs Φ := fun w σ H G vs Q I rv k => .inl (h w σ H G vs Q I rv k)
theorem cj_or2 {F : Fm} {E : EnvB} {rs : List Rs} {Φ : EnvB → Rs → Prop} {r r' : List V → Hp → VK → Prop} (h : CJ X F r' E rs Φ) : CJ X F (fun xs H Q => r xs H Q ∨ r' xs H Q) E rs Φ := fun w σ H G vs Q I rv k => .inr (h w σ H G vs Q I rv k)
theorem re_callB {id : String} {r : List V → Hp → VK → Prop} {u : DUn} (hc : CallR X (.builtin id) r) (hr : RCall X r u) (hv : bootBuiltins x = some (.builtin id)) (hm : X.mg x = none) (h : RE X a ta) (hg : Gl X x := by rfl) (hn : x ≠ "__name__" := by decide) (hdb : (x == ("__debug__" : Str)) = false := by decide)
    (he : starEach [a] X.env = (false, eval a X.env) :: starEach [] X.env := by rfl) (hpl : (backTo pos (starEach [] X.env)).any (·.1) = false := by rfl) : RE X (.Call (.Name x p) [a] [] pos) (dUn u ta) := ⟨fun q => xe_callB hc hm hv (xa_cons (xe_cut (h.go q) fun E1 r z => by
  obtain ⟨r', f, z⟩ := fzK_ok z
  obtain ⟨d, rd, z⟩ := rdK_ok z
  exact ⟨r', f, xa_nil (hr.go rd z)⟩) he) hg hn hdb he hpl⟩
theorem re_callT {id : String} {r : List V → Hp → VK → Prop} {u : DUn} (hc : CallR X (.type id) r) (hr : RCall X r u) (hv : bootBuiltins x = some (.type id)) (hm : X.mg x = none) (h : RE X a ta) (hg : Gl X x := by rfl) (hn : x ≠ "__name__" := by decide) (hdb : (x == ("__debug__" : Str)) = false := by decide)
    (he : starEach [a] X.env = (false, eval a X.env) :: starEach [] X.env := by rfl) (hpl : (backTo pos (starEach [] X.env)).any (·.1) = false := by rfl) : RE X (.Call (.Name x p) [a] [] pos) (dUn u ta) := ⟨fun q => xe_callT hc hm hv (xa_cons (xe_cut (h.go q) fun E1 r z => by
  obtain ⟨r', f, z⟩ := fzK_ok z
  obtain ⟨d, rd, z⟩ := rdK_ok z
  exact ⟨r', f, xa_nil (hr.go rd z)⟩) he) hg hn hdb he hpl⟩
theorem re_callB2 {id : String} {r : List V → Hp → VK → Prop} {u : DOp} (hc : CallR X (.builtin id) r) (hr : RCall2 X r u) (hv : bootBuiltins x = some (.builtin id)) (hm : X.mg x = none) (h : RE X a ta) (h2 : RE X b tb) (hg : Gl X x := by rfl) (hn : x ≠ "__name__" := by decide) (hdb : (x == ("__debug__" : Str)) = false := by decide)
    (he : starEach [a, b] X.env = (false, eval a X.env) :: starEach [b] X.env := by rfl) (he2 : starEach [b] X.env = (false, eval b X.env) :: starEach [] X.env := by rfl) (hpl : (backTo pos (starEach [b] X.env)).any (·.1) = false := by rfl) : RE X (.Call (.Name x p) [a, b] [] pos) (dBin u ta tb) := ⟨fun q => xe_callB hc hm hv (xa_cons (xe_cut (h.go q) fun E1 r z => by
  obtain ⟨r', f, z⟩ := fzK_ok z
  refine ⟨r', f, xa_cons (xe_cut (h2.go z) fun E2 r2 z => ?_) he2⟩
  obtain ⟨r2', f2, z⟩ := fzK_ok z
  obtain ⟨d, rd, z⟩ := rdK_ok z
  obtain ⟨d2, rd2, z⟩ := rdK_ok z
  exact ⟨r2', f2, xa_nil (hr.go rd rd2 z)⟩) he) hg hn hdb he hpl⟩
theorem rc_len : RCall X (fun xs H Q => (∃ x n, xs = [x] ∧ LenV X.K x H n ∧ Q (.int n) H) ∨ ∃ a kvs, xs = [.ref a] ∧ Rd H a (.dK kvs) ∧ Q (.int kvs.length) H) uLen := ⟨fun {F E r1 d Φ} rd h => by
  unfold uLen at h
  split at h
  · exact cj_or1 (cj_len (.lst (rd.rd rfl)) h)
  · exact cj_or1 (cj_len (.tup (rd.rd rfl)) h)
  · cases rd_str rd; exact cj_or1 (cj_len (.str h.1) h.2)
  · cases rd_scr rd; exact cj_or1 (cj_len .scr h)
  · obtain ⟨⟨fs, rfl⟩, h⟩ := h
    refine cj_or2 fun w σ H G vs Q I rvs kk => ?_
    obtain ⟨v, rfl, rv⟩ := rv_one (F := F) rvs
    obtain ⟨l, kvs, rfl, c1, c2⟩ := rd.dic I rv
    refine ⟨l, kvs, rfl, c1, kk _ _ (keI I ?_)⟩
    have e : (dK fs).length = kvs.length := by rw [c2.length]; exact List.length_map ..
    rw [← e]
    exact h
  · exact h.elim⟩
theorem rc_tuple : RCall X (fun xs H Q => ∃ p ys, xs = [.ref p] ∧ ((SqL X.K H p ys ∧ ∀ l, H l = none → Q (.ref l) (upd H l (.tup ys))) ∨ (SqT X.K H p ys ∧ Q (.ref p) H))) uTup := ⟨fun {F E r1 d Φ} rd h => by
  obtain ⟨ds, s, h⟩ := seqK_ok rd h
  exact cj_tuple s h⟩
theorem rc_list : RCall X (fun xs H Q => ∃ p ys, xs = [.ref p] ∧ (SqL X.K H p ys ∨ SqT X.K H p ys) ∧ ∀ l, H l = none → Q (.ref l) (upd H l (.lst ys))) uLst := ⟨fun {F E r1 d Φ} rd h => by
  obtain ⟨ds, s, h⟩ := seqK_ok rd h
  exact cj_list s h⟩
theorem rd_bl {E : EnvB} {r : Rs} {i : Bool} (h : RX E r (.bool i)) : r = .sh (.bool i) := by cases h.rd rfl; rfl
theorem rc_int : RCall X (fun xs H Q => (∃ i, xs = [.int i] ∧ Q (.int i) H) ∨ ∃ k, xs = [.bl k] ∧ Q (.int (if k then 1 else 0)) H) uInt := ⟨fun {F E r1 d Φ} rd h => by
  unfold uInt at h
  split at h
  · cases rd_int rd; exact cj_intI h
  · cases rd_bl rd; exact cj_intB h
  · exact h.elim⟩
theorem rc_abs : RCall X (fun xs H Q => ∃ i, xs = [.int i] ∧ Q (.int (if i < 0 then -i else i)) H) uAbs := ⟨fun {F E r1 d Φ} rd h => by
  unfold uAbs at h
  split at h
  · cases rd_int rd; exact cj_abs h
  · exact h.elim⟩
theorem rc_max : RCall2 X (fun xs H Q => ∃ i j, xs = [.int i, .int j] ∧ Q (.int (if j > i then j else i)) H) oMax := ⟨fun {F E r1 r2 d1 d2 Φ} rd rd2 h => by
  unfold oMax at h
  split at h
  · cases rd_int rd; cases rd_int rd2; exact cj_max h
  · exact h.elim⟩
theorem rc_min : RCall2 X (fun xs H Q => ∃ i j, xs = [.int i, .int j] ∧ Q (.int (if j < i then j else i)) H) oMin := ⟨fun {F E r1 r2 d1 d2 Φ} rd rd2 h => by
  unfold oMin at h
  split at h
  · cases rd_int rd; cases rd_int rd2; exact cj_min h
  · exact h.elim⟩
theorem rc_all : RCall X (rAll X.K) uAll := ⟨fun {F E r1 d Φ} rd h => by
  unfold uAll at h
  split at h
  · obtain ⟨bs, rfl, h⟩ := h; exact cj_all (rd.rd rfl) h
  · exact h.elim⟩
theorem rc_sum : RCall X (rSum X.K) uSum := ⟨fun {F E r1 d Φ} rd h => by
  unfold uSum at h
  split at h
  · obtain ⟨bs, rfl, h⟩ := h; exact cj_sum (rd.rd rfl) h
  · exact h.elim⟩
theorem rc_str : RCall X (fun xs H Q => ∃ i, xs = [.int i] ∧ i.natAbs.log2 < 1920 ∧ Q (.str (toString i)) H) uStr := ⟨fun {F E r1 d Φ} rd h => by
  unfold uStr at h
  split at h
  · cases rd_int rd; exact cj_reprI h.1 h.2
  · exact h.elim⟩
theorem call_lenR : CallR X (.builtin "len") (fun xs H Q => ∃ a kvs, xs = [V.ref a] ∧ Rd H a (.dK kvs) ∧ Q (.int kvs.length) H) := fun pins s σ H xs us Q I r ⟨a, kvs, ex, ha, q⟩ => by
  subst ex
  obtain ⟨u, rfl, ru⟩ := vals1 r
  cases ru
  exact d_len I ha fun t s' J => ⟨.int kvs.length, H, J, ⟨t, rfl⟩, q⟩
/-- the built-ins, by name -/
theorem re_len (hm : X.mg "len" = none) (h : RE X a ta) (hg : Gl X "len" := by rfl) (he : starEach [a] X.env = (false, eval a X.env) :: starEach [] X.env := by rfl) (hpl : (backTo pos (starEach [] X.env)).any (·.1) = false := by rfl) : RE X (.Call (.Name "len" p) [a] [] pos) (dUn uLen ta) :=
  re_callB (CallR.or call_len call_lenR) rc_len PySem.boot_len hm h hg (by decide) (by decide) he hpl
theorem re_tuple (hm : X.mg "tuple" = none) (h : RE X a ta) (hg : Gl X "tuple" := by rfl) (he : starEach [a] X.env = (false, eval a X.env) :: starEach [] X.env := by rfl) (hpl : (backTo pos (starEach [] X.env)).any (·.1) = false := by rfl) : RE X (.Call (.Name "tuple" p) [a] [] pos) (dUn uTup ta) :=
  re_callT call_tuple_of rc_tuple boot_tuple hm h hg (by decide) (by decide) he hpl
theorem re_list (hm : X.mg "list" = none) (h : RE X a ta) (hg : Gl X "list" := by rfl) (he : starEach [a] X.env = (false, eval a X.env) :: starEach [] X.env := by rfl) (hpl : (backTo pos (starEach [] X.env)).any (·.1) = false := by rfl) : RE X (.Call (.Name "list" p) [a] [] pos) (dUn uLst ta) :=
  re_callT call_list_of rc_list boot_list hm h hg (by decide) (by decide) he hpl
theorem re_intc (hm : X.mg "int" = none) (h : RE X a ta) (hg : Gl X "int" := by rfl) (he : starEach [a] X.env = (false, eval a X.env) :: starEach [] X.env := by rfl) (hpl : (backTo pos (starEach [] X.env)).any (·.1) = false := by rfl) : RE X (.Call (.Name "int" p) [a] [] pos) (dUn uInt ta) :=
  re_callT call_int1 rc_int boot_int hm h hg (by decide) (by decide) he hpl
theorem re_abs (hm : X.mg "abs" = none) (h : RE X a ta) (hg : Gl X "abs" := by rfl) (he : starEach [a] X.env = (false, eval a X.env) :: starEach [] X.env := by rfl) (hpl : (backTo pos (starEach [] X.env)).any (·.1) = false := by rfl) : RE X (.Call (.Name "abs" p) [a] [] pos) (dUn uAbs ta) :=
  re_callB call_abs rc_abs boot_abs hm h hg (by decide) (by decide) he hpl
theorem re_repr (hgd : X.A.guards = some []) (hu : X.A.units + 66 < cLine) (hm : X.mg "repr" = none) (h : RE X a ta) (hg : Gl X "repr" := by rfl) (he : starEach [a] X.env = (false, eval a X.env) :: starEach [] X.env := by rfl) (hpl : (backTo pos (starEach [] X.env)).any (·.1) = false := by rfl) : RE X (.Call (.Name "repr" p) [a] [] pos) (dRepr ta) := ⟨fun q => xe_callB (call_reprE hgd hu) hm boot_repr (xa_cons (xe_cut (h.go q) fun E1 r z => by
  obtain ⟨r', f, z⟩ := fzK_ok z
  obtain ⟨d, rd, z1, z⟩ := rdD_ok z
  exact ⟨r', f, xa_nil (cj_reprE rd z1.s z1.n z1.d z1.w z)⟩) he) hg (by decide) (by decide) he hpl⟩
theorem re_max (hm : X.mg "max" = none) (h : RE X a ta) (h2 : RE X b tb) (hcl : X.calm = true := by rfl) (hg : Gl X "max" := by rfl) (he : starEach [a, b] X.env = (false, eval a X.env) :: starEach [b] X.env := by rfl) (he2 : starEach [b] X.env = (false, eval b X.env) :: starEach [] X.env := by rfl) (hpl : (backTo pos (starEach [b] X.env)).any (·.1) = false := by rfl) : RE X (.Call (.Name "max" p) [a, b] [] pos) (dBin oMax ta tb) :=
  re_callB2 (call_max2 hcl) rc_max boot_max hm h h2 hg (by decide) (by decide) he he2 hpl
theorem re_min (hm : X.mg "min" = none) (h : RE X a ta) (h2 : RE X b tb) (hcl : X.calm = true := by rfl) (hg : Gl X "min" := by rfl) (he : starEach [a, b] X.env = (false, eval a X.env) :: starEach [b] X.env := by rfl) (he2 : starEach [b] X.env = (false, eval b X.env) :: starEach [] X.env := by rfl) (hpl : (backTo pos (starEach [b] X.env)).any (·.1) = false := by rfl) : RE X (.Call (.Name "min" p) [a, b] [] pos) (dBin oMin ta tb) :=
  re_callB2 (call_min2 hcl) rc_min boot_min hm h h2 hg (by decide) (by decide) he he2 hpl
theorem re_all (hm : X.mg "all" = none) (h : RE X a ta) (hcl : X.calm = true := by rfl) (hg : Gl X "all" := by rfl) (he : starEach [a] X.env = (false, eval a X.env) :: starEach [] X.env := by rfl) (hpl : (backTo pos (starEach [] X.env)).any (·.1) = false := by rfl) : RE X (.Call (.Name "all" p) [a] [] pos) (dUn uAll ta) :=
  re_callB (call_all hcl) rc_all boot_all hm h hg (by decide) (by decide) he hpl
/-- isinstance of a built-in class -/
def dIsi (T : String) (ta : DX) : DX := fun E Φ => ta E fun E1 r => fzK r fun r' => rdD E1 r' fun d => ndE d = true ∧ ∃ b, kitB (tyD d) T = some b ∧ Φ E1 (.sh (.bool b))
theorem re_isi {T : String} {p2 : Pos} (hm : X.mg "isinstance" = none) (hmt : X.mg x = none) (hv : bootBuiltins x = some (.type T)) (h : RE X a ta) (hg : Gl X "isinstance" := by rfl) (hgt : Gl X x := by rfl) (hn : x ≠ "__name__" := by decide) (hdb : (x == ("__debug__" : Str)) = false := by decide)
    (he : starEach [a, .Name x p2] X.env = (false, eval a X.env) :: starEach [.Name x p2] X.env := by rfl) (he2 : starEach [.Name x p2] X.env = (false, eval (.Name x p2) X.env) :: starEach [] X.env := by rfl) (hpl : (backTo pos (starEach [.Name x p2] X.env)).any (·.1) = false := by rfl) : RE X (.Call (.Name "isinstance" p) [a, .Name x p2] [] pos) (dIsi T ta) := ⟨fun q => xe_isE hm hv hmt (xe_cut (h.go q) fun E1 r z => by
  obtain ⟨r', f, z⟩ := fzK_ok z
  obtain ⟨d, rd, hn, b, hb, z⟩ := rdD_ok z
  exact ⟨r', d, b, f, rd, hn, hb, z⟩) hg hgt hn hdb he he2 hpl⟩
end
end Bk

set_option maxHeartbeats 4000000
namespace Bk
open PySem PySem.Spec PyProof.Rows L2

/-! ### calls of defs -/
def dCall (n : Nat) (spec : List PD → (Rs → Prop) → Prop) (ta : DAs) : DX := fun E Φ => ta E fun E1 rs => fzsK E1 rs fun E2 ds => ds.length = n ∧ ∀ Ψ : Rs → Prop, (∀ r, Φ E2 r → Ψ r) → spec ds Ψ
def dCall1 (n : Nat) (spec : Oc → List PD → (Rs → Oc → Prop) → Prop) (ta : DAs) : DX := fun E Φ => ta E fun E1 rs => match rs with
  | r :: rest => ownK E1 r fun i _ => fzsK E1 rest fun E2 ds => ownK E2 (.br i) fun _ o => ds.length + 1 = n ∧ ∀ Ψ : Rs → Oc → Prop, (∀ r o', putK' E2 i o' (fun E3 => Φ E3 r) → Ψ r o') → spec o ds Ψ
  | [] => False
def dCallK (n : Nat) (js : List Nat) (spec : List PD → (Rs → Prop) → Prop) (ta : DAs) : DX := fun E Φ => ta E fun E1 rs => fzsK E1 rs fun E2 ds => (prm js [] ds).length = n ∧ ∀ Ψ : Rs → Prop, (∀ r, Φ E2 r → Ψ r) → spec (prm js [] ds) Ψ
section
variable {X : Cx} {a b c e o : Expr} {es : List Expr} {kws : List Keyword} {pos p apos : Pos} {x : Str} {ta tb tc te to : DX}
theorem re_call {k n : Nat} {spec : List PD → (Rs → Prop) → Prop} {t : DAs} (C : Cal X.prog X.w X.K X.mg X.base x k (Pm X.K n spec)) (hr : Room k X.A) (h : RA X (e :: es) t)
    (hg : Gl X x := by rfl) (hdb : (x == ("__debug__" : Str)) = false := by decide) (he : starEach (e :: es) X.env = (false, eval e X.env) :: starEach es X.env := by rfl) (hpl : (backTo pos (starEach es X.env)).any (·.1) = false := by rfl) : RE X (.Call (.Name x p) (e :: es) [] pos) (dCall n spec t) := ⟨fun q => xe_call C hr (xa_cut (h.go q) fun E1 rs z => by
  obtain ⟨E2, ds, f, z⟩ := fzsK_ok z
  exact ⟨E2, ds, f, z⟩) hg hdb he hpl⟩
theorem re_callG {k n : Nat} {spec : List PD → (Rs → Prop) → Prop} {t : DAs} (C : CalG X.prog X.w X.K X.mg X.base x k (Pm X.K n spec)) (hgd : X.A.guards = some []) (hr : Room k X.A) (h : RA X (e :: es) t)
    (hg : Gl X x := by rfl) (hdb : (x == ("__debug__" : Str)) = false := by decide) (he : starEach (e :: es) X.env = (false, eval e X.env) :: starEach es X.env := by rfl) (hpl : (backTo pos (starEach es X.env)).any (·.1) = false := by rfl) : RE X (.Call (.Name x p) (e :: es) [] pos) (dCall n spec t) := ⟨fun q => xe_callG C hgd hr (xa_cut (h.go q) fun E1 rs z => by
  obtain ⟨E2, ds, f, z⟩ := fzsK_ok z
  exact ⟨E2, ds, f, z⟩) hg hdb he hpl⟩
theorem re_call1 {k n : Nat} {spec : Oc → List PD → (Rs → Oc → Prop) → Prop} {t : DAs} (C : Cal X.prog X.w X.K X.mg X.base x k (Pm1 X.K n spec)) (hr : Room k X.A) (h : RA X (e :: es) t)
    (hg : Gl X x := by rfl) (hdb : (x == ("__debug__" : Str)) = false := by decide) (he : starEach (e :: es) X.env = (false, eval e X.env) :: starEach es X.env := by rfl) (hpl : (backTo pos (starEach es X.env)).any (·.1) = false := by rfl) : RE X (.Call (.Name x p) (e :: es) [] pos) (dCall1 n spec t) := ⟨fun q => xe_call1 C hr (xa_cut (h.go q) fun E1 rs z => by
  match rs, z with
  | r :: rest, z =>
    obtain ⟨i, b0, o0, rfl, hE0, hb0, z⟩ := ownK_ok z
    obtain ⟨E2, ds, f, z⟩ := fzsK_ok z
    obtain ⟨i', b, o, e, hE, hb, hn, z⟩ := ownK_ok z
    cases e
    refine ⟨i, rest, E2, ds, b, o, rfl, f, hE, hb, hn, fun Ψ hΨ => z Ψ fun r o' w => hΨ r o' ?_⟩
    obtain ⟨b', o0', E3, hE', hb', hs, w⟩ := putK_ok w
    rw [hE] at hE'
    cases hE'
    exact ⟨E3, hs, w⟩) hg hdb he hpl⟩
theorem rk_nil : RKw X [] dA0 := ⟨fun h => xk_nil h⟩
theorem rk_cons {nm : Option Str} {kpos : Pos} {t : DAs} (he : RE X e te) (ht : RKw X kws t) : RKw X (⟨nm, e, kpos⟩ :: kws) (dA te t) := ⟨fun h => xk_cons (xe_cut (he.go h) fun E1 r h => by
  obtain ⟨r', f, h⟩ := fzK_ok h
  exact ⟨r', f, ht.go h⟩)⟩
theorem xk_cut {F : Fm} {E : EnvB} {Φ Φ' : EnvB → List Rs → Prop} (h : XKw X F kws E Φ') (q : ∀ E1 r, Φ' E1 r → Φ E1 r) : XKw X F kws E Φ := fun pos pins s w σ H G I i =>
  thn (h pos pins s w σ H G I i) fun u s' ⟨v, H', I', r, w', G', E', r', a, b, c, d⟩ => ⟨v, H', I', r, w', G', E', r', a, b, c, q E' r' d⟩
theorem re_callK {kws : List Keyword} {ks : List Str} {js : List Nat} {k n : Nat} {spec : List PD → (Rs → Prop) → Prop} {t : DAs} (C : CalK X.prog X.w X.K X.mg X.base x ks js k (Pm X.K n spec)) (hr : Room k X.A) (h : RKw X kws t)
    (q : ∀ {F E Φ}, (XKw X F kws E fun E1 rs => ∃ E2 ds, Fzs E1 rs E2 ds ∧ (prm js [] ds).length = n ∧ ∀ Ψ : Rs → Prop, (∀ r, Φ E2 r → Ψ r) → spec (prm js [] ds) Ψ) → XE X F (.Call (.Name x p) [] kws pos) E Φ) : RE X (.Call (.Name x p) [] kws pos) (dCallK n js spec t) := ⟨fun z => q (xk_cut (h.go z) fun E1 rs z => by
  obtain ⟨E2, ds, f, z⟩ := fzsK_ok z
  exact ⟨E2, ds, f, z⟩)⟩

/-! ### methods of lists -/
def dApp (to te : DX) : DX := fun E Φ => to E fun E1 r0 => ownK E1 r0 fun i o1 => match o1 with
  | .lst _ => te E1 fun E2 r1 => fzK r1 fun r1' => fzsK E2 [r1'] fun E3 ds => match ds with
    | [d] => ownK E3 (.br i) fun _ o => match o with
      | .lst xs => xs.length < 100000 ∧ putK' E3 i (.lst (xs ++ [d])) fun E4 => Φ E4 (.sh .none)
      | _ => False
    | _ => False
  | _ => False
theorem re_append (ho : RE X o to) (he : RE X e te)
    (hbase : attributeBase o "append" X.env (eval o X.env) = eval o X.env := by rfl) (hs : starEach (e :: []) X.env = (false, eval e X.env) :: starEach [] X.env := by rfl)
    (hfew : ((backTo pos (starEach (e :: []) X.env)).all (fun x => !x.1) && (backToKw pos (keywordEach [] X.env)).all (fun x => x.1.isSome) && decide ((e :: []).length + ([] : List Keyword).length + (if ([] : List Keyword).isEmpty then 0 else 1) < 30)) = true := by rfl)
    (hline : (apos.endLine == pos.line) = true := by rfl) : RE X (.Call (.Attribute o "append" apos) [e] [] pos) (dApp to te) := ⟨fun q => xe_append (xe_cut (ho.go q) fun E1 r0 z => by
  obtain ⟨i, b1, o1, rfl, hE1, hb1, z⟩ := ownK_ok z
  split at z
  · refine ⟨i, b1, _, rfl, hE1, hb1, xe_cut (he.go z) fun E2 r1 z => ?_⟩
    obtain ⟨r1', f, z⟩ := fzK_ok z
    obtain ⟨E3, ds, fs, z⟩ := fzsK_ok z
    split at z
    · obtain ⟨i', b, o, e, hE, hb, z⟩ := ownK_ok z
      cases e
      split at z
      · obtain ⟨hl, z⟩ := z
        obtain ⟨b', o0', E4, hE', hb', hs, z⟩ := putK_ok z
        rw [hE] at hE'
        cases hE'
        exact ⟨r1', E3, _, b, _, E4, f, fs, hE, hb, hl, hs, z⟩
      · exact z.elim
    · exact z.elim
  · exact z.elim) hbase hs hfew hline⟩
def dPop (to : DX) : DX := fun E Φ => to E fun E1 r0 => ownK E1 r0 fun i o1 => match o1 with
  | .lst ds => ∃ d, ds[ds.length - 1]? = some d ∧ putK' E1 i (.lst ds.dropLast) fun E2 => Φ E2 (.sh d)
  | _ => False
theorem re_pop (ho : RE X o to) (hbase : attributeBase o "pop" X.env (eval o X.env) = eval o X.env := by rfl) (hline : (apos.endLine == pos.line) = true := by rfl) : RE X (.Call (.Attribute o "pop" apos) [] [] pos) (dPop to) := ⟨fun q => xe_pop (xe_cut (ho.go q) fun E1 r0 z => by
  obtain ⟨i, b1, o1, rfl, hE1, hb1, z⟩ := ownK_ok z
  split at z
  · obtain ⟨d, hd, z⟩ := z
    obtain ⟨b', o0', E4, hE', hb', hs, z⟩ := putK_ok z
    rw [hE1] at hE'
    cases hE'
    exact ⟨i, b1, _, d, E4, rfl, hE1, hb1, hd, hs, z⟩
  · exact z.elim) hbase hline⟩

/-! ### statements -/
variable {st : Stmt} {sts body els : List Stmt} {tg iter : Expr}
def dNil : DS := fun E Φ => Φ.nx E
def dSeq (t u : DS) : DS := fun E Φ => t E { Φ with nx := fun E1 => u E1 Φ }
def dCut (t u : DS) : DS := fun E Φ => ∃ Mid : EnvB → Prop, t E { Φ with nx := Mid } ∧ ∀ E1, Mid E1 → u E1 Φ
theorem rss_nil : RSs X [] dNil := ⟨fun q => xss_nil q⟩
theorem rss_one {t : DS} (h : RS X st t) : RSs X [st] t := ⟨fun q => xss_one (h.go q)⟩
theorem rss_seq {t u : DS} (h : RS X st t) (h2 : RSs X sts u) : RSs X (st :: sts) (dSeq t u) := ⟨fun q => xss_cons (xs_imp (h.go q) (fun E1 z => h2.go z) (fun _ _ z => z) (fun _ z => z) fun _ z => z)⟩
theorem rss_cut {t u : DS} (h : RS X st t) (h2 : RSs X sts u) : RSs X (st :: sts) (dCut t u) := ⟨fun ⟨Mid, q1, q2⟩ => xss_cut Mid (h.go q1) fun E1 z => h2.go (q2 E1 z)⟩
theorem rs_pass : RS X (.Pass pos) dNil := ⟨fun q => xs_pass q⟩
def dBrk : DS := fun E Φ => Φ.bk E
def dCnt : DS := fun E Φ => Φ.ct E
theorem rs_break : RS X (.Break pos) dBrk := ⟨fun q => xs_break q⟩
theorem rs_continue : RS X (.Continue pos) dCnt := ⟨fun q => xs_continue q⟩
def dRet (t : DX) : DS := fun E Φ => t E Φ.rt
theorem rs_ret (h : RE X e te) : RS X (.Return (some e) pos) (dRet te) := ⟨fun q => xs_ret (h.go q)⟩
def dExp (t : DX) : DS := fun E Φ => t E fun E1 _ => Φ.nx E1
theorem rs_expr (h : RE X e te) (hs : swapsWith e none pos.line X.env = pure false := by rfl) : RS X (.Expr e pos) (dExp te) := ⟨fun q => xs_expr (h.go q) hs⟩
/-- a raise that is never reached -/
def dOff : DS := fun _ _ => False
theorem rs_off : RS X st dOff := ⟨fun q => q.elim⟩
def dIf (t : DB) (a b : DS) : DS := fun E Φ => t E fun E1 k => (k = true → a E1 Φ) ∧ (k = false → b E1 Φ)
theorem rs_if {t : DB} {u v : DS} (h : RT X c t) (ha : RSs X body u) (hb : RSs X els v) : RS X (.If c body els pos) (dIf t u v) := ⟨fun q => xs_if (xt_cut (h.go q) fun E1 k ⟨z1, z2⟩ => ⟨fun e => ha.go (z1 e), fun e => hb.go (z2 e)⟩)⟩
def dSet (S : Bool) (i : Nat) (te : DX) : DS := fun E Φ => te E fun E1 r => asgK S E1 i r Φ.nx
theorem rs_set {i : Nat} {pos' : Pos} (S : Bool) (h : RE X e te) (hN : X.N.Nodup := by assumption) (hi : X.N[i]? = some x := by rfl) (hx : Loc X.env.scope x := by first | exact Or.inl rfl | exact Or.inr rfl) (hs : swapsWith e (some (.Name x pos')) pos.line X.env = pure false := by rfl)
    (hf : X.fn x = true ∨ X.env.scope.names.lookup x = some .local := by first | exact .inl rfl | exact .inr rfl | assumption) : RS X (.Assign [.Name x pos'] e pos) (dSet S i te) := ⟨fun q => xs_set (xe_cut (h.go q) fun E1 r z => asgK_ok z) hN hi hx hs hf⟩
def dAug (i : Nat) (o : DOp) (te : DX) : DS := fun E Φ => shB (slG E i) fun d => te E fun E1 r1 => fzK r1 fun r1' => slG E1 i = .sh d ∧ rdK E1 r1' fun d2 => o d d2 fun r => asgK true E1 i r Φ.nx
where shB (b : Bd) (k : PD → Prop) : Prop := match b with
  | .sh d => k d
  | _ => False
theorem shB_ok {b : Bd} {k : PD → Prop} (h : dAug.shB b k) : ∃ d, b = .sh d ∧ k d := by
  unfold dAug.shB at h
  split at h
  · exact ⟨_, rfl, h⟩
  · exact h.elim
theorem rs_aug {i : Nat} {pos' : Pos} {op : Operator} {r : R2} {o : DOp} (ho : OpR X (inplaceOp op) r) (hr : ROp X r o) (h : RE X e te) (hN : X.N.Nodup := by assumption) (hi : X.N[i]? = some x := by rfl) (hx : Loc X.env.scope x := by first | exact Or.inl rfl | exact Or.inr rfl)
    (hf : X.fn x = true ∨ X.env.scope.names.lookup x = some .local := by first | exact .inl rfl | exact .inr rfl | assumption) : RS X (.AugAssign (.Name x pos') op e pos) (dAug i o te) := ⟨fun {F E Φ} q => by
  obtain ⟨d, hd, q⟩ := shB_ok q
  refine xs_aug (d := d) ho (fun E1 e1 => by rw [e1]; exact slG_ok hd (by simp)) (xe_cut (h.go q) fun E1 r1 z => ?_) hN hi hx hf
  obtain ⟨r1', f, hd1, z⟩ := fzK_ok z
  obtain ⟨d2, rd, z⟩ := rdK_ok z
  exact ⟨r1', f, slG_ok hd1 (by simp), hr.at (.inl .sh) rd z fun r z => asgK_ok z⟩⟩
/-- a[b] = e -/
def stK (E : EnvB) (i : Nat) (dk d : PD) (k : EnvB → Prop) : Prop := ownK E (.br i) fun _ o => match o with
  | .lst xs => iK dk fun n => ∃ j, ixN xs.length n = some j ∧ putK' E i (.lst (xs.set j d)) k
  | .dic es => ∃ key, kOf dk = some key ∧ es.length < 100000 ∧ putK' E i (.dic (dput es key d)) k
  | _ => False
theorem stK_ok {E : EnvB} {i : Nat} {dk d : PD} {k : EnvB → Prop} (h : stK E i dk d k) : ∃ E', PutE E i dk d E' ∧ k E' := by
  obtain ⟨i', b, o, e, hE, hb, z⟩ := ownK_ok h
  cases e
  split at z
  · obtain ⟨n, rfl, j, hj, z⟩ := iK_ok z
    obtain ⟨b', o0', E4, hE', hb', hs, z⟩ := putK_ok z
    rw [hE] at hE'
    cases hE'
    exact ⟨E4, .lst hE hb hj hs, z⟩
  · obtain ⟨key, hk, hl, z⟩ := z
    obtain ⟨b', o0', E4, hE', hb', hs, z⟩ := putK_ok z
    rw [hE] at hE'
    cases hE'
    exact ⟨E4, .dic hE hb hk hl hs, z⟩
  · exact z.elim
def dSto (te ta tb : DX) : DS := fun E Φ => te E fun E1 r1 => fzK r1 fun r1' => ta E1 fun E2 r2 => ownK E2 r2 fun i _ => tb E2 fun E3 r3 => shK r3 fun dk => fzsK E3 [r1'] fun E4 ds => match ds with
  | [d] => stK E4 i dk d Φ.nx
  | _ => False
theorem rs_store {pos' : Pos} (hu : X.A.units + 64 < cLine) (he : RE X e te) (ha : RE X a ta) (hb : RE X b tb)
    (hh : ∀ v, assign (.Subscript a b pos') X.env v = (do
      let ov ← holding [v] (eval a X.env)
      let iv ← holding [v, ov] (eval b X.env)
      standAt pos'
      holding [v, ov, iv] (setItem ov iv v)
      release [v, ov, iv] []) := by intro _; rfl) (hs : swapsWithSole [.Subscript a b pos'] e pos.line X.env = pure false := by rfl) (hw : swappedStores [.Subscript a b pos'] e X.env = pure none := by rfl)
    (h1 : (assignEach [.Subscript a b pos'] X.env).map (·.2) = [assign (.Subscript a b pos') X.env] := by rfl) : RS X (.Assign [.Subscript a b pos'] e pos) (dSto te ta tb) := ⟨fun q => xs_store hu (xe_cut (he.go q) fun E1 r1 z => by
  obtain ⟨r1', f, z⟩ := fzK_ok z
  refine ⟨r1', f, xe_cut (ha.go z) fun E2 r2 z => ?_⟩
  obtain ⟨i, b0, o0, rfl, hE0, hb0, z⟩ := ownK_ok z
  refine ⟨i, rfl, xe_cut (hb.go z) fun E3 r3 z => ?_⟩
  obtain ⟨dk, rfl, z⟩ := shK_ok z
  obtain ⟨E4, ds, fs, z⟩ := fzsK_ok z
  split at z
  · obtain ⟨E5, p, z⟩ := stK_ok z
    exact ⟨E4, _, dk, E5, fs, rfl, p, z⟩
  · exact z.elim) hh hs hw h1⟩
/-- xs[i] op= e -/
def dAugI (o : DOp) (ta tb te : DX) : DS := fun E Φ => ta E fun E1 r1 => ownK E1 r1 fun i o1 => lsK o1 fun _ => tb E1 fun E2 r2 => shK r2 fun dk => iK dk fun k => ownK E2 (.br i) fun _ o2 => lsK o2 fun ds => ∃ j d, ixN ds.length k = some j ∧ ds[j]? = some d ∧ te E2 fun E3 r3 => fzK r3 fun r3' => ownK E3 (.br i) fun _ o3 => lsK o3 fun ds3 => ds3.length = ds.length ∧ rdK E3 r3' fun d2 => o d d2 fun r4 => shK r4 fun d4 => putK' E3 i (.lst (ds3.set j d4)) Φ.nx
where lsK (o : Oc) (k : List PD → Prop) : Prop := match o with
  | .lst ds => k ds
  | _ => False
theorem lsK_ok {o : Oc} {k : List PD → Prop} (h : dAugI.lsK o k) : ∃ ds, o = .lst ds ∧ k ds := by
  unfold dAugI.lsK at h
  split at h
  · exact ⟨_, rfl, h⟩
  · exact h.elim
theorem rs_augI {op : Operator} {r : R2} {tpos : Pos} {o : DOp} (ho : OpR X (inplaceOp op) r) (hr : ROp X r o) (hu : X.A.units + 64 < cLine) (ha : RE X a ta) (hb : RE X b tb) (he : RE X e te)
    (hh : ∀ ov iv new, augStore b ov iv new = (do holding [new, ov, iv] (setItem ov iv new); release [new, ov, iv] []; pure .next) := by intros; rfl) : RS X (.AugAssign (.Subscript a b tpos) op e pos) (dAugI o ta tb te) := ⟨fun q => xs_augI ho hu (xe_cut (ha.go q) fun E1 r1 z => by
  obtain ⟨i, b0, o0, rfl, hE0, hb0, z⟩ := ownK_ok z
  obtain ⟨ds0, rfl, z⟩ := lsK_ok z
  refine ⟨i, b0, ds0, rfl, hE0, hb0, xe_cut (hb.go z) fun E2 r2 z => ?_⟩
  obtain ⟨dk, rfl, z2⟩ := shK_ok z
  obtain ⟨k, rfl, z3⟩ := iK_ok z2
  obtain ⟨i', b2, o2, e2, hE2, hb2, z⟩ := ownK_ok z3
  cases e2
  obtain ⟨ds, rfl, j, d, hj, hd, z⟩ := lsK_ok z
  refine ⟨k, j, d, ds, b2, rfl, hE2, hb2, hj, hd, xe_cut (he.go z) fun E3 r3 z => ?_⟩
  obtain ⟨r3', f3, z⟩ := fzK_ok z
  obtain ⟨i', b3, o3, e3, hE3, hb3, z⟩ := ownK_ok z
  cases e3
  obtain ⟨ds3, rfl, hl, z⟩ := lsK_ok z
  obtain ⟨d2, rd, z⟩ := rdK_ok z
  refine ⟨r3', b3, ds3, f3, hE3, hb3, hl, hr.at (.inl .sh) rd z fun r4 z => ?_⟩
  obtain ⟨d4, rfl, z⟩ := shK_ok z
  obtain ⟨b', o0', E4, hE', hb', hs, z⟩ := putK_ok z
  rw [hE3] at hE'
  cases hE'
  exact ⟨d4, E4, rfl, rfl, hs, z⟩) hh⟩
/-- targets -/
def gNm (i : Nat) : DG := fun d E Ψ => slP E i (.sh d) Ψ
def gPr (i j : Nat) : DG := fun d E Ψ => match d with
  | .tuple [d1, d2] => slP E i (.sh d1) fun E2 => slP E2 j (.sh d2) Ψ
  | _ => False
theorem rg_name {i : Nat} (hN : X.N.Nodup := by assumption) (hi : X.N[i]? = some x := by rfl) (hx : Loc X.env.scope x := by first | exact Or.inl rfl | exact Or.inr rfl)
    (hf : X.fn x = true ∨ X.env.scope.names.lookup x = some .local := by first | exact .inl rfl | exact .inr rfl | assumption) : RG X (.Name x pos) (gNm i) := ⟨fun q => xg_name (slP_ok q) hN hi hx hf⟩
theorem rg_pair {i j : Nat} {y : Str} {p1 p2 : Pos} {kk : Nat} (hN : X.N.Nodup := by assumption) (hi : X.N[i]? = some x := by rfl) (hx : Loc X.env.scope x := by first | exact Or.inl rfl | exact Or.inr rfl) (hj : X.N[j]? = some y := by rfl) (hy : Loc X.env.scope y := by first | exact Or.inl rfl | exact Or.inr rfl)
    (hf : X.fn x = true ∨ X.env.scope.names.lookup x = some .local := by first | exact .inl rfl | exact .inr rfl | assumption) (hf2 : X.fn y = true ∨ X.env.scope.names.lookup y = some .local := by first | exact .inl rfl | exact .inr rfl | assumption) (hc : X.calm = true := by rfl)
    (q1 : (assignEach [.Name x p1, .Name y p2] X.env).map (·.2) = assign (.Name x p1) X.env :: (assignEach [.Name y p2] X.env).map (·.2) := by rfl) (q2 : (assignEach [.Name y p2] X.env).map (·.2) = assign (.Name y p2) X.env :: (assignEach [] X.env).map (·.2) := by rfl)
    (hn : (assignEach [.Name x p1, .Name y p2] X.env).length = 2 := by rfl) (hst : (assignEach [.Name x p1, .Name y p2] X.env).findIdx? (·.1) = none := by rfl) : RG X (.Tuple [.Name x p1, .Name y p2] kk pos) (gPr i j) := ⟨fun {F E d Φ} q => by
  unfold gPr at q
  split at q
  · obtain ⟨E2, s2, q⟩ := slP_ok q
    obtain ⟨E3, s3, q⟩ := slP_ok q
    exact xg_pair ⟨E2, E3, s2, s3, q⟩ hN hi hx hj hy hf hf2 hc q1 q2 hn hst
  · exact q.elim⟩
end
end Bk

set_option maxHeartbeats 4000000
namespace Bk
open PySem PySem.Spec PyProof.Rows L2

/-! ### what is walked -/
def itK (E : EnvB) : Rs → (EnvB → List PD → Prop) → Prop
  | .sh (.list ds), k => k E ds
  | .sh (.tuple ds), k => k E ds
  | .sh (.str z), k => k E (sgnD z)
  | .nw (.lst ds), k => k E ds
  | .br i, k => match slG E i with
    | .ow (.lst ds) => slP E i (.sh (.list ds)) fun E2 => k E2 ds
    | _ => False
  | _, _ => False
theorem itK_ok {E : EnvB} {r : Rs} {k : EnvB → List PD → Prop} (h : itK E r k) : ∃ E2 ds, ItD E r E2 ds ∧ k E2 ds := by
  unfold itK at h
  split at h
  · exact ⟨_, _, .lst, h⟩
  · exact ⟨_, _, .tup, h⟩
  · exact ⟨_, _, .str, h⟩
  · exact ⟨_, _, .nw, h⟩
  · split at h
    · obtain ⟨E2, s, h⟩ := slP_ok h
      exact ⟨_, _, .ow (slG_ok ‹_› (by simp)) s, h⟩
    · exact h.elim
  · exact h.elim
def iVal (te : DX) : DI := fun E Θ => te E fun E1 r => itK E1 r Θ
def iRng (te : DX) : DI := fun E Θ => te E fun E1 r => shK r fun d => iK d fun n => (-1000000 ≤ n ∧ n ≤ 1000000) ∧ Θ E1 (rngD 0 n.toNat)
def iRng2 (ta tb : DX) : DI := fun E Θ => ta E fun E1 r => shK r fun d => iK d fun m => (-1000000 ≤ m ∧ m ≤ 1000000) ∧ tb E1 fun E2 r => shK r fun d => iK d fun n => (-1000000 ≤ n ∧ n ≤ 1000000) ∧ Θ E2 (rngD m (n - m).toNat)
def iRngD (ta tb : DX) : DI := fun E Θ => ta E fun E1 r => shK r fun d => iK d fun m => (-1000000 ≤ m ∧ m ≤ 1000000) ∧ tb E1 fun E2 r => shK r fun d => iK d fun n => (-1000000 ≤ n ∧ n ≤ 1000000) ∧ Θ E2 (dwnD m (m - n).toNat)
def iEnu (te : DX) : DI := fun E Θ => te E fun E1 r => itK E1 r fun E2 ds => Θ E2 (enD ds)
def iZip (ta tb : DX) : DI := fun E Θ => ta E fun E1 r => fzK r fun r' => tb E1 fun E2 r2 => fzK r2 fun r2' => itK E2 r' fun E3 ds => itK E3 r2' fun E4 es => ds.length = es.length ∧ Θ E4 (zpD ds es)
def dFor (tg : DG) (ti : DI) (body : DS) : DS := fun E Φ => ti E fun E1 ds => ∃ Iv : Nat → EnvB → Prop, Iv 0 E1 ∧ (∀ i d E2, ds[i]? = some d → Iv i E2 → tg d E2 fun E3 => body E3 { nx := Iv (i + 1), rt := Φ.rt, bk := Φ.nx, ct := Iv (i + 1) }) ∧ ∀ E2, Iv ds.length E2 → Φ.nx E2
def dWhl (t : DB) (body : DS) : DS := fun E Φ => ∃ (Wv : Nat → EnvB → Prop) (m : Nat), Wv m E ∧ ∀ m E1, Wv m E1 → t E1 fun E2 k => (k = true → body E2 { nx := fun E3 => ∃ m', m' < m ∧ Wv m' E3, rt := Φ.rt, bk := Φ.nx, ct := fun E3 => ∃ m', m' < m ∧ Wv m' E3 }) ∧ (k = false → Φ.nx E2)
section
variable {X : Cx} {a b c e o iter tg : Expr} {es : List Expr} {pos p apos : Pos} {x : Str} {ta tb tc te to : DX} {st : Stmt} {sts body els : List Stmt}
theorem ri_val (h : RE X e te) : RI X tg e (iVal te) := ⟨fun q => xi_val (xe_cut (h.go q) fun E1 r z => itK_ok z)⟩
theorem ri_range1 (hm : X.mg "range" = none) (h : RE X a ta) (hg : Gl X "range" := by rfl) (hs : starEach [a] X.env = [(false, eval a X.env)] := by rfl) : RI X tg (.Call (.Name "range" p) [a] [] pos) (iRng ta) := ⟨fun q => xi_range1 hm (xe_cut (h.go q) fun E1 r z => by
  obtain ⟨d, rfl, z2⟩ := shK_ok z
  obtain ⟨n, rfl, z3⟩ := iK_ok z2
  exact ⟨n, rfl, z3⟩) hg hs⟩
theorem ri_range2 (hm : X.mg "range" = none) (h : RE X a ta) (h2 : RE X b tb) (hg : Gl X "range" := by rfl) (hs : starEach [a, b] X.env = [(false, eval a X.env), (false, eval b X.env)] := by rfl) (hs2 : starEach [b] X.env = [(false, eval b X.env)] := by rfl) : RI X tg (.Call (.Name "range" p) [a, b] [] pos) (iRng2 ta tb) := ⟨fun q => xi_range2 hm (xe_cut (h.go q) fun E1 r z => by
  obtain ⟨d, rfl, z2⟩ := shK_ok z
  obtain ⟨n, rfl, hn, z3⟩ := iK_ok z2
  refine ⟨n, rfl, hn, xe_cut (h2.go z3) fun E2 r z => ?_⟩
  obtain ⟨d, rfl, z2⟩ := shK_ok z
  obtain ⟨n, rfl, z3⟩ := iK_ok z2
  exact ⟨n, rfl, z3⟩) hg hs hs2⟩
theorem ri_enum {elts : List Expr} {kk : Nat} {tpos : Pos} (hm : X.mg "enumerate" = none) (h : RE X e te) (q : ∀ {F E Θ}, (XE X F e E fun E1 r => ∃ E2 ds, ItD E1 r E2 ds ∧ Θ E2 (enD ds)) → XI X F (.Tuple elts kk tpos) (.Call (.Name "enumerate" p) [e] [] pos) E Θ) : RI X (.Tuple elts kk tpos) (.Call (.Name "enumerate" p) [e] [] pos) (iEnu te) := ⟨fun z => q (xe_cut (h.go z) fun E1 r z => itK_ok z)⟩
theorem xi_cut {F : Fm} {E : EnvB} {Θ Θ' : EnvB → List PD → Prop} (h : XI X F tg iter E Θ') (q : ∀ E1 r, Θ' E1 r → Θ E1 r) : XI X F tg iter E Θ := fun pins s w σ H G I i =>
  thn (h pins s w σ H G I i) fun v s1 h1 => thn h1 fun u s2 h2 => pie_imp (fun J H ⟨w', G', E', ds, a, b, c, d⟩ => ⟨w', G', E', ds, a, b, c, q _ _ d⟩) h2
theorem rs_for {t : DG} {ti : DI} {u : DS} (hi : RI X tg iter ti) (hg : RG X tg t) (hb : RSs X body u)
    (hp : PassesOwn (model X.prog X.w) X.A X.env X.xe := by exact PassesOwn.never) (hc : X.calm = true := by rfl) (hs : ∀ x, foldedSetIterable iter X.env x = pure x := by intro _; rfl) : RS X (.For tg iter body [] pos) (dFor t ti u) := ⟨fun q => xs_for (xi_cut (hi.go q) fun E1 ds ⟨Iv, h0, hst, hd⟩ => ⟨Iv, h0, fun i d E2 hd hI => by
  have := hst i d E2 hd hI
  exact fun pins s w σ H G v u I i rv r => thn ((hg.go (F := _) this) pins s w σ H G v u I i rv r) fun _ s' ⟨σ', H', I', w', G', E', a, b, z⟩ => ⟨σ', H', I', w', G', E', a, b, hb.go z⟩, hd⟩) hp hc hs⟩
theorem rs_while {t : DB} {u : DS} (ht : RT X c t) (hb : RSs X body u) (hp : PassesOwn (model X.prog X.w) X.A X.env X.xe := by exact PassesOwn.never) : RS X (.While c body [] pos) (dWhl t u) := ⟨fun ⟨Wv, m, h0, hs⟩ => xs_while Wv m h0 (fun m E1 hw => xt_cut (ht.go (hs m E1 hw)) fun E2 k ⟨z1, z2⟩ => ⟨fun e => hb.go (z1 e), z2⟩) hp⟩
/-- a, b = e; any one target -/
def dAsg (tg : DG) (te : DX) : DS := fun E Φ => te E fun E1 r => fzK r fun r' => shK r' fun d => tg d E1 Φ.nx
theorem rs_asg {t : DG} (h : RE X e te) (hg : RG X tg t) (hs : swapsWithSole [tg] e pos.line X.env = pure false := by rfl) (hw : swappedStores [tg] e X.env = pure none := by rfl)
    (h1 : (assignEach [tg] X.env).map (·.2) = [assign tg X.env] := by rfl) : RS X (.Assign [tg] e pos) (dAsg t te) := ⟨fun q => xs_asg (xe_cut (h.go q) fun E1 r z => by
  obtain ⟨r', f, z⟩ := fzK_ok z
  obtain ⟨d, rfl, z⟩ := shK_ok z
  exact ⟨d, f, hg.go z⟩) hs hw h1⟩
/-- x, y = a, b -/
def dPar (i j : Nat) (ta : DAs) : DS := fun E Φ => ta E fun E1 rs => fzsK E1 rs fun E2 ds => match ds with
  | [d1, d2] => slP E2 i (.sh d1) fun E3 => slP E3 j (.sh d2) Φ.nx
  | _ => False
theorem rs_par {i j : Nat} {y : Str} {px py pt : Pos} {kt k2 pt2} {t : DAs} (h : RA X [a, b] t) (hij : i ≠ j := by decide) (hN : X.N.Nodup := by assumption) (hi : X.N[i]? = some x := by rfl) (hj : X.N[j]? = some y := by rfl)
    (hx : X.env.scope.names.lookup x = some .local := by rfl) (hy : X.env.scope.names.lookup y = some .local := by rfl) (hw : swappedStores [.Tuple [.Name x px, .Name y py] kt pt] (.Tuple [a, b] k2 pt2) X.env = pure (some [x, y]) := by rfl) (hc : X.calm = true := by rfl)
    (hs : swapsWithSole [.Tuple [.Name x px, .Name y py] kt pt] (.Tuple [a, b] k2 pt2) pos.line X.env = pure false := by rfl) : RS X (.Assign [.Tuple [.Name x px, .Name y py] kt pt] (.Tuple [a, b] k2 pt2) pos) (dPar i j t) := ⟨fun q => xs_par (xa_cut (h.go q) fun E1 rs z => by
  obtain ⟨E2, ds, f, z⟩ := fzsK_ok z
  split at z
  · obtain ⟨E3, s3, z⟩ := slP_ok z
    obtain ⟨E4, s4, z⟩ := slP_ok z
    exact ⟨E2, _, _, E3, E4, f, s3, s4, z⟩
  · exact z.elim) hij hN hi hj hx hy hw hc hs⟩
/-- x, y = [], []: two own lists -/
def dParL (i j : Nat) (ta tb : DX) : DS := fun E Φ => ta E fun E1 r => nwK r fun ds1 => tb E1 fun E2 r2 => nwK r2 fun ds2 => slP E2 i (.ow (.lst ds1)) fun E3 => slP E3 j (.ow (.lst ds2)) Φ.nx
where nwK (r : Rs) (k : List PD → Prop) : Prop := match r with
  | .nw (.lst ds) => k ds
  | _ => False
theorem nwK_ok {r : Rs} {k : List PD → Prop} (h : dParL.nwK r k) : ∃ ds, r = .nw (.lst ds) ∧ k ds := by
  unfold dParL.nwK at h
  split at h
  · exact ⟨_, rfl, h⟩
  · exact h.elim
theorem rs_parL {i j : Nat} {y : Str} {px py pt : Pos} {kt k2 pt2} (h : RE X a ta) (h2 : RE X b tb) (hij : i ≠ j := by decide) (hN : X.N.Nodup := by assumption) (hi : X.N[i]? = some x := by rfl) (hj : X.N[j]? = some y := by rfl)
    (hx : X.env.scope.names.lookup x = some .local := by rfl) (hy : X.env.scope.names.lookup y = some .local := by rfl) (hw : swappedStores [.Tuple [.Name x px, .Name y py] kt pt] (.Tuple [a, b] k2 pt2) X.env = pure (some [x, y]) := by rfl) (hc : X.calm = true := by rfl)
    (q : ∀ {F E} {Φ : Post}, (XE X F a E fun E1 r => ∃ ds1, r = .nw (.lst ds1) ∧ ∀ F', XE X F' b E1 fun E2 r2 => ∃ ds2 E3 E4, r2 = .nw (.lst ds2) ∧ SetE E2 i (.ow (.lst ds1)) E3 ∧ SetE E3 j (.ow (.lst ds2)) E4 ∧ Φ.nx E4) → XS X F (.Assign [.Tuple [.Name x px, .Name y py] kt pt] (.Tuple [a, b] k2 pt2) pos) E Φ) : RS X (.Assign [.Tuple [.Name x px, .Name y py] kt pt] (.Tuple [a, b] k2 pt2) pos) (dParL i j ta tb) := ⟨fun z => q (xe_cut (h.go z) fun E1 r z => by
  obtain ⟨ds1, rfl, z⟩ := nwK_ok z
  refine ⟨ds1, rfl, fun F' => xe_cut (h2.go z) fun E2 r2 z => ?_⟩
  obtain ⟨ds2, rfl, z⟩ := nwK_ok z
  obtain ⟨E3, s3, z⟩ := slP_ok z
  obtain ⟨E4, s4, z⟩ := slP_ok z
  exact ⟨ds2, E3, E4, rfl, s3, s4, z⟩)⟩
/-- list(range(n)) -/
def dLRg (ta : DX) : DX := fun E Φ => ta E fun E1 r => shK r fun d => iK d fun n => (0 ≤ n ∧ n ≤ 100000) ∧ Φ E1 (.nw (.lst (rngD 0 n.toNat)))
theorem re_lrg {p2 pos2 : Pos} (hl : X.mg "list" = none) (hr : X.mg "range" = none) (h : RE X a ta) (hc : X.calm = true := by rfl) (hg : Gl X "list" := by rfl) (hg2 : Gl X "range" := by rfl)
    (na : starEach [.Call (.Name "range" p2) [a] [] pos2] X.env = (false, eval (.Call (.Name "range" p2) [a] [] pos2) X.env) :: starEach [] X.env := by rfl) (na2 : starEach [a] X.env = (false, eval a X.env) :: starEach [] X.env := by rfl) : RE X (.Call (.Name "list" p) [.Call (.Name "range" p2) [a] [] pos2] [] pos) (dLRg ta) := ⟨fun q => xe_listRg hl hr (xe_cut (h.go q) fun E1 r z => by
  obtain ⟨d, rfl, z2⟩ := shK_ok z
  obtain ⟨n, rfl, z3⟩ := iK_ok z2
  exact ⟨n, rfl, z3⟩) hc hg hg2 na na2⟩
/-! ### comprehensions -/
variable {scope : Scope} {y : Str} {p1 p2 tpos : Pos} {i i2 kk : Nat}
def dLcN (i : Nat) (ti : DI) (te : DX) : DX := fun E Φ => ti E fun E1 ds => ds.length ≤ 100000 ∧ ∃ (Iv : Nat → EnvB → Prop) (R : Nat → PD → Prop), slP E1 i .un (Iv 0) ∧
  (∀ k d E2, ds[k]? = some d → Iv k E2 → slP E2 i (.sh d) fun E3 => te E3 fun E5 r => fzK r fun r' => fzsK E5 [r'] fun E6 ys => match ys with
    | [y] => slP E6 i .un fun E7 => Iv (k + 1) E7 ∧ R k y
    | _ => False) ∧
  ∀ E2 ys, Iv ds.length E2 → ys.length = ds.length → (∀ k y, ys[k]? = some y → R k y) → Φ E2 (.nw (.lst ys))
def dLcP (i i2 : Nat) (ti : DI) (te : DX) : DX := fun E Φ => ti E fun E1 ds => ds.length ≤ 100000 ∧ ∃ (Iv : Nat → EnvB → Prop) (R : Nat → PD → Prop), (slP E1 i2 .un fun E2 => slP E2 i .un (Iv 0)) ∧
  (∀ k d E2, ds[k]? = some d → Iv k E2 → gPr i i2 d E2 fun E4 => te E4 fun E5 r => fzK r fun r' => fzsK E5 [r'] fun E6 ys => match ys with
    | [y] => slP E6 i2 .un fun E7 => slP E7 i .un fun E8 => Iv (k + 1) E8 ∧ R k y
    | _ => False) ∧
  ∀ E2 ys, Iv ds.length E2 → ys.length = ds.length → (∀ k y, ys[k]? = some y → R k y) → Φ E2 (.nw (.lst ys))
def dLcF (i : Nat) (ti : DI) (tc : DB) (te : DX) : DX := fun E Φ => ti E fun E1 ds => ds.length ≤ 100000 ∧ ∃ Iv : Nat → EnvB → List PD → Prop, (slP E1 i .un fun E2 => Iv 0 E2 []) ∧
  (∀ k d E2 acc, ds[k]? = some d → Iv k E2 acc → slP E2 i (.sh d) fun E3 => tc E3 fun E4 b => (b = true → te E4 fun E5 r => fzK r fun r' => fzsK E5 [r'] fun E6 ys => match ys with
    | [y] => slP E6 i .un fun E7 => Iv (k + 1) E7 (acc ++ [y])
    | _ => False) ∧ (b = false → slP E4 i .un fun E7 => Iv (k + 1) E7 acc)) ∧
  ∀ E2 acc, Iv ds.length E2 acc → Φ E2 (.nw (.lst acc))
theorem dLcN_ok {F : Fm} {E : EnvB} {ti : DI} {Φ : EnvB → Rs → Prop} (hi : RI X (.Name x p) iter ti) (he : ∀ j, RE (Bx X scope j) e te) (q : dLcN i ti te E Φ) : LcN X F scope e x p iter i E Φ :=
  xi_cut (hi.go q) fun E1 ds ⟨hl, Iv, R, h0, hst, hd⟩ => ⟨hl, Iv, R, slP_ok h0, fun k d E2 F' hd hI => by
    obtain ⟨E3, s3, z⟩ := slP_ok (hst k d E2 hd hI)
    refine ⟨E3, s3, fun j => xe_cut ((he j).go z) fun E5 r z => ?_⟩
    obtain ⟨r', f, z⟩ := fzK_ok z
    obtain ⟨E6, ys, fs, z⟩ := fzsK_ok z
    split at z
    · obtain ⟨E7, s7, z⟩ := slP_ok z
      exact ⟨r', E6, _, E7, f, fs, s7, z⟩
    · exact z.elim, hd⟩
theorem dLcP_ok {F : Fm} {E : EnvB} {ti : DI} {Φ : EnvB → Rs → Prop} (hi : RI X (.Tuple [.Name x p1, .Name y p2] kk tpos) iter ti) (he : ∀ j, RE (Bx X scope j) e te) (q : dLcP i i2 ti te E Φ) : LcP X F scope e x y p1 p2 tpos kk iter i i2 E Φ :=
  xi_cut (hi.go q) fun E1 ds ⟨hl, Iv, R, h0, hst, hd⟩ => ⟨hl, Iv, R, by
    obtain ⟨E2, s2, h0⟩ := slP_ok h0
    obtain ⟨E3, s3, h0⟩ := slP_ok h0
    exact ⟨E2, E3, s2, s3, h0⟩, fun k d E2 F' hd hI => by
    have z := hst k d E2 hd hI
    unfold gPr at z
    split at z
    · obtain ⟨E3, s3, z⟩ := slP_ok z
      obtain ⟨E4, s4, z⟩ := slP_ok z
      refine ⟨_, _, E3, E4, rfl, s3, s4, fun j => xe_cut ((he j).go z) fun E5 r z => ?_⟩
      obtain ⟨r', f, z⟩ := fzK_ok z
      obtain ⟨E6, ys, fs, z⟩ := fzsK_ok z
      split at z
      · obtain ⟨E7, s7, z⟩ := slP_ok z
        obtain ⟨E8, s8, z⟩ := slP_ok z
        exact ⟨r', E6, _, E7, E8, f, fs, s7, s8, z⟩
      · exact z.elim
    · exact z.elim, hd⟩
theorem dLcF_ok {F : Fm} {E : EnvB} {ti : DI} {tc : DB} {Φ : EnvB → Rs → Prop} (hi : RI X (.Name x p) iter ti) (hc : ∀ j, RT (Bx X scope j) c tc) (he : ∀ j, RE (Bx X scope j) e te) (q : dLcF i ti tc te E Φ) : LcF X F scope e c x p iter i E Φ :=
  xi_cut (hi.go q) fun E1 ds ⟨hl, Iv, h0, hst, hd⟩ => ⟨hl, Iv, slP_ok h0, fun k d E2 acc F' hd hI => by
    obtain ⟨E3, s3, z⟩ := slP_ok (hst k d E2 acc hd hI)
    refine ⟨E3, s3, fun j => xt_cut ((hc j).go z) fun E4 b ⟨z1, z2⟩ => ⟨fun hb j => xe_cut ((he j).go (z1 hb)) fun E5 r z => ?_, fun hb => slP_ok (z2 hb)⟩⟩
    obtain ⟨r', f, z⟩ := fzK_ok z
    obtain ⟨E6, ys, fs, z⟩ := fzsK_ok z
    split at z
    · obtain ⟨E7, s7, z⟩ := slP_ok z
      exact ⟨r', E6, _, E7, f, fs, s7, z⟩
    · exact z.elim, hd⟩
theorem re_lcN {ti : DI} (hi : RI X (.Name x p) iter ti) (he : ∀ j, RE (Bx X scope j) e te) (ok : blkB X.N X.env.scope scope [(x, i)] = true := by kernel_rfl) (hx : X.N[i]? = some x := by rfl) (hl : scope.names.lookup x = some .local := by rfl) (hN : X.N.Nodup := by assumption) (hc : X.calm = true := by rfl) (hs : ∀ x, foldedSetIterable iter X.env x = pure x := by intro _; rfl) : RE X (.ListComp e [⟨.Name x p, iter, [], 0⟩] scope pos) (dLcN i ti te) := ⟨fun q => xe_lcN (dLcN_ok hi he q) ok hx hl hN hc hs⟩
theorem re_lcP {ti : DI} (hi : RI X (.Tuple [.Name x p1, .Name y p2] kk tpos) iter ti) (he : ∀ j, RE (Bx X scope j) e te) (ok : blkB X.N X.env.scope scope [(x, i), (y, i2)] = true := by kernel_rfl) (hx : X.N[i]? = some x := by rfl) (hl : scope.names.lookup x = some .local := by rfl) (hi2 : X.N[i2]? = some y := by rfl) (hl2 : scope.names.lookup y = some .local := by rfl) (hN : X.N.Nodup := by assumption) (hc : X.calm = true := by rfl) (hs : ∀ x, foldedSetIterable iter X.env x = pure x := by intro _; rfl) : RE X (.ListComp e [⟨.Tuple [.Name x p1, .Name y p2] kk tpos, iter, [], 0⟩] scope pos) (dLcP i i2 ti te) := ⟨fun q => xe_lcP (dLcP_ok hi he q) ok hx hl hi2 hl2 hN hc hs⟩
theorem re_lcF {ti : DI} {tc : DB} (hi : RI X (.Name x p) iter ti) (hcd : ∀ j, RT (Bx X scope j) c tc) (he : ∀ j, RE (Bx X scope j) e te) (ok : blkB X.N X.env.scope scope [(x, i)] = true := by kernel_rfl) (hx : X.N[i]? = some x := by rfl) (hl : scope.names.lookup x = some .local := by rfl) (hN : X.N.Nodup := by assumption) (hc : X.calm = true := by rfl) (hs : ∀ x, foldedSetIterable iter X.env x = pure x := by intro _; rfl) : RE X (.ListComp e [⟨.Name x p, iter, [c], 0⟩] scope pos) (dLcF i ti tc te) := ⟨fun q => xe_lcF (dLcF_ok hi hcd he q) ok hx hl hN hc hs⟩
theorem lcN_cut {F : Fm} {E : EnvB} {Φ Φ' : EnvB → Rs → Prop} (h : LcN X F scope e x p iter i E Φ') (q : ∀ E1 r, Φ' E1 r → Φ E1 r) : LcN X F scope e x p iter i E Φ :=
  xi_cut h fun E1 ds ⟨hl, Iv, R, h0, hst, hd⟩ => ⟨hl, Iv, R, h0, hst, fun E2 ys z1 z2 z3 => q _ _ (hd E2 ys z1 z2 z3)⟩
theorem lcP_cut {F : Fm} {E : EnvB} {Φ Φ' : EnvB → Rs → Prop} (h : LcP X F scope e x y p1 p2 tpos kk iter i i2 E Φ') (q : ∀ E1 r, Φ' E1 r → Φ E1 r) : LcP X F scope e x y p1 p2 tpos kk iter i i2 E Φ :=
  xi_cut h fun E1 ds ⟨hl, Iv, R, h0, hst, hd⟩ => ⟨hl, Iv, R, h0, hst, fun E2 ys z1 z2 z3 => q _ _ (hd E2 ys z1 z2 z3)⟩
theorem lcF_cut {F : Fm} {E : EnvB} {Φ Φ' : EnvB → Rs → Prop} (h : LcF X F scope e c x p iter i E Φ') (q : ∀ E1 r, Φ' E1 r → Φ E1 r) : LcF X F scope e c x p iter i E Φ :=
  xi_cut h fun E1 ds ⟨hl, Iv, h0, hst, hd⟩ => ⟨hl, Iv, h0, hst, fun E2 ys z1 => q _ _ (hd E2 ys z1)⟩
theorem rs_setLcN {ti : DI} {i0 : Nat} {x0 : Str} {py spos : Pos} (S : Bool) (hi : RI X (.Name x p) iter ti) (he : ∀ j, RE (Bx X scope j) e te) (ok : blkB X.N X.env.scope scope [(x, i)] = true := by kernel_rfl) (hx : X.N[i]? = some x := by rfl) (hl : scope.names.lookup x = some .local := by rfl)
    (hsw : swapsWith (.ListComp e [⟨.Name x p, iter, [], 0⟩] scope pos) (some (.Name x0 py)) spos.line X.env = pure true := by rfl) (hN : X.N.Nodup := by assumption) (hc : X.calm = true := by rfl) (hy : X.N[i0]? = some x0 := by rfl) (hyl : X.env.scope.names.lookup x0 = some .local := by rfl) (hs : ∀ x, foldedSetIterable iter X.env x = pure x := by intro _; rfl) :
    RS X (.Assign [.Name x0 py] (.ListComp e [⟨.Name x p, iter, [], 0⟩] scope pos) spos) (dSet S i0 (dLcN i ti te)) := ⟨fun q => xs_setLcN (lcN_cut (dLcN_ok hi he q) fun _ _ z => asgK_ok z) ok hx hl hsw hN hc hy hyl hs⟩
theorem rs_setLcP {ti : DI} {i0 : Nat} {x0 : Str} {py spos : Pos} (S : Bool) (hi : RI X (.Tuple [.Name x p1, .Name y p2] kk tpos) iter ti) (he : ∀ j, RE (Bx X scope j) e te) (ok : blkB X.N X.env.scope scope [(x, i), (y, i2)] = true := by kernel_rfl) (hx : X.N[i]? = some x := by rfl) (hl : scope.names.lookup x = some .local := by rfl) (hi2 : X.N[i2]? = some y := by rfl) (hl2 : scope.names.lookup y = some .local := by rfl)
    (hsw : swapsWith (.ListComp e [⟨.Tuple [.Name x p1, .Name y p2] kk tpos, iter, [], 0⟩] scope pos) (some (.Name x0 py)) spos.line X.env = pure true := by rfl) (hN : X.N.Nodup := by assumption) (hc : X.calm = true := by rfl) (hy : X.N[i0]? = some x0 := by rfl) (hyl : X.env.scope.names.lookup x0 = some .local := by rfl) (hs : ∀ x, foldedSetIterable iter X.env x = pure x := by intro _; rfl) :
    RS X (.Assign [.Name x0 py] (.ListComp e [⟨.Tuple [.Name x p1, .Name y p2] kk tpos, iter, [], 0⟩] scope pos) spos) (dSet S i0 (dLcP i i2 ti te)) := ⟨fun q => xs_setLcP (lcP_cut (dLcP_ok hi he q) fun _ _ z => asgK_ok z) ok hx hl hi2 hl2 hsw hN hc hy hyl hs⟩
theorem rs_setLcF {ti : DI} {tc : DB} {i0 : Nat} {x0 : Str} {py spos : Pos} (S : Bool) (hi : RI X (.Name x p) iter ti) (hcd : ∀ j, RT (Bx X scope j) c tc) (he : ∀ j, RE (Bx X scope j) e te) (ok : blkB X.N X.env.scope scope [(x, i)] = true := by kernel_rfl) (hx : X.N[i]? = some x := by rfl) (hl : scope.names.lookup x = some .local := by rfl)
    (hsw : swapsWith (.ListComp e [⟨.Name x p, iter, [c], 0⟩] scope pos) (some (.Name x0 py)) spos.line X.env = pure true := by rfl) (hN : X.N.Nodup := by assumption) (hc : X.calm = true := by rfl) (hy : X.N[i0]? = some x0 := by rfl) (hyl : X.env.scope.names.lookup x0 = some .local := by rfl) (hs : ∀ x, foldedSetIterable iter X.env x = pure x := by intro _; rfl) :
    RS X (.Assign [.Name x0 py] (.ListComp e [⟨.Name x p, iter, [c], 0⟩] scope pos) spos) (dSet S i0 (dLcF i ti tc te)) := ⟨fun q => xs_setLcF (lcF_cut (dLcF_ok hi hcd he q) fun _ _ z => asgK_ok z) ok hx hl hsw hN hc hy hyl hs⟩
end
end Bk

set_option maxHeartbeats 4000000
namespace Bk
open PySem PySem.Spec PyProof.Rows L2

/-! ### a def's end -/
def rtK (E : EnvB) (r : Rs) (k : Rs → Prop) : Prop := match r with
  | .sh d => k (.sh d)
  | .nw o => k (.nw o)
  | .br i => match slG E i with
    | .ow o => k (.nw o)
    | _ => False
theorem rtK_ok {E : EnvB} {r : Rs} {k : Rs → Prop} (h : rtK E r k) : ∃ r', RtE E r r' ∧ k r' := by
  unfold rtK at h
  split at h
  · exact ⟨_, .sh, h⟩
  · exact ⟨_, .nw, h⟩
  · split at h
    · exact ⟨_, .br (slG_ok ‹_› (by simp)), h⟩
    · exact h.elim
def ib0K (E : EnvB) (k : Oc → Prop) : Prop := match slG E 0 with
  | .ib 0 o => k o
  | _ => False
theorem ib0K_ok {E : EnvB} {k : Oc → Prop} (h : ib0K E k) : ∃ o, E[0]? = some (.ib 0 o) ∧ k o := by
  unfold ib0K at h
  split at h
  · exact ⟨_, slG_ok ‹_› (by simp), h⟩
  · exact h.elim
abbrev post0 (Ψ : Rs → Prop) : Post := { nx := fun _ => Ψ (.sh .none), rt := fun E r => rtK E r Ψ }
abbrev post1 (Ψ : Rs → Oc → Prop) : Post := { nx := fun E => ib0K E fun o => Ψ (.sh .none) o, rt := fun E r => rtK E r fun r' => ib0K E fun o => Ψ r' o }
section
variable {P : Program} {w : World} {K : PySem.W.Frag} {mg : Str → Option Value} {base : Heap} {x qual : Str} {st : Stmt} {f : Addr} {fd : FuncData} {N ps : List Str} {k : Nat} {body : DS}
theorem okR0 {spec : List PD → (Rs → Prop) → Prop} (Fn : L2.Fun K x qual st f fd) (S : FnScope N ps (defScope st))
    (hb : ∀ (cdv : Value) (A : Around) (outer : List Env) (s : Shared) (H : Hp) (E : XK), Room k (A.deeper (envOfC qual (defScope st) s.heap.objs.size f cdv)) → RSs (cxOf CX0 P w K mg base N qual (defScope st) f cdv A outer s H E).nox (defBody st) body)
    (hs : ∀ (ds : List PD) (Ψ : Rs → Prop), ds.length = ps.length → spec ds Ψ → body (env0 N ds) (post0 Ψ)) : FnOk P w K mg base CX0 (k + 1) f fd ps (Pm K ps.length spec) :=
  ok_def Fn S fun cdv A outer s H E F ds Ψ hr hl h => xss_imp ((hb cdv A outer s H E hr).go (hs ds Ψ hl h)) (fun _ z => z) (fun _ _ z => rtK_ok z) (fun _ z => z) fun _ z => z
theorem okRG {spec : List PD → (Rs → Prop) → Prop} (Fn : L2.Fun K x qual st f fd) (S : FnScope N ps (defScope st))
    (hb : ∀ (cdv : Value) (A : Around) (outer : List Env) (s : Shared) (H : Hp) (E : XK), Room k (A.deeper (envOfC qual (defScope st) s.heap.objs.size f cdv)) → (A.deeper (envOfC qual (defScope st) s.heap.objs.size f cdv)).guards = some [] → RSs (cxOf CX0 P w K mg base N qual (defScope st) f cdv A outer s H E).nox (defBody st) body)
    (hs : ∀ (ds : List PD) (Ψ : Rs → Prop), ds.length = ps.length → spec ds Ψ → body (env0 N ds) (post0 Ψ)) : FnG P w K mg base (k + 1) f fd ps (Pm K ps.length spec) :=
  ok_defG Fn S fun cdv A outer s H E F ds Ψ hr hgd hl h => xss_imp ((hb cdv A outer s H E hr hgd).go (hs ds Ψ hl h)) (fun _ z => z) (fun _ _ z => rtK_ok z) (fun _ z => z) fun _ z => z
theorem okR1 {spec : Oc → List PD → (Rs → Oc → Prop) → Prop} (Fn : L2.Fun K x qual st f fd) (S : FnScope N ps (defScope st))
    (hb : ∀ (cdv : Value) (A : Around) (outer : List Env) (s : Shared) (H : Hp) (E : XK), Room k (A.deeper (envOfC qual (defScope st) s.heap.objs.size f cdv)) → RSs (cxOf CX0 P w K mg base N qual (defScope st) f cdv A outer s H E).nox (defBody st) body)
    (hs : ∀ (o : Oc) (ds : List PD) (Ψ : Rs → Oc → Prop), ds.length + 1 = ps.length → spec o ds Ψ → body (env1 N o ds) (post1 Ψ)) : FnOk P w K mg base CX0 (k + 1) f fd ps (Pm1 K ps.length spec) :=
  ok_def1 Fn S fun cdv A outer s H E F o ds Ψ hr hl h => xss_imp ((hb cdv A outer s H E hr).go (hs o ds Ψ hl h)) (fun _ z => ib0K_ok z) (fun _ _ z => by
    have z : rtK _ _ fun r' => ib0K _ fun o => Ψ r' o := z
    obtain ⟨r', h1, z⟩ := rtK_ok z
    obtain ⟨o', h2, z⟩ := ib0K_ok z
    exact ⟨r', o', h1, h2, z⟩) (fun _ z => z) fun _ z => z
theorem Cal.up {j k : Nat} {sp : Sp} (C : Cal P w K mg base x j sp) (h : j ≤ k) : Cal P w K mg base x k sp := by
  obtain ⟨f, fd, ps, F, a, b, c⟩ := C.ex
  exact ⟨⟨f, fd, ps, F.mono h, a, b, c⟩⟩
end
/-! ### more targets -/
def gSub (ta tb : DX) : DG := fun d E Ψ => ta E fun E2 r2 => ownK E2 r2 fun i _ => tb E2 fun E3 r3 => shK r3 fun dk => stK E3 i dk d Ψ
def gTwo (g1 g2 : DG) : DG := fun d E Ψ => match d with
  | .tuple [d1, d2] => g1 d1 E fun E2 => g2 d2 E2 Ψ
  | _ => False
section
variable {X : Cx} {a b t1 t2 : Expr} {pos : Pos} {ta tb : DX} {g1 g2 : DG}
theorem rg_sub (hu : X.A.units + 64 < cLine) (ha : RE X a ta) (hb : RE X b tb) (hh : ∀ v, assign (.Subscript a b pos) X.env v = (do
      let ov ← holding [v] (eval a X.env)
      let iv ← holding [v, ov] (eval b X.env)
      standAt pos
      holding [v, ov, iv] (setItem ov iv v)
      release [v, ov, iv] []) := by intro _; rfl) : RG X (.Subscript a b pos) (gSub ta tb) := ⟨fun q => xg_sub hu (xe_cut (ha.go q) fun E2 r2 z => by
  obtain ⟨i, b0, o0, rfl, hE0, hb0, z⟩ := ownK_ok z
  refine ⟨i, rfl, xe_cut (hb.go z) fun E3 r3 z => ?_⟩
  obtain ⟨dk, rfl, z⟩ := shK_ok z
  obtain ⟨E5, p, z⟩ := stK_ok z
  exact ⟨dk, E5, rfl, p, z⟩) hh⟩
theorem xg_cut {F : Fm} {E : EnvB} {r : Rs} {Ψ Ψ' : EnvB → Prop} (h : XG X F a r E Ψ') (q : ∀ E, Ψ' E → Ψ E) : XG X F a r E Ψ := fun pins s w σ H G v u I i rv r =>
  thn (h pins s w σ H G v u I i rv r) fun _ s' ⟨σ', H', I', w', G', E', a, b, z⟩ => ⟨σ', H', I', w', G', E', a, b, q _ z⟩
theorem rg_two {kk : Nat} (h1 : RG X t1 g1) (h2 : RG X t2 g2) (hc : X.calm = true := by rfl)
    (q1 : (assignEach [t1, t2] X.env).map (·.2) = assign t1 X.env :: (assignEach [t2] X.env).map (·.2) := by rfl) (q2 : (assignEach [t2] X.env).map (·.2) = assign t2 X.env :: (assignEach [] X.env).map (·.2) := by rfl)
    (hn : (assignEach [t1, t2] X.env).length = 2 := by rfl) (hst : (assignEach [t1, t2] X.env).findIdx? (·.1) = none := by rfl) : RG X (.Tuple [t1, t2] kk pos) (gTwo g1 g2) := ⟨fun {F E d Φ} q => by
  unfold gTwo at q
  split at q
  · exact xg_two (xg_cut (h1.go q) fun E2 z => h2.go z) hc q1 q2 hn hst
  · exact q.elim⟩
theorem ri_zip {elts : List Expr} {kk : Nat} {tpos cpos p : Pos} {kws : List Keyword} (ha : RE X a ta) (hb : RE X b tb) (hs : starEach [a, b] X.env = (false, eval a X.env) :: starEach [b] X.env) (hs2 : starEach [b] X.env = (false, eval b X.env) :: starEach [] X.env)
    (q : ∀ {F E} {Θ : EnvB → List PD → Prop}, (XA X F [a, b] E fun E1 rs => ∃ r1 r2 E2 E3 ds es, rs = [r1, r2] ∧ ItD E1 r1 E2 ds ∧ ItD E2 r2 E3 es ∧ ds.length = es.length ∧ Θ E3 (zpD ds es)) → XI X F (.Tuple elts kk tpos) (.Call (.Name "zip" p) [a, b] kws cpos) E Θ) : RI X (.Tuple elts kk tpos) (.Call (.Name "zip" p) [a, b] kws cpos) (iZip ta tb) := ⟨fun z => q (xa_cons (xe_cut (ha.go z) fun E1 r z => by
  obtain ⟨r', f, z⟩ := fzK_ok z
  refine ⟨r', f, xa_cons (xe_cut (hb.go z) fun E2 r2 z => ?_) hs2⟩
  obtain ⟨r2', f2, z⟩ := fzK_ok z
  obtain ⟨E3, ds, i1, z⟩ := itK_ok z
  obtain ⟨E4, es, i2, hl, z⟩ := itK_ok z
  exact ⟨r2', f2, xa_nil ⟨r', r2', E3, E4, ds, es, rfl, i1, i2, hl, z⟩⟩) hs)⟩
end
end Bk

set_option maxHeartbeats 4000000
namespace Bk
open PySem PySem.Spec PyProof.Rows L2

/-! ### a dict is locked: from then on it is data -/
section
variable {K : PySem.W.Frag} {F : Fm} {w : Addr → Option Nat} {σ : L2.St} {H G : Hp} {E : EnvB}
theorem In.swap (I : In K F w σ H G E) {p : Addr} {o : HO} (n1 : G p = none) (n2 : F.H0 p = none) (n3 : F.M p = none) (n4 : w p = none) : In K F w σ (upd H p o) G E := by
  refine ⟨fun b x h => ?_, I.old, fun b x h => ?_, fun b h z => ?_, fun b i h => ?_, I.len, fun i b h => (I.slot i b h).other fun l hl => ⟨upd_ne ?_, hl⟩⟩
  · rw [upd_ne fun q => by subst q; rw [n1] at h; cases h]; exact I.sub b x h
  · rw [upd_ne fun q => by subst q; rw [n3] at h; cases h]; exact I.keep b x h
  · rw [upd_ne fun q => by subst q; exact h n2] at z; exact I.has b h z
  · have q : b ≠ p := fun q => by subst q; rw [n4] at h; cases h
    rw [upd_ne q]; exact I.own b i h
  · intro q; subst q; rw [n4] at hl; cases hl
theorem In.lockNew (I : In K F w σ H G E) {p : Addr} {o : HO} (n1 : G p = none) (n2 : F.H0 p = none) (n3 : F.M p = none) (n4 : w p = none) : In K F w σ (upd H p o) (upd G p o) E ∧ Same G (upd G p o) :=
  (I.swap (o := o) n1 n2 n3 n4).share upd_same n1 n2 n4
theorem In.disown (I : In K F w σ H G E) {i : Nat} {o : Oc} (h : E[i]? = some (.ow o)) : ∃ w' l, In K F w' σ H G (E.set i .un) ∧ σ[i]? = some (some (.ref l)) ∧ Cont K G (H l) o ∧ G l = none ∧ F.H0 l = none ∧ F.M l = none ∧ w' l = none := by
  obtain ⟨l, e, hw, c, n2⟩ := I.slot i _ h
  obtain ⟨n1, n3, _⟩ := I.own l i hw
  refine ⟨fun b => if b = l then none else w b, l, ⟨I.sub, I.old, I.keep, I.has, fun b j q => ?_, by rw [List.length_set]; exact I.len, fun j b q => ?_⟩, e, c, n1, n2, n3, if_pos rfl⟩
  · have q : (if b = l then none else w b) = some j := q
    by_cases z : b = l
    · rw [if_pos z] at q; cases q
    · rw [if_neg z] at q; exact I.own b j q
  · by_cases z : i = j
    · subst z
      have hi : i < E.length := by
        have := (List.getElem?_eq_some_iff.mp q).1
        rwa [List.length_set] at this
      rw [List.getElem?_set_self hi] at q
      cases q
      trivial
    · rw [List.getElem?_set_ne z] at q
      refine (I.slot j b q).other fun k hk => ⟨rfl, ?_⟩
      have z2 : k ≠ l := fun z2 => by subst z2; rw [hw] at hk; exact z (Option.some.inj hk)
      show (if k = l then none else w k) = some j
      rw [if_neg z2]; exact hk
end
def dFz (t : DX) : DX := fun E Φ => t E fun E1 r => match r with
  | .nw (.dic es) => Φ E1 (.sh (.dict (dK es)))
  | .br i => match slG E1 i with
    | .ow (.dic es) => slP E1 i (.sh (.dict (dK es))) fun E2 => Φ E2 (.sh (.dict (dK es)))
    | _ => False
  | _ => False
theorem re_fz {X : Cx} {e : Expr} {t : DX} (h : RE X e t) : RE X e (dFz t) := ⟨fun {F E Φ} q pins s w σ H G I0 i0 => by
  refine thn ((h.go q) pins s w σ H G I0 i0) fun u s' ⟨v, H', I', rel, w', G', E', r, i', sm, rv, z⟩ => ?_
  dsimp only at z
  split at z
  · next es =>
    obtain ⟨p, rfl, c, n1, n2, n3, n4⟩ := rv
    obtain ⟨kvs, c1, c2⟩ := c.dic
    obtain ⟨od, I2⟩ := I'.lock c1 trivial
    obtain ⟨i2, s2⟩ := i'.lockNew (o := .frz od (.dK kvs)) n1 n2 n3 n4
    exact ⟨.ref p, _, I2, rel, w', _, E', .sh _, i2, sm.trans s2, Rp.dic upd_same (c2.mono s2).rpk, z⟩
  · next i =>
    split at z
    · next es hs =>
      have hE := slG_ok hs (by simp)
      obtain ⟨E2, se, z⟩ := slP_ok z
      obtain ⟨w2, l, i1, el, c, n1, n2, n3, n4⟩ := i'.disown hE
      obtain ⟨kvs, c1, c2⟩ := c.dic
      obtain ⟨od, I2⟩ := I'.lock c1 trivial
      obtain ⟨i2, s2⟩ := i1.lockNew (o := .frz od (.dK kvs)) n1 n2 n3 n4
      have rv : σ[i]? = some (some v) := rv
      rw [rv] at el
      cases el
      have rp : Rp X.K (upd G' l (.frz od (.dK kvs))) (.ref l) (.dict (dK es)) := .dic upd_same (c2.mono s2).rpk
      have i3 := i2.know (i := i) (b := .sh (.dict (dK es))) fun _ => ⟨_, rv, rp⟩
      rw [List.set_set, ← se.eq] at i3
      exact ⟨_, _, I2, rel, w2, _, E2, .sh _, i3, sm.trans s2, rp, z⟩
    · exact z.elim
  · exact z.elim⟩
/-! ### dict(d) -/
def uDct : DUn := fun d k => match d with
  | .dict es => ∃ fs, es = dK fs ∧ k (.nw (.dic fs))
  | .list ds => ∃ es : List (Key × PD), ds = es.map (fun p => .tuple [kD p.1, p.2]) ∧ k (.nw (.dic (mergeD [] es)))
  | _ => False
section
variable {X : Cx} {a b c e o tg : Expr} {es : List Expr} {pos p apos : Pos} {x : Str} {ta tb tc te to : DX}
theorem rc_dict : RCall X (fun xs H Q => (∃ (a : Addr) (kvs : List (Key × V)), xs = [.ref a] ∧ Rd H a (.dK kvs) ∧ ∀ p, H p = none → Q (.ref p) (upd H p (.dK kvs))) ∨ (∃ (a : Addr) (ps : List Addr) (kvs : List (Key × V)), xs = [.ref a] ∧ SqL X.K H a (ps.map V.ref) ∧ Paired (fun p kv => SqT X.K H p [kV kv.1, kv.2]) ps kvs ∧ ∀ p, H p = none → Q (.ref p) (upd H p (.dK (mergeK [] kvs))))) uDct := ⟨fun {F E r1 d Φ} rd h => by
  unfold uDct at h
  split at h
  · obtain ⟨fs, rfl, h⟩ := h
    refine cj_or1 fun w σ H G vs Q I rvs kk => ?_
    obtain ⟨v, rfl, rv⟩ := rv_one (F := F) rvs
    obtain ⟨l, kvs, rfl, c1, c2⟩ := rd.dic I rv
    refine ⟨l, kvs, rfl, c1, fun p hp => kk _ _ ?_⟩
    obtain ⟨I3, rp⟩ := I.newD hp c2
    exact ke I3 (Same.refl G) rp h
  · obtain ⟨es, rfl, h⟩ := h
    exact cj_or2 (cj_dictP (rd.rd rfl) h)
  · exact h.elim⟩
theorem re_dictof (hm : X.mg "dict" = none) (h : RE X a ta) (hcl : X.calm = true := by rfl) (hg : Gl X "dict" := by rfl) (he : starEach [a] X.env = (false, eval a X.env) :: starEach [] X.env := by rfl) (hpl : (backTo pos (starEach [] X.env)).any (·.1) = false := by rfl) : RE X (.Call (.Name "dict" p) [a] [] pos) (dUn uDct ta) :=
  re_callT (CallR.or call_dictD (call_dictP hcl)) rc_dict (by decide +kernel) hm h hg (by decide) (by decide) he hpl
/-! ### walks over dicts -/
def dicK : PD → (List (Key × PD) → Prop) → Prop := fun d k => match d with
  | .dict es => ∃ fs, es = dK fs ∧ k fs
  | _ => False
theorem dicK_ok {d : PD} {k : List (Key × PD) → Prop} (h : dicK d k) : ∃ fs, d = .dict (dK fs) ∧ k fs := by
  unfold dicK at h
  split at h
  · obtain ⟨fs, rfl, h⟩ := h; exact ⟨fs, rfl, h⟩
  · exact h.elim
theorem rp_dic {K : PySem.W.Frag} {G : Hp} {v : V} {es : List (Key × PD)} (h : Rp K G v (.dict (dK es))) : ∃ a od kvs, v = .ref a ∧ G a = some (.frz od (.dK kvs)) ∧ Rkv K G kvs es := by
  generalize hd : PyData.dict (dK es) = d at h
  cases h with
  | dic h1 h2 =>
    cases hd
    exact ⟨_, _, _, rfl, h1, h2.of⟩
  | scr _ _ =>
    cases es with
    | nil => cases hd
    | cons p _ =>
      have h1 := PyData.dict.inj hd
      injection h1 with h2 h3
      injection h2 with h4 h5
      cases hp : p.1 <;> rw [hp] at h4 <;> cases h4
  | bar _ _ _ =>
    cases es with
    | nil => cases hd
    | cons p _ =>
      have h1 := PyData.dict.inj hd
      injection h1 with h2 h3
      injection h2 with h4 h5
      cases hp : p.1 <;> rw [hp] at h4 <;> cases h4
  | _ => cases hd
theorem Rkv.at {K : PySem.W.Frag} {G : Hp} : ∀ {kvs : List (Key × V)} {es : List (Key × PD)}, Rkv K G kvs es → ∀ {i : Nat} {k : Key} {v : V}, kvs[i]? = some (k, v) → ∃ d, es[i]? = some (k, d) ∧ Rp K G v d
  | _, _, .nil, _, _, _, h => by simp at h
  | _, _, .cons r _, 0, _, _, h => by simp at h; obtain ⟨rfl, rfl⟩ := h; exact ⟨_, rfl, r⟩
  | _, _, .cons _ t, i + 1, _, _, h => by
    obtain ⟨d, e, r⟩ := t.at (i := i) (by simpa using h)
    exact ⟨d, by simpa using e, r⟩
theorem rp_key2 {K : PySem.W.Frag} {G : Hp} (k : Key) : Rp K G (kV k) (kD k) := by
  cases k with
  | inl i => exact .int i
  | inr x => exact .str x
theorem wk_keys {K : PySem.W.Frag} {G1 : Hp} {d : Addr} {od : Obj} {kvs : List (Key × V)} {es : List (Key × PD)} (h : G1 d = some (.frz od (.dK kvs))) (r : Rkv K G1 kvs es) : Wk K (Itk d od kvs) G1 (es.map fun p => kD p.1) where
  go := fun F w σ H G E i hi I s => ⟨I.sub _ _ (s _ _ h), by rw [r.length]; rwa [List.length_map] at hi⟩
  stop := fun F w σ H G E I s => ⟨I.sub _ _ (s _ _ h), by rw [r.length, List.length_map] <;> exact Nat.le_refl _⟩
  yld := fun F w σ H G E i dd x H' hd I s y => by
    obtain ⟨rfl, k, v, e, rfl⟩ := y
    obtain ⟨d', e2, r2⟩ := r.at e
    rw [List.getElem?_map, e2] at hd
    cases hd
    exact in_same I (rp_key2 k)
theorem wk_vals {K : PySem.W.Frag} {G1 : Hp} {d : Addr} {od : Obj} {kvs : List (Key × V)} {es : List (Key × PD)} (h : G1 d = some (.frz od (.dK kvs))) (r : Rkv K G1 kvs es) : Wk K (Itd d od kvs) G1 (es.map fun p => p.2) where
  go := fun F w σ H G E i hi I s => ⟨I.sub _ _ (s _ _ h), by rw [r.length]; rwa [List.length_map] at hi⟩
  stop := fun F w σ H G E I s => ⟨I.sub _ _ (s _ _ h), by rw [r.length, List.length_map] <;> exact Nat.le_refl _⟩
  yld := fun F w σ H G E i dd x H' hd I s y => by
    obtain ⟨rfl, k, e⟩ := y
    obtain ⟨d', e2, r2⟩ := r.at e
    rw [List.getElem?_map, e2] at hd
    cases hd
    exact in_same I (r2.mono s)
theorem wk_items {K : PySem.W.Frag} {G1 : Hp} {d : Addr} {od : Obj} {kvs : List (Key × V)} {es : List (Key × PD)} (h : G1 d = some (.frz od (.dK kvs))) (r : Rkv K G1 kvs es) : Wk K (Iti d od kvs) G1 (es.map fun p => .tuple [kD p.1, p.2]) where
  go := fun F w σ H G E i hi I s => ⟨I.sub _ _ (s _ _ h), by rw [r.length]; rwa [List.length_map] at hi⟩
  stop := fun F w σ H G E I s => ⟨I.sub _ _ (s _ _ h), by rw [r.length, List.length_map] <;> exact Nat.le_refl _⟩
  yld := fun F w σ H G E i dd x H' hd I s y => by
    obtain ⟨T, k, v, e, rfl, hT, rfl⟩ := y
    obtain ⟨d', e2, r2⟩ := r.at e
    rw [List.getElem?_map, e2] at hd
    cases hd
    obtain ⟨I3, s3, rp⟩ := I.newT hT (Rps.cons (rp_key2 (K := K) (G := G) k) (Rps.one (r2.mono s)))
    refine ⟨_, I3, s3, same_new hT, fun b hb => upd_ne fun q => ?_, rp⟩
    subst q
    exact hb hT
def iKeys (te : DX) : DI := fun E Θ => te E fun E1 r => shK r fun d => dicK d fun es => Θ E1 (es.map fun p => kD p.1)
def iValues (te : DX) : DI := fun E Θ => te E fun E1 r => shK r fun d => dicK d fun es => Θ E1 (es.map fun p => p.2)
def iItems (te : DX) : DI := fun E Θ => te E fun E1 r => shK r fun d => dicK d fun es => Θ E1 (es.map fun p => .tuple [kD p.1, p.2])
theorem ri_dict (h : RE X e te) : RI X tg e (iKeys te) := ⟨fun q => xi_of (L2.pi_keys pe_tE) fun w σ H G I => tE_go I (h.go q) fun v w1 H1 G1 E1 r I1 s1 rv z => by
  obtain ⟨d, rfl, z⟩ := shK_ok z
  obtain ⟨es, rfl, z2⟩ := dicK_ok z
  obtain ⟨a, od, kvs, rfl, h1, h2⟩ := rp_dic rv
  exact ⟨a, od, rfl, .inl ⟨kvs, I1.sub _ _ h1, w1, G1, E1, _, I1, s1, wk_keys h1 h2, z2⟩⟩⟩
theorem ri_keys (h : RE X e te) (hbase : attributeBase e "keys" X.env (eval e X.env) = eval e X.env := by rfl) (hline : (apos.endLine == pos.line) = true := by rfl) : RI X tg (.Call (.Attribute e "keys" apos) [] [] pos) (iKeys te) := ⟨fun q => xi_of (L2.pi_keysM pe_tE hbase hline) fun w σ H G I => tE_go I (h.go q) fun v w1 H1 G1 E1 r I1 s1 rv z => by
  obtain ⟨d, rfl, z⟩ := shK_ok z
  obtain ⟨es, rfl, z2⟩ := dicK_ok z
  obtain ⟨a, od, kvs, rfl, h1, h2⟩ := rp_dic rv
  exact ⟨a, od, kvs, rfl, I1.sub _ _ h1, w1, G1, E1, _, I1, s1, wk_keys h1 h2, z2⟩⟩
theorem ri_values (h : RE X e te) (hbase : attributeBase e "values" X.env (eval e X.env) = eval e X.env := by rfl) (hline : (apos.endLine == pos.line) = true := by rfl) : RI X tg (.Call (.Attribute e "values" apos) [] [] pos) (iValues te) := ⟨fun q => xi_of (L2.pi_values pe_tE hbase hline) fun w σ H G I => tE_go I (h.go q) fun v w1 H1 G1 E1 r I1 s1 rv z => by
  obtain ⟨d, rfl, z⟩ := shK_ok z
  obtain ⟨es, rfl, z2⟩ := dicK_ok z
  obtain ⟨a, od, kvs, rfl, h1, h2⟩ := rp_dic rv
  exact ⟨a, od, kvs, rfl, I1.sub _ _ h1, w1, G1, E1, _, I1, s1, wk_vals h1 h2, z2⟩⟩
theorem ri_items {elts : List Expr} {kk : Nat} {tpos : Pos} (h : RE X e te) (hbase : attributeBase e "items" X.env (eval e X.env) = eval e X.env := by rfl) (hline : (apos.endLine == pos.line) = true := by rfl) : RI X (.Tuple elts kk tpos) (.Call (.Attribute e "items" apos) [] [] pos) (iItems te) := ⟨fun q => xi_of (L2.pi_items pe_tE hbase hline) fun w σ H G I => tE_go I (h.go q) fun v w1 H1 G1 E1 r I1 s1 rv z => by
  obtain ⟨d, rfl, z⟩ := shK_ok z
  obtain ⟨es, rfl, z2⟩ := dicK_ok z
  obtain ⟨a, od, kvs, rfl, h1, h2⟩ := rp_dic rv
  exact ⟨a, od, kvs, rfl, I1.sub _ _ h1, w1, G1, E1, _, I1, s1, wk_items h1 h2, z2⟩⟩
/-! ### d.get(k, v) -/
def dGet2 (to te td : DX) : DX := fun E Φ => to E fun E1 r0 => fzK r0 fun r0' => rdK E1 r0' fun d0 => dicK d0 fun _ => te E1 fun E2 r1 => shK r1 fun dk => keyD dk = true ∧ td E2 fun E3 r2 => fzK r2 fun r2' => shK r2' fun d2 => rdK E3 r0' fun d3 => dicK d3 fun es => Φ E3 (.sh ((kLook (dK es) dk).getD d2))
theorem re_get2 (hu : X.A.units + 64 < cLine) (ho : RE X o to) (he : RE X a ta) (hd : RE X b tb) (m : M2 X o "get" apos a b pos := by exact ⟨rfl, rfl, rfl, rfl⟩) : RE X (.Call (.Attribute o "get" apos) [a, b] [] pos) (dGet2 to ta tb) := ⟨fun q => xe_of (pe_dget2 (by omega) pe_tE pe_tE pe_tE m) fun w σ H G I => tE_go I (ho.go q) fun v w1 H1 G1 E1 r I1 s1 rv z => by
  obtain ⟨r0', f0, z⟩ := fzK_ok z
  obtain ⟨G1', I1', s1', rv'⟩ := f0.go I1 rv
  obtain ⟨d0, rd, z⟩ := rdK_ok z
  obtain ⟨es0, rfl, z0⟩ := dicK_ok z
  obtain ⟨l, kvs, rfl, c1, c2⟩ := rd.dic I1' rv'
  refine ⟨l, rfl, .inl ⟨kvs, c1⟩, tE_go I1' (he.go z0) fun v2 w2 H2 G2 E2 r2 I2 s2 rv2 z => ?_⟩
  obtain ⟨dk, rfl, hk, z1⟩ := shK_ok z
  refine tE_go I2 (hd.go z1) fun v3 w3 H3 G3 E3 r3 I3 s3 rv3 z => ?_
  obtain ⟨r3', f3, z⟩ := fzK_ok z
  obtain ⟨G3', I3', s3', rv3'⟩ := f3.go I3 rv3
  obtain ⟨d2, rfl, z3⟩ := shK_ok z
  obtain ⟨d3, rd3, z4⟩ := rdK_ok z3
  obtain ⟨es, rfl, z5⟩ := dicK_ok z4
  obtain ⟨k, _, rfl⟩ := kOf_key hk
  obtain ⟨a', o', e', g, hs, hv⟩ := rd_dget I3' rd3 (f0.keep (w' := w3) (H' := H3) ((s2.trans s3).trans s3') rv') (Rp.mono (s3.trans s3') _ _ rv2)
  cases e'
  refine ⟨o', g, ?_⟩
  rw [kLook_dK] at z5
  cases hl : dlook es k with
  | none =>
    rw [hl] at z5 hs
    have : o' = none := by cases o' <;> first | rfl | cases hs
    subst this
    exact ke I3' ((((s1.trans s1').trans s2).trans s3).trans s3') (r := .sh d2) rv3' z5
  | some d =>
    rw [hl] at z5
    obtain ⟨u, rfl, ru⟩ := hv d hl
    exact ke I3' ((((s1.trans s1').trans s2).trans s3).trans s3') (r := .sh d) ru z5⟩
/-! ### sorted, of ints -/
def dSrtL (ta : DX) : DX := fun E Φ => ta E fun E1 r => fzK r fun r' => rdK E1 r' fun d => match d with
  | .list ds => ∃ ns : List Int, ds = pI ns ∧ ∀ ns' : List Int, ns'.Perm ns → ns'.Pairwise (· ≤ ·) → Φ E1 (.nw (.lst (pI ns')))
  | _ => False
theorem re_sortedL (hm : X.mg "sorted" = none) (h : RE X a ta) (hg : Gl X "sorted" := by rfl) (he : starEach [a] X.env = (false, eval a X.env) :: starEach [] X.env := by rfl) (hpl : (backTo pos (starEach [] X.env)).any (·.1) = false := by rfl) : RE X (.Call (.Name "sorted" p) [a] [] pos) (dSrtL ta) := ⟨fun q => xe_callB cr_sortedI hm (by decide +kernel) (xa_cons (xe_cut (h.go q) fun E1 r z => by
  obtain ⟨r', f, z⟩ := fzK_ok z
  obtain ⟨d, rd, z⟩ := rdK_ok z
  refine ⟨r', f, xa_nil fun w σ H G vs Q I rvs kk => ?_⟩
  split at z
  · obtain ⟨ns, rfl, z⟩ := z
    obtain ⟨v, rfl, rv⟩ := rv_one (F := _) rvs
    obtain ⟨l, xs, rfl, hx, rx⟩ := (rd.rd rfl).lst I rv
    have ex : xs = ns.map V.int := Rps.ints rx
    subst ex
    refine ⟨l, ns, rfl, .inl (.inl hx), fun ns' p hp hs hn => kk _ _ ?_⟩
    obtain ⟨I3, rp⟩ := I.newL hn (Rps.of_ints (K := X.K) (G := G) ns')
    exact ke I3 (Same.refl G) rp (z ns' hp hs)
  · exact z.elim) he) hg (by decide) (by decide) he hpl⟩
end
end Bk

set_option maxHeartbeats 4000000
namespace Bk
open PySem PySem.Spec PyProof.Rows L2

/-! ### {e}: a new set of one int -/
section
variable {X : Cx} {e : Expr} {te : TE} {pos : Pos}
def tSet1 (w : World) (te : TE) : TE := fun σ H Q => ∀ p, H p = none → te σ (upd H p (SetO w p (fun _ => false) 0)) fun v H2 => ∃ k : Int, v = .int k ∧ H2 p = some (SetO w p (fun _ => false) 0) ∧ Q (.ref p) (upd H2 p (SetO w p (fun j => decide (j = k)) 1))
theorem pe_setOne (he : PE X e te) (hcd : PySem.W.kdsCode X.K X.env.code = true) (hs : starEach [e] X.env = (false, eval e X.env) :: [] := by rfl) : PE X (.Set [e] 0 pos) (tSet1 X.w te) := ⟨fun pins s σ H Q I h => by
  rw [arm_eval_Set]
  refine wpAny_bind (wpAny_standAt ?_)
  refine wpAny_bind (PySem.W.kds_main I.kIn hcd fun b => ?_)
  rw [hs]
  unfold setDisplay
  have er : ((displayRoad 0 [e] == DisplayRoad.constants) = true) = False := by simp [displayRoad]
  have eu : ((displayRoad 0 [e] == DisplayRoad.unsure) = true) = False := by simp [displayRoad]
  simp only [er, eu, if_false]
  refine wpAny_bind (PySem.wpAny_newSet_raw fun led hled => ?_)
  subst hled
  have new := setR_fresh (h := s.heap) X.w
  have hn : H s.heap.objs.size = none := I.hok.fresh (Nat.le_refl _)
  have I1 := I.laid (a := s.heap.objs.size) (o := SetO X.w s.heap.objs.size (fun _ => false) 0) (t' := s.toks) (fun b u z => Heap.get?_push_of_some _ z) (Nat.le_refl _) (setO_new new)
  refine wpAny_bind (wpAny_holding (wpAny_bind ?_))
  show wpAny _ _ (evalAll [do let v ← eval e X.env; standAt pos; pure v]) _ _ _
  refine wpAny_evalAll_cons (wpAny_bind (thn (he.run pins _ σ _ _ I1 (h _ hn)) fun u s2 ⟨v, H2, I2, rv, k, hv, hp, q⟩ => wpAny_bind (wpAny_standAt (wpAny_pure ?_))))
  subst hv
  obtain ⟨tk, rfl⟩ := rv
  refine wpAny_evalAll_nil ?_
  refine wpAny_bind (wpAny_holding (wpAny_bind ?_))
  rw [List.forIn_cons]
  have R := setO_get I2 hp
  refine wpAny_bind (wpAny_bind ?_)
  unfold setAdd
  refine wpAny_holding (wpAny_bind ((intKind X.prog X.w).pyHash (intKind_is X.prog X.w k tk) ?_))
  refine setR_add_hashed (s := { s2 with toks := s2.toks + 1 }) R (by decide) fun h' sb r => ?_
  refine wpAny_pure ?_
  dsimp only
  rw [List.forIn_nil]
  refine wpAny_pure (wpAny_pure ?_)
  refine wpAny_pure ?_
  refine wpAny_pure ?_
  have r2 : SetR X.w h' s.heap.objs.size (fun j => decide (j = k)) 1 := SetR.congr (show SetR X.w h' s.heap.objs.size (fun j => false || decide (j = k)) 1 from r) fun j => (Bool.false_or _).symm
  have he2 : ∃ u, h'.get? s.heap.objs.size = some u := by
    obtain ⟨o, _, _, _, ho, _⟩ := r2
    exact ⟨o, ho⟩
  exact ⟨.ref _, _, I2.write (t' := s2.toks + 1) (by rw [hp]; trivial) (.inl rfl) (fun b u hb hu => (sb.2 b hb).trans hu) he2 (setO_new r2), rfl, q⟩⟩
end
end Bk

set_option maxHeartbeats 4000000
namespace Bk
open PySem PySem.Spec PyProof.Rows L2
theorem sqT_upd {K : PySem.W.Frag} {H : Hp} {a b : Addr} {xs : List V} {o u : HO} (h : SqT K H a xs) (hb : H b = some u) (n1 : ∀ ys, u ≠ .tup ys) (n2 : ∀ ob z, u ≠ .frz ob z) : SqT K (upd H b o) a xs := by
  rcases h with (h | ⟨ob, h⟩) | h
  · exact .inl (.inl ((upd_ne fun e => n1 xs (by rw [e, hb] at h; exact Option.some.inj h)).trans h))
  · exact .inl (.inr ⟨ob, (upd_ne fun e => n2 _ _ (by rw [e, hb] at h; exact Option.some.inj h)).trans h⟩)
  · exact .inr h
theorem exSet_tup {w : World} {a : Addr} {S : Int → Bool} {n : Nat} {ys : List V} : SetO w a S n ≠ .tup ys := fun h => by cases h
theorem exSet_frz {w : World} {a : Addr} {S : Int → Bool} {n : Nat} {ob : Obj} {z : HO} : SetO w a S n ≠ .frz ob z := fun h => by cases h
theorem rp_tup {K : PySem.W.Frag} {G : Hp} {v : V} {ds : List PD} (h : Rp K G v (.tuple ds)) : ∃ a xs, v = .ref a ∧ SqT K G a xs ∧ Rps K G xs ds := by
  cases h with
  | tup h1 h2 => exact ⟨_, _, rfl, h1, h2⟩
/-! ### machines: ways -/
def succP : Plc → List Nat
  | .toss i j => [i, j]
  | _ => []
inductive Reach (m : List Plc) (s : Nat) : Nat → Prop
  | here : Reach m s s
  | step {x y : Nat} {p : Plc} : Reach m s y → m[y]? = some p → x ∈ succP p → Reach m s x
theorem Mac.succ {m : List Plc} (M : Mac m) {x y : Nat} {p : Plc} (h : m[y]? = some p) (hx : x ∈ succP p) : x < m.length := by
  have f := M.fit p (List.mem_of_getElem? h)
  cases p with
  | toss i j =>
    rcases List.mem_cons.mp hx with rfl | hx
    · exact f.1
    · rcases List.mem_cons.mp hx with rfl | hx
      · exact f.2
      · cases hx
  | fin a => cases hx
  | nev => cases hx
theorem Reach.lt {m : List Plc} (M : Mac m) {s x : Nat} (hs : s < m.length) (h : Reach m s x) : x < m.length := by
  cases h with
  | here => exact hs
  | step _ h2 h3 => exact M.succ h2 h3
/-- the ways' list: in ascending order -/
structure Ways (m : List Plc) (s : Nat) (L : List Nat) : Prop where
  asc : L.Pairwise (· < ·)
  mem : ∀ x, x ∈ L ↔ Reach m s x
theorem Ways.uniq {m : List Plc} {s : Nat} {L L' : List Nat} (h : Ways m s L) (h' : Ways m s L') : L = L' := by
  have : ∀ (a b : List Nat), a.Pairwise (· < ·) → b.Pairwise (· < ·) → (∀ x, x ∈ a ↔ x ∈ b) → a = b := by
    intro a
    induction a with
    | nil =>
      intro b _ _ e
      cases b with
      | nil => rfl
      | cons y b => exact absurd ((e y).mpr List.mem_cons_self) (by simp)
    | cons x a ih =>
      intro b pa pb e
      cases b with
      | nil => exact absurd ((e x).mp List.mem_cons_self) (by simp)
      | cons y b =>
        rw [List.pairwise_cons] at pa pb
        have exy : x = y := by
          have h1 := (e x).mp List.mem_cons_self
          have h2 := (e y).mpr List.mem_cons_self
          rcases List.mem_cons.mp h1 with h | h
          · exact h
          · rcases List.mem_cons.mp h2 with g | g
            · exact g.symm
            · have := pb.1 x h
              have := pa.1 y g
              omega
        subst exy
        congr 1
        refine ih b pa.2 pb.2 fun z => ?_
        have hz := e z
        rw [List.mem_cons, List.mem_cons] at hz
        constructor
        · intro h
          have := pa.1 z h
          rcases hz.mp (.inr h) with g | g
          · omega
          · exact g
        · intro h
          have := pb.1 z h
          rcases hz.mpr (.inr h) with g | g
          · omega
          · exact g
  exact this L L' h.asc h'.asc fun x => (h.mem x).trans (h'.mem x).symm
theorem succ_two (p : Plc) : succP p = [] ∨ ∃ i j, succP p = [i, j] := by
  cases p with
  | toss i j => exact .inr ⟨i, j, rfl⟩
  | fin a => exact .inl rfl
  | nev => exact .inl rfl
theorem natI_len' (D : List Nat) : (natI D).length = D.length := by simp [natI]
theorem natI_last (D : List Nat) (x : Nat) : ((natI (D ++ [x])).map V.int)[((natI (D ++ [x])).map V.int).length - 1]? = some (.int (x : Nat)) := by
  unfold natI
  rw [List.map_append, List.map_append, List.length_append, List.getElem?_append_right (by simp)]
  simp
theorem natI_dropLast (D : List Nat) (x : Nat) : ((natI (D ++ [x])).map V.int).dropLast = (natI D).map V.int := by
  unfold natI
  rw [List.map_append, List.map_append]
  exact List.dropLast_concat
theorem natI_snoc (D : List Nat) (x : Nat) : (natI (D ++ [x])).map V.int = (natI D).map V.int ++ [.int (x : Nat)] := by
  unfold natI
  rw [List.map_append, List.map_append]
  rfl
theorem mem_natI {D : List Nat} {x : Nat} : ((x : Nat) : Int) ∈ natI D ↔ x ∈ D := by
  unfold natI
  rw [List.mem_map]
  exact ⟨fun ⟨y, h, e⟩ => by rw [← Int.ofNat.inj e]; exact h, fun h => ⟨x, h, rfl⟩⟩
def spSucc : List PD → (Rs → Prop) → Prop := fun ds Ψ => ∃ p : Plc, ds = [plD p] ∧ Ψ (.sh (.tuple (pI (natI (succP p)))))
def spReach : List PD → (Rs → Prop) → Prop := fun ds Ψ => ∃ (m : List Plc) (s : Nat), ds = [mD m, .int (s : Nat)] ∧ Mac m ∧ s < m.length ∧ m.length < 64 ∧ ∀ L, Ways m s L → Ψ (.sh (.tuple (pI (natI L))))
/-- while the ways are looked for: F found, D still to be looked at, x being looked at (its first i sides done) -/
structure Srch (m : List Plc) (s : Nat) (F D : List Nat) (skip : Nat → Prop) : Prop where
  nd : F.Nodup
  lt : ∀ x ∈ F, x < m.length
  re : ∀ x ∈ F, Reach m s x
  st : s ∈ F
  sub : ∀ x ∈ D, x ∈ F
  cl : ∀ x ∈ F, x ∉ D → ¬ skip x → ∀ p, m[x]? = some p → ∀ y ∈ succP p, y ∈ F
theorem Srch.len {m : List Plc} {s : Nat} {F D : List Nat} {skip : Nat → Prop} (h : Srch m s F D skip) : F.length ≤ m.length := by
  have := List.Nodup.length_le_of_subset (l₂ := List.range m.length) h.nd fun x hx => List.mem_range.mpr (h.lt x hx)
  rwa [List.length_range] at this
theorem Srch.done {m : List Plc} {s : Nat} {F : List Nat} (h : Srch m s F [] fun _ => False) : ∀ x, x ∈ F ↔ Reach m s x := fun x => ⟨h.re x, fun r => by
  induction r with
  | here => exact h.st
  | step _ h2 h3 ih => exact h.cl _ ih (by simp) (fun z => z) _ h2 _ h3⟩
/-- the last of D is taken: its sides are to be looked at -/
theorem Srch.take {m : List Plc} {s x : Nat} {F D : List Nat} (h : Srch m s F (D ++ [x]) fun _ => False) : Srch m s F D fun y => y = x := by
  refine ⟨h.nd, h.lt, h.re, h.st, fun y hy => h.sub y (List.mem_append_left _ hy), fun y hy hd hs => h.cl y hy (fun z => ?_) fun z => z⟩
  rcases List.mem_append.mp z with z | z
  · exact hd z
  · rcases List.mem_cons.mp z with z | z
    · exact hs z
    · cases z
theorem Srch.add {m : List Plc} {s x y : Nat} {p : Plc} {F D : List Nat} (M : Mac m) (h : Srch m s F D fun z => z = x) (hx : x ∈ F) (hp : m[x]? = some p) (hy : y ∈ succP p) (hn : y ∉ F) : Srch m s (F ++ [y]) (D ++ [y]) fun z => z = x := by
  refine ⟨List.nodup_append.mpr ⟨h.nd, by simp, fun a ha b hb e => ?_⟩, fun z hz => ?_, fun z hz => ?_, List.mem_append_left _ h.st, fun z hz => ?_, fun z hz hd hs q hq v hv => ?_⟩
  · rcases List.mem_cons.mp hb with rfl | hb
    · subst e; exact hn ha
    · cases hb
  · rcases List.mem_append.mp hz with hz | hz
    · exact h.lt z hz
    · rcases List.mem_cons.mp hz with rfl | hz
      · exact M.succ hp hy
      · cases hz
  · rcases List.mem_append.mp hz with hz | hz
    · exact h.re z hz
    · rcases List.mem_cons.mp hz with rfl | hz
      · exact .step (h.re x hx) hp hy
      · cases hz
  · rcases List.mem_append.mp hz with hz | hz
    · exact List.mem_append_left _ (h.sub z hz)
    · exact List.mem_append_right _ hz
  · rcases List.mem_append.mp hz with hz | hz
    · exact List.mem_append_left _ (h.cl z hz (fun w => hd (List.mem_append_left _ w)) hs q hq v hv)
    · exact absurd (List.mem_append_right _ hz) hd
theorem Srch.close {m : List Plc} {s x : Nat} {p : Plc} {F D : List Nat} (h : Srch m s F D fun z => z = x) (hp : m[x]? = some p) (ha : ∀ y ∈ succP p, y ∈ F) : Srch m s F D fun _ => False := by
  refine ⟨h.nd, h.lt, h.re, h.st, h.sub, fun z hz hd _ q hq v hv => ?_⟩
  by_cases e : z = x
  · subst e
    rw [hp] at hq
    cases hq
    exact ha v hv
  · exact h.cl z hz hd e q hq v hv
end Bk

set_option maxHeartbeats 4000000
namespace Bk
open PySem PySem.Spec PyProof.Rows L2

/-! ### x += e, for numbers -/
def oAddI : DOp := fun a b k => match a, b with
  | .int i, .int j => k (.sh (.int (i + j)))
  | _, _ => False
section
variable {X : Cx}
theorem rop_iadd : ROp X (rI0 fun i j => .int (i + j)) oAddI := ⟨fun {F E r1 r2 d1 d2 Φ} h1 h2 h => by
  unfold oAddI at h
  split at h
  · cases rd_int h1; cases rd_int h2; exact oj_I0 h
  · exact h.elim⟩
end
end Bk

set_option maxHeartbeats 4000000
set_option autoImplicit true
set_option relaxedAutoImplicit true
namespace Bk
open PySem PySem.Spec PyProof.Rows L2
/-! ### rewriting rules for the readings -/
def varK (b : Bd) (i : Nat) (k : Rs → Prop) : Prop := match b with
  | .sh d => k (.sh d)
  | .ow _ => k (.br i)
  | .ib _ _ => k (.br i)
  | .un => False
theorem s_var : dVar i E Φ = varK (slG E i) i (Φ E) := by unfold dVar varK; cases slG E i <;> rfl
theorem s_var1 : varK (.sh d) i k = k (.sh d) := by intros; rfl
theorem s_var2 : varK (.ow d) i k = k (.br i) := by intros; rfl
theorem s_var3 : varK (.ib j d) i k = k (.br i) := by intros; rfl
def rdB (b : Bd) (k : PD → Prop) : Prop := match b with
    | .ow (.lst ds) => k (.list ds)
    | .ib _ (.lst ds) => k (.list ds)
    | .ow (.dic es) => k (.dict (dK es))
    | .ib _ (.dic es) => k (.dict (dK es))
    | _ => False
theorem s_rd : rdK E (.br i) k = rdB (slG E i) k := by intros; rfl
theorem s_rd0 : rdK E (.sh d) k = k d := by intros; rfl
theorem s_rd1 : rdB (.ow (.lst ds)) k = k (.list ds) := by intros; rfl
theorem s_rd2 : rdB (.ib j (.lst ds)) k = k (.list ds) := by intros; rfl
theorem s_rd3 : rdB (.ow (.dic es)) k = k (.dict (dK es)) := by intros; rfl
theorem s_rd4 : rdB (.ib j (.dic es)) k = k (.dict (dK es)) := by intros; rfl
theorem s_fz1 : fzK (.sh d) k = k (.sh d) := by intros; rfl
theorem s_fz2 : fzK (.br i) k = k (.br i) := by intros; rfl
theorem s_fz3 : fzK (.nw (.lst ds)) k = k (.sh (.list ds)) := by intros; rfl
theorem s_asg1 : asgK S E i (.sh d) k = slP E i (.sh d) k := by intros; rfl
theorem s_asg2 : asgK true E i (.nw (.lst ds)) k = slP E i (.sh (.list ds)) k := by intros; rfl
theorem s_asg3 : asgK false E i (.nw (.lst ds)) k = slP E i (.ow (.lst ds)) k := by intros; rfl
theorem s_asg4 : asgK S E i (.nw (.dic ds)) k = slP E i (.ow (.dic ds)) k := by intros; rfl
theorem s_asg5 : asgK S E i (.br j) k = (match slG E j with
    | .ow (.lst ds) => slP E j (.sh (.list ds)) fun E1 => slP E1 i (.sh (.list ds)) k
    | _ => False) := by intros; rfl
theorem s_it1 : itK E (.sh (.list ds)) k = k E ds := by intros; rfl
theorem s_it2 : itK E (.sh (.tuple ds)) k = k E ds := by intros; rfl
theorem s_it3 : itK E (.nw (.lst ds)) k = k E ds := by intros; rfl
theorem s_it4 : itK E (.br i) k = (match slG E i with
    | .ow (.lst ds) => slP E i (.sh (.list ds)) fun E2 => k E2 ds
    | _ => False) := by intros; rfl
def ownB (b : Bd) (i : Nat) (k : Nat → Oc → Prop) : Prop := match b with
    | .ow o => k i o
    | .ib _ o => k i o
    | _ => False
def putB (b : Bd) (E : EnvB) (i : Nat) (o : Oc) (k : EnvB → Prop) : Prop := match b with
  | .ow _ => slP E i (.ow o) k
  | .ib j _ => slP E i (.ib j o) k
  | _ => False
theorem s_own : ownK E (.br i) k = ownB (slG E i) i k := by intros; rfl
theorem s_own1 : ownB (.ow o) i k = k i o := by intros; rfl
theorem s_own2 : ownB (.ib j o) i k = k i o := by intros; rfl
theorem s_put : putK' E i o k = putB (slG E i) E i o k := by intros; rfl
theorem s_put1 : putB (.ow o') E i o k = slP E i (.ow o) k := by intros; rfl
theorem s_put2 : putB (.ib j o') E i o k = slP E i (.ib j o) k := by intros; rfl
theorem s_dC : dC d E Φ = (Φ E (.sh d)) := by intros; rfl
theorem s_dBin : dBin o ta tb E Φ = (ta E fun E1 r1 => fzK r1 fun r1 => tb E1 fun E2 r2 => fzK r2 fun r2 => rdK E2 r1 fun d1 => rdK E2 r2 fun d2 => o d1 d2 (Φ E2)) := by intros; rfl
theorem s_dTst : dTst t E Ψ = (t E fun E1 r => bK r (Ψ E1)) := by intros; rfl
theorem s_dTru : dTru t E Ψ = (t E fun E1 r => fzK r fun r' => rdK E1 r' fun d => truOk d ∧ Ψ E1 (truD d)) := by intros; rfl
theorem s_dNot : dNot t E Ψ = (t E fun E1 k => Ψ E1 (!k)) := by intros; rfl
theorem s_dAnd : dAnd t u E Ψ = (t E fun E1 k => (k = true → u E1 Ψ) ∧ (k = false → Ψ E1 false)) := by intros; rfl
theorem s_dOr : dOr t u E Ψ = (t E fun E1 k => (k = true → Ψ E1 true) ∧ (k = false → u E1 Ψ)) := by intros; rfl
theorem s_dIfe : dIfe t ta tb E Φ = (t E fun E1 k => (k = true → ta E1 Φ) ∧ (k = false → tb E1 Φ)) := by intros; rfl
theorem s_dNotV : dNotV t E Φ = (t E fun E1 r => bK r fun k => Φ E1 (.sh (.bool (!k)))) := by intros; rfl
theorem s_dAndV : dAndV t u E Φ = (t E fun E1 r => bK r fun k => (k = true → u E1 Φ) ∧ (k = false → Φ E1 (.sh (.bool false)))) := by intros; rfl
theorem s_dOrV : dOrV t u E Φ = (t E fun E1 r => bK r fun k => (k = true → Φ E1 (.sh (.bool true))) ∧ (k = false → u E1 Φ)) := by intros; rfl
theorem s_dTwo : dTwo o o' ta tb tc E Φ = (ta E fun E1 r1 => shK r1 fun d1 => tb E1 fun E2 r2 => shK r2 fun d2 => o d1 d2 fun r3 => bK r3 fun k => (k = true → tc E2 fun E4 r4 => shK r4 fun d4 => o' d2 d4 (Φ E4)) ∧ (k = false → Φ E2 (.sh (.bool false)))) := by intros; rfl
theorem s_oAdd_0 : oAdd  (.int i) (.int j) k = (k (.sh (.int (i + j)))) := by intros; rfl
theorem s_oAdd_1 : oAdd  (.str x) (.str y) k = (x.length + y.length ≤ 100000 ∧ k (.sh (.str (x ++ y)))) := by intros; rfl
theorem s_oAdd_2 : oAdd  (.list x) (.list y) k = (x.length + y.length ≤ 100000 ∧ k (.nw (.lst (x ++ y)))) := by intros; rfl
theorem s_oAdd_3 : oAdd  (.tuple x) (.tuple y) k = (x.length + y.length ≤ 100000 ∧ k (.sh (.tuple (x ++ y)))) := by intros; rfl
theorem s_oSub_0 : oSub  (.int i) (.int j) k = (k (.sh (.int (i - j)))) := by intros; rfl
theorem s_oMul_0 : oMul  (.int i) (.int j) k = (MulOk i j ∧ k (.sh (.int (i * j)))) := by intros; rfl
theorem s_oMul_1 : oMul  (.list [d]) (.int n) k = ((-100000 ≤ n ∧ n ≤ 100000) ∧ k (.nw (.lst (List.replicate n.toNat d)))) := by intros; rfl
theorem s_oMulT_0 : oMulT  (.tuple [d]) (.int n) k = ((-1000 ≤ n ∧ n ≤ 1000) ∧ k (.sh (.tuple (List.replicate n.toNat d)))) := by intros; rfl
theorem s_oMulS_0 : oMulS  (.str z) (.int n) k = (∃ c m : Nat, z = ⟨#[c]⟩ ∧ n = m ∧ m ≤ 100000 ∧ k (.sh (.str ⟨(List.replicate m c).toArray⟩))) := by intros; rfl
theorem s_oDiv_0 : oDiv  (.int i) (.int j) k = ((0 < j ∧ j.natAbs.log2 < 9000) ∧ k (.sh (.int (i / j)))) := by intros; rfl
theorem s_oDivN_0 : oDivN  (.int i) (.int j) k = ((j ≠ 0 ∧ j.natAbs.log2 < 9000) ∧ k (.sh (.int (i.fdiv j)))) := by intros; rfl
theorem s_oMod_0 : oMod  (.int i) (.int j) k = (0 < j ∧ k (.sh (.int (i % j)))) := by intros; rfl
theorem s_oModN_0 : oModN  (.int i) (.int j) k = (j ≠ 0 ∧ k (.sh (.int (i.fmod j)))) := by intros; rfl
theorem s_oPow_0 : oPow  (.int i) (.int j) k = (CPow i j ∧ k (.sh (.int (i ^ j.toNat)))) := by intros; rfl
theorem s_oCmp_0 : oCmp g (.int i) (.int j) k = (k (.sh (.bool (g i j)))) := by intros; rfl
theorem s_oEq_0 : oEq  (.int i) (.int j) k = (k (.sh (.bool (decide (i = j))))) := by intros; rfl
theorem s_oEq_1 : oEq  (.str i) (.str j) k = (k (.sh (.bool (decide (i = j))))) := by intros; rfl
theorem s_oNe_0 : oNe  (.int i) (.int j) k = (k (.sh (.bool (!decide (i = j))))) := by intros; rfl
theorem s_oNe_1 : oNe  (.str i) (.str j) k = (k (.sh (.bool (!decide (i = j))))) := by intros; rfl
theorem s_oIsN_0 : oIsN  a (.none) k = (k (.sh (.bool (isNo a)))) := by intros; rfl
theorem s_oNotN_0 : oNotN  a (.none) k = (k (.sh (.bool (!isNo a)))) := by intros; rfl
theorem s_oIn_0 : oIn neg a (.list ds) k = (flatD a = true ∧ ds.all flatD = true ∧ k (.sh (.bool (if neg then !inW a ds else inW a ds)))) := by intros; rfl
theorem s_oIn_1 : oIn neg a (.tuple ds) k = (flatD a = true ∧ ds.all flatD = true ∧ k (.sh (.bool (if neg then !inW a ds else inW a ds)))) := by intros; rfl
theorem s_oIn_2 : oIn neg a (.dict es) k = ((∃ fs, es = dK fs) ∧ keyD a = true ∧ k (.sh (.bool (if neg then !hasK es a else hasK es a)))) := by intros; rfl
theorem s_oIn_3 : oIn neg a (.str z) k = (∃ c : Nat, a = .str ⟨#[c]⟩ ∧ k (.sh (.bool (if neg then !decide (c ∈ z.cps.toList) else decide (c ∈ z.cps.toList))))) := by intros; rfl
theorem s_oIx_0 : oIx  (.list ds) (.int i) k = (∃ d, atI ds i = some d ∧ k (.sh d)) := by intros; rfl
theorem s_oIx_1 : oIx  (.tuple ds) (.int i) k = (∃ d, atI ds i = some d ∧ k (.sh d)) := by intros; rfl
theorem s_oIx_2 : oIx  (.str z) (.int i) k = (z.length ≤ 100000 ∧ ∃ c, atI z.cps.toList i = some c ∧ k (.sh (.str ⟨#[c]⟩))) := by intros; rfl
theorem s_dA0 : dA0  E Φ = (Φ E []) := by intros; rfl
theorem s_dA : dA te ta E Φ = (te E fun E1 r => fzK r fun r' => ta E1 fun E2 rs => Φ E2 (r' :: rs)) := by intros; rfl
theorem s_dTup : dTup ta E Φ = (ta E fun E1 rs => fzsK E1 rs fun E2 ds => ds.length ≤ 100000 ∧ Φ E2 (.sh (.tuple ds))) := by intros; rfl
theorem s_dLst : dLst ta E Φ = (ta E fun E1 rs => fzsK E1 rs fun E2 ds => ds.length ≤ 100000 ∧ Φ E2 (.nw (.lst ds))) := by intros; rfl
theorem s_dDic0 : dDic0  E Φ = (Φ E (.nw (.dic []))) := by intros; rfl
theorem s_dO0 : dO0  E Ψ = (Ψ E none) := by intros; rfl
theorem s_dO1 : dO1 te E Ψ = (te E fun E1 r => shK r fun d => iK d fun n => Ψ E1 (some n)) := by intros; rfl
theorem s_cutK_0 : cutK l u (.list ds) k = (k (.nw (.lst (cutD ds l u)))) := by intros; rfl
theorem s_cutK_1 : cutK l u (.tuple ds) k = (k (.sh (.tuple (cutD ds l u)))) := by intros; rfl
theorem s_cutK_2 : cutK l u (.str z) k = (z.length ≤ 100000 ∧ k (.sh (.str (cutS z l u)))) := by intros; rfl
theorem s_cutK_3 : cutK l u (.dict [(.none, .list ds)]) k = (k (.nw (.lst (cutD ds l u)))) := by intros; rfl
theorem s_dSlc : dSlc ta tl tu E Φ = (ta E fun E1 r1 => fzK r1 fun r1' => tl E1 fun E2 l => tu E2 fun E3 u => rdK E3 r1' fun d => cutK l u d (Φ E3)) := by intros; rfl
theorem s_dUn : dUn o ta E Φ = (ta E fun E1 r => fzK r fun r' => rdK E1 r' fun d => o d (Φ E1)) := by intros; rfl
theorem s_uNeg_0 : uNeg  (.int i) k = (k (.sh (.int (-i)))) := by intros; rfl
theorem s_uRevT_0 : uRevT  (.tuple ds) k = (k (.sh (.tuple ds.reverse))) := by intros; rfl
theorem s_uRevL_0 : uRevL  (.list ds) k = (k (.nw (.lst ds.reverse))) := by intros; rfl
theorem s_uLen_0 : uLen  (.list ds) k = (k (.sh (.int (ds.length : Nat)))) := by intros; rfl
theorem s_uLen_1 : uLen  (.tuple ds) k = (k (.sh (.int (ds.length : Nat)))) := by intros; rfl
theorem s_uLen_2 : uLen  (.str z) k = (z.length ≤ 100000 ∧ k (.sh (.int (z.length : Nat)))) := by intros; rfl
theorem s_uLen_3 : uLen  (.dict [(.none, .list ds)]) k = (k (.sh (.int (ds.length : Nat)))) := by intros; rfl
theorem s_uTup : uTup  d k = (seqK d fun ds => k (.sh (.tuple ds))) := by intros; rfl
theorem s_uLst : uLst  d k = (seqK d fun ds => k (.nw (.lst ds))) := by intros; rfl
theorem s_uInt_0 : uInt  (.int i) k = (k (.sh (.int i))) := by intros; rfl
theorem s_uInt_1 : uInt  (.bool b) k = (k (.sh (.int (if b then 1 else 0)))) := by intros; rfl
theorem s_uAbs_0 : uAbs  (.int i) k = (k (.sh (.int (if i < 0 then -i else i)))) := by intros; rfl
theorem s_oMax_0 : oMax  (.int i) (.int j) k = (k (.sh (.int (if j > i then j else i)))) := by intros; rfl
theorem s_oMin_0 : oMin  (.int i) (.int j) k = (k (.sh (.int (if j < i then j else i)))) := by intros; rfl
theorem s_uAll_0 : uAll  (.list ds) k = (∃ bs : List Bool, ds = bs.map PyData.bool ∧ k (.sh (.bool (bs.all id)))) := by intros; rfl
theorem s_uSum_0 : uSum  (.list ds) k = (∃ ns : List Int, ds = pI ns ∧ k (.sh (.int ns.sum))) := by intros; rfl
theorem s_dRepr : dRepr ta E Φ = (ta E fun E1 r => fzK r fun r' => rdD E1 r' fun d => Shown d ∧ Φ E1 (.sh (.str d.shown))) := by intros; rfl
theorem s_uStr_0 : uStr  (.int i) k = (i.natAbs.log2 < 1920 ∧ k (.sh (.str (toString i)))) := by intros; rfl
theorem s_dIsi : dIsi T ta E Φ = (ta E fun E1 r => fzK r fun r' => rdD E1 r' fun d => ndE d = true ∧ ∃ b, kitB (tyD d) T = some b ∧ Φ E1 (.sh (.bool b))) := by intros; rfl
theorem s_dCall : dCall n spec ta E Φ = (ta E fun E1 rs => fzsK E1 rs fun E2 ds => ds.length = n ∧ ∀ Ψ : Rs → Prop, (∀ r, Φ E2 r → Ψ r) → spec ds Ψ) := by intros; rfl
theorem s_dCall1 : dCall1 n spec ta E Φ = (ta E fun E1 rs => match rs with
  | r :: rest => ownK E1 r fun i _ => fzsK E1 rest fun E2 ds => ownK E2 (.br i) fun _ o => ds.length + 1 = n ∧ ∀ Ψ : Rs → Oc → Prop, (∀ r o', putK' E2 i o' (fun E3 => Φ E3 r) → Ψ r o') → spec o ds Ψ
  | [] => False) := by intros; rfl
theorem s_dCallK : dCallK n js spec ta E Φ = (ta E fun E1 rs => fzsK E1 rs fun E2 ds => (prm js [] ds).length = n ∧ ∀ Ψ : Rs → Prop, (∀ r, Φ E2 r → Ψ r) → spec (prm js [] ds) Ψ) := by intros; rfl
theorem s_dApp : dApp to te E Φ = (to E fun E1 r0 => ownK E1 r0 fun i o1 => match o1 with
  | .lst _ => te E1 fun E2 r1 => fzK r1 fun r1' => fzsK E2 [r1'] fun E3 ds => match ds with
    | [d] => ownK E3 (.br i) fun _ o => match o with
      | .lst xs => xs.length < 100000 ∧ putK' E3 i (.lst (xs ++ [d])) fun E4 => Φ E4 (.sh .none)
      | _ => False
    | _ => False
  | _ => False) := by intros; rfl
theorem s_dPop : dPop to E Φ = (to E fun E1 r0 => ownK E1 r0 fun i o1 => match o1 with
  | .lst ds => ∃ d, ds[ds.length - 1]? = some d ∧ putK' E1 i (.lst ds.dropLast) fun E2 => Φ E2 (.sh d)
  | _ => False) := by intros; rfl
theorem s_dNil : dNil  E Φ = (Φ.nx E) := by intros; rfl
theorem s_dSeq : dSeq t u E Φ = (t E { Φ with nx := fun E1 => u E1 Φ }) := by intros; rfl
theorem s_dBrk : dBrk  E Φ = (Φ.bk E) := by intros; rfl
theorem s_dCnt : dCnt  E Φ = (Φ.ct E) := by intros; rfl
theorem s_dRet : dRet t E Φ = (t E Φ.rt) := by intros; rfl
theorem s_dExp : dExp t E Φ = (t E fun E1 _ => Φ.nx E1) := by intros; rfl
theorem s_dOff : dOff E Φ = (False) := by intros; rfl
theorem s_dIf : dIf t a b E Φ = (t E fun E1 k => (k = true → a E1 Φ) ∧ (k = false → b E1 Φ)) := by intros; rfl
theorem s_dSet : dSet S i te E Φ = (te E fun E1 r => asgK S E1 i r Φ.nx) := by intros; rfl
theorem s_dAug : dAug i o te E Φ = (dAug.shB (slG E i) fun d => te E fun E1 r1 => fzK r1 fun r1' => slG E1 i = .sh d ∧ rdK E1 r1' fun d2 => o d d2 fun r => asgK true E1 i r Φ.nx) := by intros; rfl
theorem s_dSto : dSto te ta tb E Φ = (te E fun E1 r1 => fzK r1 fun r1' => ta E1 fun E2 r2 => ownK E2 r2 fun i _ => tb E2 fun E3 r3 => shK r3 fun dk => fzsK E3 [r1'] fun E4 ds => match ds with
  | [d] => stK E4 i dk d Φ.nx
  | _ => False) := by intros; rfl
theorem s_dAugI : dAugI o ta tb te E Φ = (ta E fun E1 r1 => ownK E1 r1 fun i o1 => dAugI.lsK o1 fun _ => tb E1 fun E2 r2 => shK r2 fun dk => iK dk fun k => ownK E2 (.br i) fun _ o2 => dAugI.lsK o2 fun ds => ∃ j d, ixN ds.length k = some j ∧ ds[j]? = some d ∧ te E2 fun E3 r3 => fzK r3 fun r3' => ownK E3 (.br i) fun _ o3 => dAugI.lsK o3 fun ds3 => ds3.length = ds.length ∧ rdK E3 r3' fun d2 => o d d2 fun r4 => shK r4 fun d4 => putK' E3 i (.lst (ds3.set j d4)) Φ.nx) := by intros; rfl
theorem s_gNm : gNm i d E Ψ = (slP E i (.sh d) Ψ) := by intros; rfl
theorem s_gPr : gPr i j d E Ψ = (match d with
  | .tuple [d1, d2] => slP E i (.sh d1) fun E2 => slP E2 j (.sh d2) Ψ
  | _ => False) := by intros; rfl
theorem s_iVal : iVal te E Θ = (te E fun E1 r => itK E1 r Θ) := by intros; rfl
theorem s_iRng : iRng te E Θ = (te E fun E1 r => shK r fun d => iK d fun n => (-1000000 ≤ n ∧ n ≤ 1000000) ∧ Θ E1 (rngD 0 n.toNat)) := by intros; rfl
theorem s_iRng2 : iRng2 ta tb E Θ = (ta E fun E1 r => shK r fun d => iK d fun m => (-1000000 ≤ m ∧ m ≤ 1000000) ∧ tb E1 fun E2 r => shK r fun d => iK d fun n => (-1000000 ≤ n ∧ n ≤ 1000000) ∧ Θ E2 (rngD m (n - m).toNat)) := by intros; rfl
theorem s_iRngD : iRngD ta tb E Θ = (ta E fun E1 r => shK r fun d => iK d fun m => (-1000000 ≤ m ∧ m ≤ 1000000) ∧ tb E1 fun E2 r => shK r fun d => iK d fun n => (-1000000 ≤ n ∧ n ≤ 1000000) ∧ Θ E2 (dwnD m (m - n).toNat)) := by intros; rfl
theorem s_iEnu : iEnu te E Θ = (te E fun E1 r => itK E1 r fun E2 ds => Θ E2 (enD ds)) := by intros; rfl
theorem s_iZip : iZip ta tb E Θ = (ta E fun E1 r => fzK r fun r' => tb E1 fun E2 r2 => fzK r2 fun r2' => itK E2 r' fun E3 ds => itK E3 r2' fun E4 es => ds.length = es.length ∧ Θ E4 (zpD ds es)) := by intros; rfl
theorem s_dAsg : dAsg tg te E Φ = (te E fun E1 r => fzK r fun r' => shK r' fun d => tg d E1 Φ.nx) := by intros; rfl
theorem s_dPar : dPar i j ta E Φ = (ta E fun E1 rs => fzsK E1 rs fun E2 ds => match ds with
  | [d1, d2] => slP E2 i (.sh d1) fun E3 => slP E3 j (.sh d2) Φ.nx
  | _ => False) := by intros; rfl
theorem s_dParL : dParL i j ta tb E Φ = (ta E fun E1 r => dParL.nwK r fun ds1 => tb E1 fun E2 r2 => dParL.nwK r2 fun ds2 => slP E2 i (.ow (.lst ds1)) fun E3 => slP E3 j (.ow (.lst ds2)) Φ.nx) := by intros; rfl
theorem s_dLRg : dLRg ta E Φ = (ta E fun E1 r => shK r fun d => iK d fun n => (0 ≤ n ∧ n ≤ 100000) ∧ Φ E1 (.nw (.lst (rngD 0 n.toNat)))) := by intros; rfl
theorem s_dLcN : dLcN i ti te E Φ = (ti E fun E1 ds => ds.length ≤ 100000 ∧ ∃ (Iv : Nat → EnvB → Prop) (R : Nat → PD → Prop), slP E1 i .un (Iv 0) ∧
  (∀ k d E2, ds[k]? = some d → Iv k E2 → slP E2 i (.sh d) fun E3 => te E3 fun E5 r => fzK r fun r' => fzsK E5 [r'] fun E6 ys => match ys with
    | [y] => slP E6 i .un fun E7 => Iv (k + 1) E7 ∧ R k y
    | _ => False) ∧
  ∀ E2 ys, Iv ds.length E2 → ys.length = ds.length → (∀ k y, ys[k]? = some y → R k y) → Φ E2 (.nw (.lst ys))) := by intros; rfl
theorem s_dLcP : dLcP i i2 ti te E Φ = (ti E fun E1 ds => ds.length ≤ 100000 ∧ ∃ (Iv : Nat → EnvB → Prop) (R : Nat → PD → Prop), (slP E1 i2 .un fun E2 => slP E2 i .un (Iv 0)) ∧
  (∀ k d E2, ds[k]? = some d → Iv k E2 → gPr i i2 d E2 fun E4 => te E4 fun E5 r => fzK r fun r' => fzsK E5 [r'] fun E6 ys => match ys with
    | [y] => slP E6 i2 .un fun E7 => slP E7 i .un fun E8 => Iv (k + 1) E8 ∧ R k y
    | _ => False) ∧
  ∀ E2 ys, Iv ds.length E2 → ys.length = ds.length → (∀ k y, ys[k]? = some y → R k y) → Φ E2 (.nw (.lst ys))) := by intros; rfl
theorem s_dLcF : dLcF i ti tc te E Φ = (ti E fun E1 ds => ds.length ≤ 100000 ∧ ∃ Iv : Nat → EnvB → List PD → Prop, (slP E1 i .un fun E2 => Iv 0 E2 []) ∧
  (∀ k d E2 acc, ds[k]? = some d → Iv k E2 acc → slP E2 i (.sh d) fun E3 => tc E3 fun E4 b => (b = true → te E4 fun E5 r => fzK r fun r' => fzsK E5 [r'] fun E6 ys => match ys with
    | [y] => slP E6 i .un fun E7 => Iv (k + 1) E7 (acc ++ [y])
    | _ => False) ∧ (b = false → slP E4 i .un fun E7 => Iv (k + 1) E7 acc)) ∧
  ∀ E2 acc, Iv ds.length E2 acc → Φ E2 (.nw (.lst acc))) := by intros; rfl
theorem s_gSub : gSub ta tb d E Ψ = (ta E fun E2 r2 => ownK E2 r2 fun i _ => tb E2 fun E3 r3 => shK r3 fun dk => stK E3 i dk d Ψ) := by intros; rfl
theorem s_gTwo : gTwo g1 g2 d E Ψ = (match d with
  | .tuple [d1, d2] => g1 d1 E fun E2 => g2 d2 E2 Ψ
  | _ => False) := by intros; rfl
theorem s_dFz : dFz t E Φ = (t E fun E1 r => match r with
  | .nw (.dic es) => Φ E1 (.sh (.dict (dK es)))
  | .br i => match slG E1 i with
    | .ow (.dic es) => slP E1 i (.sh (.dict (dK es))) fun E2 => Φ E2 (.sh (.dict (dK es)))
    | _ => False
  | _ => False) := by intros; rfl
theorem s_uDct_0 : uDct  (.dict es) k = (∃ fs, es = dK fs ∧ k (.nw (.dic fs))) := by intros; rfl
theorem s_uDct_1 : uDct  (.list ds) k = (∃ es : List (Key × PD), ds = es.map (fun p => .tuple [kD p.1, p.2]) ∧ k (.nw (.dic (mergeD [] es)))) := by intros; rfl
theorem s_iKeys : iKeys te E Θ = (te E fun E1 r => shK r fun d => dicK d fun es => Θ E1 (es.map fun p => kD p.1)) := by intros; rfl
theorem s_iValues : iValues te E Θ = (te E fun E1 r => shK r fun d => dicK d fun es => Θ E1 (es.map fun p => p.2)) := by intros; rfl
theorem s_iItems : iItems te E Θ = (te E fun E1 r => shK r fun d => dicK d fun es => Θ E1 (es.map fun p => .tuple [kD p.1, p.2])) := by intros; rfl
theorem s_dGet2 : dGet2 to te td E Φ = (to E fun E1 r0 => fzK r0 fun r0' => rdK E1 r0' fun d0 => dicK d0 fun _ => te E1 fun E2 r1 => shK r1 fun dk => keyD dk = true ∧ td E2 fun E3 r2 => fzK r2 fun r2' => shK r2' fun d2 => rdK E3 r0' fun d3 => dicK d3 fun es => Φ E3 (.sh ((kLook (dK es) dk).getD d2))) := by intros; rfl
theorem s_dSrtL : dSrtL ta E Φ = (ta E fun E1 r => fzK r fun r' => rdK E1 r' fun d => match d with
  | .list ds => ∃ ns : List Int, ds = pI ns ∧ ∀ ns' : List Int, ns'.Perm ns → ns'.Pairwise (· ≤ ·) → Φ E1 (.nw (.lst (pI ns')))
  | _ => False) := by intros; rfl
theorem s_oAddI_0 : oAddI  (.int i) (.int j) k = (k (.sh (.int (i + j)))) := by intros; rfl

theorem s_uLen_4 {fs : List (Key × PD)} {k : Rs → Prop} : uLen (.dict (dK fs)) k = k (.sh (.int (fs.length : Nat))) := by
  have h : (∃ gs, dK fs = dK gs) := ⟨fs, rfl⟩
  have hl : (dK fs).length = fs.length := by unfold dK; simp
  unfold uLen
  split
  · next e => cases e
  · next e => cases e
  · next e => cases e
  · next ds e =>
    cases fs with
    | nil => cases e
    | cons p l => obtain ⟨a, b⟩ := p; cases a <;> cases e
  · next es _ e =>
    cases e
    rw [hl]
    exact propext ⟨fun z => z.2, fun z => ⟨h, z⟩⟩
  · next z => exact absurd rfl (z _)
theorem s_dCut : dCut t u E Φ = (∃ Mid : EnvB → Prop, t E { Φ with nx := Mid } ∧ ∀ E1, Mid E1 → u E1 Φ) := by intros; rfl
theorem s_dFor : dFor tg ti body E Φ = (ti E fun E1 ds => ∃ Iv : Nat → EnvB → Prop, Iv 0 E1 ∧ (∀ i d E2, ds[i]? = some d → Iv i E2 → tg d E2 fun E3 => body E3 { nx := Iv (i + 1), rt := Φ.rt, bk := Φ.nx, ct := Iv (i + 1) }) ∧ ∀ E2, Iv ds.length E2 → Φ.nx E2) := by intros; rfl
theorem s_dWhl : dWhl t body E Φ = (∃ (Wv : Nat → EnvB → Prop) (m : Nat), Wv m E ∧ ∀ m E1, Wv m E1 → t E1 fun E2 k => (k = true → body E2 { nx := fun E3 => ∃ m', m' < m ∧ Wv m' E3, rt := Φ.rt, bk := Φ.nx, ct := fun E3 => ∃ m', m' < m ∧ Wv m' E3 }) ∧ (k = false → Φ.nx E2)) := by intros; rfl
theorem s_oEq_l : oEq (.list a) (.list b) k = (EqOk (.list a) ∧ EqOk (.list b) ∧ k (.sh (.bool (PyData.eqv (.list a) (.list b))))) := by intros; rfl
theorem s_oEq_t : oEq (.tuple a) (.tuple b) k = (EqOk (.tuple a) ∧ EqOk (.tuple b) ∧ k (.sh (.bool (PyData.eqv (.tuple a) (.tuple b))))) := by intros; rfl
theorem s_oNe_l : oNe (.list a) (.list b) k = (EqOk (.list a) ∧ EqOk (.list b) ∧ k (.sh (.bool (!PyData.eqv (.list a) (.list b))))) := by intros; rfl
theorem s_oNe_t : oNe (.tuple a) (.tuple b) k = (EqOk (.tuple a) ∧ EqOk (.tuple b) ∧ k (.sh (.bool (!PyData.eqv (.tuple a) (.tuple b))))) := by intros; rfl
theorem s_oIx_d : oIx (.dict es) b k = ((∃ fs, es = dK fs) ∧ keyD b = true ∧ ∃ d, kLook es b = some d ∧ k (.sh d)) := by intros; rfl
theorem s_shB : dAug.shB (.sh d) k = k d := by intros; rfl
theorem s_lsK : dAugI.lsK (.lst ds) k = k ds := by intros; rfl
theorem s_nwK : dParL.nwK (.nw (.lst ds)) k = k ds := by intros; rfl
theorem s_stK : stK E i dk d k = (ownK E (.br i) fun _ o => match o with
  | .lst xs => iK dk fun n => ∃ j, ixN xs.length n = some j ∧ putK' E i (.lst (xs.set j d)) k
  | .dic es => ∃ key, kOf dk = some key ∧ es.length < 100000 ∧ putK' E i (.dic (dput es key d)) k
  | _ => False) := by intros; rfl
theorem s_rtS : rtK E (.sh d) k = k (.sh d) := by intros; rfl
theorem s_rtN : rtK E (.nw o) k = k (.nw o) := by intros; rfl
theorem s_rtB : rtK E (.br i) k = (match slG E i with
    | .ow o => k (.nw o)
    | _ => False) := by intros; rfl
theorem s_ib0 : ib0K (.ib 0 o :: E) k = k o := by intros; rfl
theorem s_bK : bK (.sh (.bool b)) k = k b := by intros; rfl
theorem s_iK : iK (.int i) k = k i := by intros; rfl
theorem s_shK : shK (.sh d) k = k d := by intros; rfl
theorem s_seqL : seqK (.list ds) k = k ds := by intros; rfl
theorem s_seqT : seqK (.tuple ds) k = k ds := by intros; rfl
theorem s_dicK : dicK (.dict es) k = (∃ fs, es = dK fs ∧ k fs) := by intros; rfl
def DD0 := (And.intro @s_dC (And.intro @s_dBin (And.intro @s_dTst (And.intro @s_dTru (And.intro @s_dNot (And.intro @s_dAnd (And.intro @s_dOr (And.intro @s_dIfe (And.intro @s_dNotV (And.intro @s_dAndV (And.intro @s_dOrV (And.intro @s_dTwo (And.intro @s_oAdd_0 (And.intro @s_oAdd_1 (And.intro @s_oAdd_2 (And.intro @s_oAdd_3 (And.intro @s_oSub_0 (And.intro @s_oMul_0 (And.intro @s_oMul_1 (And.intro @s_oMulT_0 (And.intro @s_oMulS_0 (And.intro @s_oDiv_0 (And.intro @s_oDivN_0 (And.intro @s_oMod_0 (And.intro @s_oModN_0 (And.intro @s_oPow_0 (And.intro @s_oCmp_0 (And.intro @s_oEq_0 (And.intro @s_oEq_1 (And.intro @s_oNe_0 (And.intro @s_oNe_1 (And.intro @s_oIsN_0 (And.intro @s_oNotN_0 (And.intro @s_oIn_0 (And.intro @s_oIn_1 (And.intro @s_oIn_2 (And.intro @s_oIn_3 (And.intro @s_oIx_0 (And.intro @s_oIx_1 @s_oIx_2)))))))))))))))))))))))))))))))))))))))
def DD1 := (And.intro @s_dA0 (And.intro @s_dA (And.intro @s_dTup (And.intro @s_dLst (And.intro @s_dDic0 (And.intro @s_dO0 (And.intro @s_dO1 (And.intro @s_cutK_0 (And.intro @s_cutK_1 (And.intro @s_cutK_2 (And.intro @s_cutK_3 (And.intro @s_dSlc (And.intro @s_dUn (And.intro @s_uNeg_0 (And.intro @s_uRevT_0 (And.intro @s_uRevL_0 (And.intro @s_uLen_0 (And.intro @s_uLen_1 (And.intro @s_uLen_2 (And.intro @s_uLen_3 (And.intro @s_uLen_4 (And.intro @s_uTup (And.intro @s_uLst (And.intro @s_uInt_0 (And.intro @s_uInt_1 (And.intro @s_uAbs_0 (And.intro @s_oMax_0 (And.intro @s_oMin_0 (And.intro @s_uAll_0 (And.intro @s_uSum_0 (And.intro @s_dRepr (And.intro @s_uStr_0 (And.intro @s_dIsi (And.intro @s_dCall (And.intro @s_dCall1 (And.intro @s_dCallK (And.intro @s_dApp (And.intro @s_dPop (And.intro @s_dNil @s_dSeq)))))))))))))))))))))))))))))))))))))))
def DD2 := (And.intro @s_dBrk (And.intro @s_dCnt (And.intro @s_dRet (And.intro @s_dExp (And.intro @s_dOff (And.intro @s_dIf (And.intro @s_dSet (And.intro @s_dAug (And.intro @s_dSto (And.intro @s_dAugI (And.intro @s_gNm (And.intro @s_gPr (And.intro @s_iVal (And.intro @s_iRng (And.intro @s_iRng2 (And.intro @s_iRngD (And.intro @s_iEnu (And.intro @s_iZip (And.intro @s_dAsg (And.intro @s_dPar (And.intro @s_dParL (And.intro @s_dLRg (And.intro @s_dLcN (And.intro @s_dLcP (And.intro @s_dLcF (And.intro @s_gSub (And.intro @s_gTwo (And.intro @s_dFz (And.intro @s_uDct_0 (And.intro @s_uDct_1 (And.intro @s_iKeys (And.intro @s_iValues (And.intro @s_iItems (And.intro @s_dGet2 (And.intro @s_dSrtL (And.intro @s_oAddI_0 (And.intro @s_dCut (And.intro @s_dFor (And.intro @s_dWhl @s_oEq_l)))))))))))))))))))))))))))))))))))))))
def DD3 := (And.intro @s_oEq_t (And.intro @s_oNe_l (And.intro @s_oNe_t (And.intro @s_oIx_d (And.intro @s_shB (And.intro @s_lsK (And.intro @s_nwK (And.intro @s_var (And.intro @s_var1 (And.intro @s_var2 (And.intro @s_var3 (And.intro @s_rd (And.intro @s_rd0 (And.intro @s_rd1 (And.intro @s_rd2 (And.intro @s_rd3 (And.intro @s_rd4 (And.intro @s_fz1 (And.intro @s_fz2 (And.intro @s_fz3 (And.intro @s_asg1 (And.intro @s_asg2 (And.intro @s_asg3 (And.intro @s_asg4 (And.intro @s_asg5 (And.intro @s_it1 (And.intro @s_it2 (And.intro @s_it3 (And.intro @s_it4 (And.intro @s_own (And.intro @s_own1 (And.intro @s_own2 (And.intro @s_put (And.intro @s_put1 (And.intro @s_put2 (And.intro @s_stK (And.intro @s_rtS (And.intro @s_rtN (And.intro @s_rtB @s_ib0)))))))))))))))))))))))))))))))))))))))
def DD4 := (And.intro @s_bK (And.intro @s_iK (And.intro @s_shK (And.intro @s_seqL (And.intro @s_seqT @s_dicK)))))
end Bk

set_option maxHeartbeats 8000000
namespace Bk
open PySem PySem.Spec PyProof.Rows L2
/-! ### zip(a, b, strict=False): a is the shorter -/
section
variable {P : Program} {w : World} {A : Around} {E : Value → Shared → Prop} {s : Shared} {it : Addr} {T T' src : Heap → Prop} {val : Value → Prop}
variable {P : Program} {w : World} {A : Around} {E : Value → Shared → Prop} {s : Shared} {z TI TO i1 i2 : Addr} {T1 T1' T2 T2' src1 src2 : Heap → Prop} {val1 val2 : Value → Prop} {srcs1 srcs2 : List Addr} {a b : Value}
theorem zp_short (hA : A.handled = none) (D : ZpApart z TI TO i1 i2) (hz : IsZp false s.heap z TI TO .none) (hTI : IsPair s.heap TI (.ref i1) (.ref i2)) (hTO : IsPair s.heap TO a b) (h1 : T1 s.heap) (q1 : src1 s.heap)
    (n1 : NxDone P w i1 T1 src1) (g1 : Hangs [i1] T1) (k1 : Hangs srcs1 src1) (o1 : ∀ c ∈ srcs1, c ≠ z ∧ c ≠ TO ∧ c ≠ i1 ∧ c ≠ i2) {Q : Option Value → Shared → Prop}
    (hQ : ∀ h', (∀ c o, c ≠ z → c ≠ TO → c ≠ i1 → c ≠ i2 → s.heap.get? c = some o → h'.get? c = some o) → Q none { s with heap := h' }) : wpAny (model P w) A (pyNext (.ref z)) Q E s := by
  have hT : s.TypeIs (.ref z) "zip" := ⟨_, hz, rfl⟩
  unfold pyNext
  refine wpAny_bind (wpAny_attempt (wpAny_callSpecial?_slot (name := Str.ofString "__next__") hT F.slot_zip_next (wpAny_call_entry F.slot_zip_next hT F.entry_zip_next ?_ (F.args_zip_next_1 _))))
  have e2 : (Value.bool false == Value.bool true) = false := rfl
  have hA1 : A.in1.handled = none := hA
  have fin : ∀ h' e, (∀ c o, c ≠ z → c ≠ TO → c ≠ i1 → c ≠ i2 → s.heap.get? c = some o → h'.get? c = some o) → (∃ o, h'.get? e = some o ∧ o.cls = .type "StopIteration") → wpAny (model P w) A (isInstance (.ref e) (.type "StopIteration") >>= fun k => if k = true then pure none else throw (.ref e)) Q E { s with heap := h' } := fun h' e hk ⟨o, ho, hc⟩ => wpAny_bind (wpAny_isInstance (T := "StopIteration") (b := true) ⟨o, ho, hc⟩ isSubtype_stop (wpAny_pure (hQ _ hk)))
  show wpAny _ _ (field (.ref z) 2 >>= _) _ _ _
  refine wpAny_bind (wpAny_field hz rfl (x := .bool false) rfl ?_)
  show wpAny _ _ (field (.ref z) 3 >>= _) _ _ _
  refine wpAny_bind (wpAny_field hz rfl (x := .ref TI) rfl (wpAny_bind (wpAny_seqItems hTI rfl ?_)))
  show wpAny _ _ (Builtin.SmallTypes.ownedTupleIsFree (.ref z) >>= _) _ _ _
  unfold Builtin.SmallTypes.ownedTupleIsFree
  refine wpAny_bind (wpAny_bind (wpAny_field hz rfl (x := .none) rfl (wpAny_pure ?_)))
  simp only [if_true]
  refine wpAny_bind (wpAny_rule (wpAny_bind (wpAny_field hz rfl (x := .ref TO) rfl (wpAny_bind (setZ (h0 := hz) fun m1 z1 t1 => ?_)))))
  rw [e2]
  refine wpAny_bind ?_
  simp only [List.zipIdx_cons, List.zipIdx_nil, List.forIn_cons, List.forIn_nil]
  have hT1 : T1 m1 := g1 _ _ h1 fun c hc o q => by
    obtain rfl : c = i1 := by simpa using hc
    exact t1.extBut _ _ D.i1z q
  have hs1 : src1 m1 := k1 _ _ q1 fun c hc o q => t1.extBut _ _ (o1 c hc).1 q
  refine wpAny_bind (wpAny_bind (wpAny_onRaise ?_))
  show wpAny _ _ (do return some (← Builtin.SmallTypes.nextOf (.ref i1))) _ _ _
  refine wpAny_bind (n1 { s with heap := m1 } _ hA1 hT1 hs1 fun m2 e t2 he => ?_)
  obtain ⟨oe, hoe, hce⟩ := he
  have z2 : IsZp false m2 z TI TO .ellipsis := t2 _ _ D.i1z.symm z1
  have hez : e ≠ z := fun x => by subst x; rw [z2] at hoe; cases hoe; simp [zipO] at hce
  exact setZ (s := { s with heap := m2 }) (h0 := z2) fun m3 _ t3 => fin m3 e (fun c o c1 _ c3 _ x => t3.extBut _ _ c1 (t2 _ _ c3 (t1.extBut _ _ c1 x))) ⟨oe, t3.extBut _ _ hez hoe, hce⟩

end
def ItZs (J1 J2 : It) : It := ⟨fun i H => J1.go i H ∧ J2.go i H, fun i H v H' => ∃ T x y, v = .ref T ∧ H T = none ∧ H' = upd H T (.tup [x, y]) ∧ J1.yld i H x H ∧ J2.yld i H y H, fun i H => J1.stop i H⟩
theorem turn_zs {P : Program} {w : World} {K : PySem.W.Frag} {elts : List Expr} {kk : Nat} {tpos : Pos} {z TI TO i1 i2 : Addr} {S1 S2 : Nat → Heap → Prop} {J1 J2 : It} (D : ZpApart z TI TO i1 i2) (R1 : Inr P w K i1 S1 J1) (R2 : Inr P w K i2 S2 J2) :
    Turn P w K (.Tuple elts kk tpos) (ItZs J1 J2) [z, TI, TO, i1, i2] z (fun i h => IsZp false h z TI TO .none ∧ IsPair h TI (.ref i1) (.ref i2) ∧ (∃ x y, IsPair h TO x y) ∧ S1 i h ∧ S2 i h) where
  mem := (turn_zp (elts := elts) (kk := kk) (tpos := tpos) false D R1 R2).mem
  obj := (turn_zp (elts := elts) (kk := kk) (tpos := tpos) false D R1 R2).obj
  keep := (turn_zp (elts := elts) (kk := kk) (tpos := tpos) false D R1 R2).keep
  item := (turn_zp (elts := elts) (kk := kk) (tpos := tpos) false D R1 R2).item
  done := by
    intro X hP hw hK hc i pins s σ H E I hf st hg
    obtain ⟨hz, hTI, ⟨x0, y0, hTO⟩, h1, h2⟩ := st
    obtain ⟨sr1, src1, q1, g1, n1, nx1⟩ := R1.done X hP hw hK i pins s σ H I hg
    subst hP hw hK
    have off1 : ∀ c ∈ sr1, c ≠ z ∧ c ≠ TO ∧ c ≠ i1 ∧ c ≠ i2 := fun c hc => ⟨fun e => n1 c (by subst e; exact hf c (by simp)) hc, fun e => n1 c (by subst e; exact hf c (by simp)) hc, fun e => n1 c (by subst e; exact hf c (by simp)) hc, fun e => n1 c (by subst e; exact hf c (by simp)) hc⟩
    exact zp_short (I.ok.hd hc) D hz hTI hTO h1 q1 nx1 (R1.frame i) g1 off1 fun h' hk => ⟨rfl, I.turnedL (t' := s.toks) (ch := [z, TI, TO, i1, i2]) (fun c o hb q =>
      hk c o (fun q' => hb (by simp [q'])) (fun q' => hb (by simp [q'])) (fun q' => hb (by simp [q'])) (fun q' => hb (by simp [q'])) q) hf⟩
  self := (turn_zp (elts := elts) (kk := kk) (tpos := tpos) false D R1 R2).self
def iZs (K : PySem.W.Frag) (ta : TA) : TI := fun σ H R => ta σ H fun vs H1 => ∃ v1 v2 J1 J2, vs = [v1, v2] ∧ SeqJ K v1 H1 J1 ∧ SeqJ K v2 H1 J2 ∧ R (ItZs J1 J2) H1
theorem zsPie {X : Cx} {pins : List (Addr × Obj)} {σ : L2.St} {H1 : Hp} {s1 : Shared} {elts : List Expr} {kk : Nat} {tpos : Pos} {R : It → Hp → Prop} {vs : List V} {us : List Value} {E : Value → Shared → Prop} (kw : Option Bool) (hk0 : kw.getD false = false) (I1 : Inv X pins σ H1 s1) (r1 : Vals vs us) (q : ∃ v1 v2 J1 J2, vs = [v1, v2] ∧ SeqJ X.K v1 H1 J1 ∧ SeqJ X.K v2 H1 J2 ∧ R (ItZs J1 J2) H1) :
    wpAny (model X.prog X.w) X.A (call (.type "zip") us (kwOf kw)) (fun v s2 => wpAny (model X.prog X.w) X.A (pyIter v) (PIE X pins σ (.Tuple elts kk tpos) R) E s2) E s1 := by
  obtain ⟨v1, v2, J1, J2, rfl, a1, a2, q⟩ := q
  cases r1 with
  | cons ra rr =>
    cases rr with
    | cons rb rr =>
      cases rr
      obtain ⟨o1, p1, m1, f1, b1, c1, d1⟩ := a1.mk I1 ra
      obtain ⟨o2, p2, m2, f2, b2, c2, d2⟩ := a2.mk I1 rb
      obtain ⟨S1, R1, e1⟩ := d1 s1.heap.objs.size
      obtain ⟨S2, R2, e2⟩ := d2 (s1.heap.objs.size + 1)
      have hp2 : ∀ s : Shared, (fun s' : Shared => p2 s' ∧ ∀ b o, s1.heap.get? b = some o → s'.heap.get? b = some o) s → (fun s' : Shared => p2 s' ∧ ∀ b o, s1.heap.get? b = some o → s'.heap.get? b = some o) { s with heap := s.heap.push o1 } := fun s ⟨_, k⟩ => ⟨c2 _ fun b o z => Heap.get?_push_of_some _ (k b o z), fun b o z => Heap.get?_push_of_some _ (k b o z)⟩
      have m2' : MakesIt _ o2 (fun s' : Shared => p2 s' ∧ ∀ b o, s1.heap.get? b = some o → s'.heap.get? b = some o) := fun s Q k q => m2 s Q k.1 q
      refine call_zp kw m1 m2' hp2 b1 ⟨b2, fun _ _ z => z⟩ ?_ f1 f2
      obtain ⟨hz, hTI, hTO, g1, g2, hk⟩ := zpH_facts (f := kw.getD false) (h := s1.heap) f1 f2
      have I2 : Inv X pins σ H1 { s1 with heap := zpH (kw.getD false) s1.heap o1 o2 } := I1.kept (t' := s1.toks) hk
      have D : ZpApart (s1.heap.objs.size + 4) (s1.heap.objs.size + 2) (s1.heap.objs.size + 3) s1.heap.objs.size (s1.heap.objs.size + 1) := by constructor <;> (show @Ne Nat _ _; omega)
      have T := turn_zs (elts := elts) (kk := kk) (tpos := tpos) D R1 R2
      have st0 : IsZp false (zpH (kw.getD false) s1.heap o1 o2) (s1.heap.objs.size + 4) (s1.heap.objs.size + 2) (s1.heap.objs.size + 3) .none ∧ IsPair (zpH (kw.getD false) s1.heap o1 o2) (s1.heap.objs.size + 2) (.ref s1.heap.objs.size) (.ref (s1.heap.objs.size + 1)) ∧ (∃ x y, IsPair (zpH (kw.getD false) s1.heap o1 o2) (s1.heap.objs.size + 3) x y) ∧ S1 0 (zpH (kw.getD false) s1.heap o1 o2) ∧ S2 0 (zpH (kw.getD false) s1.heap o1 o2) := ⟨by rw [hk0] at hz ⊢; exact hz, hTI, ⟨_, _, hTO⟩, e1 _ g1, e2 _ g2⟩
      refine T.self X.A 0 { s1 with heap := zpH (kw.getD false) s1.heap o1 o2 } _ _ st0 ⟨_, _, _, _, H1, rfl, I2, T, st0, fun c hc => ?_, q⟩
      have hle : s1.heap.objs.size ≤ c := by
        rcases (show c = s1.heap.objs.size + 4 ∨ c = s1.heap.objs.size + 2 ∨ c = s1.heap.objs.size + 3 ∨ c = s1.heap.objs.size ∨ c = s1.heap.objs.size + 1 by simpa using hc) with z | z | z | z | z <;> (subst z; first | exact Nat.le_add_right _ _ | exact Nat.le_refl _)
      exact I1.fpOk hle (I1.hok.fresh hle)

section
variable {X : Cx} {e e2 : Expr} {ta : TA} {p pos tpos : Pos} {elts : List Expr} {kk : Nat}
theorem pi_zsS {k1 : Nat} {p1 p2 : Pos} (hg : Gl X "zip") (hm : X.mg "zip" = none) (ha : PA X [e, e2] ta) (he : backTo pos (starEach [e, e2] X.env) = (false, eval e X.env) :: backTo pos (starEach [e2] X.env) := by rfl) (h1 : (backTo pos (starEach [e, e2] X.env)).any (·.1) = false := by rfl) :
    PI X (.Tuple elts kk tpos) (.Call (.Name "zip" p) [e, e2] [⟨some (Str.ofString "strict"), .Constant (.bool false) k1 p1, p2⟩] pos) (iZs X.K ta) := by
  refine ⟨fun pins s σ H R I h => wpAny_Call_Name_kw (ld_blt I hg hm PyProof.Rows.boot_zip ?_)⟩
  refine typeKw (thn (ha.run pos pins s σ H _ I h) fun us s1 ⟨vs, H1, I1, r1, q1⟩ => ?_) he h1 rfl rfl
  refine thn ((pk_cons (X := X) (nm := some (Str.ofString "strict")) (kpos := p2) (pe_bl (b := false) (j := k1) (pos := p1)) pk_nil).run pos pins s1 σ H1 (fun zs H2 => zs = [.bl false] ∧ H2 = H1) I1 ⟨rfl, rfl⟩) fun ws s2 ⟨zs, H2, I2, rz, ez, eH⟩ => ?_
  subst ez eH
  cases rz with
  | cons rz rr =>
    cases rr
    cases rz
    exact zsPie (some false) rfl I2 r1 q1

end
theorem wk_zs {K : PySem.W.Frag} {J1 J2 : It} {G1 : Hp} {ds es : List PD} (h1 : Wk K J1 G1 ds) (h2 : Wk K J2 G1 es) (hl : ds.length ≤ es.length) : Wk K (ItZs J1 J2) G1 (zpD ds es) where
  go := fun F w σ H G E i hi I s => by
    have hi : i < min ds.length es.length := by simpa [zpD] using hi
    exact ⟨h1.go F w σ H G E i (by omega) I s, h2.go F w σ H G E i (by omega) I s⟩
  stop := fun F w σ H G E I s => by
    have e1 : (zpD ds es).length = ds.length := by simp [zpD]; omega
    rw [e1]
    exact h1.stop F w σ H G E I s
  yld := fun F w σ H G E i d x H' hd I s y => by
    obtain ⟨T, v1, v2, rfl, hT, rfl, y1, y2⟩ := y
    obtain ⟨a, b, ha, hb, rfl⟩ := zpD_get hd
    obtain ⟨G2, I2, s2, _, k2, r1⟩ := h1.yld F w σ H G E i a v1 H ha I s y1
    obtain ⟨G3, I3, s3, _, k3, r2⟩ := h2.yld F w σ H G2 E i b v2 H hb I2 (s.trans s2) y2
    obtain ⟨G4, I4, s4, sH, k4, rp⟩ := pair_new I3 hT (r1.mono s3) r2
    exact ⟨G4, I4, (s2.trans s3).trans s4, sH, fun b hb => ((k4 b hb).trans (k3 b hb)).trans (k2 b hb), rp⟩

section
variable {X : Cx} {F : Fm} {E : EnvB} {a b e tg iter : Expr} {Θ : EnvB → List PD → Prop} {pos p tpos : Pos} {elts : List Expr} {kk : Nat}
theorem zs_read {w : Addr → Option Nat} {σ : L2.St} {H G : Hp} (I : In X.K F w σ H G E) (h : XA X F [a, b] E fun E1 rs => ∃ r1 r2 E2 E3 ds es, rs = [r1, r2] ∧ ItD E1 r1 E2 ds ∧ ItD E2 r2 E3 es ∧ ds.length ≤ es.length ∧ Θ E3 (zpD ds es)) : iZs X.K (tA X F [a, b]) σ H (KI X.K F σ G Θ) :=
  tA_go I h fun vs w1 H1 G1 E1 rs I1 s1 rvs ⟨r1, r2, E2, E3, ds, es, er, i1, i2, hl, q⟩ => by
    subst er
    obtain ⟨v1, v2, rfl, q1, q2⟩ := rv_two (F := F) rvs
    obtain ⟨w2, G2, J1, I2, s2, wk1, sj1⟩ := i1.seqJ I1 q1
    have q2' : RV X.K F w2 σ H1 G2 v2 r2 := by
      cases rvs with
      | sh _ t => cases t with
        | sh t _ => exact Rp.mono s2 _ _ t
        | br t _ => exact t
      | br _ t => cases t with
        | sh t _ => exact Rp.mono s2 _ _ t
        | br t _ => exact t
    obtain ⟨w3, G3, J2, I3, s3, wk2, sj2⟩ := i2.seqJ I2 q2'
    exact ⟨v1, v2, J1, J2, rfl, sj1, sj2, w3, G3, E3, _, I3, (s1.trans s2).trans s3, wk_zs (wk1.mono s3) wk2 hl, q⟩

theorem xi_zsS {k1 : Nat} {p1 p2 : Pos} (hm : X.mg "zip" = none) (h : XA X F [a, b] E fun E1 rs => ∃ r1 r2 E2 E3 ds es, rs = [r1, r2] ∧ ItD E1 r1 E2 ds ∧ ItD E2 r2 E3 es ∧ ds.length ≤ es.length ∧ Θ E3 (zpD ds es)) (hg : Gl X "zip" := by rfl) (he : backTo pos (starEach [a, b] X.env) = (false, eval a X.env) :: backTo pos (starEach [b] X.env) := by rfl) (h1 : (backTo pos (starEach [a, b] X.env)).any (·.1) = false := by rfl) :
    XI X F (.Tuple elts kk tpos) (.Call (.Name "zip" p) [a, b] [⟨some (Str.ofString "strict"), .Constant (.bool false) k1 p1, p2⟩] pos) E Θ := xi_of (pi_zsS hg hm pa_tA he h1) fun w σ H G I => zs_read I h

end
end Bk

set_option maxHeartbeats 4000000
namespace Bk
open PySem PySem.Spec PyProof.Rows L2

/-! ### xs.pop(0), xs an own list -/
def dPop0 (to : DX) : DX := fun E Φ => to E fun E1 r0 => ownK E1 r0 fun i o1 => match o1 with
  | .lst ds => ∃ d ds', ds = d :: ds' ∧ putK' E1 i (.lst ds') fun E2 => Φ E2 (.sh d)
  | _ => False
section
variable {X : Cx} {F : Fm} {E : EnvB} {Φ : EnvB → Rs → Prop} {o a b : Expr} {pos p p0 apos : Pos} {j : Nat} {to ta tb : DX}
theorem xe_pop0 (h : XE X F o E fun E1 r0 => ∃ i b1 d ds E2, r0 = .br i ∧ E1[i]? = some b1 ∧ b1.oc = some (.lst (d :: ds)) ∧ SetE E1 i (b1.put (.lst ds)) E2 ∧ Φ E2 (.sh d))
    (hbase : attributeBase o "pop" X.env (eval o X.env) = eval o X.env := by rfl) (he : starEach (.Constant (.int 0) j p0 :: []) X.env = (false, eval (.Constant (.int 0) j p0) X.env) :: starEach [] X.env := by rfl)
    (hfew : ((backTo pos (starEach (.Constant (.int 0) j p0 :: []) X.env)).all (fun x => !x.1) && (backToKw pos (keywordEach [] X.env)).all (fun x => x.1.isSome) && decide ((Expr.Constant (.int 0) j p0 :: []).length + ([] : List Keyword).length + (if ([] : List Keyword).isEmpty then 0 else 1) < 30)) = true := by rfl)
    (hline : (apos.endLine == pos.line) = true := by rfl) : XE X F (.Call (.Attribute o "pop" apos) [.Constant (.int 0) j p0] [] pos) E Φ :=
  xe_of (pe_bm PySem.F.plainAttrs_list PySem.F.slot_list_pop PySem.F.type_list_pop mt_popAt pe_tE (pa_cons pe_int pa_nil he) hbase hfew (hs := he) (hline := hline)) fun w σ H G I => tE_go I h fun v w1 H1 G1 E1 r I1 s1 rv ⟨i, b1, d, ds, E2, e0, hE, hb, hs, q⟩ => by
    subst e0
    obtain ⟨l, el, hw, cc⟩ := I1.owned hE hb
    have rv : σ[i]? = some (some v) := rv
    rw [rv] at el
    cases el
    obtain ⟨xs, c1, c2⟩ := cc.lst
    cases c2 with
    | @cons z _ zs _ rz c2 =>
      refine ⟨.inl ⟨rfl, _, .inl (.inl c1)⟩, l, _, 0, 0, z, rfl, rfl, c1, by decide, by decide, ?_, rfl, ?_⟩
      · unfold seqIndex?
        simp
      have I2 := I1.mut hE hb rv (.ls c2)
      rw [← hs.eq] at I2
      exact ke I2 s1 (r := .sh d) rz q
theorem re_pop0 (ho : RE X o to) (hbase : attributeBase o "pop" X.env (eval o X.env) = eval o X.env := by rfl) (he : starEach (.Constant (.int 0) j p0 :: []) X.env = (false, eval (.Constant (.int 0) j p0) X.env) :: starEach [] X.env := by rfl)
    (hfew : ((backTo pos (starEach (.Constant (.int 0) j p0 :: []) X.env)).all (fun x => !x.1) && (backToKw pos (keywordEach [] X.env)).all (fun x => x.1.isSome) && decide ((Expr.Constant (.int 0) j p0 :: []).length + ([] : List Keyword).length + (if ([] : List Keyword).isEmpty then 0 else 1) < 30)) = true := by rfl)
    (hline : (apos.endLine == pos.line) = true := by rfl) : RE X (.Call (.Attribute o "pop" apos) [.Constant (.int 0) j p0] [] pos) (dPop0 to) := ⟨fun q => xe_pop0 (xe_cut (ho.go q) fun E1 r0 z => by
  obtain ⟨i, b1, o1, rfl, hE1, hb1, z⟩ := ownK_ok z
  split at z
  · obtain ⟨d, ds', rfl, z⟩ := z
    obtain ⟨b', o0', E4, hE', hb', hs, z⟩ := putK_ok z
    rw [hE1] at hE'
    cases hE'
    exact ⟨i, b1, d, ds', E4, rfl, hE1, hb1, hs, z⟩
  · exact z.elim) hbase he hfew hline⟩
end
end Bk
namespace Bk
open PySem PySem.Spec PyProof.Rows L2
/-! ### {i: 'z'} -/
def dDic1 (i : Int) (z : Str) : DX := fun E Φ => Φ E (.nw (.dic [(.inl i, .str z)]))
section
variable {X : Cx} {F : Fm} {E : EnvB} {Φ : EnvB → Rs → Prop} {pos p1 p2 : Pos} {i : Int} {z : Str} {j k : Nat}
theorem re_dic1 : RE X (.Dict [some (.Constant (.int i) j p1)] [.Constant (.str z) k p2] pos) (dDic1 i z) := ⟨fun {F E Φ} q => xe_of (pe_disp (pps_cons pe_int pe_str pps_nil) rfl rfl (by simp) (by simp)) fun w σ H G I => fun p hp => by
  refine ⟨upd_same, [(.inl i, .str z)], rfl, by simp, ?_⟩
  rw [upd_upd]
  obtain ⟨I3, rp⟩ := I.newD hp (kvs := [(.inl i, .str z)]) (es := [(.inl i, .str z)]) (.cons (.str z) .nil)
  exact ke I3 (Same.refl G) rp q⟩
end
end Bk
namespace Bk
open PySem PySem.Spec PyProof.Rows L2
/-! ### t[::e], e one or minus one -/
section
variable {prog : Program} {w : World} {A : Around} {E : Value → Shared → Prop} {s : Shared}
theorem places_fwd (n : Nat) : Builtin.Slice.slicePlaces 0 (n : Int) 1 = n := by
  unfold Builtin.Slice.slicePlaces
  simp only [show ((1 : Int) > 0) from by decide, if_true]
  rw [Int.ediv_one]
  split <;> omega
theorem sliceApplied_fwd {sl : Addr} {n : Nat} {c : Value} {Q : Int × Int × Nat → Shared → Prop} (hs : s.heap.IsSliceOf sl .none .none c) (pc : IsPart c (some 1))
    (h : Q (0, 1, n) s) : wpAny (model prog w) A (Builtin.Slice.sliceApplied (.ref sl) (pure (n : Int))) Q E s := by
  obtain ⟨os, hos, hcs, hds⟩ := id hs
  unfold Builtin.Slice.sliceApplied Builtin.Slice.sliceFields
  refine wpAny_bind (wpAny_bind (wpAny_field hos hds (x := .none) rfl (wpAny_bind (wpAny_field hos hds (x := .none) rfl (wpAny_bind (wpAny_field hos hds (x := c) rfl (wpAny_pure ?_)))))))
  refine wpAny_bind (HT.slicePart_ pc ?_)
  show wpAny _ _ (if ((1 : Int) == 0) = true then _ else _) _ _ s
  rw [if_neg (by decide)]
  refine wpAny_bind (slicePart_none (wpAny_bind (slicePart_none (wpAny_bind (wpAny_pure ?_)))))
  show wpAny _ _ (pure ((0 : Int), (1 : Int), Builtin.Slice.slicePlaces 0 (n : Int) 1)) _ _ s
  rw [places_fwd]
  exact wpAny_pure h
theorem getItem_tuple_fwd {t sl : Addr} {items : Array Value} {c : Value} {Q : Value → Shared → Prop} (ht : IsTup s.heap t items) (hs : s.heap.IsSliceOf sl .none .none c) (pc : IsPart c (some 1))
    (h : Q (.ref t) s) : wpAny (model prog w) A (getItem (.ref t) (.ref sl)) Q E s := by
  obtain ⟨os, hos, hcs, hds⟩ := id hs
  have hTs : s.TypeIs (.ref sl) "slice" := ⟨os, hos, hcs⟩
  unfold getItem
  try with_reducible refine wpAny_holding ?_
  first | refine wpAny_bind (wpAny_pure ?_) | skip
  refine wpAny_bind (wpAny_sequenceKey ht.typeIs (by decide) ?_)
  refine wpAny_bind (wpAny_callSpecial?_slot (name := Str.ofString "__getitem__") ht.typeIs PyProof.Rows.slot_tuple_getitem
    (wpAny_call_entry PyProof.Rows.slot_tuple_getitem ht.typeIs entry_tuple_getitem ?_ (args_tuple_getitem _ _)))
  show wpAny _ _ (Builtin.Tuple.tupleItemsOf (.ref t) >>= _) _ _ s
  refine wpAny_bind (tupleItemsOf_ ht ?_)
  refine wpAny_bind (wpAny_typeOf hTs ?_)
  rw [if_pos (by decide)]
  refine wpAny_bind (sliceApplied_fwd hs pc ?_)
  have hyes : (((0 : Int) == 0 && (1 : Int) == 1 && items.size == items.size) = true) := by simp
  show wpAny _ _ (if (((0 : Int) == 0 && (1 : Int) == 1 && items.size == items.size) = true) then _ else _) _ _ s
  rw [if_pos hyes]
  unfold Builtin.Tuple.tupleIsExact
  refine wpAny_bind (wpAny_bind (wpAny_typeOf ht.typeIs (wpAny_pure ?_)))
  rw [if_pos (by decide)]
  exact wpAny_bind (wpAny_rule (wpAny_pure ⟨_, rfl, wpAny_pure h⟩))
end
def tStepT (K : PySem.W.Frag) (te ts : TE) : TE := fun σ H Q => te σ H fun x H1 => ∃ a xs, x = .ref a ∧ tPart ts σ H1 fun o H2 => SqT K H2 a xs ∧ ((o = some 1 ∧ Q (.ref a) H2) ∨ (o = some (-1) ∧ ∀ p, H2 p = none → Q (.ref p) (upd H2 p (.tup xs.reverse))))
theorem pe_stepT {X : Cx} {e e2 : Expr} {te ts : TE} {p3 pos : Pos} (he : PE X e te) (h2 : PE X e2 ts) (hsub : ∀ a sl, subscripted (.Slice none none (some e2) p3) false (.ref a) (.ref sl) = operate [.ref a, .ref sl] (getItem (.ref a) (.ref sl)) := by intro _ _; with_unfolding_all rfl) : PE X (.Subscript e (.Slice none none (some e2) p3) pos) (tStepT X.K te ts) := by
  refine ⟨fun pins s σ H Q I h => ?_⟩
  refine Subscript_ (thn (he.run pins s σ H _ I h) fun v s1 ⟨x, H1, I1, r1, q1⟩ => ?_)
  obtain ⟨a, xs, ex, q⟩ := q1
  subst ex
  cases r1
  refine wpAny_Slice (thn (po_none.run pins s1 σ H1 (fun o H2 => o = none ∧ H2 = H1) I1 ⟨rfl, rfl⟩) fun vl s2 ⟨l, H2, I2, pl, el, e2'⟩ => ?_)
  subst el e2'
  refine thn (po_none.run pins s2 σ H2 (fun o H3 => o = none ∧ H3 = H2) I2 ⟨rfl, rfl⟩) fun vu s3 ⟨u, H3, I3, pu, eu, e3⟩ => ?_
  subst eu e3
  refine thn ((po_some h2).run pins s3 σ H3 _ I3 q) fun vs s4 ⟨o, H4, I4, ps, hx, q⟩ => ?_
  cases pl
  cases pu
  have I5 : Inv X pins σ H4 { s4 with heap := s4.heap.push { cls := .type "slice", data := .fields #[.none, .none, vs] } } := I4.kept (t' := s4.toks) fun b ob q => Heap.get?_push_of_some _ q
  obtain ⟨its, r, ht, hz⟩ := I5.tuple hx
  have hlen := r.length
  show wpAny (model X.prog X.w) X.A (subscriptTail e (.Slice none none (some e2) p3) (.ref a) (.ref s4.heap.objs.size)) (EP X pins σ Q) X.xe { s4 with heap := s4.heap.push { cls := .type "slice", data := .fields #[.none, .none, vs] } }
  refine tail_any (ops := [.ref a, .ref s4.heap.objs.size]) ht.typeIs PyProof.Rows.slot_tuple_getitem.lookup ?_ (hsub _ _)
  rcases q with ⟨rfl, q⟩ | ⟨rfl, q⟩
  · refine getItem_tuple_fwd ht (Heap.IsSliceOf.new _ .none .none vs) ps ?_
    exact ⟨.ref _, _, I5, rfl, q⟩
  · refine getItem_tuple_rev ht (Heap.IsSliceOf.new _ .none .none vs) ps ?_ (by rw [List.size_toArray]; omega)
    refine ⟨.ref _, _, I5.laid (t' := s4.toks) (o := .tup xs.reverse) (fun b ob q => Heap.get?_push_of_some _ q) (Nat.le_refl _) ?_, rfl, q _ (I5.hok.fresh (Nat.le_refl _))⟩
    exact ⟨by rw [List.length_reverse]; exact hz, _, r.reverse, IsTup.new _ _⟩
def dStep (ta tb : DX) : DX := fun E Φ => ta E fun E1 r1 => shK r1 fun d => match d with
  | .tuple ds => tb E1 fun E2 r2 => shK r2 fun dk => iK dk fun n => (n = 1 ∧ Φ E2 (.sh (.tuple ds))) ∨ (n = -1 ∧ Φ E2 (.sh (.tuple ds.reverse)))
  | _ => False
section
variable {X : Cx} {a b : Expr} {p3 pos : Pos} {ta tb : DX}
theorem re_step (ha : RE X a ta) (hb : RE X b tb) (hsub : ∀ x sl, subscripted (.Slice none none (some b) p3) false (.ref x) (.ref sl) = operate [.ref x, .ref sl] (getItem (.ref x) (.ref sl)) := by intro _ _; with_unfolding_all rfl) : RE X (.Subscript a (.Slice none none (some b) p3) pos) (dStep ta tb) := ⟨fun {F E Φ} q => xe_of (pe_stepT (pe_tE (F := F)) (pe_tE (F := F)) hsub) fun w σ H G I => tE_go I (ha.go q) fun v w1 H1 G1 E1 r I1 s1 rv z => by
  obtain ⟨d, e0, z2⟩ := shK_ok z
  subst e0
  clear z
  split at z2
  · next ds =>
    obtain ⟨l, xs, rfl, hx, rx⟩ := (RD.sh (E := E1) (d := .tuple ds)).tup I1 rv
    refine ⟨l, xs, rfl, ?_⟩
    refine tE_go I1 (hb.go z2) fun v2 w2 H2 G2 E2 r2 I2 s2 rv2 z3 => ?_
    obtain ⟨dk, e1, z4⟩ := shK_ok z3
    subst e1
    obtain ⟨n, e2, z⟩ := iK_ok z4
    subst e2
    cases rv2
    refine ⟨n, rfl, sqT_mono (fun b o h => I2.sub b o (s2 b o h)) hx, ?_⟩
    rcases z with ⟨rfl, z⟩ | ⟨rfl, z⟩
    · exact .inl ⟨rfl, ke I2 (s1.trans s2) (r := .sh (.tuple ds)) (Rp.mono s2 _ _ rv) z⟩
    · refine .inr ⟨rfl, fun p hp => ?_⟩
      obtain ⟨I3, s3, rp⟩ := I2.newT hp (rx.mono s2).rev
      exact ke I3 ((s1.trans s2).trans s3) (r := .sh (.tuple ds.reverse)) rp z
  · exact z2.elim⟩
end
end Bk

set_option maxHeartbeats 4000000
namespace Bk
open PySem PySem.Spec PyProof.Rows L2
/-! ### set(xs), xs a list of ints -/
abbrev noSet (w : World) : Obj := { cls := .type "set", dict := none, data := .set #[] 0 (.fresh 0 0 (!w.params.followText "set-order")) }
section
variable {P : Program} {w : World} {A : Around} {E : Value → Shared → Prop} {s : Shared}
theorem setL_fill {l : Addr} {items : Array Value} (ns : List Int) (hh : A.handled = none) (hl : s.heap.IsList l items) (hit : IntsAre items.toList ns) (hb : ns.length + 1 < scanBound) {Q : Value → Shared → Prop}
    (h : ∀ (h' : Heap) (tk c : Nat), SetR w h' s.heap.objs.size (fun j => decide (j ∈ ns)) c → c ≤ ns.length → (∀ b o, s.heap.get? b = some o → h'.get? b = some o) → Q .none { s with heap := h', toks := tk }) :
    wpAny (model P w) A (Builtin.«set.__init__» ⟨[.ref s.heap.objs.size, .ref l], []⟩) (fun f s' => ∃ v, f = .done (.ret v) ∧ Q v s') E { s with heap := s.heap.push (noSet w) } := by
  have n : items.size = ns.length := by rw [← Array.length_toList]; exact IntsAre.length hit
  have at0 : (s.heap.push (noSet w)).get? s.heap.objs.size = some (noSet w) := Heap.get?_push_size _ rfl
  have tS : Shared.TypeIs { s with heap := s.heap.push (noSet w) } (.ref s.heap.objs.size) "set" := ⟨_, at0, rfl⟩
  obtain ⟨⟨ocls, odict, odata, oslots⟩, ho, hc, nl, hd⟩ := hl
  simp only at hc hd
  subst hc
  subst hd
  have ho' : (s.heap.push (noSet w)).get? l = some { cls := .type "list", dict := odict, data := .seq items nl, slots := oslots } := Heap.get?_push_of_some _ ho
  have sub1 := F.sub_list_set
  have sub2 := F.sub_list_frozenset
  have dif : (Value.type "list" == Value.type "dict") = false := by decide
  have isL : (s.heap.push (noSet w)).IsList l items := ⟨_, ho', rfl, nl, rfl⟩
  have tL : Shared.TypeIs { s with heap := s.heap.push (noSet w) } (.ref l) "list" := ⟨_, ho', rfl⟩
  unfold Builtin.«set.__init__» noKeywords Builtin.Frozenset.updateFrom
  generalize hPI : pyIter = PI
  wp_walk
  subst hPI
  refine wpAny_pyIter_list isL (wpAny_bind (wpAny_runValue ?_))
  have size1 : (s.heap.push (noSet w)).objs.size = s.heap.objs.size + 1 := Heap.size_push ..
  have lt : l < s.heap.objs.size := Heap.lt_size ho
  have ne1 : l ≠ (s.heap.push (noSet w)).objs.size := by rw [size1]; exact Nat.ne_of_lt (Nat.lt_succ_of_lt lt)
  have off : s.heap.objs.size ∉ [(s.heap.push (noSet w)).objs.size, l] := by
    rw [size1]
    intro hm
    rcases List.mem_cons.mp hm with e | hm
    · exact absurd e (Nat.ne_of_lt (Nat.lt_succ_self _))
    · exact absurd (List.mem_singleton.mp hm) (Nat.ne_of_gt lt)
  have val : ∀ (i : Nat) (v : Value), items[i]? = some v → ∃ k t, ns[i]? = some k ∧ v = .int k t := fun i v hv => by
    have hi : i < ns.length := by rw [← n]; exact (Array.getElem?_eq_some_iff.mp hv).1
    obtain ⟨t, e⟩ := IntsAre.int_at hit i v (by rw [Array.getElem?_toList]; exact hv)
    rw [List.getD_eq_getElem?_getD, List.getElem?_eq_getElem hi] at e
    exact ⟨ns[i], t, List.getElem?_eq_getElem hi, e⟩
  have h2 : A.in1.handled = none := hh
  refine set_update_ints ((Walks.list (show A.in1.handled = none from hh) _ l ne1 items).toS) s.heap.objs.size off ns n hb val (items.size - 0) 0 { s with heap := (s.heap.push (noSet w)).push { cls := .type "list_iterator", data := .fields #[.ref l, .int 0 0] } } (by omega) (Nat.zero_le _) ⟨⟨_, Heap.get?_push_size _ rfl, rfl, rfl⟩, isL.push _⟩ ⟨0, Nat.le_refl 0, setR_new_at (w := w) (ns := ns) (h := (s.heap.push (noSet w)).push { cls := .type "list_iterator", data := .fields #[.ref l, .int 0 0] }) (Heap.get?_push_of_some _ at0)⟩ ?_
  intro s' c mv hc hS
  obtain ⟨h', g', d', t', o'⟩ := s'
  have e1 : g' = s.gens := mv.gens
  have e2 : d' = s.drawn := mv.drawn
  have e3 : o' = s.os := mv.os
  subst e1 e2 e3
  refine wpAny_pure (wpAny_pure ⟨_, rfl, h h' t' c hS (by omega) fun b o e => ?_⟩)
  have hb0 : b < s.heap.objs.size := Heap.lt_size e
  refine mv.heap b o (fun hm => ?_) (Heap.get?_push_of_some _ (Heap.get?_push_of_some _ e))
  rcases List.mem_cons.mp hm with e | hm
  · exact absurd e (Nat.ne_of_lt hb0)
  · have := List.mem_singleton.mp hm
    rw [size1] at this
    exact absurd this (Nat.ne_of_lt (Nat.lt_succ_of_lt hb0))
theorem call_setL {l : Addr} {items : Array Value} (ns : List Int) {Q : Value → Shared → Prop} (hh : A.handled = none) (hl : s.heap.IsList l items) (hit : IntsAre items.toList ns) (hb : ns.length + 1 < scanBound)
    (h : ∀ (h' : Heap) (tk c : Nat), SetR w h' s.heap.objs.size (fun j => decide (j ∈ ns)) c → c ≤ ns.length → (∀ b o, s.heap.get? b = some o → h'.get? b = some o) → Q (.ref s.heap.objs.size) { s with heap := h', toks := tk }) :
    wpAny (model P w) A (call (.type "set") [.ref l]) Q E s := by
  obtain ⟨mr, tl, hmro⟩ := F.called_set.mro
  have made := F.called_set.made
  have subt := F.called_set.sub
  refine wpAny_call (codeAny_of_tree ?_)
  show wpAny _ _ (callAny (.type "set") _) _ _ _
  refine wpAny_pure ⟨Code.quiet_builtin _ (by decide +kernel), codeAny_builtin F.entry_type_call ?_⟩
  rw [Around.under_plain (weight_type_call_type "set" [.ref l] []) rfl]
  have c1 := F.called_set.notType
  have c2 := F.called_set.canCreate
  have c3 := F.typeCall_set_1 (.ref l)
  repeat (any_goals (first | assumption | wp_step))
  refine codeAny_mono (code_set_led1 (.ref l) (E := E) (Q₁ := fun ob s1 => ob = .ref s.heap.objs.size ∧ s1 = { s with heap := s.heap.push (noSet w) }) ⟨rfl, rfl⟩) fun r s1 hr => ?_
  cases r with
  | error e => exact hr
  | ok fl =>
    cases fl with
    | ret ob =>
      obtain ⟨rfl, rfl⟩ := hr
      have at0 : (s.heap.push (noSet w)).get? s.heap.objs.size = some (noSet w) := Heap.get?_push_size _ rfl
      have tS : Shared.TypeIs { s with heap := s.heap.push (noSet w) } (.ref s.heap.objs.size) "set" := ⟨_, at0, rfl⟩
      have li := F.called_set.init.lookup
      have bi := F.called_set.init.bind (.ref s.heap.objs.size)
      repeat (any_goals (first | assumption | wp_step))
      refine codeAny_mono (codeAny_call_builtin (R := wants (fun r s2 => r = .none ∧ ∃ h' tk c, s2 = { s with heap := h', toks := tk } ∧ SetR w h' s.heap.objs.size (fun j => decide (j ∈ ns)) c ∧ c ≤ ns.length ∧ (∀ b o, s.heap.get? b = some o → h'.get? b = some o)) E) F.called_set.init.plain F.entry_set_init (check_set_init_1 tS ?_)) fun r2 s2 hr2 => ?_
      · refine wpAny_mono (setL_fill (A := A.in1.in1) ns hh hl hit hb (Q := fun r s2 => r = .none ∧ ∃ h' tk c, s2 = { s with heap := h', toks := tk } ∧ SetR w h' s.heap.objs.size (fun j => decide (j ∈ ns)) c ∧ c ≤ ns.length ∧ (∀ b o, s.heap.get? b = some o → h'.get? b = some o)) fun h' tk c z1 z2 z3 => ⟨rfl, h', tk, c, rfl, z1, z2, z3⟩) (fun f s2 z => ?_) (fun _ _ z => z)
        obtain ⟨v, rfl, z⟩ := z
        exact z
      · cases r2 with
        | error e => exact hr2
        | ok fl2 =>
          cases fl2 with
          | ret r =>
            obtain ⟨rfl, h', tk, c, rfl, z1, z2, z3⟩ := hr2
            repeat (any_goals (first | assumption | wp_step))
            exact h _ _ _ z1 z2 z3
          | _ => exact hr2.elim
    | _ => exact hr.elim
end
end Bk
namespace Bk
open PySem PySem.Spec PyProof.Rows L2
def rSetLi (K : PySem.W.Frag) (w : World) : List V → Hp → VK → Prop := fun xs H Q => ∃ (l : Addr) (ns : List Int), xs = [V.ref l] ∧ SqL K H l (ns.map V.int) ∧ ns.length < 1000 ∧ ∀ (p : Addr) (c : Nat), H p = none → c ≤ ns.length → Q (.ref p) (upd H p (SetO w p (fun j => decide (j ∈ ns)) c))
section
variable {X : Cx}
theorem cr_setLi (hc : X.calm = true) : CallR X (.type "set") (rSetLi X.K X.w) := by
  intro pins s σ H xs us Q I r h
  obtain ⟨l, ns, rfl, hl, hf, q⟩ := h
  rw [Vals.ref1 r]
  obtain ⟨its, rv, pl, hz⟩ := I.list hl
  have hn : H s.heap.objs.size = none := I.hok.fresh (Nat.le_refl _)
  refine call_setL (P := X.prog) (w := X.w) ns (I.ok.hd hc) pl.isList (by simpa using ints_of_vals rv) (by unfold scanBound; omega) fun h' tk c R hcn k => ?_
  exact ⟨.ref s.heap.objs.size, upd H s.heap.objs.size (SetO X.w s.heap.objs.size (fun j => decide (j ∈ ns)) c), I.laid (t' := tk) k (Nat.le_refl _) (setO_new R), rfl, q _ c hn hcn⟩
variable {F : Fm} {E : EnvB} {Φ : EnvB → Rs → Prop} {a : Expr} {pos pos2 p p2 : Pos} {ta : DX}
/-- sorted(set(xs)), xs ints, fewer than 64 -/
def dSrtS (ta : DX) : DX := fun E Φ => ta E fun E1 r => fzK r fun r' => rdK E1 r' fun d => match d with
  | .list ds => ∃ ns : List Int, ds = pI ns ∧ ns.length < 64 ∧ ∀ ns' : List Int, ns'.Pairwise (· < ·) → (∀ k, k ∈ ns' ↔ k ∈ ns) → Φ E1 (.nw (.lst (pI ns')))
  | _ => False
theorem re_sortedSet (h1 : X.mg "sorted" = none) (h2 : X.mg "set" = none) (h : RE X a ta) (hg : Gl X "sorted" := by rfl) (hg2 : Gl X "set" := by rfl) (hc : X.calm = true := by rfl) (he : starEach [a] X.env = (false, eval a X.env) :: starEach [] X.env := by rfl) (hpl : (backTo pos2 (starEach [] X.env)).any (·.1) = false := by rfl)
    (he2 : starEach [.Call (.Name "set" p2) [a] [] pos2] X.env = (false, eval (.Call (.Name "set" p2) [a] [] pos2) X.env) :: starEach [] X.env := by rfl) (hpl2 : (backTo pos (starEach [] X.env)).any (·.1) = false := by rfl) :
    RE X (.Call (.Name "sorted" p) [.Call (.Name "set" p2) [a] [] pos2] [] pos) (dSrtS ta) := ⟨fun {F E Φ} q => xe_of (pe_callB (cr_sortedSet hc) hg h1 (by decide +kernel) (pa_cons (pe_callTy (cr_setLi hc) hg2 h2 boot_set (pa_cons (pe_tE (F := F)) pa_nil he) (he := he) (hpl := hpl)) pa_nil he2) (he := he2) (hpl := hpl2)) fun w σ H G I => tE_go I (h.go q) fun v w1 H1 G1 E1 r I1 s1 rv z => by
  obtain ⟨r', f, z⟩ := fzK_ok z
  obtain ⟨d, rd, z⟩ := rdK_ok z
  obtain ⟨G1', I1', s1', rv1'⟩ := f.go I1 rv
  split at z
  · obtain ⟨ns, e0, h64, z⟩ := z
    subst e0
    obtain ⟨l, xs, rfl, hx, rx⟩ := (rd.rd rfl).lst I1' rv1'
    have ex : xs = ns.map V.int := Rps.ints rx
    subst ex
    refine ⟨l, ns, rfl, .inl (.inl hx), by omega, fun p c hp hcn => ?_⟩
    obtain ⟨I2, _⟩ := I1'.alloc (o := SetO X.w p (fun j => decide (j ∈ ns)) c) hp
    refine ⟨p, _, c, rfl, upd_same, by omega, fun ns' p' ha hm _ hp' => ?_⟩
    obtain ⟨I3, rp⟩ := I2.newL hp' (Rps.of_ints (K := X.K) (G := G1') ns')
    exact ke I3 (s1.trans s1') rp (z ns' ha fun k => (hm k).trans decide_eq_true_iff)
  · exact z.elim⟩
end
end Bk
namespace Bk
open PySem PySem.Spec PyProof.Rows L2
/-! ### zip(a, b, strict=False), a the shorter -/
def iZipS (ta tb : DX) : DI := fun E Θ => ta E fun E1 r => fzK r fun r' => tb E1 fun E2 r2 => fzK r2 fun r2' => itK E2 r' fun E3 ds => itK E3 r2' fun E4 es => ds.length ≤ es.length ∧ Θ E4 (zpD ds es)
theorem ri_zipS {X : Cx} {a b : Expr} {ta tb : DX} {elts : List Expr} {kk k1 : Nat} {tpos cpos p p1 p2 : Pos} (hm : X.mg "zip" = none) (ha : RE X a ta) (hb : RE X b tb) (hg : Gl X "zip" := by rfl) (hs : starEach [a, b] X.env = (false, eval a X.env) :: starEach [b] X.env := by rfl) (hs2 : starEach [b] X.env = (false, eval b X.env) :: starEach [] X.env := by rfl)
    (he : backTo cpos (starEach [a, b] X.env) = (false, eval a X.env) :: backTo cpos (starEach [b] X.env) := by rfl) (h1 : (backTo cpos (starEach [a, b] X.env)).any (·.1) = false := by rfl) :
    RI X (.Tuple elts kk tpos) (.Call (.Name "zip" p) [a, b] [⟨some (Str.ofString "strict"), .Constant (.bool false) k1 p1, p2⟩] cpos) (iZipS ta tb) := ⟨fun z => xi_zsS hm (xa_cons (xe_cut (ha.go z) fun E1 r z => by
  obtain ⟨r', f, z⟩ := fzK_ok z
  refine ⟨r', f, xa_cons (xe_cut (hb.go z) fun E2 r2 z => ?_) hs2⟩
  obtain ⟨r2', f2, z⟩ := fzK_ok z
  obtain ⟨E3, ds, i1, z⟩ := itK_ok z
  obtain ⟨E4, es, i2, hl, z⟩ := itK_ok z
  exact ⟨r2', f2, xa_nil ⟨r', r2', E3, E4, ds, es, rfl, i1, i2, hl, z⟩⟩) hs) hg he h1⟩
end Bk

set_option maxHeartbeats 4000000
set_option autoImplicit true
set_option relaxedAutoImplicit true
namespace Bk
open PySem PySem.Spec PyProof.Rows L2
/-! ### rewriting rules for the later readings -/
theorem s_dPop0 : dPop0 to E Φ = (to E fun E1 r0 => ownK E1 r0 fun i o1 => match o1 with
  | .lst ds => ∃ d ds', ds = d :: ds' ∧ putK' E1 i (.lst ds') fun E2 => Φ E2 (.sh d)
  | _ => False) := by intros; rfl
theorem s_dDic1 : dDic1 i z E Φ = (Φ E (.nw (.dic [(.inl i, .str z)]))) := by intros; rfl
theorem s_dStep : dStep ta tb E Φ = (ta E fun E1 r1 => shK r1 fun d => match d with
  | .tuple ds => tb E1 fun E2 r2 => shK r2 fun dk => iK dk fun n => (n = 1 ∧ Φ E2 (.sh (.tuple ds))) ∨ (n = -1 ∧ Φ E2 (.sh (.tuple ds.reverse)))
  | _ => False) := by intros; rfl
theorem s_dSrtS : dSrtS ta E Φ = (ta E fun E1 r => fzK r fun r' => rdK E1 r' fun d => match d with
  | .list ds => ∃ ns : List Int, ds = pI ns ∧ ns.length < 64 ∧ ∀ ns' : List Int, ns'.Pairwise (· < ·) → (∀ k, k ∈ ns' ↔ k ∈ ns) → Φ E1 (.nw (.lst (pI ns')))
  | _ => False) := by intros; rfl
theorem s_iZipS : iZipS ta tb E Θ = (ta E fun E1 r => fzK r fun r' => tb E1 fun E2 r2 => fzK r2 fun r2' => itK E2 r' fun E3 ds => itK E3 r2' fun E4 es => ds.length ≤ es.length ∧ Θ E4 (zpD ds es)) := by intros; rfl
theorem s_rdDs : rdD E (.sh d) k = k d := by intros; rfl
def DD5 := (And.intro @s_dPop0 (And.intro @s_dDic1 (And.intro @s_dStep (And.intro @s_dSrtS (And.intro @s_iZipS @s_rdDs)))))
end Bk

set_option maxHeartbeats 4000000
namespace Bk
open PySem PySem.Spec PyProof.Rows L2
section
variable {X : Cx} {F : Fm} {E : EnvB} {Φ : EnvB → Rs → Prop} {pos p apos : Pos} {x : Str} {e f : Expr} {te tf : DX}
/-! ### a module's constant as data -/
theorem re_gdata {d : PD} {u : Value} {v : V} (hm : X.mg x = some u) (r : RelV v u) (hr : ∀ G, Rp X.K G v d) (hg : Gl X x := by rfl) (hd : (x == ("__debug__" : Str)) = false := by decide) : RE X (.Name x pos) (dC d) := ⟨fun {F E Φ} q => xe_of (pe_glob hg hm r hd) fun w σ H G I => ke I (Same.refl G) (r := .sh d) (hr G) q⟩
/-- a kept tuple of texts -/
theorem kept_strs {K : PySem.W.Frag} {a : Addr} {o : Obj} {its : Array Value} {n : Nat} {zs : List Str} (h : K.lookup a = some o) (hc : o.cls = .type "tuple") (hd : o.data = .seq its n) (hz : its.size ≤ sizeLine) (hv : Vals (zs.map V.str) its.toList) : ∀ G, Rp K G (.ref a) (.tuple (zs.map PyData.str)) := fun G =>
  .tup (.inr ⟨o, its, n, h, hc, hd, hz, hv⟩) (by
    clear hv hd
    induction zs with
    | nil => exact .nil
    | cons z zs ih => exact .cons (.str z) ih)
/-! ### d.get(k, v) of a module's dict by texts, its values any data -/
def tKGetV (es : Array DictEntry) (ty tx : TE) : TE := fun σ H Q => ty σ H fun y H2 => ∃ z, y = .str z ∧ tx σ H2 fun x H3 => (∃ u v, findBy Value.isStrOf es z = some u ∧ RelV v u ∧ Q v H3) ∨ (findBy Value.isStrOf es z = none ∧ Q x H3)
theorem pe_kgetV {o f : Expr} {apos cpos : Pos} {ty tx : TE} {dd : Addr} {es : Array DictEntry} {n : Nat} (D : KDict X.K X.w dd es n) (ho : PE X o (tC (.ref dd))) (he : PE X e ty) (hf : PE X f tx) (m : M2 X o "get" apos e f cpos) : PE X (.Call (.Attribute o "get" apos) [e, f] [] cpos) (tKGetV es ty tx) := by
  refine ⟨fun pins s σ H Q I h => ?_⟩
  refine wpAny_Call_method m.base m.few m.line PySem.F.plainAttrs_dict PySem.F.slot_dict_get PySem.F.type_dict_get (thn (ho.run pins s σ H (fun v H' => v = .ref dd ∧ H' = H) I ⟨rfl, rfl⟩) fun u s1 ⟨x, H1, I1, rx, ex, eH⟩ => ?_)
  subst ex eH
  obtain rfl : u = Value.ref dd := rx
  refine ⟨kd_type D I1, fun b q => ?_, ?_⟩
  · cases q
    exact ⟨_, I1.kIn _ _ D.at_, rfl⟩
  rw [m.trees]
  refine Calls.callWith_builtin rfl (Calls.evalArgs_plain (Calls.spliced_cons (thn (he.run pins s1 σ H1 _ I1 h) fun iv s2 ⟨y, H2, I2, ry, z, ey, q2⟩ =>
    Calls.spliced_cons (thn (hf.run pins s2 σ H2 _ I2 q2) fun fv s3 ⟨x, H3, I3, rz, q3⟩ => Calls.spliced_nil ?_))))
  subst ey
  obtain ⟨t, rfl⟩ := ry
  refine call_meetsIn PySem.F.slot_dict_get (kd_type D I3) PySem.F.entry_dict_get (PySem.F.args_dict_get_3 _ _ _) (meets_dict_get_default (strKind X.prog X.w) dd (PySem.strKind_is X.prog X.w z t) D.low fv) ⟨_, PySem.W.mapOf_K (prog := X.prog) I3.kIn D.at_ D.lit, ?_⟩
  rcases q3 with ⟨u, v, e1, r, q⟩ | ⟨e1, q⟩
  · rw [e1]
    exact ⟨v, H3, I3.tok _, r, q⟩
  · rw [e1]
    exact ⟨x, H3, I3.tok _, rz, q⟩
def dKGet (val : Str → Option PD) (te tf : DX) : DX := fun E Φ => te E fun E1 r => shK r fun d => match d with
  | .str z => tf E1 fun E2 r2 => shK r2 fun n0 => Φ E2 (.sh ((val z).getD n0))
  | _ => False
theorem re_kgetV {dd : Addr} {es : Array DictEntry} {n : Nat} (val : Str → Option PD) (hm : X.mg x = some (.ref dd)) (D : KDict X.K X.w dd es n) (hv : ∀ z, (∃ u v d, findBy Value.isStrOf es z = some u ∧ RelV v u ∧ (∀ G, Rp X.K G v d) ∧ val z = some d) ∨ (findBy Value.isStrOf es z = none ∧ val z = none))
    (h : RE X e te) (h2 : RE X f tf) (hg : Gl X x := by rfl) (hd : (x == ("__debug__" : Str)) = false := by decide) (m : M2 X (.Name x p) "get" apos e f pos := by exact ⟨rfl, rfl, rfl, rfl⟩) : RE X (.Call (.Attribute (.Name x p) "get" apos) [e, f] [] pos) (dKGet val te tf) := ⟨fun {F E Φ} q =>
  xe_of (pe_kgetV D (pe_glob (v := .ref dd) hg hm rfl hd) (pe_tE (F := F)) (pe_tE (F := F)) m) fun w σ H G I => tE_go I (h.go q) fun v w1 H1 G1 E1 r I1 s1 rv z0 => by
    obtain ⟨d0, e0, z1⟩ := shK_ok z0
    subst e0
    split at z1
    · next z =>
      obtain rfl := rvS rv
      refine ⟨z, rfl, tE_go I1 (h2.go z1) fun v2 w2 H2 G2 E2 r2 I2 s2 rv2 z2 => ?_⟩
      obtain ⟨n0, e2, z3⟩ := shK_ok z2
      subst e2
      rcases hv z with ⟨u, v, d, e1, r, hr, e2⟩ | ⟨e1, e2⟩
      · rw [e2] at z3
        exact .inl ⟨u, v, e1, r, ke I2 (s1.trans s2) (r := .sh d) (hr G2) z3⟩
      · rw [e2] at z3
        exact .inr ⟨e1, ke I2 (s1.trans s2) (r := .sh n0) rv2 z3⟩
    · exact z1.elim⟩
end
end Bk

set_option maxHeartbeats 4000000
namespace Bk
open PySem PySem.Spec PyProof.Rows L2
section
variable {X : Cx} {F : Fm} {E : EnvB} {Φ : EnvB → Rs → Prop} {pos apos : Pos} {o e : Expr} {to te : DX}
/-! ### xs.extend(e), xs an own list -/
theorem xe_extend (h : XE X F o E fun E1 r0 => ∃ i b1 ds1, r0 = .br i ∧ E1[i]? = some b1 ∧ b1.oc = some (.lst ds1) ∧ XE X F e E1 fun E2 r1 => ∃ r1' E3 zs b ds E4, Fz r1 r1' ∧ Fzs E2 [r1'] E3 [.list zs] ∧ E3[i]? = some b ∧ b.oc = some (.lst ds) ∧ ds.length + zs.length ≤ 100000 ∧ SetE E3 i (b.put (.lst (ds ++ zs))) E4 ∧ Φ E4 (.sh .none))
    (hbase : attributeBase o "extend" X.env (eval o X.env) = eval o X.env := by rfl) (he : starEach (e :: []) X.env = (false, eval e X.env) :: starEach [] X.env := by rfl)
    (hfew : ((backTo pos (starEach (e :: []) X.env)).all (fun x => !x.1) && (backToKw pos (keywordEach [] X.env)).all (fun x => x.1.isSome) && decide ((e :: []).length + ([] : List Keyword).length + (if ([] : List Keyword).isEmpty then 0 else 1) < 30)) = true := by rfl)
    (hline : (apos.endLine == pos.line) = true := by rfl) : XE X F (.Call (.Attribute o "extend" apos) [e] [] pos) E Φ :=
  xe_of (pe_bm PySem.F.plainAttrs_list PySem.F.slot_list_extend PySem.F.type_list_extend mt_extend pe_tE (pa_cons (pe_tE (F := F)) pa_nil he) hbase hfew (hs := he) (hline := hline)) fun w σ H G I => tE_go I h fun v w1 H1 G1 E1 r I1 s1 rv ⟨i, b1, ds1, e0, hE1, hb1, h1⟩ => by
    subst e0
    obtain ⟨l, el, hw, c⟩ := I1.owned hE1 hb1
    have rv : σ[i]? = some (some v) := rv
    rw [rv] at el
    cases el
    obtain ⟨xs, c1, c2⟩ := c.lst
    refine ⟨.inl ⟨rfl, xs, .inl (.inl c1)⟩, tE_go I1 h1 fun v2 w2 H2 G2 E2 r2 I2 s2 rv2 ⟨r2', E3, zs, b, ds, E4, f, fs, hE3, hb3, hl, hs, q⟩ => ?_⟩
    obtain ⟨G2', I2', s2', rv2'⟩ := f.go I2 rv2
    obtain ⟨w3, G3, I3, s3, rps⟩ := fs.go I2' (f.cons rv2' .nil)
    obtain ⟨l', el, hw', c'⟩ := I3.owned hE3 hb3
    rw [rv] at el
    cases el
    obtain ⟨xs', c1', c2'⟩ := c'.lst
    cases rps with
    | cons r0 _ =>
      cases r0 with
      | @lst a ys _ hG ry =>
        refine ⟨l, a, xs', ys, rfl, rfl, c1', I3.sub _ _ hG, by rw [c2'.length, ry.length]; exact Nat.le_trans hl (by decide), ?_⟩
        have I4 := I3.mut hE3 hb3 rv (.ls (c2'.app ry))
        rw [← hs.eq] at I4
        exact ke I4 ((((s1.trans s2).trans s2').trans s3)) (r := .sh .none) .non q
def dExt (to te : DX) : DX := fun E Φ => to E fun E1 r0 => ownK E1 r0 fun i o1 => match o1 with
  | .lst _ => te E1 fun E2 r1 => fzK r1 fun r1' => fzsK E2 [r1'] fun E3 ds => match ds with
    | [.list zs] => ownK E3 (.br i) fun _ o => match o with
      | .lst xs => xs.length + zs.length ≤ 100000 ∧ putK' E3 i (.lst (xs ++ zs)) fun E4 => Φ E4 (.sh .none)
      | _ => False
    | _ => False
  | _ => False
theorem re_extend (ho : RE X o to) (he : RE X e te)
    (hbase : attributeBase o "extend" X.env (eval o X.env) = eval o X.env := by rfl) (hs : starEach (e :: []) X.env = (false, eval e X.env) :: starEach [] X.env := by rfl)
    (hfew : ((backTo pos (starEach (e :: []) X.env)).all (fun x => !x.1) && (backToKw pos (keywordEach [] X.env)).all (fun x => x.1.isSome) && decide ((e :: []).length + ([] : List Keyword).length + (if ([] : List Keyword).isEmpty then 0 else 1) < 30)) = true := by rfl)
    (hline : (apos.endLine == pos.line) = true := by rfl) : RE X (.Call (.Attribute o "extend" apos) [e] [] pos) (dExt to te) := ⟨fun q => xe_extend (xe_cut (ho.go q) fun E1 r0 z => by
  obtain ⟨i, b1, o1, rfl, hE1, hb1, z⟩ := ownK_ok z
  split at z
  · refine ⟨i, b1, _, rfl, hE1, hb1, xe_cut (he.go z) fun E2 r1 z => ?_⟩
    obtain ⟨r1', f, z⟩ := fzK_ok z
    obtain ⟨E3, ds, fs, z⟩ := fzsK_ok z
    split at z
    · obtain ⟨i', b, o, e, hE, hb, z⟩ := ownK_ok z
      cases e
      split at z
      · obtain ⟨hl, z⟩ := z
        obtain ⟨b', o0', E4, hE', hb', hs, z⟩ := putK_ok z
        rw [hE] at hE'
        cases hE'
        exact ⟨r1', E3, _, b, _, E4, f, fs, hE, hb, hl, hs, z⟩
      · exact z.elim
    · exact z.elim
  · exact z.elim) hbase hs hfew hline⟩
end
end Bk

set_option maxHeartbeats 4000000
namespace Bk
open PySem PySem.Spec PyProof.Rows L2
section
variable {X : Cx} {pos apos : Pos} {o e : Expr} {to te : DX}
/-! ### s.join(xs) -/
def dJoin (to te : DX) : DX := fun E Φ => to E fun E1 r0 => shK r0 fun d0 => match d0 with
  | .str s => te E1 fun E2 r1 => fzK r1 fun r1' => rdK E2 r1' fun d => match d with
    | .list ds => ∃ ys : List Str, ds = ys.map PyData.str ∧ (ys.map (·.length)).sum + ys.length * s.length ≤ 100000 ∧ Φ E2 (.sh (.str (Txt.join s ys)))
    | .tuple ds => ∃ ys : List Str, ds = ys.map PyData.str ∧ (ys.map (·.length)).sum + ys.length * s.length ≤ 100000 ∧ Φ E2 (.sh (.str (Txt.join s ys)))
    | _ => False
  | _ => False
theorem re_join (ho : RE X o to) (he : RE X e te) (hs : starEach [e] X.env = [(false, eval e X.env)] := by rfl) (hbase : attributeBase o "join" X.env (eval o X.env) = eval o X.env := by rfl) (hline : (apos.endLine == pos.line) = true := by rfl) : RE X (.Call (.Attribute o "join" apos) [e] [] pos) (dJoin to te) := ⟨fun q => xe_m1 PySem.F.slot_str_join PySem.F.type_str_join mt_join (xe_cut (ho.go q) fun E1 r0 z => by
  obtain ⟨d0, e0, z1⟩ := shK_ok z
  subst e0
  split at z1
  · next s =>
    refine ⟨s, rfl, xe_cut (he.go z1) fun E2 r1 z => ?_⟩
    obtain ⟨r1', f, z⟩ := fzK_ok z
    obtain ⟨d, rd, z⟩ := rdK_ok z
    split at z
    · obtain ⟨ys, rfl, hz, z⟩ := z
      exact ⟨r1', f, mj_join (.inl (rd.rd rfl)) hz z⟩
    · obtain ⟨ys, rfl, hz, z⟩ := z
      exact ⟨r1', f, mj_join (.inr (rd.rd rfl)) hz z⟩
    · exact z.elim
  · exact z1.elim) hs hbase hline⟩
/-- a < b < c as a test -/
theorem rt_two {a b c : Expr} {op op' : CmpOp} {r r' : R2} {tc ta tb : DX} {o o' : DOp} (ho : OpR X (compareOp op) r) (ho' : OpR X (compareOp op') r') (hr : ROp X r o) (hr' : ROp X r' o') (ha : RE X a ta) (hb : RE X b tb) (hc : RE X c tc)
    (hm : lastMarks [op, op'] [b, c] = false := by with_unfolding_all rfl) : RT X (.Compare a [op, op'] [b, c] pos) (dTst (dTwo o o' ta tb tc)) := ⟨fun {F E Φ} h => xt_two ho ho' (xe_cut (ha.go h) fun E1 r1 h => by
  obtain ⟨d1, rfl, h⟩ := shK_ok h
  refine ⟨d1, rfl, xe_cut (hb.go h) fun E2 r2 h => ?_⟩
  obtain ⟨d2, rfl, h⟩ := shK_ok h
  refine ⟨d2, rfl, hr.at (.inl .sh) (.inl .sh) h fun r3 z => ?_⟩
  obtain ⟨k, e, z1, z2⟩ := bK_ok z
  refine ⟨k, e, fun hk => xe_cut (hc.go (z1 hk)) fun E4 r4 z => ?_, z2⟩
  obtain ⟨d4, rfl, z⟩ := shK_ok z
  exact ⟨d4, rfl, hr'.at (.inl .sh) (.inl .sh) z fun r5 z5 => bK_ok z5⟩) hm⟩
end
end Bk

set_option maxHeartbeats 4000000
set_option autoImplicit true
set_option relaxedAutoImplicit true
namespace Bk
open PySem PySem.Spec PyProof.Rows L2
/-! ### rewriting rules for get of kept dicts, extend, join -/
theorem s_dKGet : dKGet val te tf E Φ = (te E fun E1 r => shK r fun d => match d with
  | .str z => tf E1 fun E2 r2 => shK r2 fun n0 => Φ E2 (.sh ((val z).getD n0))
  | _ => False) := by intros; rfl
theorem s_dExt : dExt to te E Φ = (to E fun E1 r0 => ownK E1 r0 fun i o1 => match o1 with
  | .lst _ => te E1 fun E2 r1 => fzK r1 fun r1' => fzsK E2 [r1'] fun E3 ds => match ds with
    | [.list zs] => ownK E3 (.br i) fun _ o => match o with
      | .lst xs => xs.length + zs.length ≤ 100000 ∧ putK' E3 i (.lst (xs ++ zs)) fun E4 => Φ E4 (.sh .none)
      | _ => False
    | _ => False
  | _ => False) := by intros; rfl
theorem s_dJoin : dJoin to te E Φ = (to E fun E1 r0 => shK r0 fun d0 => match d0 with
  | .str s => te E1 fun E2 r1 => fzK r1 fun r1' => rdK E2 r1' fun d => match d with
    | .list ds => ∃ ys : List Str, ds = ys.map PyData.str ∧ (ys.map (·.length)).sum + ys.length * s.length ≤ 100000 ∧ Φ E2 (.sh (.str (Txt.join s ys)))
    | .tuple ds => ∃ ys : List Str, ds = ys.map PyData.str ∧ (ys.map (·.length)).sum + ys.length * s.length ≤ 100000 ∧ Φ E2 (.sh (.str (Txt.join s ys)))
    | _ => False
  | _ => False) := by intros; rfl
def DD6 := (And.intro @s_dKGet (And.intro @s_dExt @s_dJoin))
end Bk

set_option maxHeartbeats 4000000
namespace Bk
open PySem PySem.Spec PyProof.Rows L2
/-! ### tuples known to have no dict of their own: what dict(t) asks -/
def tb (ds : List PD) : PD := .dict [(.bool true, .tuple ds)]
mutual
def unb : PD → PD
  | .dict [(.bool true, .tuple ds)] => .tuple (unbs ds)
  | .tuple ds => .tuple (unbs ds)
  | .list ds => .list (unbs ds)
  | d => d
def unbs : List PD → List PD
  | [] => []
  | d :: ds => unb d :: unbs ds
end
section
variable {K : PySem.W.Frag} {G : Hp}
theorem Rp.unb {v : V} {d : PD} (h : Rp K G v d) : Rp K G v (Bk.unb d) :=
  Rp.rec (motive_1 := fun v d _ => Rp K G v (Bk.unb d)) (motive_2 := fun vs ds _ => Rps K G vs (unbs ds)) (motive_3 := fun kvs es h => True)
    (by simp only [Bk.unb]; exact .non) (fun b => by simp only [Bk.unb]; exact .bl b) (fun b => by simp only [Bk.unb]; exact .int b) (fun b => by simp only [Bk.unb]; exact .str b)
    (fun h _ r => by simp only [Bk.unb]; exact .lst h r)
    (fun {a xs ds} h q r => by rw [show Bk.unb (.dict [(.none, .list ds)]) = .dict [(.none, .list ds)] by simp only [Bk.unb]]; exact .scr h q)
    (fun {a o xs ds} h n _ r => by rw [show Bk.unb (.dict [(.bool true, .tuple ds)]) = .tuple (unbs ds) by simp only [Bk.unb]]; exact .tup (.inl (.inr ⟨_, h⟩)) r)
    (fun h _ r => by simp only [Bk.unb]; exact .tup h r)
    (fun {a o kvs es} h q r => by
      have e : Bk.unb (.dict es) = .dict es := by
        cases q with
        | nil => simp only [Bk.unb]
        | consI _ _ => simp only [Bk.unb]
        | consS _ _ => simp only [Bk.unb]
      rw [e]
      exact .dic h q)
    (by simp only [unbs]; exact .nil) (fun _ _ r t => by simp only [unbs]; exact .cons r t) trivial (fun _ _ _ _ => trivial) (fun _ _ _ _ => trivial) h
theorem rp_bar {v : V} {ds : List PD} (h : Rp K G v (tb ds)) : ∃ a o xs, v = .ref a ∧ G a = some (.frz o (.tup xs)) ∧ o.dict = none ∧ Rps K G xs ds := by
  unfold tb at h
  generalize he : [(PyData.bool true, PyData.tuple ds)] = es at h
  cases h with
  | bar h1 h2 h3 => cases he; exact ⟨_, _, _, rfl, h1, h2, h3⟩
  | scr _ _ => cases he
  | dic _ h2 => cases h2 <;> cases he
end
section
variable {X : Cx} {a b c e o tg : Expr} {es : List Expr} {pos p apos : Pos} {x : Str} {ta tb' tc te to : DX}
def dUnb (t : DX) : DX := fun E Φ => t E fun E1 r => shK r fun d => Φ E1 (.sh (unb d))
theorem re_unb {t : DX} (h : RE X e t) : RE X e (dUnb t) := ⟨fun {F E Φ} q pins s w σ H G I0 i0 => by
  refine thn ((h.go q) pins s w σ H G I0 i0) fun u s' ⟨v, H', I', rel, w', G', E', r, i', sm, rv, z⟩ => ?_
  obtain ⟨d, rfl, z⟩ := shK_ok z
  have rv : Rp X.K G' v d := rv
  exact ⟨v, H', I', rel, w', G', E', .sh (unb d), i', sm, rv.unb, z⟩⟩
/-! displays and tuple(list) of that kind -/
def tTupB (t : TA) : TE := fun σ H Q => t σ H fun vs H1 => vs.length ≤ sizeLine ∧ ∀ (p : Addr) (o : Obj), H1 p = none → o.dict = none → Q (.ref p) (upd H1 p (.frz o (.tup vs)))
theorem pe_tupB {x1} {t : TA} (h : PA X es t) : PE X (.Tuple es x1 pos) (tTupB t) := by
  refine ⟨fun pins s σ H Q I hq => ?_⟩
  refine wpAny_Tuple_spliced (thn (h.run pos pins s σ H _ I hq) fun us s1 ⟨xs, H1, I1, r, z, q⟩ => ⟨by rw [← r.length]; exact z, ?_⟩)
  have hf : H1 s1.heap.objs.size = none := I1.hok.fresh (Nat.le_refl _)
  refine ⟨.ref s1.heap.objs.size, upd H1 s1.heap.objs.size (.frz { cls := .type "tuple", data := .seq us.toArray } (.tup xs)), I1.laid (t' := s1.toks) (fun b u e => Heap.get?_push_of_some _ e) (Nat.le_refl _) ?_, rfl, q _ _ hf rfl⟩
  exact ⟨Heap.get?_push_size _ rfl, z, us, r, ⟨_, Heap.get?_push_size _ rfl, rfl, _, rfl⟩⟩
theorem In.newB {F : Fm} {w : Addr → Option Nat} {σ : L2.St} {H G : Hp} {E : EnvB} {K : PySem.W.Frag} (I : In K F w σ H G E) {p : Addr} {o : Obj} {xs : List V} {ds : List PD} (hp : H p = none) (ho : o.dict = none) (r : Rps K G xs ds) : In K F w σ (upd H p (.frz o (.tup xs))) (upd G p (.frz o (.tup xs))) E ∧ Same G (upd G p (.frz o (.tup xs))) ∧ Rp K (upd G p (.frz o (.tup xs))) (.ref p) (tb ds) := by
  obtain ⟨I', s⟩ := I.allocSh (o := .frz o (.tup xs)) hp
  exact ⟨I', s, .bar upd_same ho (r.mono s)⟩
theorem xe_tupB {F : Fm} {E : EnvB} {Φ : EnvB → Rs → Prop} {x1} (h : XA X F es E fun E1 rs => ∃ E2 ds, Fzs E1 rs E2 ds ∧ ds.length ≤ 100000 ∧ Φ E2 (.sh (tb ds))) : XE X F (.Tuple es x1 pos) E Φ :=
  xe_of (pe_tupB pa_tA) fun w σ H G I => tA_go I h fun vs w1 H1 G1 E1 rs I1 s1 rvs ⟨E2, ds, f, hl, q⟩ => by
    obtain ⟨w2, G2, I2, s2, rps⟩ := f.go I1 rvs
    refine ⟨by rw [rps.length]; exact Nat.le_trans hl (by decide), fun p o hp ho => ?_⟩
    obtain ⟨I3, s3, rp⟩ := I2.newB hp ho rps
    exact ke I3 ((s1.trans s2).trans s3) (r := .sh (tb ds)) rp q
def dTupB (ta : DAs) : DX := fun E Φ => ta E fun E1 rs => fzsK E1 rs fun E2 ds => ds.length ≤ 100000 ∧ Φ E2 (.sh (tb ds))
theorem re_tupB {x1} {t : DAs} (h : RA X es t) : RE X (.Tuple es x1 pos) (dTupB t) := ⟨fun q => xe_tupB (xa_cut (h.go q) fun E1 rs z => by
  obtain ⟨E2, ds, f, z⟩ := fzsK_ok z
  exact ⟨E2, ds, f, z⟩)⟩
def uTupB : DUn := fun d k => match d with
  | .list ds => k (.sh (tb ds))
  | _ => False
theorem call_tupB : CallR X (.type "tuple") (fun xs H Q => ∃ p ys, xs = [.ref p] ∧ SqL X.K H p ys ∧ ∀ (l : Addr) (o : Obj), H l = none → o.dict = none → Q (.ref l) (upd H l (.frz o (.tup ys)))) := by
  intro pins s σ H xs us Q I r h
  obtain ⟨p, ys, rfl, hq, q⟩ := h
  obtain ⟨u, rfl, rx⟩ := vals1 r
  cases rx
  obtain ⟨its, r', pl, hz⟩ := I.list hq
  have hlen := r'.length
  refine call_tuple_list pl.isList (fun h' kp => ?_) (by simp only [List.size_toArray] <;> omega)
  have I1 : Inv X pins σ H { s with heap := h' } := I.kept (t' := s.toks) kp
  have I2 : Inv X pins σ (upd H h'.objs.size (.frz { cls := .type "tuple", data := .seq its.toArray } (.tup ys))) { s with heap := h'.push { cls := .type "tuple", data := .seq its.toArray } } :=
    I1.laid (t' := s.toks) (fun b o e => Heap.get?_push_of_some _ e) (Nat.le_refl _) (show ObjOk X.prog X.w _ _ _ (.frz _ (.tup ys)) from ⟨Heap.get?_push_size _ rfl, hz, its, r', IsTup.new _ _⟩)
  exact ⟨.ref h'.objs.size, _, I2, rfl, q _ _ (I1.hok.fresh (Nat.le_refl _)) rfl⟩
theorem rc_tupB : RCall X (fun xs H Q => ∃ p ys, xs = [.ref p] ∧ SqL X.K H p ys ∧ ∀ (l : Addr) (o : Obj), H l = none → o.dict = none → Q (.ref l) (upd H l (.frz o (.tup ys)))) uTupB := ⟨fun {F E r1 d Φ} rd h => by
  unfold uTupB at h
  split at h
  · next ds =>
    intro w σ H G vs Q I rvs kk
    obtain ⟨v, rfl, rv⟩ := rv_one (F := F) rvs
    obtain ⟨l, xs, rfl, hx, rx⟩ := (rd.rd rfl).lst I rv
    refine ⟨l, xs, rfl, .inl (.inl hx), fun p o hp ho => kk _ _ ?_⟩
    obtain ⟨I3, s3, rp⟩ := I.newB hp ho rx
    exact ke I3 s3 (r := .sh (tb ds)) rp h
  · exact h.elim⟩
theorem re_tupleB (hm : X.mg "tuple" = none) (h : RE X a ta) (hg : Gl X "tuple" := by rfl) (he : starEach [a] X.env = (false, eval a X.env) :: starEach [] X.env := by rfl) (hpl : (backTo pos (starEach [] X.env)).any (·.1) = false := by rfl) : RE X (.Call (.Name "tuple" p) [a] [] pos) (dUn uTupB ta) :=
  re_callT call_tupB rc_tupB boot_tuple hm h hg (by decide) (by decide) he hpl
end
/-! ### dict(t) -/
theorem tuple_keys_none : typeLookup (.type "tuple") "keys" = pure none := am_miss_of_fast (by first | decide +kernel | rfl)
section
variable {prog : Program} {w : World} {A : Around} {E : Value → Shared → Prop}
theorem miss_tup {s : Shared} {a : Addr} {o : Obj} {xs : Array Value} {k : Nat} {Q : Option Value → Shared → Prop} (hx : s.heap.get? a = some o) (hc : o.cls = .type "tuple") (hdat : o.data = .seq xs k) (hd : o.dict = none) (hA : A.handled = none)
    (h : ∀ h' tk, (∀ b ob, s.heap.get? b = some ob → h'.get? b = some ob) → Q none { s with heap := h', toks := tk }) : wpAny (model prog w) A (getAttr? (.ref a) "keys") Q E s := by
  obtain ⟨c, dct, dat, sl⟩ := o
  simp only at hc hdat hd
  subst hc hdat hd
  obtain ⟨hp, g, d, tk, os⟩ := s
  have hT : ∀ tk', (⟨hp, g, d, tk', os⟩ : Shared).TypeIs (.ref a) "tuple" := fun _ => ⟨_, hx, rfl⟩
  have hmiss := tuple_keys_none
  have hname : (["__module__", "__name__", "__qualname__", "__doc__", "__annotations__"] : List Str).contains "keys" = false := by decide +kernel
  have hsz : ("keys" : Str).length + 100 ≤ sizeLine := by first | size_fits | decide +kernel
  have f1 := sub_AttributeError
  have f3 := PySem.F.slot_tuple_getattribute.lookup
  have f4 := PySem.F.slot_tuple_getattribute.bind (.ref a)
  have f5 := am_tuple_getattr_none
  unfold getAttr? getAttrBy? getAttrBy
  repeat (any_goals (first | assumption | exact hT _ | ((with_reducible show wpAny _ _ (call (Value.builtin "tuple.__getattribute__") _ _) _ _ _); refine call_meets PySem.F.slot_tuple_getattribute (hT _) am_entry_tuple_getattribute (PySem.F.args_tuple_getattribute_2 _ _) (meets_getattribute_miss_tuple a xs k sl "keys" _ hmiss hname hsz) ⟨hx, hA, fun h' tk' e hx' => ?_⟩) | wp_step))
  obtain ⟨t', u', he⟩ := hx'.there
  show wpAny _ _ (getattributeRaised _ _ _ _ _ _ _) _ _ _
  unfold getattributeRaised
  repeat (any_goals (first | assumption | wp_step))
  all_goals first | exact h _ _ hx'.keeps | (dsimp only; repeat (any_goals (first | assumption | exact h _ _ hx'.keeps | wp_step)))
theorem upd_loopT {R : Result → Shared → Prop} {S I l : Addr} {items : Array Value} {res : Value} (hh : A.handled = none) (hlI : l ≠ I) (hSI : S ≠ I) (hSl : S ≠ l) :
    ∀ (rest : List (Key × Value)) (i : Nat) (acc : List (Key × Value)) (ix : Int) (t : Tok) (s : Shared), items.size = i + rest.length → acc.length + rest.length ≤ sizeLine →
      (∀ (j : Nat) (q : Key × Value), rest[j]? = some q → ∃ (b : Addr) (u : Value), items[i + j]? = some (.ref b) ∧ b ≠ S ∧ b ≠ I ∧ IsTup s.heap b #[u, q.2] ∧ keyIs q.1 u = true) →
      s.heap.IsTupleIter I l i → s.heap.IsTuple l items → s.heap.DictOf (mixKind prog w) S acc →
      (∀ h' tk, h'.DictOf (mixKind prog w) S (merged acc rest) → (∀ b o, b ≠ S → b ≠ I → s.heap.get? b = some o → h'.get? b = some o) → R (.ok (.ret res)) { s with heap := h', toks := tk }) →
      codeAny (model prog w) A (.builtin "dict.update.loop" ⟨[.ref S, .ref I, .int ix t, res], []⟩) R s
  | [], i, acc, ix, t, s, hsz, hln, ht, hit, hl, hm, hR => by
    refine codeAny_builtin ud_entry ?_
    rw [Around.under_plainId ud_plain _]
    show wpAny _ A.in1 (pyNext (.ref I) >>= _) _ _ s
    refine wpAny_bind (wpAny_pyNext_tuple_end (A := A.in1) hh hit hl (by first | exact Array.getElem?_eq_none (Nat.le_of_eq hsz) | (simp at hsz; simp; omega)) fun h' he => ?_)
    show wpAny _ A.in1 (Builtin.Dict.addKeywords S [] >>= _) _ _ _
    refine wpAny_bind (wpAny_pure (wpAny_pure ?_))
    exact hR h' s.toks (hm.extBut he hSI) fun b o _ hb e => he b o hb e
  | q :: rest, i, acc, ix, t, s, hsz, hln, ht, hit, hl, hm, hR => by
    obtain ⟨b, u, hb, hbS, hbI, htup, hk⟩ := ht 0 q rfl
    rw [List.length_cons] at hsz hln
    refine codeAny_builtin ud_entry ?_
    rw [Around.under_plainId ud_plain _]
    show wpAny _ A.in1 (pyNext (.ref I) >>= _) _ _ s
    refine wpAny_bind (wpAny_pyNext_tuple_item (x := .ref b) hit hl (by simpa using hb) fun h1 hit1 hs1 => ?_)
    have ht1 : IsTup h1 b #[u, q.2] := htup.extBut hs1.extBut hbI
    have hl1 : h1.IsTuple l items := hl.extBut hs1.extBut hlI
    have hm1 : h1.DictOf (mixKind prog w) S acc := hm.extBut hs1.extBut hSI
    obtain ⟨o, ho, hc, n, hd⟩ := id ht1
    show wpAny _ A.in1 (holding [Value.ref b] _ >>= _) _ _ _
    refine wpAny_bind (wpAny_holding ?_)
    refine wpAny_bind (wpAny_tryCatch ?_)
    unfold Builtin.Dict.pairItems
    refine wpAny_bind (wpAny_typeOf (T := "tuple") ⟨o, ho, hc⟩ ?_)
    rw [if_pos (by first | decide | rfl | simp)]
    refine wpAny_bind (wpAny_seqItems ho hd (wpAny_pure ?_))
    show wpAny _ A.in1 (holding [u, q.2] (dictSet S u q.2)) _ _ _
    refine wpAny_holding (wpAny_dictSet_pairs (knd := mixKind prog w) (k := q.1) hk hm1 (fun h2 hm2 hs2 => ?_) (by omega))
    refine wpAny_pure ⟨plainId_quiet ud_plain _, upd_loopT (items := items) hh hlI hSI hSl rest (i + 1) (stored acc q.1 q.2) (ix + 1) 0 _ (show items.size = i + 1 + rest.length by omega) ?_ (fun j q' e => ?_) ?_ ?_ hm2 fun h' tk hd' k => ?_⟩
    · have z := stored_length_le acc q.1 q.2
      omega
    · obtain ⟨b', u', hb', hbS', hbI', htup', hk'⟩ := ht (j + 1) q' (by simpa using e)
      refine ⟨b', u', ?_, hbS', hbI', (htup'.extBut hs1.extBut hbI').extBut hs2.extBut hbS', hk'⟩
      rw [show i + 1 + j = i + (j + 1) by omega]
      exact hb'
    · exact hit1.at fun o' e => hs2.extBut I o' (Ne.symm hSI) e
    · exact hl1.extBut hs2.extBut (Ne.symm hSl)
    · exact hR h' tk hd' fun c oc h3 h4 e => k c oc h3 h4 (hs2.extBut c oc h3 (hs1.extBut c oc h4 e))
theorem call_dict_pairsT {s : Shared} {l : Addr} {ol : Obj} {items : Array Value} {n : Nat} {prs : List (Key × Value)} {Q : Value → Shared → Prop} (hh : A.handled = none) (hl : s.heap.get? l = some ol) (hc : ol.cls = .type "tuple") (hd : ol.dict = none)
    (hdat : ol.data = .seq items n) (hsz : items.size = prs.length) (hln : prs.length ≤ sizeLine)
    (ht : ∀ (j : Nat) (q : Key × Value), prs[j]? = some q → ∃ (b : Addr) (u : Value), items[j]? = some (.ref b) ∧ IsTup s.heap b #[u, q.2] ∧ keyIs q.1 u = true)
    (h : ∀ h' tk, h'.DictOf (mixKind prog w) s.heap.objs.size (merged [] prs) → (∀ b o, s.heap.get? b = some o → h'.get? b = some o) → Q (.ref s.heap.objs.size) { s with heap := h', toks := tk }) :
    wpAny (model prog w) A (call (.type "dict") [.ref l]) Q E s := by
  refine callType_codes (Q₁ := fun obj s₁ => obj = .ref s.heap.objs.size ∧ s₁ = { s with heap := s.heap.push { cls := .type "dict", data := .dict #[] } }) PySem.F.kt_called_dict (PySem.F.kt_typeCall_dict_1 _) PySem.F.entry_dict_init (kt_code_dict_new _ ⟨rfl, rfl⟩) ?_
  rintro obj s₁ ⟨rfl, rfl⟩
  have hnew : (s.heap.push { cls := .type "dict", data := .dict #[] }).DictOf (mixKind prog w) s.heap.objs.size [] := Heap.DictOf.new s.heap
  have k0 : ∀ b o, s.heap.get? b = some o → (s.heap.push { cls := .type "dict", data := .dict #[] }).get? b = some o := fun b o e => Heap.get?_push_of_some _ e
  refine ⟨hnew.typeIs, PySem.F.args_dict_init_2 _ _, ?_⟩
  unfold Builtin.«dict.__init__»
  refine wpAny_bind ?_
  unfold Builtin.Dict.selfAndRest
  refine wpAny_bind (wpAny_notOrdered_dict hnew.typeIs ?_)
  show wpAny _ _ (pure (s.heap.objs.size, [Value.ref l])) _ _ _
  refine wpAny_pure ?_
  show wpAny _ _ (Builtin.Dict.updateFrom "dict.__init__" s.heap.objs.size (.ref l) [] .none) _ _ _
  unfold Builtin.Dict.updateFrom
  refine wpAny_bind (wpAny_typeOf (T := "tuple") ⟨ol, k0 _ _ hl, hc⟩ ?_)
  rw [if_pos (by first | decide | rfl | simp)]
  refine wpAny_bind (miss_tup (k0 _ _ hl) hc hdat hd hh fun h1 tk1 hk1 => ?_)
  rw [if_pos (show (none : Option Value).isNone = true from rfl)]
  refine wpAny_bind (wpAny_rule ?_)
  have hl1 : h1.IsTuple l items := ⟨ol, hk1 _ _ (k0 _ _ hl), hc, n, hdat⟩
  have hS1 : s.heap.objs.size < h1.objs.size := by
    have e : (s.heap.push { cls := .type "dict", data := .dict #[] }).get? s.heap.objs.size = some { cls := .type "dict", data := .dict #[] } := Heap.get?_push_size _ rfl
    exact Heap.lt_size (hk1 _ _ e)
  refine wpAny_bind (wpAny_pyIter_tuple hl1 ?_)
  have k2 : ∀ b o, h1.get? b = some o → (h1.push { cls := .type "tuple_iterator", data := .fields #[.ref l, .int 0 0] }).get? b = some o := fun b o e => Heap.get?_push_of_some _ e
  have hlt : l < s.heap.objs.size := Heap.lt_size hl
  have key := upd_loopT (prog := prog) (w := w) (A := A.in1) (R := wants (fun r s₂ => r = .none ∧ Q (.ref s.heap.objs.size) s₂) E) (S := s.heap.objs.size) (I := h1.objs.size) (l := l) (items := items) (res := Value.none) hh
    (Nat.ne_of_lt (Nat.lt_trans hlt hS1)) (Nat.ne_of_lt hS1) (Nat.ne_of_gt hlt) prs 0 [] 0 0
    { s with heap := h1.push { cls := .type "tuple_iterator", data := .fields #[.ref l, .int 0 0] }, toks := tk1 } (by rw [hsz, Nat.zero_add]) (by rw [List.length_nil, Nat.zero_add]; exact hln)
    (fun j q e => by
      obtain ⟨b, u, e1, e2, e3⟩ := ht j q e
      have hb : b < s.heap.objs.size := e2.lt
      exact ⟨b, u, by rw [Nat.zero_add]; exact e1, Nat.ne_of_lt hb, Nat.ne_of_lt (Nat.lt_trans hb hS1), e2.keeps fun c o z => k2 _ _ (hk1 _ _ (k0 _ _ z)), e3⟩)
    ⟨_, Heap.get?_push_size _ rfl, rfl, rfl⟩ (hl1.at fun o e => k2 _ _ e) ((hnew.at fun o e => hk1 _ _ e).at fun o e => k2 _ _ e)
    (fun h' tk hd' k => ⟨rfl, h h' tk hd' fun b o e => k b o (Nat.ne_of_lt (Heap.lt_size e)) (Nat.ne_of_lt (Nat.lt_trans (Heap.lt_size e) hS1)) (k2 _ _ (hk1 _ _ (k0 _ _ e)))⟩)
  first
    | exact wpAny_pure ⟨plainId_quiet ud_plain _, key⟩
    | exact wpAny_bind (wpAny_pure (wpAny_pure ⟨plainId_quiet ud_plain _, key⟩))
end
section
variable {X : Cx} {a b c e o tg : Expr} {es : List Expr} {pos p apos : Pos} {x : Str} {ta tc te to : DX}
theorem call_dictT (hcalm : X.calm = true) : CallR X (.type "dict") (fun xs H Q => ∃ (a : Addr) (o : Obj) (ps : List Addr) (kvs : List (Key × V)), xs = [.ref a] ∧ H a = some (.frz o (.tup (ps.map V.ref))) ∧ o.dict = none ∧ Paired (fun p kv => SqT X.K H p [kV kv.1, kv.2]) ps kvs ∧
    ∀ p, H p = none → Q (.ref p) (upd H p (.dK (mergeK [] kvs)))) := by
  intro pins s σ H xs us Q I r q
  obtain ⟨a, o, ps, kvs, ex, hq, hd, hp, q⟩ := q
  subst ex
  obtain ⟨u, eu, rx⟩ := vals1 r
  subst eu
  cases rx
  obtain ⟨ho, hz, its, rv, ht⟩ := I.hok _ _ hq
  have ei := refs_at rv
  subst ei
  rw [List.length_map] at hz
  obtain ⟨prs, rel, hl, hpr⟩ := pairs_of I hp
  obtain ⟨o', ho', hc, n, hdat⟩ := ht
  rw [ho] at ho'
  cases ho'
  refine call_dict_pairsT (prs := prs) (I.ok.hd hcalm) ho hc hd hdat (by simp [hl]) (by rw [hl]; exact hz) (fun j q' e => ?_) fun h' tk hd' k => ?_
  · obtain ⟨b, u, e1, e2, e3⟩ := hpr j q' e
    exact ⟨b, u, by simp [e1], e2, e3⟩
  · have hm : (s.heap.objs.size == sysModules) = false := beq_eq_false_iff_ne.mpr (Nat.ne_of_gt I.big)
    have hlen : (mergeK [] kvs).length ≤ sizeLine := by
      refine Nat.le_trans (length_mergeK kvs []) ?_
      rw [List.length_nil, Nat.zero_add, rel.length, hl]
      exact hz
    exact ⟨.ref s.heap.objs.size, upd H s.heap.objs.size (.dK (mergeK [] kvs)), I.laid (t' := tk) k (Nat.le_refl _) (show ObjOk X.prog X.w _ _ _ (.dK (mergeK [] kvs)) from ⟨hlen, hm, merged [] prs, KV.merge rel .nil, hd'⟩), rfl, q _ (I.hok.fresh (Nat.le_refl _))⟩
def uDctT : DUn := fun d k => match d with
  | .dict [(.bool true, .tuple ds)] => ∃ es : List (Key × PD), ds = es.map (fun p => .tuple [kD p.1, p.2]) ∧ k (.nw (.dic (mergeD [] es)))
  | _ => False
theorem rd_bar {E : EnvB} {r : Rs} {ds : List PD} (h : RX E r (.dict [(.bool true, .tuple ds)])) : r = .sh (.dict [(.bool true, .tuple ds)]) := by
  rcases h with h | ⟨i, b, es, _, _, _, e⟩
  · cases h; rfl
  · cases es with
    | nil => cases e
    | cons p _ =>
      have h1 := PyData.dict.inj e
      injection h1 with h2 h3
      injection h2 with h4 h5
      cases hp : p.1 <;> rw [hp] at h4 <;> cases h4
theorem rc_dictT : RCall X (fun xs H Q => ∃ (a : Addr) (o : Obj) (ps : List Addr) (kvs : List (Key × V)), xs = [.ref a] ∧ H a = some (.frz o (.tup (ps.map V.ref))) ∧ o.dict = none ∧ Paired (fun p kv => SqT X.K H p [kV kv.1, kv.2]) ps kvs ∧
    ∀ p, H p = none → Q (.ref p) (upd H p (.dK (mergeK [] kvs)))) uDctT := ⟨fun {F E r1 d Φ} rd h => by
  unfold uDctT at h
  split at h
  · next ds =>
    obtain ⟨es, rfl, h⟩ := h
    cases rd_bar rd
    intro w σ H G vs Q I rvs kk
    obtain ⟨v, rfl, rv⟩ := rv_one (F := F) rvs
    have rv : Rp X.K G v (tb (es.map fun p => .tuple [kD p.1, p.2])) := rv
    obtain ⟨l, o, xs, rfl, hx, hd, rx⟩ := rp_bar rv
    have go : ∀ (es : List (Key × PD)) (xs : List V), Rps X.K G xs (es.map fun p => .tuple [kD p.1, p.2]) → ∃ (ps : List Addr) (kvs : List (Key × V)), xs = ps.map V.ref ∧ Paired (fun p kv => SqT X.K H p [kV kv.1, kv.2]) ps kvs ∧ Rkv X.K G kvs es := fun es => by
      induction es with
      | nil => intro xs h; cases h; exact ⟨[], [], rfl, .nil, .nil⟩
      | cons p es ih =>
        intro xs h
        cases h with
        | cons h1 h2 =>
          obtain ⟨ps, kvs, e, pr, rk⟩ := ih _ h2
          cases h1 with
          | tup t1 t2 =>
            cases t2 with
            | cons u1 t2 =>
              cases t2 with
              | cons u2 t2 =>
                cases t2
                obtain rfl := rp_key (kOf_kD p.1) u1
                exact ⟨_ :: ps, (p.1, _) :: kvs, by rw [e]; rfl, .cons (sqT_mono I.sub t1) pr, .cons u2 rk⟩
    obtain ⟨ps, kvs, e, pr, rk⟩ := go es xs rx
    subst e
    refine ⟨l, o, ps, kvs, rfl, I.sub _ _ hx, hd, pr, fun p hp => kk _ _ ?_⟩
    obtain ⟨I3, rp⟩ := I.newD hp (rk.merge .nil)
    exact ke I3 (Same.refl G) rp h
  · exact h.elim⟩
theorem re_dictofT (hm : X.mg "dict" = none) (h : RE X a ta) (hcl : X.calm = true := by rfl) (hg : Gl X "dict" := by rfl) (he : starEach [a] X.env = (false, eval a X.env) :: starEach [] X.env := by rfl) (hpl : (backTo pos (starEach [] X.env)).any (·.1) = false := by rfl) : RE X (.Call (.Name "dict" p) [a] [] pos) (dUn uDctT ta) :=
  re_callT (call_dictT hcl) rc_dictT (by decide +kernel) hm h hg (by decide) (by decide) he hpl
/-! rewriting rules -/
theorem s_dUnb {t : DX} {E : EnvB} {Φ : EnvB → Rs → Prop} : dUnb t E Φ = t E fun E1 r => shK r fun d => Φ E1 (.sh (unb d)) := rfl
theorem s_dTupB {t : DAs} {E : EnvB} {Φ : EnvB → Rs → Prop} : dTupB t E Φ = t E fun E1 rs => fzsK E1 rs fun E2 ds => ds.length ≤ 100000 ∧ Φ E2 (.sh (tb ds)) := rfl
theorem s_uTupB {ds : List PD} {k : Rs → Prop} : uTupB (.list ds) k = k (.sh (tb ds)) := rfl
theorem s_uDctT {ds : List PD} {k : Rs → Prop} : uDctT (.dict [(.bool true, .tuple ds)]) k = (∃ es : List (Key × PD), ds = es.map (fun p => .tuple [kD p.1, p.2]) ∧ k (.nw (.dic (mergeD [] es)))) := rfl
end
/-! a dict that is handed over, whether it was frozen before or not -/
def dFy (t : DX) : DX := fun E Φ => t E fun E1 r => match r with
  | .sh d => Φ E1 (.sh d)
  | .nw (.dic es) => Φ E1 (.sh (.dict (dK es)))
  | .br i => match slG E1 i with
    | .ow (.dic es) => slP E1 i (.sh (.dict (dK es))) fun E2 => Φ E2 (.sh (.dict (dK es)))
    | _ => False
  | _ => False
theorem re_fy {X : Cx} {e : Expr} {t : DX} (h : RE X e t) : RE X e (dFy t) := ⟨fun {F E Φ} q pins s w σ H G I0 i0 => by
  refine thn ((h.go q) pins s w σ H G I0 i0) fun u s' ⟨v, H', I', rel, w', G', E', r, i', sm, rv, z⟩ => ?_
  dsimp only at z
  split at z
  · next d => exact ⟨v, H', I', rel, w', G', E', _, i', sm, rv, z⟩
  · next es =>
    obtain ⟨p, rfl, c, n1, n2, n3, n4⟩ := rv
    obtain ⟨kvs, c1, c2⟩ := c.dic
    obtain ⟨od, I2⟩ := I'.lock c1 trivial
    obtain ⟨i2, s2⟩ := i'.lockNew (o := .frz od (.dK kvs)) n1 n2 n3 n4
    exact ⟨.ref p, _, I2, rel, w', _, E', .sh _, i2, sm.trans s2, Rp.dic upd_same (c2.mono s2).rpk, z⟩
  · next i =>
    split at z
    · next es hs =>
      have hE := slG_ok hs (by simp)
      obtain ⟨E2, se, z⟩ := slP_ok z
      obtain ⟨w2, l, i1, el, c, n1, n2, n3, n4⟩ := i'.disown hE
      obtain ⟨kvs, c1, c2⟩ := c.dic
      obtain ⟨od, I2⟩ := I'.lock c1 trivial
      obtain ⟨i2, s2⟩ := i1.lockNew (o := .frz od (.dK kvs)) n1 n2 n3 n4
      have rv : σ[i]? = some (some v) := rv
      rw [rv] at el
      cases el
      have rp : Rp X.K (upd G' l (.frz od (.dK kvs))) (.ref l) (.dict (dK es)) := .dic upd_same (c2.mono s2).rpk
      have i3 := i2.know (i := i) (b := .sh (.dict (dK es))) fun _ => ⟨_, rv, rp⟩
      rw [List.set_set, ← se.eq] at i3
      exact ⟨_, _, I2, rel, w2, _, E2, .sh _, i3, sm.trans s2, rp, z⟩
    · exact z.elim
  · exact z.elim⟩
theorem s_dFy {t : DX} {E : EnvB} {Φ : EnvB → Rs → Prop} : dFy t E Φ = t E fun E1 r => match r with
  | .sh d => Φ E1 (.sh d)
  | .nw (.dic es) => Φ E1 (.sh (.dict (dK es)))
  | .br i => match slG E1 i with
    | .ow (.dic es) => slP E1 i (.sh (.dict (dK es))) fun E2 => Φ E2 (.sh (.dict (dK es)))
    | _ => False
  | _ => False := rfl
def DD7 := And.intro @s_dUnb (And.intro @s_dTupB (And.intro @s_uTupB (And.intro @s_uDctT @s_dFy)))
end Bk

set_option maxHeartbeats 4000000
namespace K62
open PySem PySem.Spec PyProof.Rows L2 Bk
def topS (i : Nat) : Stmt := PySem.Challenge.pw_bentcoin_k62_bounds_of_programs.main.body.getD i (.Pass ⟨0, 0, 0, 0⟩)
/-! the kept dicts of programs, as functions of data -/
def sizesV (z : PySem.Str) : Option PD :=
  if z = PySem.Str.ofString "toss" then some (.int 3) else if z = PySem.Str.ofString "set" then some (.int 3) else if z = PySem.Str.ofString "if" then some (.int 4) else if z = PySem.Str.ofString "loop" then some (.int 2) else if z = PySem.Str.ofString "leave" then some (.int 1) else if z = PySem.Str.ofString "end" then some (.int 2) else if z = PySem.Str.ofString "call" then some (.int 2) else none
def partsV (z : PySem.Str) : Option PD :=
  if z = PySem.Str.ofString "toss" then some (.tuple [.int 1, .int 2]) else if z = PySem.Str.ofString "if" then some (.tuple [.int 2, .int 3]) else if z = PySem.Str.ofString "loop" then some (.tuple [.int 1]) else none
section
variable {P : Program} {w : World} {K : PySem.W.Frag} {mg : Str → Option Value} {base : Heap}
/-! is_word: 0 value, 1 letter -/
def d_is_word_1 : DS := (dRet (dAndV (dIsi "str" (dVar 0)) (dAndV (dTwo oLe oLe (dC (.int 1)) (dUn uLen (dVar 0)) (dC (.int 6))) (dUn uAll (dLcN 1 (iVal (dVar 0)) (dBin (oIn false) (dVar 1) (dC (.str "abcdefghijklmnopqrstuvwxyz"))))))))
abbrev d_is_word : DS := d_is_word_1
abbrev St_is_word : Stmt := topS 9
theorem sc_is_word : FnScope ["value", "letter"] ["value"] (defScope St_is_word) := ⟨rfl, rfl, rfl, by decide +kernel, rfl, by decide +kernel, by decide +kernel⟩
theorem ok_is_word {f : Addr} {fd : FuncData} {k : Nat} (Fn : L2.Fun K "is_word" "is_word" St_is_word f fd) (n_isinstance : mg "isinstance" = none) (n_str : mg "str" = none) (n_len : mg "len" = none) (n_all : mg "all" = none) {t_LETTERS : Tok} (m_LETTERS : mg "LETTERS" = some (.str "abcdefghijklmnopqrstuvwxyz" t_LETTERS)) {sp : List PD → (Rs → Prop) → Prop} (hs : ∀ ds Ψ, sp ds Ψ → d_is_word (env0 ["value", "letter"] ds) (post0 Ψ)) : FnOk P w K mg base CX0 (k + 1) f fd ["value"] (Pm K 1 sp) := by
  have nd := sc_is_word.nd
  refine okR0 (body := d_is_word) Fn sc_is_word (fun cdv A outer s H E hr => ?_) fun ds Ψ _ h => hs ds Ψ h
  have hu := hr.units
  exact (rss_one (rs_ret (re_andV (re_isi n_isinstance n_str boot_str (re_var (i := 0))) (re_andV (re_two op_le op_le (rop_cmp (g := fun i j => decide (i ≤ j))) (rop_cmp (g := fun i j => decide (i ≤ j))) re_int (re_len n_len (re_var (i := 0))) re_int) (re_one (re_all n_all (re_lcN (i := 1) (ri_val (re_var (i := 0))) (fun _ => (re_cmp (opr_in hu) rop_in (re_var (i := 1)) (re_gstr m_LETTERS))))))))))
/-! is_expression: 0 value, 1 depth_left, 2 valid -/
def d_is_expression_1 (s_is_expression : List PD → (Rs → Prop) → Prop) (s_is_word : List PD → (Rs → Prop) → Prop) : DS := (dRet (dAndV (dVar 2) (dAndV (dCall 2 s_is_expression (dA (dBin oIx (dVar 0) (dC (.int 1))) (dA (dBin oSub (dVar 1) (dC (.int 1))) dA0))) (dCall 2 s_is_expression (dA (dBin oIx (dVar 0) (dC (.int 2))) (dA (dBin oSub (dVar 1) (dC (.int 1))) dA0))))))
def d_is_expression_2 (s_is_expression : List PD → (Rs → Prop) → Prop) (s_is_word : List PD → (Rs → Prop) → Prop) : DS := (dSeq (dSet true 2 (dAndV (dBin oGt (dVar 1) (dC (.int 0))) (dAndV (dBin oEq (dUn uLen (dVar 0)) (dC (.int 3))) (dAndV (dIsi "str" (dBin oIx (dVar 0) (dC (.int 0)))) (dBin (oIn false) (dBin oIx (dVar 0) (dC (.int 0))) (dC (.tuple [.str (PySem.Str.ofString "plus"), .str (PySem.Str.ofString "less"), .str (PySem.Str.ofString "alike"), .str (PySem.Str.ofString "least")]))))))) (d_is_expression_1 s_is_expression s_is_word))
def d_is_expression_3 (s_is_expression : List PD → (Rs → Prop) → Prop) (s_is_word : List PD → (Rs → Prop) → Prop) : DS := (dRet (dAndV (dNotV (dIsi "bool" (dVar 0))) (dTwo oLe oLe (dC (.int 0)) (dVar 0) (dC (.int 9)))))
def d_is_expression_4 (s_is_expression : List PD → (Rs → Prop) → Prop) (s_is_word : List PD → (Rs → Prop) → Prop) : DS := (dRet (dCall 1 s_is_word (dA (dVar 0) dA0)))
def d_is_expression_5 (s_is_expression : List PD → (Rs → Prop) → Prop) (s_is_word : List PD → (Rs → Prop) → Prop) : DS := (dCut (dIf (dTst (dIsi "int" (dVar 0))) (d_is_expression_3 s_is_expression s_is_word) dNil) (d_is_expression_4 s_is_expression s_is_word))
def d_is_expression_6 (s_is_expression : List PD → (Rs → Prop) → Prop) (s_is_word : List PD → (Rs → Prop) → Prop) : DS := (dCut (dIf (dTst (dIsi "tuple" (dVar 0))) (d_is_expression_2 s_is_expression s_is_word) dNil) (d_is_expression_5 s_is_expression s_is_word))
abbrev d_is_expression (s_is_expression : List PD → (Rs → Prop) → Prop) (s_is_word : List PD → (Rs → Prop) → Prop) : DS := (d_is_expression_6 s_is_expression s_is_word)
abbrev St_is_expression : Stmt := topS 10
theorem sc_is_expression : FnScope ["value", "depth_left", "valid"] ["value", "depth_left"] (defScope St_is_expression) := ⟨rfl, rfl, rfl, by decide +kernel, rfl, by decide +kernel, by decide +kernel⟩
theorem ok_is_expression {f : Addr} {fd : FuncData} {k : Nat} (Fn : L2.Fun K "is_expression" "is_expression" St_is_expression f fd) (n_isinstance : mg "isinstance" = none) (n_tuple : mg "tuple" = none) (n_len : mg "len" = none) (n_str : mg "str" = none) (n_int : mg "int" = none) (n_bool : mg "bool" = none) {u_OPERATORS : Value} {v_OPERATORS : V} (m_OPERATORS : mg "OPERATORS" = some u_OPERATORS) (r_OPERATORS : RelV v_OPERATORS u_OPERATORS) (h_OPERATORS : ∀ G, Rp K G v_OPERATORS (.tuple [.str (PySem.Str.ofString "plus"), .str (PySem.Str.ofString "less"), .str (PySem.Str.ofString "alike"), .str (PySem.Str.ofString "least")])) {s_is_expression : List PD → (Rs → Prop) → Prop} {s_is_word : List PD → (Rs → Prop) → Prop} (C_is_expression : Cal P w K mg base "is_expression" k (Pm K 2 s_is_expression)) (C_is_word : Cal P w K mg base "is_word" k (Pm K 1 s_is_word)) {sp : List PD → (Rs → Prop) → Prop} (hs : ∀ ds Ψ, sp ds Ψ → (d_is_expression s_is_expression s_is_word) (env0 ["value", "depth_left", "valid"] ds) (post0 Ψ)) : FnOk P w K mg base CX0 (k + 1) f fd ["value", "depth_left"] (Pm K 2 sp) := by
  have nd := sc_is_expression.nd
  refine okR0 (body := (d_is_expression s_is_expression s_is_word)) Fn sc_is_expression (fun cdv A outer s H E hr => ?_) fun ds Ψ _ h => hs ds Ψ h
  have hu := hr.units
  exact (rss_cut (rs_if (rt_val (re_isi n_isinstance n_tuple boot_tuple (re_var (i := 0)))) (rss_seq (rs_set (i := 2) true (re_andV (re_cmp op_gt (rop_cmp (g := fun i j => decide (j < i))) (re_var (i := 1)) re_int) (re_andV (re_cmp (opr_eq hu) rop_eq (re_len n_len (re_var (i := 0))) re_int) (re_andV (re_isi n_isinstance n_str boot_str (re_ix (ixr hu) rop_ix (re_var (i := 0)) re_int)) (re_one (re_cmp (opr_in hu) rop_in (re_ix (ixr hu) rop_ix (re_var (i := 0)) re_int) (re_gdata m_OPERATORS r_OPERATORS h_OPERATORS))))))) (rss_one (rs_ret (re_andV (re_var (i := 2)) (re_andV (re_call C_is_expression hr (ra_cons (re_ix (ixr hu) rop_ix (re_var (i := 0)) re_int) (ra_cons (re_bin op_sub rop_sub (re_var (i := 1)) re_int) ra_nil))) (re_one (re_call C_is_expression hr (ra_cons (re_ix (ixr hu) rop_ix (re_var (i := 0)) re_int) (ra_cons (re_bin op_sub rop_sub (re_var (i := 1)) re_int) ra_nil))))))))) rss_nil) (rss_cut (rs_if (rt_val (re_isi n_isinstance n_int boot_int (re_var (i := 0)))) (rss_one (rs_ret (re_andV (re_notV (re_isi n_isinstance n_bool boot_bool (re_var (i := 0)))) (re_one (re_two op_le op_le (rop_cmp (g := fun i j => decide (i ≤ j))) (rop_cmp (g := fun i j => decide (i ≤ j))) re_int (re_var (i := 0)) re_int))))) rss_nil) (rss_one (rs_ret (re_call C_is_word hr (ra_cons (re_var (i := 0)) ra_nil))))))
/-! is_statement: 0 value, 1 depth, 2 part -/
def d_is_statement_1 (s_is_word : List PD → (Rs → Prop) → Prop) (s_is_expression : List PD → (Rs → Prop) → Prop) (s_is_block : List PD → (Rs → Prop) → Prop) : DS := (dRet (dC (.bool false)))
def d_is_statement_2 (s_is_word : List PD → (Rs → Prop) → Prop) (s_is_expression : List PD → (Rs → Prop) → Prop) (s_is_block : List PD → (Rs → Prop) → Prop) : DS := (dRet (dC (.bool false)))
def d_is_statement_3 (s_is_word : List PD → (Rs → Prop) → Prop) (s_is_expression : List PD → (Rs → Prop) → Prop) (s_is_block : List PD → (Rs → Prop) → Prop) : DS := (dRet (dC (.bool false)))
def d_is_statement_4 (s_is_word : List PD → (Rs → Prop) → Prop) (s_is_expression : List PD → (Rs → Prop) → Prop) (s_is_block : List PD → (Rs → Prop) → Prop) : DS := (dRet (dC (.bool false)))
def d_is_statement_5 (s_is_word : List PD → (Rs → Prop) → Prop) (s_is_expression : List PD → (Rs → Prop) → Prop) (s_is_block : List PD → (Rs → Prop) → Prop) : DS := (dRet (dC (.bool false)))
def d_is_statement_6 (s_is_word : List PD → (Rs → Prop) → Prop) (s_is_expression : List PD → (Rs → Prop) → Prop) (s_is_block : List PD → (Rs → Prop) → Prop) : DS := (dRet (dUn uAll (dLcN 2 (iVal (dKGet partsV (dBin oIx (dVar 0) (dC (.int 0))) (dTup dA0))) (dCall 2 s_is_block (dA (dBin oIx (dVar 0) (dVar 2)) (dA (dBin oAdd (dVar 1) (dC (.int 1))) dA0))))))
def d_is_statement_7 (s_is_word : List PD → (Rs → Prop) → Prop) (s_is_expression : List PD → (Rs → Prop) → Prop) (s_is_block : List PD → (Rs → Prop) → Prop) : DS := (dCut (dIf (dAnd (dTst (dBin oEq (dBin oIx (dVar 0) (dC (.int 0))) (dC (.str (PySem.Str.ofString "if"))))) (dNot (dTst (dCall 2 s_is_expression (dA (dBin oIx (dVar 0) (dC (.int 1))) (dA (dC (.int 6)) dA0)))))) (d_is_statement_5 s_is_word s_is_expression s_is_block) dNil) (d_is_statement_6 s_is_word s_is_expression s_is_block))
def d_is_statement_8 (s_is_word : List PD → (Rs → Prop) → Prop) (s_is_expression : List PD → (Rs → Prop) → Prop) (s_is_block : List PD → (Rs → Prop) → Prop) : DS := (dCut (dIf (dAnd (dTst (dBin (oIn false) (dBin oIx (dVar 0) (dC (.int 0))) (dTup (dA (dC (.str (PySem.Str.ofString "set"))) (dA (dC (.str (PySem.Str.ofString "end"))) dA0))))) (dNot (dTst (dCall 2 s_is_expression (dA (dBin oIx (dVar 0) (dUn uNeg (dC (.int 1)))) (dA (dC (.int 6)) dA0)))))) (d_is_statement_4 s_is_word s_is_expression s_is_block) dNil) (d_is_statement_7 s_is_word s_is_expression s_is_block))
def d_is_statement_9 (s_is_word : List PD → (Rs → Prop) → Prop) (s_is_expression : List PD → (Rs → Prop) → Prop) (s_is_block : List PD → (Rs → Prop) → Prop) : DS := (dCut (dIf (dAnd (dTst (dBin (oIn false) (dBin oIx (dVar 0) (dC (.int 0))) (dTup (dA (dC (.str (PySem.Str.ofString "set"))) (dA (dC (.str (PySem.Str.ofString "call"))) dA0))))) (dNot (dTst (dCall 1 s_is_word (dA (dBin oIx (dVar 0) (dC (.int 1))) dA0))))) (d_is_statement_3 s_is_word s_is_expression s_is_block) dNil) (d_is_statement_8 s_is_word s_is_expression s_is_block))
def d_is_statement_10 (s_is_word : List PD → (Rs → Prop) → Prop) (s_is_expression : List PD → (Rs → Prop) → Prop) (s_is_block : List PD → (Rs → Prop) → Prop) : DS := (dCut (dIf (dTst (dBin oNe (dUn uLen (dVar 0)) (dKGet sizesV (dBin oIx (dVar 0) (dC (.int 0))) (dUn uNeg (dC (.int 1)))))) (d_is_statement_2 s_is_word s_is_expression s_is_block) dNil) (d_is_statement_9 s_is_word s_is_expression s_is_block))
def d_is_statement_11 (s_is_word : List PD → (Rs → Prop) → Prop) (s_is_expression : List PD → (Rs → Prop) → Prop) (s_is_block : List PD → (Rs → Prop) → Prop) : DS := (dCut (dIf (dOr (dNot (dTst (dIsi "tuple" (dVar 0)))) (dOr (dTst (dBin oEq (dVar 0) (dTup dA0))) (dNot (dTst (dIsi "str" (dBin oIx (dVar 0) (dC (.int 0)))))))) (d_is_statement_1 s_is_word s_is_expression s_is_block) dNil) (d_is_statement_10 s_is_word s_is_expression s_is_block))
abbrev d_is_statement (s_is_word : List PD → (Rs → Prop) → Prop) (s_is_expression : List PD → (Rs → Prop) → Prop) (s_is_block : List PD → (Rs → Prop) → Prop) : DS := (d_is_statement_11 s_is_word s_is_expression s_is_block)
abbrev St_is_statement : Stmt := topS 11
theorem sc_is_statement : FnScope ["value", "depth", "part"] ["value", "depth"] (defScope St_is_statement) := ⟨rfl, rfl, rfl, by decide +kernel, rfl, by decide +kernel, by decide +kernel⟩
theorem ok_is_statement {f : Addr} {fd : FuncData} {k : Nat} (Fn : L2.Fun K "is_statement" "is_statement" St_is_statement f fd) (n_isinstance : mg "isinstance" = none) (n_tuple : mg "tuple" = none) (n_str : mg "str" = none) (n_len : mg "len" = none) (n_all : mg "all" = none) {d_STATEMENT_SIZES : Addr} {e_STATEMENT_SIZES : Array DictEntry} {n_STATEMENT_SIZES : Nat} (m_STATEMENT_SIZES : mg "STATEMENT_SIZES" = some (.ref d_STATEMENT_SIZES)) (D_STATEMENT_SIZES : KDict K w d_STATEMENT_SIZES e_STATEMENT_SIZES n_STATEMENT_SIZES) (v_STATEMENT_SIZES : ∀ z, (∃ u v d, findBy Value.isStrOf e_STATEMENT_SIZES z = some u ∧ RelV v u ∧ (∀ G, Rp K G v d) ∧ sizesV z = some d) ∨ (findBy Value.isStrOf e_STATEMENT_SIZES z = none ∧ sizesV z = none)) {t_MAX_EXPRESSION_DEPTH : Tok} (m_MAX_EXPRESSION_DEPTH : mg "MAX_EXPRESSION_DEPTH" = some (.int (6) t_MAX_EXPRESSION_DEPTH)) {d_BLOCK_PARTS : Addr} {e_BLOCK_PARTS : Array DictEntry} {n_BLOCK_PARTS : Nat} (m_BLOCK_PARTS : mg "BLOCK_PARTS" = some (.ref d_BLOCK_PARTS)) (D_BLOCK_PARTS : KDict K w d_BLOCK_PARTS e_BLOCK_PARTS n_BLOCK_PARTS) (v_BLOCK_PARTS : ∀ z, (∃ u v d, findBy Value.isStrOf e_BLOCK_PARTS z = some u ∧ RelV v u ∧ (∀ G, Rp K G v d) ∧ partsV z = some d) ∨ (findBy Value.isStrOf e_BLOCK_PARTS z = none ∧ partsV z = none)) {s_is_word : List PD → (Rs → Prop) → Prop} {s_is_expression : List PD → (Rs → Prop) → Prop} {s_is_block : List PD → (Rs → Prop) → Prop} (C_is_word : Cal P w K mg base "is_word" k (Pm K 1 s_is_word)) (C_is_expression : Cal P w K mg base "is_expression" k (Pm K 2 s_is_expression)) (C_is_block : Cal P w K mg base "is_block" k (Pm K 2 s_is_block)) {sp : List PD → (Rs → Prop) → Prop} (hs : ∀ ds Ψ, sp ds Ψ → (d_is_statement s_is_word s_is_expression s_is_block) (env0 ["value", "depth", "part"] ds) (post0 Ψ)) : FnOk P w K mg base CX0 (k + 1) f fd ["value", "depth"] (Pm K 2 sp) := by
  have nd := sc_is_statement.nd
  refine okR0 (body := (d_is_statement s_is_word s_is_expression s_is_block)) Fn sc_is_statement (fun cdv A outer s H E hr => ?_) fun ds Ψ _ h => hs ds Ψ h
  have hu := hr.units
  exact (rss_cut (rs_if (rt_w (rw_or (rt_not (rt_val (re_isi n_isinstance n_tuple boot_tuple (re_var (i := 0))))) (rw_or (rt_cmp (opr_eq hu) rop_eq (re_var (i := 0)) (re_tup ra_nil)) (rw_or1 (rt_not (rt_val (re_isi n_isinstance n_str boot_str (re_ix (ixr hu) rop_ix (re_var (i := 0)) re_int)))))))) (rss_one (rs_ret re_bl)) rss_nil) (rss_cut (rs_if (rt_cmp (opr_ne hu) rop_ne (re_len n_len (re_var (i := 0))) (re_kgetV sizesV m_STATEMENT_SIZES D_STATEMENT_SIZES v_STATEMENT_SIZES (re_ix (ixr hu) rop_ix (re_var (i := 0)) re_int) (re_neg re_int))) (rss_one (rs_ret re_bl)) rss_nil) (rss_cut (rs_if (rt_w (rw_and (rt_cmp (opr_in hu) rop_in (re_ix (ixr hu) rop_ix (re_var (i := 0)) re_int) (re_tup (ra_cons re_str (ra_cons re_str ra_nil)))) (rw_and1 (rt_not (rt_val (re_call C_is_word hr (ra_cons (re_ix (ixr hu) rop_ix (re_var (i := 0)) re_int) ra_nil))))))) (rss_one (rs_ret re_bl)) rss_nil) (rss_cut (rs_if (rt_w (rw_and (rt_cmp (opr_in hu) rop_in (re_ix (ixr hu) rop_ix (re_var (i := 0)) re_int) (re_tup (ra_cons re_str (ra_cons re_str ra_nil)))) (rw_and1 (rt_not (rt_val (re_call C_is_expression hr (ra_cons (re_ix (ixr hu) rop_ix (re_var (i := 0)) (re_neg re_int)) (ra_cons (re_gint m_MAX_EXPRESSION_DEPTH) ra_nil)))))))) (rss_one (rs_ret re_bl)) rss_nil) (rss_cut (rs_if (rt_w (rw_and (rt_cmp (opr_eq hu) rop_eq (re_ix (ixr hu) rop_ix (re_var (i := 0)) re_int) re_str) (rw_and1 (rt_not (rt_val (re_call C_is_expression hr (ra_cons (re_ix (ixr hu) rop_ix (re_var (i := 0)) re_int) (ra_cons (re_gint m_MAX_EXPRESSION_DEPTH) ra_nil)))))))) (rss_one (rs_ret re_bl)) rss_nil) (rss_one (rs_ret (re_all n_all (re_lcN (i := 2) (ri_val (re_kgetV partsV m_BLOCK_PARTS D_BLOCK_PARTS v_BLOCK_PARTS (re_ix (ixr hu) rop_ix (re_var (i := 0)) re_int) (re_tup ra_nil))) (fun _ => (re_call C_is_block hr (ra_cons (re_ix (ixr hu) rop_ix (re_var (i := 0)) (re_var (i := 2))) (ra_cons (re_bin opr_add rop_add (re_var (i := 1)) re_int) ra_nil)))))))))))))
/-! is_block: 0 value, 1 depth, 2 statement -/
def d_is_block_1 (s_is_statement : List PD → (Rs → Prop) → Prop) : DS := (dRet (dC (.bool false)))
def d_is_block_2 (s_is_statement : List PD → (Rs → Prop) → Prop) : DS := (dRet (dUn uAll (dLcN 2 (iVal (dVar 0)) (dCall 2 s_is_statement (dA (dVar 2) (dA (dVar 1) dA0))))))
def d_is_block_3 (s_is_statement : List PD → (Rs → Prop) → Prop) : DS := (dCut (dIf (dOr (dNot (dTst (dIsi "tuple" (dVar 0)))) (dOr (dTst (dBin oGt (dUn uLen (dVar 0)) (dC (.int 20)))) (dTst (dBin oGt (dVar 1) (dC (.int 6)))))) (d_is_block_1 s_is_statement) dNil) (d_is_block_2 s_is_statement))
abbrev d_is_block (s_is_statement : List PD → (Rs → Prop) → Prop) : DS := (d_is_block_3 s_is_statement)
abbrev St_is_block : Stmt := topS 12
theorem sc_is_block : FnScope ["value", "depth", "statement"] ["value", "depth"] (defScope St_is_block) := ⟨rfl, rfl, rfl, by decide +kernel, rfl, by decide +kernel, by decide +kernel⟩
theorem ok_is_block {f : Addr} {fd : FuncData} {k : Nat} (Fn : L2.Fun K "is_block" "is_block" St_is_block f fd) (n_isinstance : mg "isinstance" = none) (n_tuple : mg "tuple" = none) (n_len : mg "len" = none) (n_all : mg "all" = none) {t_MAX_STATEMENTS : Tok} (m_MAX_STATEMENTS : mg "MAX_STATEMENTS" = some (.int (20) t_MAX_STATEMENTS)) {t_MAX_BLOCK_DEPTH : Tok} (m_MAX_BLOCK_DEPTH : mg "MAX_BLOCK_DEPTH" = some (.int (6) t_MAX_BLOCK_DEPTH)) {s_is_statement : List PD → (Rs → Prop) → Prop} (C_is_statement : Cal P w K mg base "is_statement" k (Pm K 2 s_is_statement)) {sp : List PD → (Rs → Prop) → Prop} (hs : ∀ ds Ψ, sp ds Ψ → (d_is_block s_is_statement) (env0 ["value", "depth", "statement"] ds) (post0 Ψ)) : FnOk P w K mg base CX0 (k + 1) f fd ["value", "depth"] (Pm K 2 sp) := by
  have nd := sc_is_block.nd
  refine okR0 (body := (d_is_block s_is_statement)) Fn sc_is_block (fun cdv A outer s H E hr => ?_) fun ds Ψ _ h => hs ds Ψ h
  have hu := hr.units
  exact (rss_cut (rs_if (rt_w (rw_or (rt_not (rt_val (re_isi n_isinstance n_tuple boot_tuple (re_var (i := 0))))) (rw_or (rt_cmp op_gt (rop_cmp (g := fun i j => decide (j < i))) (re_len n_len (re_var (i := 0))) (re_gint m_MAX_STATEMENTS)) (rw_or1 (rt_cmp op_gt (rop_cmp (g := fun i j => decide (j < i))) (re_var (i := 1)) (re_gint m_MAX_BLOCK_DEPTH)))))) (rss_one (rs_ret re_bl)) rss_nil) (rss_one (rs_ret (re_all n_all (re_lcN (i := 2) (ri_val (re_var (i := 0))) (fun _ => (re_call C_is_statement hr (ra_cons (re_var (i := 2)) (ra_cons (re_var (i := 1)) ra_nil)))))))))
/-! is_well_formed: 0 value, 1 words, 2 entry -/
def d_is_well_formed_1 (s_is_block : List PD → (Rs → Prop) → Prop) (s_is_word : List PD → (Rs → Prop) → Prop) : DS := (dRet (dC (.bool false)))
def d_is_well_formed_2 (s_is_block : List PD → (Rs → Prop) → Prop) (s_is_word : List PD → (Rs → Prop) → Prop) : DS := (dRet (dC (.bool false)))
def d_is_well_formed_3 (s_is_block : List PD → (Rs → Prop) → Prop) (s_is_word : List PD → (Rs → Prop) → Prop) : DS := (dRet (dC (.bool false)))
def d_is_well_formed_4 (s_is_block : List PD → (Rs → Prop) → Prop) (s_is_word : List PD → (Rs → Prop) → Prop) : DS := (dRet (dC (.bool false)))
def d_is_well_formed_5 (s_is_block : List PD → (Rs → Prop) → Prop) (s_is_word : List PD → (Rs → Prop) → Prop) : DS := (dExp (dApp (dVar 1) (dBin oIx (dVar 2) (dC (.int 0)))))
def d_is_well_formed_6 (s_is_block : List PD → (Rs → Prop) → Prop) (s_is_word : List PD → (Rs → Prop) → Prop) : DS := (dCut (dIf (dNot (dTst (dCall 2 s_is_block (dA (dBin oIx (dVar 2) (dC (.int 1))) (dA (dC (.int 1)) dA0))))) (d_is_well_formed_4 s_is_block s_is_word) dNil) (d_is_well_formed_5 s_is_block s_is_word))
def d_is_well_formed_7 (s_is_block : List PD → (Rs → Prop) → Prop) (s_is_word : List PD → (Rs → Prop) → Prop) : DS := (dCut (dIf (dOr (dNot (dTst (dIsi "tuple" (dVar 2)))) (dOr (dTst (dBin oNe (dUn uLen (dVar 2)) (dC (.int 2)))) (dOr (dNot (dTst (dCall 1 s_is_word (dA (dBin oIx (dVar 2) (dC (.int 0))) dA0)))) (dTst (dBin (oIn false) (dBin oIx (dVar 2) (dC (.int 0))) (dVar 1)))))) (d_is_well_formed_3 s_is_block s_is_word) dNil) (d_is_well_formed_6 s_is_block s_is_word))
def d_is_well_formed_8 (s_is_block : List PD → (Rs → Prop) → Prop) (s_is_word : List PD → (Rs → Prop) → Prop) : DS := (dRet (dC (.bool true)))
def d_is_well_formed_9 (s_is_block : List PD → (Rs → Prop) → Prop) (s_is_word : List PD → (Rs → Prop) → Prop) : DS := (dCut (dFor (gNm 2) (iVal (dBin oIx (dVar 0) (dC (.int 1)))) (d_is_well_formed_7 s_is_block s_is_word)) (d_is_well_formed_8 s_is_block s_is_word))
def d_is_well_formed_10 (s_is_block : List PD → (Rs → Prop) → Prop) (s_is_word : List PD → (Rs → Prop) → Prop) : DS := (dSeq (dSet false 1 (dLst dA0)) (d_is_well_formed_9 s_is_block s_is_word))
def d_is_well_formed_11 (s_is_block : List PD → (Rs → Prop) → Prop) (s_is_word : List PD → (Rs → Prop) → Prop) : DS := (dCut (dIf (dOr (dNot (dTst (dIsi "tuple" (dBin oIx (dVar 0) (dC (.int 1)))))) (dTst (dBin oGt (dUn uLen (dBin oIx (dVar 0) (dC (.int 1)))) (dC (.int 6))))) (d_is_well_formed_2 s_is_block s_is_word) dNil) (d_is_well_formed_10 s_is_block s_is_word))
def d_is_well_formed_12 (s_is_block : List PD → (Rs → Prop) → Prop) (s_is_word : List PD → (Rs → Prop) → Prop) : DS := (dCut (dIf (dOr (dNot (dTst (dIsi "tuple" (dVar 0)))) (dOr (dTst (dBin oNe (dUn uLen (dVar 0)) (dC (.int 2)))) (dNot (dTst (dCall 2 s_is_block (dA (dBin oIx (dVar 0) (dC (.int 0))) (dA (dC (.int 1)) dA0))))))) (d_is_well_formed_1 s_is_block s_is_word) dNil) (d_is_well_formed_11 s_is_block s_is_word))
abbrev d_is_well_formed (s_is_block : List PD → (Rs → Prop) → Prop) (s_is_word : List PD → (Rs → Prop) → Prop) : DS := (d_is_well_formed_12 s_is_block s_is_word)
abbrev St_is_well_formed : Stmt := topS 13
theorem sc_is_well_formed : FnScope ["value", "words", "entry"] ["value"] (defScope St_is_well_formed) := ⟨rfl, rfl, rfl, by decide +kernel, rfl, by decide +kernel, by decide +kernel⟩
theorem ok_is_well_formed {f : Addr} {fd : FuncData} {k : Nat} (Fn : L2.Fun K "is_well_formed" "is_well_formed" St_is_well_formed f fd) (n_isinstance : mg "isinstance" = none) (n_tuple : mg "tuple" = none) (n_len : mg "len" = none) {t_MAX_DEFS : Tok} (m_MAX_DEFS : mg "MAX_DEFS" = some (.int (6) t_MAX_DEFS)) {s_is_block : List PD → (Rs → Prop) → Prop} {s_is_word : List PD → (Rs → Prop) → Prop} (C_is_block : Cal P w K mg base "is_block" k (Pm K 2 s_is_block)) (C_is_word : Cal P w K mg base "is_word" k (Pm K 1 s_is_word)) {sp : List PD → (Rs → Prop) → Prop} (hs : ∀ ds Ψ, sp ds Ψ → (d_is_well_formed s_is_block s_is_word) (env0 ["value", "words", "entry"] ds) (post0 Ψ)) : FnOk P w K mg base CX0 (k + 1) f fd ["value"] (Pm K 1 sp) := by
  have nd := sc_is_well_formed.nd
  refine okR0 (body := (d_is_well_formed s_is_block s_is_word)) Fn sc_is_well_formed (fun cdv A outer s H E hr => ?_) fun ds Ψ _ h => hs ds Ψ h
  have hu := hr.units
  exact (rss_cut (rs_if (rt_w (rw_or (rt_not (rt_val (re_isi n_isinstance n_tuple boot_tuple (re_var (i := 0))))) (rw_or (rt_cmp (opr_ne hu) rop_ne (re_len n_len (re_var (i := 0))) re_int) (rw_or1 (rt_not (rt_val (re_call C_is_block hr (ra_cons (re_ix (ixr hu) rop_ix (re_var (i := 0)) re_int) (ra_cons re_int ra_nil))))))))) (rss_one (rs_ret re_bl)) rss_nil) (rss_cut (rs_if (rt_w (rw_or (rt_not (rt_val (re_isi n_isinstance n_tuple boot_tuple (re_ix (ixr hu) rop_ix (re_var (i := 0)) re_int)))) (rw_or1 (rt_cmp op_gt (rop_cmp (g := fun i j => decide (j < i))) (re_len n_len (re_ix (ixr hu) rop_ix (re_var (i := 0)) re_int)) (re_gint m_MAX_DEFS))))) (rss_one (rs_ret re_bl)) rss_nil) (rss_seq (rs_set (i := 1) false (re_lst ra_nil)) (rss_cut (rs_for (ri_val (re_ix (ixr hu) rop_ix (re_var (i := 0)) re_int)) (rg_name (i := 2)) (rss_cut (rs_if (rt_w (rw_or (rt_not (rt_val (re_isi n_isinstance n_tuple boot_tuple (re_var (i := 2))))) (rw_or (rt_cmp (opr_ne hu) rop_ne (re_len n_len (re_var (i := 2))) re_int) (rw_or (rt_not (rt_val (re_call C_is_word hr (ra_cons (re_ix (ixr hu) rop_ix (re_var (i := 2)) re_int) ra_nil)))) (rw_or1 (rt_cmp (opr_in hu) rop_in (re_ix (ixr hu) rop_ix (re_var (i := 2)) re_int) (re_var (i := 1)))))))) (rss_one (rs_ret re_bl)) rss_nil) (rss_cut (rs_if (rt_not (rt_val (re_call C_is_block hr (ra_cons (re_ix (ixr hu) rop_ix (re_var (i := 2)) re_int) (ra_cons re_int ra_nil))))) (rss_one (rs_ret re_bl)) rss_nil) (rss_one (rs_expr (re_append (re_var (i := 1)) (re_ix (ixr hu) rop_ix (re_var (i := 2)) re_int))))))) (rss_one (rs_ret re_bl))))))
/-! first_invalid: 0 block, 1 defs, 2 path, 3 in_loop, 4 index, 5 statement, 6 here, 7 part, 8 found -/
def d_first_invalid_1 (s_first_invalid : List PD → (Rs → Prop) → Prop) : DS := (dRet (dTup (dA (dC (.str (PySem.Str.ofString "leave"))) (dA (dVar 6) dA0))))
def d_first_invalid_2 (s_first_invalid : List PD → (Rs → Prop) → Prop) : DS := (dRet (dTup (dA (dC (.str (PySem.Str.ofString "def"))) (dA (dVar 6) dA0))))
def d_first_invalid_3 (s_first_invalid : List PD → (Rs → Prop) → Prop) : DS := (dRet (dVar 8))
def d_first_invalid_4 (s_first_invalid : List PD → (Rs → Prop) → Prop) : DS := (dIf (dTst (dBin oNotN (dVar 8) (dC .none))) (d_first_invalid_3 s_first_invalid) dNil)
def d_first_invalid_5 (s_first_invalid : List PD → (Rs → Prop) → Prop) : DS := (dSeq (dSet true 8 (dCall 4 s_first_invalid (dA (dBin oIx (dVar 5) (dVar 7)) (dA (dVar 1) (dA (dBin oAdd (dVar 6) (dTup (dA (dVar 7) dA0))) (dA (dOrV (dVar 3) (dBin oEq (dBin oIx (dVar 5) (dC (.int 0))) (dC (.str (PySem.Str.ofString "loop"))))) dA0)))))) (d_first_invalid_4 s_first_invalid))
def d_first_invalid_6 (s_first_invalid : List PD → (Rs → Prop) → Prop) : DS := (dFor (gNm 7) (iVal (dKGet partsV (dBin oIx (dVar 5) (dC (.int 0))) (dTup dA0))) (d_first_invalid_5 s_first_invalid))
def d_first_invalid_7 (s_first_invalid : List PD → (Rs → Prop) → Prop) : DS := (dCut (dIf (dAnd (dTst (dBin oEq (dBin oIx (dVar 5) (dC (.int 0))) (dC (.str (PySem.Str.ofString "call"))))) (dTst (dBin (oIn true) (dBin oIx (dVar 5) (dC (.int 1))) (dVar 1)))) (d_first_invalid_2 s_first_invalid) dNil) (d_first_invalid_6 s_first_invalid))
def d_first_invalid_8 (s_first_invalid : List PD → (Rs → Prop) → Prop) : DS := (dCut (dIf (dAnd (dTst (dBin oEq (dBin oIx (dVar 5) (dC (.int 0))) (dC (.str (PySem.Str.ofString "leave"))))) (dNot (dTru (dVar 3)))) (d_first_invalid_1 s_first_invalid) dNil) (d_first_invalid_7 s_first_invalid))
def d_first_invalid_9 (s_first_invalid : List PD → (Rs → Prop) → Prop) : DS := (dSeq (dSet true 6 (dBin oAdd (dVar 2) (dTup (dA (dVar 4) dA0)))) (d_first_invalid_8 s_first_invalid))
def d_first_invalid_10 (s_first_invalid : List PD → (Rs → Prop) → Prop) : DS := (dRet (dC .none))
def d_first_invalid_11 (s_first_invalid : List PD → (Rs → Prop) → Prop) : DS := (dCut (dFor (gPr 4 5) (iEnu (dVar 0)) (d_first_invalid_9 s_first_invalid)) (d_first_invalid_10 s_first_invalid))
abbrev d_first_invalid (s_first_invalid : List PD → (Rs → Prop) → Prop) : DS := (d_first_invalid_11 s_first_invalid)
abbrev St_first_invalid : Stmt := topS 14
theorem sc_first_invalid : FnScope ["block", "defs", "path", "in_loop", "index", "statement", "here", "part", "found"] ["block", "defs", "path", "in_loop"] (defScope St_first_invalid) := ⟨rfl, rfl, rfl, by decide +kernel, rfl, by decide +kernel, by decide +kernel⟩
theorem ok_first_invalid {f : Addr} {fd : FuncData} {k : Nat} (Fn : L2.Fun K "first_invalid" "first_invalid" St_first_invalid f fd) (n_enumerate : mg "enumerate" = none) {d_BLOCK_PARTS : Addr} {e_BLOCK_PARTS : Array DictEntry} {n_BLOCK_PARTS : Nat} (m_BLOCK_PARTS : mg "BLOCK_PARTS" = some (.ref d_BLOCK_PARTS)) (D_BLOCK_PARTS : KDict K w d_BLOCK_PARTS e_BLOCK_PARTS n_BLOCK_PARTS) (v_BLOCK_PARTS : ∀ z, (∃ u v d, findBy Value.isStrOf e_BLOCK_PARTS z = some u ∧ RelV v u ∧ (∀ G, Rp K G v d) ∧ partsV z = some d) ∨ (findBy Value.isStrOf e_BLOCK_PARTS z = none ∧ partsV z = none)) {s_first_invalid : List PD → (Rs → Prop) → Prop} (C_first_invalid : Cal P w K mg base "first_invalid" k (Pm K 4 s_first_invalid)) {sp : List PD → (Rs → Prop) → Prop} (hs : ∀ ds Ψ, sp ds Ψ → (d_first_invalid s_first_invalid) (env0 ["block", "defs", "path", "in_loop", "index", "statement", "here", "part", "found"] ds) (post0 Ψ)) : FnOk P w K mg base CX0 (k + 1) f fd ["block", "defs", "path", "in_loop"] (Pm K 4 sp) := by
  have nd := sc_first_invalid.nd
  refine okR0 (body := (d_first_invalid s_first_invalid)) Fn sc_first_invalid (fun cdv A outer s H E hr => ?_) fun ds Ψ _ h => hs ds Ψ h
  have hu := hr.units
  exact (rss_cut (rs_for (ri_enum n_enumerate (re_var (i := 0)) (fun h => xi_en n_enumerate h)) (rg_pair (i := 4) (j := 5)) (rss_seq (rs_set (i := 6) true (re_bin opr_add rop_add (re_var (i := 2)) (re_tup (ra_cons (re_var (i := 4)) ra_nil)))) (rss_cut (rs_if (rt_w (rw_and (rt_cmp (opr_eq hu) rop_eq (re_ix (ixr hu) rop_ix (re_var (i := 5)) re_int) re_str) (rw_and1 (rt_not (rt_tru (re_var (i := 3))))))) (rss_one (rs_ret (re_tup (ra_cons re_str (ra_cons (re_var (i := 6)) ra_nil))))) rss_nil) (rss_cut (rs_if (rt_w (rw_and (rt_cmp (opr_eq hu) rop_eq (re_ix (ixr hu) rop_ix (re_var (i := 5)) re_int) re_str) (rw_and1 (rt_cmp (opr_nin hu) rop_in (re_ix (ixr hu) rop_ix (re_var (i := 5)) re_int) (re_var (i := 1)))))) (rss_one (rs_ret (re_tup (ra_cons re_str (ra_cons (re_var (i := 6)) ra_nil))))) rss_nil) (rss_one (rs_for (ri_val (re_kgetV partsV m_BLOCK_PARTS D_BLOCK_PARTS v_BLOCK_PARTS (re_ix (ixr hu) rop_ix (re_var (i := 5)) re_int) (re_tup ra_nil))) (rg_name (i := 7)) (rss_seq (rs_set (i := 8) true (re_call C_first_invalid hr (ra_cons (re_ix (ixr hu) rop_ix (re_var (i := 5)) (re_var (i := 7))) (ra_cons (re_var (i := 1)) (ra_cons (re_bin opr_add rop_add (re_var (i := 6)) (re_tup (ra_cons (re_var (i := 7)) ra_nil))) (ra_cons (re_orV (re_var (i := 3)) (re_one (re_cmp (opr_eq hu) rop_eq (re_ix (ixr hu) rop_ix (re_var (i := 5)) re_int) re_str))) ra_nil)))))) (rss_one (rs_if (rt_cmp opr_notN rop_notN (re_var (i := 8)) re_non) (rss_one (rs_ret (re_var (i := 8)))) rss_nil))))))))) (rss_one (rs_ret re_non)))
/-! called_words: 0 block, 1 found, 2 statement, 3 part -/
def d_called_words_1 (s_called_words : List PD → (Rs → Prop) → Prop) : DS := (dExp (dApp (dVar 1) (dBin oIx (dVar 2) (dC (.int 1)))))
def d_called_words_2 (s_called_words : List PD → (Rs → Prop) → Prop) : DS := (dExp (dExt (dVar 1) (dCall 1 s_called_words (dA (dBin oIx (dVar 2) (dVar 3)) dA0))))
def d_called_words_3 (s_called_words : List PD → (Rs → Prop) → Prop) : DS := (dFor (gNm 3) (iVal (dKGet partsV (dBin oIx (dVar 2) (dC (.int 0))) (dTup dA0))) (d_called_words_2 s_called_words))
def d_called_words_4 (s_called_words : List PD → (Rs → Prop) → Prop) : DS := (dCut (dIf (dTst (dBin oEq (dBin oIx (dVar 2) (dC (.int 0))) (dC (.str (PySem.Str.ofString "call"))))) (d_called_words_1 s_called_words) dNil) (d_called_words_3 s_called_words))
def d_called_words_5 (s_called_words : List PD → (Rs → Prop) → Prop) : DS := (dRet (dVar 1))
def d_called_words_6 (s_called_words : List PD → (Rs → Prop) → Prop) : DS := (dCut (dFor (gNm 2) (iVal (dVar 0)) (d_called_words_4 s_called_words)) (d_called_words_5 s_called_words))
def d_called_words_7 (s_called_words : List PD → (Rs → Prop) → Prop) : DS := (dSeq (dSet false 1 (dLst dA0)) (d_called_words_6 s_called_words))
abbrev d_called_words (s_called_words : List PD → (Rs → Prop) → Prop) : DS := (d_called_words_7 s_called_words)
abbrev St_called_words : Stmt := topS 15
theorem sc_called_words : FnScope ["block", "found", "statement", "part"] ["block"] (defScope St_called_words) := ⟨rfl, rfl, rfl, by decide +kernel, rfl, by decide +kernel, by decide +kernel⟩
theorem ok_called_words {f : Addr} {fd : FuncData} {k : Nat} (Fn : L2.Fun K "called_words" "called_words" St_called_words f fd) {d_BLOCK_PARTS : Addr} {e_BLOCK_PARTS : Array DictEntry} {n_BLOCK_PARTS : Nat} (m_BLOCK_PARTS : mg "BLOCK_PARTS" = some (.ref d_BLOCK_PARTS)) (D_BLOCK_PARTS : KDict K w d_BLOCK_PARTS e_BLOCK_PARTS n_BLOCK_PARTS) (v_BLOCK_PARTS : ∀ z, (∃ u v d, findBy Value.isStrOf e_BLOCK_PARTS z = some u ∧ RelV v u ∧ (∀ G, Rp K G v d) ∧ partsV z = some d) ∨ (findBy Value.isStrOf e_BLOCK_PARTS z = none ∧ partsV z = none)) {s_called_words : List PD → (Rs → Prop) → Prop} (C_called_words : Cal P w K mg base "called_words" k (Pm K 1 s_called_words)) {sp : List PD → (Rs → Prop) → Prop} (hs : ∀ ds Ψ, sp ds Ψ → (d_called_words s_called_words) (env0 ["block", "found", "statement", "part"] ds) (post0 Ψ)) : FnOk P w K mg base CX0 (k + 1) f fd ["block"] (Pm K 1 sp) := by
  have nd := sc_called_words.nd
  refine okR0 (body := (d_called_words s_called_words)) Fn sc_called_words (fun cdv A outer s H E hr => ?_) fun ds Ψ _ h => hs ds Ψ h
  have hu := hr.units
  exact (rss_seq (rs_set (i := 1) false (re_lst ra_nil)) (rss_cut (rs_for (ri_val (re_var (i := 0))) (rg_name (i := 2)) (rss_cut (rs_if (rt_cmp (opr_eq hu) rop_eq (re_ix (ixr hu) rop_ix (re_var (i := 2)) re_int) re_str) (rss_one (rs_expr (re_append (re_var (i := 1)) (re_ix (ixr hu) rop_ix (re_var (i := 2)) re_int)))) rss_nil) (rss_one (rs_for (ri_val (re_kgetV partsV m_BLOCK_PARTS D_BLOCK_PARTS v_BLOCK_PARTS (re_ix (ixr hu) rop_ix (re_var (i := 2)) re_int) (re_tup ra_nil))) (rg_name (i := 3)) (rss_one (rs_expr (re_extend (re_var (i := 1)) (re_call C_called_words hr (ra_cons (re_ix (ixr hu) rop_ix (re_var (i := 2)) (re_var (i := 3))) ra_nil))))))))) (rss_one (rs_ret (re_var (i := 1))))))
/-! calls_itself: 0 word, 1 defs, 2 seen, 3 pending, 4 other -/
def d_calls_itself_1 (s_called_words : List PD → (Rs → Prop) → Prop) : DS := (dExp (dExt (dVar 3) (dCall 1 s_called_words (dA (dBin oIx (dVar 1) (dVar 4)) dA0))))
def d_calls_itself_2 (s_called_words : List PD → (Rs → Prop) → Prop) : DS := (dSeq (dExp (dApp (dVar 2) (dVar 4))) (d_calls_itself_1 s_called_words))
def d_calls_itself_3 (s_called_words : List PD → (Rs → Prop) → Prop) : DS := (dIf (dTst (dBin (oIn true) (dVar 4) (dVar 2))) (d_calls_itself_2 s_called_words) dNil)
def d_calls_itself_4 (s_called_words : List PD → (Rs → Prop) → Prop) : DS := (dSeq (dSet true 4 (dPop (dVar 3))) (d_calls_itself_3 s_called_words))
def d_calls_itself_5 (s_called_words : List PD → (Rs → Prop) → Prop) : DS := (dRet (dBin (oIn false) (dVar 0) (dVar 2)))
def d_calls_itself_6 (s_called_words : List PD → (Rs → Prop) → Prop) : DS := (dCut (dWhl (dTst (dBin oNe (dVar 3) (dLst dA0))) (d_calls_itself_4 s_called_words)) (d_calls_itself_5 s_called_words))
def d_calls_itself_7 (s_called_words : List PD → (Rs → Prop) → Prop) : DS := (dSeq (dSet false 3 (dCall 1 s_called_words (dA (dBin oIx (dVar 1) (dVar 0)) dA0))) (d_calls_itself_6 s_called_words))
def d_calls_itself_8 (s_called_words : List PD → (Rs → Prop) → Prop) : DS := (dSeq (dSet false 2 (dLst dA0)) (d_calls_itself_7 s_called_words))
abbrev d_calls_itself (s_called_words : List PD → (Rs → Prop) → Prop) : DS := (d_calls_itself_8 s_called_words)
abbrev St_calls_itself : Stmt := topS 16
theorem sc_calls_itself : FnScope ["word", "defs", "seen", "pending", "other"] ["word", "defs"] (defScope St_calls_itself) := ⟨rfl, rfl, rfl, by decide +kernel, rfl, by decide +kernel, by decide +kernel⟩
theorem ok_calls_itself {f : Addr} {fd : FuncData} {k : Nat} (Fn : L2.Fun K "calls_itself" "calls_itself" St_calls_itself f fd) {s_called_words : List PD → (Rs → Prop) → Prop} (C_called_words : Cal P w K mg base "called_words" k (Pm K 1 s_called_words)) {sp : List PD → (Rs → Prop) → Prop} (hs : ∀ ds Ψ, sp ds Ψ → (d_calls_itself s_called_words) (env0 ["word", "defs", "seen", "pending", "other"] ds) (post0 Ψ)) : FnOk P w K mg base CX0 (k + 1) f fd ["word", "defs"] (Pm K 2 sp) := by
  have nd := sc_calls_itself.nd
  refine okR0 (body := (d_calls_itself s_called_words)) Fn sc_calls_itself (fun cdv A outer s H E hr => ?_) fun ds Ψ _ h => hs ds Ψ h
  have hu := hr.units
  exact (rss_seq (rs_set (i := 2) false (re_lst ra_nil)) (rss_seq (rs_set (i := 3) false (re_call C_called_words hr (ra_cons (re_ix (ixr hu) rop_ix (re_var (i := 1)) (re_var (i := 0))) ra_nil))) (rss_cut (rs_while (rt_cmp (opr_ne hu) rop_ne (re_var (i := 3)) (re_lst ra_nil)) (rss_seq (rs_set (i := 4) true (re_pop (re_var (i := 3)))) (rss_one (rs_if (rt_cmp (opr_nin hu) rop_in (re_var (i := 4)) (re_var (i := 2))) (rss_seq (rs_expr (re_append (re_var (i := 2)) (re_var (i := 4)))) (rss_one (rs_expr (re_extend (re_var (i := 3)) (re_call C_called_words hr (ra_cons (re_ix (ixr hu) rop_ix (re_var (i := 1)) (re_var (i := 4))) ra_nil)))))) rss_nil)))) (rss_one (rs_ret (re_cmp (opr_in hu) rop_in (re_var (i := 0)) (re_var (i := 2))))))))
/-! program_error: 0 value, 1 defs, 2 found, 3 index, 4 entry, 5 word -/
def d_program_error_1 (s_is_well_formed : List PD → (Rs → Prop) → Prop) (s_first_invalid : List PD → (Rs → Prop) → Prop) (s_calls_itself : List PD → (Rs → Prop) → Prop) : DS := (dRet (dC (.str (PySem.Str.ofString "form"))))
def d_program_error_2 (s_is_well_formed : List PD → (Rs → Prop) → Prop) (s_first_invalid : List PD → (Rs → Prop) → Prop) (s_calls_itself : List PD → (Rs → Prop) → Prop) : DS := (dSet true 2 (dCall 4 s_first_invalid (dA (dBin oIx (dVar 4) (dC (.int 1))) (dA (dFy (dVar 1)) (dA (dTup (dA (dVar 3) dA0)) (dA (dC (.bool false)) dA0))))))
def d_program_error_3 (s_is_well_formed : List PD → (Rs → Prop) → Prop) (s_first_invalid : List PD → (Rs → Prop) → Prop) (s_calls_itself : List PD → (Rs → Prop) → Prop) : DS := (dIf (dTst (dBin oIsN (dVar 2) (dC .none))) (d_program_error_2 s_is_well_formed s_first_invalid s_calls_itself) dNil)
def d_program_error_4 (s_is_well_formed : List PD → (Rs → Prop) → Prop) (s_first_invalid : List PD → (Rs → Prop) → Prop) (s_calls_itself : List PD → (Rs → Prop) → Prop) : DS := (dRet (dVar 2))
def d_program_error_5 (s_is_well_formed : List PD → (Rs → Prop) → Prop) (s_first_invalid : List PD → (Rs → Prop) → Prop) (s_calls_itself : List PD → (Rs → Prop) → Prop) : DS := (dRet (dTup (dA (dC (.str (PySem.Str.ofString "ring"))) (dA (dVar 5) dA0))))
def d_program_error_6 (s_is_well_formed : List PD → (Rs → Prop) → Prop) (s_first_invalid : List PD → (Rs → Prop) → Prop) (s_calls_itself : List PD → (Rs → Prop) → Prop) : DS := (dIf (dTst (dCall 2 s_calls_itself (dA (dVar 5) (dA (dFy (dVar 1)) dA0)))) (d_program_error_5 s_is_well_formed s_first_invalid s_calls_itself) dNil)
def d_program_error_7 (s_is_well_formed : List PD → (Rs → Prop) → Prop) (s_first_invalid : List PD → (Rs → Prop) → Prop) (s_calls_itself : List PD → (Rs → Prop) → Prop) : DS := (dRet (dC .none))
def d_program_error_8 (s_is_well_formed : List PD → (Rs → Prop) → Prop) (s_first_invalid : List PD → (Rs → Prop) → Prop) (s_calls_itself : List PD → (Rs → Prop) → Prop) : DS := (dCut (dFor (gNm 5) (iKeys (dVar 1)) (d_program_error_6 s_is_well_formed s_first_invalid s_calls_itself)) (d_program_error_7 s_is_well_formed s_first_invalid s_calls_itself))
def d_program_error_9 (s_is_well_formed : List PD → (Rs → Prop) → Prop) (s_first_invalid : List PD → (Rs → Prop) → Prop) (s_calls_itself : List PD → (Rs → Prop) → Prop) : DS := (dCut (dIf (dTst (dBin oNotN (dVar 2) (dC .none))) (d_program_error_4 s_is_well_formed s_first_invalid s_calls_itself) dNil) (d_program_error_8 s_is_well_formed s_first_invalid s_calls_itself))
def d_program_error_10 (s_is_well_formed : List PD → (Rs → Prop) → Prop) (s_first_invalid : List PD → (Rs → Prop) → Prop) (s_calls_itself : List PD → (Rs → Prop) → Prop) : DS := (dCut (dFor (gPr 3 4) (iEnu (dBin oIx (dUnb (dVar 0)) (dC (.int 1)))) (d_program_error_3 s_is_well_formed s_first_invalid s_calls_itself)) (d_program_error_9 s_is_well_formed s_first_invalid s_calls_itself))
def d_program_error_11 (s_is_well_formed : List PD → (Rs → Prop) → Prop) (s_first_invalid : List PD → (Rs → Prop) → Prop) (s_calls_itself : List PD → (Rs → Prop) → Prop) : DS := (dSeq (dSet true 2 (dCall 4 s_first_invalid (dA (dBin oIx (dUnb (dVar 0)) (dC (.int 0))) (dA (dFy (dVar 1)) (dA (dTup (dA (dUn uNeg (dC (.int 1))) dA0)) (dA (dC (.bool false)) dA0)))))) (d_program_error_10 s_is_well_formed s_first_invalid s_calls_itself))
def d_program_error_12 (s_is_well_formed : List PD → (Rs → Prop) → Prop) (s_first_invalid : List PD → (Rs → Prop) → Prop) (s_calls_itself : List PD → (Rs → Prop) → Prop) : DS := (dSeq (dSet true 1 (dUn uDctT (dBin oIx (dVar 0) (dC (.int 1))))) (d_program_error_11 s_is_well_formed s_first_invalid s_calls_itself))
def d_program_error_13 (s_is_well_formed : List PD → (Rs → Prop) → Prop) (s_first_invalid : List PD → (Rs → Prop) → Prop) (s_calls_itself : List PD → (Rs → Prop) → Prop) : DS := (dCut (dIf (dNot (dTst (dCall 1 s_is_well_formed (dA (dUnb (dVar 0)) dA0)))) (d_program_error_1 s_is_well_formed s_first_invalid s_calls_itself) dNil) (d_program_error_12 s_is_well_formed s_first_invalid s_calls_itself))
abbrev d_program_error (s_is_well_formed : List PD → (Rs → Prop) → Prop) (s_first_invalid : List PD → (Rs → Prop) → Prop) (s_calls_itself : List PD → (Rs → Prop) → Prop) : DS := (d_program_error_13 s_is_well_formed s_first_invalid s_calls_itself)
abbrev St_program_error : Stmt := topS 17
theorem sc_program_error : FnScope ["value", "defs", "found", "index", "entry", "word"] ["value"] (defScope St_program_error) := ⟨rfl, rfl, rfl, by decide +kernel, rfl, by decide +kernel, by decide +kernel⟩
theorem ok_program_error {f : Addr} {fd : FuncData} {k : Nat} (Fn : L2.Fun K "program_error" "program_error" St_program_error f fd) (n_dict : mg "dict" = none) (n_enumerate : mg "enumerate" = none) {s_is_well_formed : List PD → (Rs → Prop) → Prop} {s_first_invalid : List PD → (Rs → Prop) → Prop} {s_calls_itself : List PD → (Rs → Prop) → Prop} (C_is_well_formed : Cal P w K mg base "is_well_formed" k (Pm K 1 s_is_well_formed)) (C_first_invalid : Cal P w K mg base "first_invalid" k (Pm K 4 s_first_invalid)) (C_calls_itself : Cal P w K mg base "calls_itself" k (Pm K 2 s_calls_itself)) {sp : List PD → (Rs → Prop) → Prop} (hs : ∀ ds Ψ, sp ds Ψ → (d_program_error s_is_well_formed s_first_invalid s_calls_itself) (env0 ["value", "defs", "found", "index", "entry", "word"] ds) (post0 Ψ)) : FnOk P w K mg base CX0 (k + 1) f fd ["value"] (Pm K 1 sp) := by
  have nd := sc_program_error.nd
  refine okR0 (body := (d_program_error s_is_well_formed s_first_invalid s_calls_itself)) Fn sc_program_error (fun cdv A outer s H E hr => ?_) fun ds Ψ _ h => hs ds Ψ h
  have hu := hr.units
  exact (rss_cut (rs_if (rt_not (rt_val (re_call C_is_well_formed hr (ra_cons (re_unb (re_var (i := 0))) ra_nil)))) (rss_one (rs_ret re_str)) rss_nil) (rss_seq (rs_set (i := 1) true (re_dictofT n_dict (re_ix (ixr hu) rop_ix (re_var (i := 0)) re_int))) (rss_seq (rs_set (i := 2) true (re_call C_first_invalid hr (ra_cons (re_ix (ixr hu) rop_ix (re_unb (re_var (i := 0))) re_int) (ra_cons (re_fy (re_var (i := 1))) (ra_cons (re_tup (ra_cons (re_neg re_int) ra_nil)) (ra_cons re_bl ra_nil)))))) (rss_cut (rs_for (ri_enum n_enumerate (re_ix (ixr hu) rop_ix (re_unb (re_var (i := 0))) re_int) (fun h => xi_en n_enumerate h)) (rg_pair (i := 3) (j := 4)) (rss_one (rs_if (rt_cmp opr_isN rop_isN (re_var (i := 2)) re_non) (rss_one (rs_set (i := 2) true (re_call C_first_invalid hr (ra_cons (re_ix (ixr hu) rop_ix (re_var (i := 4)) re_int) (ra_cons (re_fy (re_var (i := 1))) (ra_cons (re_tup (ra_cons (re_var (i := 3)) ra_nil)) (ra_cons re_bl ra_nil))))))) rss_nil))) (rss_cut (rs_if (rt_cmp opr_notN rop_notN (re_var (i := 2)) re_non) (rss_one (rs_ret (re_var (i := 2)))) rss_nil) (rss_cut (rs_for (ri_dict (re_var (i := 1))) (rg_name (i := 5)) (rss_one (rs_if (rt_val (re_call C_calls_itself hr (ra_cons (re_var (i := 5)) (ra_cons (re_fy (re_var (i := 1))) ra_nil)))) (rss_one (rs_ret (re_tup (ra_cons re_str (ra_cons (re_var (i := 5)) ra_nil))))) rss_nil))) (rss_one (rs_ret re_non))))))))
/-! _law_deep_e: 0 pen, 1 many, 2 found, 3 k, 4 word -/
def d__law_deep_e_1 (s__law_draw : Oc → List PD → (Rs → Oc → Prop) → Prop) : DS := (dSet true 2 (dIfe (dTst (dBin oEq (dCall1 2 s__law_draw (dA (dVar 0) (dA (dC (.int 2)) dA0))) (dC (.int 0)))) (dTup (dA (dVar 4) (dA (dVar 2) (dA (dC (.int 1)) dA0)))) (dTup (dA (dVar 4) (dA (dC (.str (PySem.Str.ofString "x"))) (dA (dVar 2) dA0))))))
def d__law_deep_e_2 (s__law_draw : Oc → List PD → (Rs → Oc → Prop) → Prop) : DS := (dSeq (dSet true 4 (dBin oIx (dLst (dA (dC (.str (PySem.Str.ofString "plus"))) (dA (dC (.str (PySem.Str.ofString "less"))) (dA (dC (.str (PySem.Str.ofString "alike"))) (dA (dC (.str (PySem.Str.ofString "least"))) dA0))))) (dCall1 2 s__law_draw (dA (dVar 0) (dA (dC (.int 4)) dA0))))) (d__law_deep_e_1 s__law_draw))
def d__law_deep_e_3 (s__law_draw : Oc → List PD → (Rs → Oc → Prop) → Prop) : DS := (dRet (dVar 2))
def d__law_deep_e_4 (s__law_draw : Oc → List PD → (Rs → Oc → Prop) → Prop) : DS := (dCut (dFor (gNm 3) (iRng (dVar 1)) (d__law_deep_e_2 s__law_draw)) (d__law_deep_e_3 s__law_draw))
def d__law_deep_e_5 (s__law_draw : Oc → List PD → (Rs → Oc → Prop) → Prop) : DS := (dSeq (dSet true 2 (dCall1 2 s__law_draw (dA (dVar 0) (dA (dC (.int 10)) dA0)))) (d__law_deep_e_4 s__law_draw))
abbrev d__law_deep_e (s__law_draw : Oc → List PD → (Rs → Oc → Prop) → Prop) : DS := (d__law_deep_e_5 s__law_draw)
abbrev St__law_deep_e : Stmt := topS 22
theorem sc__law_deep_e : FnScope ["pen", "many", "found", "k", "word"] ["pen", "many"] (defScope St__law_deep_e) := ⟨rfl, rfl, rfl, by decide +kernel, rfl, by decide +kernel, by decide +kernel⟩
theorem ok__law_deep_e {f : Addr} {fd : FuncData} {k : Nat} (Fn : L2.Fun K "_law_deep_e" "_law_deep_e" St__law_deep_e f fd) (n_range : mg "range" = none) {s__law_draw : Oc → List PD → (Rs → Oc → Prop) → Prop} (C__law_draw : Cal P w K mg base "_law_draw" k (Pm1 K 2 s__law_draw)) {sp : Oc → List PD → (Rs → Oc → Prop) → Prop} (hs : ∀ o ds Ψ, sp o ds Ψ → (d__law_deep_e s__law_draw) (env1 ["pen", "many", "found", "k", "word"] o ds) (post1 Ψ)) : FnOk P w K mg base CX0 (k + 1) f fd ["pen", "many"] (Pm1 K 2 sp) := by
  have nd := sc__law_deep_e.nd
  refine okR1 (body := (d__law_deep_e s__law_draw)) Fn sc__law_deep_e (fun cdv A outer s H E hr => ?_) fun o ds Ψ _ h => hs o ds Ψ h
  have hu := hr.units
  exact (rss_seq (rs_set (i := 2) true (re_call1 C__law_draw hr (ra_cons (re_var (i := 0)) (ra_cons re_int ra_nil)))) (rss_cut (rs_for (ri_range1 n_range (re_var (i := 1))) (rg_name (i := 3)) (rss_seq (rs_set (i := 4) true (re_ix (ixr hu) rop_ix (re_lst (ra_cons re_str (ra_cons re_str (ra_cons re_str (ra_cons re_str ra_nil))))) (re_call1 C__law_draw hr (ra_cons (re_var (i := 0)) (ra_cons re_int ra_nil))))) (rss_one (rs_set (i := 2) true (re_ife (rt_cmp (opr_eq hu) rop_eq (re_call1 C__law_draw hr (ra_cons (re_var (i := 0)) (ra_cons re_int ra_nil))) re_int) (re_tup (ra_cons (re_var (i := 4)) (ra_cons (re_var (i := 2)) (ra_cons re_int ra_nil)))) (re_tup (ra_cons (re_var (i := 4)) (ra_cons re_str (ra_cons (re_var (i := 2)) ra_nil))))))))) (rss_one (rs_ret (re_var (i := 2))))))
/-! _law_deep_block: 0 pen, 1 many, 2 last, 3 found, 4 k, 5 option -/
def d__law_deep_block_1 (s__law_draw : Oc → List PD → (Rs → Oc → Prop) → Prop) : DS := (dSet true 3 (dTup (dA (dTup (dA (dC (.str (PySem.Str.ofString "loop"))) (dA (dVar 3) dA0))) dA0)))
def d__law_deep_block_2 (s__law_draw : Oc → List PD → (Rs → Oc → Prop) → Prop) : DS := (dSet true 3 (dTup (dA (dTup (dA (dC (.str (PySem.Str.ofString "toss"))) (dA (dTup dA0) (dA (dVar 3) dA0)))) dA0)))
def d__law_deep_block_3 (s__law_draw : Oc → List PD → (Rs → Oc → Prop) → Prop) : DS := (dSet true 3 (dTup (dA (dTup (dA (dC (.str (PySem.Str.ofString "set"))) (dA (dC (.str (PySem.Str.ofString "x"))) (dA (dC (.int 1)) dA0)))) (dA (dTup (dA (dC (.str (PySem.Str.ofString "toss"))) (dA (dVar 3) (dA (dTup dA0) dA0)))) dA0))))
def d__law_deep_block_4 (s__law_draw : Oc → List PD → (Rs → Oc → Prop) → Prop) : DS := (dSet true 3 (dTup (dA (dTup (dA (dC (.str (PySem.Str.ofString "if"))) (dA (dC (.str (PySem.Str.ofString "x"))) (dA (dTup dA0) (dA (dVar 3) dA0))))) dA0)))
def d__law_deep_block_5 (s__law_draw : Oc → List PD → (Rs → Oc → Prop) → Prop) : DS := (dIf (dTst (dBin oEq (dVar 5) (dC (.int 2)))) (d__law_deep_block_3 s__law_draw) (d__law_deep_block_4 s__law_draw))
def d__law_deep_block_6 (s__law_draw : Oc → List PD → (Rs → Oc → Prop) → Prop) : DS := (dIf (dTst (dBin oEq (dVar 5) (dC (.int 1)))) (d__law_deep_block_2 s__law_draw) (d__law_deep_block_5 s__law_draw))
def d__law_deep_block_7 (s__law_draw : Oc → List PD → (Rs → Oc → Prop) → Prop) : DS := (dIf (dTst (dBin oEq (dVar 5) (dC (.int 0)))) (d__law_deep_block_1 s__law_draw) (d__law_deep_block_6 s__law_draw))
def d__law_deep_block_8 (s__law_draw : Oc → List PD → (Rs → Oc → Prop) → Prop) : DS := (dSeq (dSet true 5 (dCall1 2 s__law_draw (dA (dVar 0) (dA (dC (.int 4)) dA0)))) (d__law_deep_block_7 s__law_draw))
def d__law_deep_block_9 (s__law_draw : Oc → List PD → (Rs → Oc → Prop) → Prop) : DS := (dRet (dVar 3))
def d__law_deep_block_10 (s__law_draw : Oc → List PD → (Rs → Oc → Prop) → Prop) : DS := (dCut (dFor (gNm 4) (iRng (dBin oSub (dVar 1) (dC (.int 1)))) (d__law_deep_block_8 s__law_draw)) (d__law_deep_block_9 s__law_draw))
def d__law_deep_block_11 (s__law_draw : Oc → List PD → (Rs → Oc → Prop) → Prop) : DS := (dSeq (dSet true 3 (dVar 2)) (d__law_deep_block_10 s__law_draw))
abbrev d__law_deep_block (s__law_draw : Oc → List PD → (Rs → Oc → Prop) → Prop) : DS := (d__law_deep_block_11 s__law_draw)
abbrev St__law_deep_block : Stmt := topS 23
theorem sc__law_deep_block : FnScope ["pen", "many", "last", "found", "k", "option"] ["pen", "many", "last"] (defScope St__law_deep_block) := ⟨rfl, rfl, rfl, by decide +kernel, rfl, by decide +kernel, by decide +kernel⟩
theorem ok__law_deep_block {f : Addr} {fd : FuncData} {k : Nat} (Fn : L2.Fun K "_law_deep_block" "_law_deep_block" St__law_deep_block f fd) (n_range : mg "range" = none) {s__law_draw : Oc → List PD → (Rs → Oc → Prop) → Prop} (C__law_draw : Cal P w K mg base "_law_draw" k (Pm1 K 2 s__law_draw)) {sp : Oc → List PD → (Rs → Oc → Prop) → Prop} (hs : ∀ o ds Ψ, sp o ds Ψ → (d__law_deep_block s__law_draw) (env1 ["pen", "many", "last", "found", "k", "option"] o ds) (post1 Ψ)) : FnOk P w K mg base CX0 (k + 1) f fd ["pen", "many", "last"] (Pm1 K 3 sp) := by
  have nd := sc__law_deep_block.nd
  refine okR1 (body := (d__law_deep_block s__law_draw)) Fn sc__law_deep_block (fun cdv A outer s H E hr => ?_) fun o ds Ψ _ h => hs o ds Ψ h
  have hu := hr.units
  exact (rss_seq (rs_set (i := 3) true (re_var (i := 2))) (rss_cut (rs_for (ri_range1 n_range (re_bin op_sub rop_sub (re_var (i := 1)) re_int)) (rg_name (i := 4)) (rss_seq (rs_set (i := 5) true (re_call1 C__law_draw hr (ra_cons (re_var (i := 0)) (ra_cons re_int ra_nil)))) (rss_one (rs_if (rt_cmp (opr_eq hu) rop_eq (re_var (i := 5)) re_int) (rss_one (rs_set (i := 3) true (re_tup (ra_cons (re_tup (ra_cons re_str (ra_cons (re_var (i := 3)) ra_nil))) ra_nil)))) (rss_one (rs_if (rt_cmp (opr_eq hu) rop_eq (re_var (i := 5)) re_int) (rss_one (rs_set (i := 3) true (re_tup (ra_cons (re_tup (ra_cons re_str (ra_cons (re_tup ra_nil) (ra_cons (re_var (i := 3)) ra_nil)))) ra_nil)))) (rss_one (rs_if (rt_cmp (opr_eq hu) rop_eq (re_var (i := 5)) re_int) (rss_one (rs_set (i := 3) true (re_tup (ra_cons (re_tup (ra_cons re_str (ra_cons re_str (ra_cons re_int ra_nil)))) (ra_cons (re_tup (ra_cons re_str (ra_cons (re_var (i := 3)) (ra_cons (re_tup ra_nil) ra_nil)))) ra_nil))))) (rss_one (rs_set (i := 3) true (re_tup (ra_cons (re_tup (ra_cons re_str (ra_cons re_str (ra_cons (re_tup ra_nil) (ra_cons (re_var (i := 3)) ra_nil))))) ra_nil)))))))))))) (rss_one (rs_ret (re_var (i := 3))))))
/-! _law_words_right: 0 pen, 1 sign, 2 at, 3 odd, 4 wrong, 5 one -/
def d__law_words_right_1 (s__law_draw : Oc → List PD → (Rs → Oc → Prop) → Prop) (s_program_error : List PD → (Rs → Prop) → Prop) : DS := (dRet (dBin oEq (dLcN 5 (iVal (dVar 4)) (dCall 1 s_program_error (dA (dVar 5) dA0))) (dBin oMul (dLst (dA (dC (.str (PySem.Str.ofString "form"))) dA0)) (dC (.int 4)))))
def d__law_words_right_2 (s__law_draw : Oc → List PD → (Rs → Oc → Prop) → Prop) (s_program_error : List PD → (Rs → Prop) → Prop) : DS := (dSeq (dSet true 4 (dLst (dA (dTup (dA (dTup (dA (dTup (dA (dC (.str (PySem.Str.ofString "set"))) (dA (dVar 3) (dA (dC (.int 1)) dA0)))) dA0)) (dA (dTupB dA0) dA0))) (dA (dTup (dA (dTup (dA (dTup (dA (dC (.str (PySem.Str.ofString "end"))) (dA (dVar 3) dA0))) dA0)) (dA (dTupB dA0) dA0))) (dA (dTup (dA (dTup (dA (dTup (dA (dC (.str (PySem.Str.ofString "call"))) (dA (dVar 3) dA0))) dA0)) (dA (dTupB (dA (dTup (dA (dVar 3) (dA (dTup dA0) dA0))) dA0)) dA0))) (dA (dTup (dA (dTup dA0) (dA (dTupB (dA (dTup (dA (dVar 3) (dA (dTup dA0) dA0))) dA0)) dA0))) dA0)))))) (d__law_words_right_1 s__law_draw s_program_error))
def d__law_words_right_3 (s__law_draw : Oc → List PD → (Rs → Oc → Prop) → Prop) (s_program_error : List PD → (Rs → Prop) → Prop) : DS := (dSeq (dSet true 3 (dBin oAdd (dBin oAdd (dSlc (dC (.str (PySem.Str.ofString "abcd"))) dO0 (dO1 (dVar 2))) (dVar 1)) (dSlc (dC (.str (PySem.Str.ofString "abcd"))) (dO1 (dVar 2)) dO0))) (d__law_words_right_2 s__law_draw s_program_error))
def d__law_words_right_4 (s__law_draw : Oc → List PD → (Rs → Oc → Prop) → Prop) (s_program_error : List PD → (Rs → Prop) → Prop) : DS := (dSeq (dSet true 2 (dCall1 2 s__law_draw (dA (dVar 0) (dA (dC (.int 5)) dA0)))) (d__law_words_right_3 s__law_draw s_program_error))
def d__law_words_right_5 (s__law_draw : Oc → List PD → (Rs → Oc → Prop) → Prop) (s_program_error : List PD → (Rs → Prop) → Prop) : DS := (dSeq (dSet true 1 (dBin oIx (dC (.str (PySem.Str.ofString "_0123456789 -,()'A"))) (dCall1 2 s__law_draw (dA (dVar 0) (dA (dC (.int 18)) dA0))))) (d__law_words_right_4 s__law_draw s_program_error))
abbrev d__law_words_right (s__law_draw : Oc → List PD → (Rs → Oc → Prop) → Prop) (s_program_error : List PD → (Rs → Prop) → Prop) : DS := (d__law_words_right_5 s__law_draw s_program_error)
abbrev St__law_words_right : Stmt := topS 24
theorem sc__law_words_right : FnScope ["pen", "sign", "at", "odd", "wrong", "one"] ["pen"] (defScope St__law_words_right) := ⟨rfl, rfl, rfl, by decide +kernel, rfl, by decide +kernel, by decide +kernel⟩
theorem ok__law_words_right {f : Addr} {fd : FuncData} {k : Nat} (Fn : L2.Fun K "_law_words_right" "_law_words_right" St__law_words_right f fd) {s__law_draw : Oc → List PD → (Rs → Oc → Prop) → Prop} {s_program_error : List PD → (Rs → Prop) → Prop} (C__law_draw : Cal P w K mg base "_law_draw" k (Pm1 K 2 s__law_draw)) (C_program_error : Cal P w K mg base "program_error" k (Pm K 1 s_program_error)) {sp : Oc → List PD → (Rs → Oc → Prop) → Prop} (hs : ∀ o ds Ψ, sp o ds Ψ → (d__law_words_right s__law_draw s_program_error) (env1 ["pen", "sign", "at", "odd", "wrong", "one"] o ds) (post1 Ψ)) : FnOk P w K mg base CX0 (k + 1) f fd ["pen"] (Pm1 K 1 sp) := by
  have nd := sc__law_words_right.nd
  refine okR1 (body := (d__law_words_right s__law_draw s_program_error)) Fn sc__law_words_right (fun cdv A outer s H E hr => ?_) fun o ds Ψ _ h => hs o ds Ψ h
  have hu := hr.units
  exact (rss_seq (rs_set (i := 1) true (re_ix (ixr hu) rop_ix re_str (re_call1 C__law_draw hr (ra_cons (re_var (i := 0)) (ra_cons re_int ra_nil))))) (rss_seq (rs_set (i := 2) true (re_call1 C__law_draw hr (ra_cons (re_var (i := 0)) (ra_cons re_int ra_nil)))) (rss_seq (rs_set (i := 3) true (re_bin opr_add rop_add (re_bin opr_add rop_add (re_slc re_str ro_none (ro_some (re_var (i := 2)))) (re_var (i := 1))) (re_slc re_str (ro_some (re_var (i := 2))) ro_none))) (rss_seq (rs_set (i := 4) true (re_lst (ra_cons (re_tup (ra_cons (re_tup (ra_cons (re_tup (ra_cons re_str (ra_cons (re_var (i := 3)) (ra_cons re_int ra_nil)))) ra_nil)) (ra_cons (re_tupB ra_nil) ra_nil))) (ra_cons (re_tup (ra_cons (re_tup (ra_cons (re_tup (ra_cons re_str (ra_cons (re_var (i := 3)) ra_nil))) ra_nil)) (ra_cons (re_tupB ra_nil) ra_nil))) (ra_cons (re_tup (ra_cons (re_tup (ra_cons (re_tup (ra_cons re_str (ra_cons (re_var (i := 3)) ra_nil))) ra_nil)) (ra_cons (re_tupB (ra_cons (re_tup (ra_cons (re_var (i := 3)) (ra_cons (re_tup ra_nil) ra_nil))) ra_nil)) ra_nil))) (ra_cons (re_tup (ra_cons (re_tup ra_nil) (ra_cons (re_tupB (ra_cons (re_tup (ra_cons (re_var (i := 3)) (ra_cons (re_tup ra_nil) ra_nil))) ra_nil)) ra_nil))) ra_nil)))))) (rss_one (rs_ret (re_cmp (opr_eq hu) rop_eq (re_lcN (i := 5) (ri_val (re_var (i := 4))) (fun _ => (re_call C_program_error hr (ra_cons (re_var (i := 5)) ra_nil)))) (re_bin opr_mul rop_mul (re_lst (ra_cons re_str ra_nil)) re_int))))))))
/-! law: 0 script, 1 pen, 2 deed, 3 many, 4 due, 5 some, 6 blocks, 7 one, 8 last, 9 found, 10 e, 11 defs, 12 k, 13 letters, 14 word -/
def d_law_1 (s__law_pen : List PD → (Rs → Prop) → Prop) (s__law_draw : Oc → List PD → (Rs → Oc → Prop) → Prop) (s_program_error : List PD → (Rs → Prop) → Prop) (s__law_deep_block : Oc → List PD → (Rs → Oc → Prop) → Prop) (s__law_deep_e : Oc → List PD → (Rs → Oc → Prop) → Prop) (s__law_words_right : Oc → List PD → (Rs → Oc → Prop) → Prop) : DS := (dRet (dC (.bool false)))
def d_law_2 (s__law_pen : List PD → (Rs → Prop) → Prop) (s__law_draw : Oc → List PD → (Rs → Oc → Prop) → Prop) (s_program_error : List PD → (Rs → Prop) → Prop) (s__law_deep_block : Oc → List PD → (Rs → Oc → Prop) → Prop) (s__law_deep_e : Oc → List PD → (Rs → Oc → Prop) → Prop) (s__law_words_right : Oc → List PD → (Rs → Oc → Prop) → Prop) : DS := (dIf (dTst (dBin oNe (dLcN 7 (iVal (dVar 6)) (dCall 1 s_program_error (dA (dVar 7) dA0))) (dBin oMul (dLst (dA (dVar 4) dA0)) (dC (.int 5))))) (d_law_1 s__law_pen s__law_draw s_program_error s__law_deep_block s__law_deep_e s__law_words_right) dNil)
def d_law_3 (s__law_pen : List PD → (Rs → Prop) → Prop) (s__law_draw : Oc → List PD → (Rs → Oc → Prop) → Prop) (s_program_error : List PD → (Rs → Prop) → Prop) (s__law_deep_block : Oc → List PD → (Rs → Oc → Prop) → Prop) (s__law_deep_e : Oc → List PD → (Rs → Oc → Prop) → Prop) (s__law_words_right : Oc → List PD → (Rs → Oc → Prop) → Prop) : DS := (dSeq (dSet true 6 (dBin oAdd (dVar 6) (dLst (dA (dTup (dA (dTup dA0) (dA (dTupB (dA (dTup (dA (dC (.str (PySem.Str.ofString "d"))) (dA (dVar 5) dA0))) dA0)) dA0))) (dA (dTup (dA (dTup (dA (dTup (dA (dC (.str (PySem.Str.ofString "if"))) (dA (dC (.int 1)) (dA (dTup dA0) (dA (dVar 5) dA0))))) dA0)) (dA (dTupB dA0) dA0))) dA0))))) (d_law_2 s__law_pen s__law_draw s_program_error s__law_deep_block s__law_deep_e s__law_words_right))
def d_law_4 (s__law_pen : List PD → (Rs → Prop) → Prop) (s__law_draw : Oc → List PD → (Rs → Oc → Prop) → Prop) (s_program_error : List PD → (Rs → Prop) → Prop) (s__law_deep_block : Oc → List PD → (Rs → Oc → Prop) → Prop) (s__law_deep_e : Oc → List PD → (Rs → Oc → Prop) → Prop) (s__law_words_right : Oc → List PD → (Rs → Oc → Prop) → Prop) : DS := (dSeq (dSet true 6 (dLst (dA (dTup (dA (dVar 5) (dA (dTupB dA0) dA0))) (dA (dTup (dA (dTup (dA (dTup (dA (dC (.str (PySem.Str.ofString "toss"))) (dA (dVar 5) (dA (dTup dA0) dA0)))) dA0)) (dA (dTupB dA0) dA0))) (dA (dTup (dA (dTup (dA (dTup (dA (dC (.str (PySem.Str.ofString "loop"))) (dA (dVar 5) dA0))) dA0)) (dA (dTupB dA0) dA0))) dA0))))) (d_law_3 s__law_pen s__law_draw s_program_error s__law_deep_block s__law_deep_e s__law_words_right))
def d_law_5 (s__law_pen : List PD → (Rs → Prop) → Prop) (s__law_draw : Oc → List PD → (Rs → Oc → Prop) → Prop) (s_program_error : List PD → (Rs → Prop) → Prop) (s__law_deep_block : Oc → List PD → (Rs → Oc → Prop) → Prop) (s__law_deep_e : Oc → List PD → (Rs → Oc → Prop) → Prop) (s__law_words_right : Oc → List PD → (Rs → Oc → Prop) → Prop) : DS := (dSeq (dSet true 5 (dBin oMulT (dTup (dA (dVar 2) dA0)) (dVar 3))) (d_law_4 s__law_pen s__law_draw s_program_error s__law_deep_block s__law_deep_e s__law_words_right))
def d_law_6 (s__law_pen : List PD → (Rs → Prop) → Prop) (s__law_draw : Oc → List PD → (Rs → Oc → Prop) → Prop) (s_program_error : List PD → (Rs → Prop) → Prop) (s__law_deep_block : Oc → List PD → (Rs → Oc → Prop) → Prop) (s__law_deep_e : Oc → List PD → (Rs → Oc → Prop) → Prop) (s__law_words_right : Oc → List PD → (Rs → Oc → Prop) → Prop) : DS := (dRet (dC (.bool false)))
def d_law_7 (s__law_pen : List PD → (Rs → Prop) → Prop) (s__law_draw : Oc → List PD → (Rs → Oc → Prop) → Prop) (s_program_error : List PD → (Rs → Prop) → Prop) (s__law_deep_block : Oc → List PD → (Rs → Oc → Prop) → Prop) (s__law_deep_e : Oc → List PD → (Rs → Oc → Prop) → Prop) (s__law_words_right : Oc → List PD → (Rs → Oc → Prop) → Prop) : DS := (dIf (dOr (dTst (dBin oNe (dCall 1 s_program_error (dA (dTup (dA (dVar 9) (dA (dTupB dA0) dA0))) dA0)) (dVar 4))) (dTst (dBin oNe (dCall 1 s_program_error (dA (dTup (dA (dTup dA0) (dA (dTupB (dA (dTup (dA (dC (.str (PySem.Str.ofString "d"))) (dA (dVar 9) dA0))) dA0)) dA0))) dA0)) (dVar 4)))) (d_law_6 s__law_pen s__law_draw s_program_error s__law_deep_block s__law_deep_e s__law_words_right) dNil)
def d_law_8 (s__law_pen : List PD → (Rs → Prop) → Prop) (s__law_draw : Oc → List PD → (Rs → Oc → Prop) → Prop) (s_program_error : List PD → (Rs → Prop) → Prop) (s__law_deep_block : Oc → List PD → (Rs → Oc → Prop) → Prop) (s__law_deep_e : Oc → List PD → (Rs → Oc → Prop) → Prop) (s__law_words_right : Oc → List PD → (Rs → Oc → Prop) → Prop) : DS := (dSeq (dSet true 9 (dCall1 3 s__law_deep_block (dA (dVar 1) (dA (dVar 3) (dA (dVar 8) dA0))))) (d_law_7 s__law_pen s__law_draw s_program_error s__law_deep_block s__law_deep_e s__law_words_right))
def d_law_9 (s__law_pen : List PD → (Rs → Prop) → Prop) (s__law_draw : Oc → List PD → (Rs → Oc → Prop) → Prop) (s_program_error : List PD → (Rs → Prop) → Prop) (s__law_deep_block : Oc → List PD → (Rs → Oc → Prop) → Prop) (s__law_deep_e : Oc → List PD → (Rs → Oc → Prop) → Prop) (s__law_words_right : Oc → List PD → (Rs → Oc → Prop) → Prop) : DS := (dFor (gPr 3 4) (iVal (dLst (dA (dTup (dA (dC (.int 6)) (dA (dC .none) dA0))) (dA (dTup (dA (dC (.int 7)) (dA (dC (.str (PySem.Str.ofString "form"))) dA0))) (dA (dTup (dA (dBin oAdd (dC (.int 1)) (dCall1 2 s__law_draw (dA (dVar 1) (dA (dC (.int 6)) dA0)))) (dA (dC .none) dA0))) dA0))))) (d_law_8 s__law_pen s__law_draw s_program_error s__law_deep_block s__law_deep_e s__law_words_right))
def d_law_10 (s__law_pen : List PD → (Rs → Prop) → Prop) (s__law_draw : Oc → List PD → (Rs → Oc → Prop) → Prop) (s_program_error : List PD → (Rs → Prop) → Prop) (s__law_deep_block : Oc → List PD → (Rs → Oc → Prop) → Prop) (s__law_deep_e : Oc → List PD → (Rs → Oc → Prop) → Prop) (s__law_words_right : Oc → List PD → (Rs → Oc → Prop) → Prop) : DS := (dRet (dC (.bool false)))
def d_law_11 (s__law_pen : List PD → (Rs → Prop) → Prop) (s__law_draw : Oc → List PD → (Rs → Oc → Prop) → Prop) (s_program_error : List PD → (Rs → Prop) → Prop) (s__law_deep_block : Oc → List PD → (Rs → Oc → Prop) → Prop) (s__law_deep_e : Oc → List PD → (Rs → Oc → Prop) → Prop) (s__law_words_right : Oc → List PD → (Rs → Oc → Prop) → Prop) : DS := (dIf (dTst (dBin oNe (dCall 1 s_program_error (dA (dTup (dA (dTup (dA (dVar 7) dA0)) (dA (dTupB dA0) dA0))) dA0)) (dVar 4))) (d_law_10 s__law_pen s__law_draw s_program_error s__law_deep_block s__law_deep_e s__law_words_right) dNil)
def d_law_12 (s__law_pen : List PD → (Rs → Prop) → Prop) (s__law_draw : Oc → List PD → (Rs → Oc → Prop) → Prop) (s_program_error : List PD → (Rs → Prop) → Prop) (s__law_deep_block : Oc → List PD → (Rs → Oc → Prop) → Prop) (s__law_deep_e : Oc → List PD → (Rs → Oc → Prop) → Prop) (s__law_words_right : Oc → List PD → (Rs → Oc → Prop) → Prop) : DS := (dFor (gNm 7) (iVal (dLst (dA (dTup (dA (dC (.str (PySem.Str.ofString "set"))) (dA (dC (.str (PySem.Str.ofString "x"))) (dA (dVar 10) dA0)))) (dA (dTup (dA (dC (.str (PySem.Str.ofString "end"))) (dA (dVar 10) dA0))) (dA (dTup (dA (dC (.str (PySem.Str.ofString "if"))) (dA (dVar 10) (dA (dTup dA0) (dA (dTup dA0) dA0))))) dA0))))) (d_law_11 s__law_pen s__law_draw s_program_error s__law_deep_block s__law_deep_e s__law_words_right))
def d_law_13 (s__law_pen : List PD → (Rs → Prop) → Prop) (s__law_draw : Oc → List PD → (Rs → Oc → Prop) → Prop) (s_program_error : List PD → (Rs → Prop) → Prop) (s__law_deep_block : Oc → List PD → (Rs → Oc → Prop) → Prop) (s__law_deep_e : Oc → List PD → (Rs → Oc → Prop) → Prop) (s__law_words_right : Oc → List PD → (Rs → Oc → Prop) → Prop) : DS := (dSeq (dSet true 10 (dCall1 2 s__law_deep_e (dA (dVar 1) (dA (dVar 3) dA0)))) (d_law_12 s__law_pen s__law_draw s_program_error s__law_deep_block s__law_deep_e s__law_words_right))
def d_law_14 (s__law_pen : List PD → (Rs → Prop) → Prop) (s__law_draw : Oc → List PD → (Rs → Oc → Prop) → Prop) (s_program_error : List PD → (Rs → Prop) → Prop) (s__law_deep_block : Oc → List PD → (Rs → Oc → Prop) → Prop) (s__law_deep_e : Oc → List PD → (Rs → Oc → Prop) → Prop) (s__law_words_right : Oc → List PD → (Rs → Oc → Prop) → Prop) : DS := (dRet (dC (.bool false)))
def d_law_15 (s__law_pen : List PD → (Rs → Prop) → Prop) (s__law_draw : Oc → List PD → (Rs → Oc → Prop) → Prop) (s_program_error : List PD → (Rs → Prop) → Prop) (s__law_deep_block : Oc → List PD → (Rs → Oc → Prop) → Prop) (s__law_deep_e : Oc → List PD → (Rs → Oc → Prop) → Prop) (s__law_words_right : Oc → List PD → (Rs → Oc → Prop) → Prop) : DS := (dIf (dTst (dBin oNe (dCall 1 s_program_error (dA (dTup (dA (dTup dA0) (dA (dVar 11) dA0))) dA0)) (dVar 4))) (d_law_14 s__law_pen s__law_draw s_program_error s__law_deep_block s__law_deep_e s__law_words_right) dNil)
def d_law_16 (s__law_pen : List PD → (Rs → Prop) → Prop) (s__law_draw : Oc → List PD → (Rs → Oc → Prop) → Prop) (s_program_error : List PD → (Rs → Prop) → Prop) (s__law_deep_block : Oc → List PD → (Rs → Oc → Prop) → Prop) (s__law_deep_e : Oc → List PD → (Rs → Oc → Prop) → Prop) (s__law_words_right : Oc → List PD → (Rs → Oc → Prop) → Prop) : DS := (dSeq (dSet true 11 (dUn uTupB (dLcN 12 (iRng (dVar 3)) (dTup (dA (dBin oIx (dC (.str (PySem.Str.ofString "abcdefg"))) (dVar 12)) (dA (dTup dA0) dA0)))))) (d_law_15 s__law_pen s__law_draw s_program_error s__law_deep_block s__law_deep_e s__law_words_right))
def d_law_17 (s__law_pen : List PD → (Rs → Prop) → Prop) (s__law_draw : Oc → List PD → (Rs → Oc → Prop) → Prop) (s_program_error : List PD → (Rs → Prop) → Prop) (s__law_deep_block : Oc → List PD → (Rs → Oc → Prop) → Prop) (s__law_deep_e : Oc → List PD → (Rs → Oc → Prop) → Prop) (s__law_words_right : Oc → List PD → (Rs → Oc → Prop) → Prop) : DS := (dRet (dC (.bool false)))
def d_law_18 (s__law_pen : List PD → (Rs → Prop) → Prop) (s__law_draw : Oc → List PD → (Rs → Oc → Prop) → Prop) (s_program_error : List PD → (Rs → Prop) → Prop) (s__law_deep_block : Oc → List PD → (Rs → Oc → Prop) → Prop) (s__law_deep_e : Oc → List PD → (Rs → Oc → Prop) → Prop) (s__law_words_right : Oc → List PD → (Rs → Oc → Prop) → Prop) : DS := (dRet (dC (.bool false)))
def d_law_19 (s__law_pen : List PD → (Rs → Prop) → Prop) (s__law_draw : Oc → List PD → (Rs → Oc → Prop) → Prop) (s_program_error : List PD → (Rs → Prop) → Prop) (s__law_deep_block : Oc → List PD → (Rs → Oc → Prop) → Prop) (s__law_deep_e : Oc → List PD → (Rs → Oc → Prop) → Prop) (s__law_words_right : Oc → List PD → (Rs → Oc → Prop) → Prop) : DS := (dRet (dC (.bool false)))
def d_law_20 (s__law_pen : List PD → (Rs → Prop) → Prop) (s__law_draw : Oc → List PD → (Rs → Oc → Prop) → Prop) (s_program_error : List PD → (Rs → Prop) → Prop) (s__law_deep_block : Oc → List PD → (Rs → Oc → Prop) → Prop) (s__law_deep_e : Oc → List PD → (Rs → Oc → Prop) → Prop) (s__law_words_right : Oc → List PD → (Rs → Oc → Prop) → Prop) : DS := (dRet (dC (.bool false)))
def d_law_21 (s__law_pen : List PD → (Rs → Prop) → Prop) (s__law_draw : Oc → List PD → (Rs → Oc → Prop) → Prop) (s_program_error : List PD → (Rs → Prop) → Prop) (s__law_deep_block : Oc → List PD → (Rs → Oc → Prop) → Prop) (s__law_deep_e : Oc → List PD → (Rs → Oc → Prop) → Prop) (s__law_words_right : Oc → List PD → (Rs → Oc → Prop) → Prop) : DS := (dIf (dTst (dBin oNe (dCall 1 s_program_error (dA (dVar 7) dA0)) (dVar 4))) (d_law_20 s__law_pen s__law_draw s_program_error s__law_deep_block s__law_deep_e s__law_words_right) dNil)
def d_law_22 (s__law_pen : List PD → (Rs → Prop) → Prop) (s__law_draw : Oc → List PD → (Rs → Oc → Prop) → Prop) (s_program_error : List PD → (Rs → Prop) → Prop) (s__law_deep_block : Oc → List PD → (Rs → Oc → Prop) → Prop) (s__law_deep_e : Oc → List PD → (Rs → Oc → Prop) → Prop) (s__law_words_right : Oc → List PD → (Rs → Oc → Prop) → Prop) : DS := (dFor (gNm 7) (iVal (dLst (dA (dTup (dA (dTup (dA (dTup (dA (dC (.str (PySem.Str.ofString "set"))) (dA (dVar 14) (dA (dC (.int 1)) dA0)))) dA0)) (dA (dTupB dA0) dA0))) (dA (dTup (dA (dTup (dA (dTup (dA (dC (.str (PySem.Str.ofString "end"))) (dA (dVar 14) dA0))) dA0)) (dA (dTupB dA0) dA0))) (dA (dTup (dA (dTup dA0) (dA (dTupB (dA (dTup (dA (dVar 14) (dA (dTup dA0) dA0))) dA0)) dA0))) dA0))))) (d_law_21 s__law_pen s__law_draw s_program_error s__law_deep_block s__law_deep_e s__law_words_right))
def d_law_23 (s__law_pen : List PD → (Rs → Prop) → Prop) (s__law_draw : Oc → List PD → (Rs → Oc → Prop) → Prop) (s_program_error : List PD → (Rs → Prop) → Prop) (s__law_deep_block : Oc → List PD → (Rs → Oc → Prop) → Prop) (s__law_deep_e : Oc → List PD → (Rs → Oc → Prop) → Prop) (s__law_words_right : Oc → List PD → (Rs → Oc → Prop) → Prop) : DS := (dSeq (dSet true 14 (dSlc (dVar 13) dO0 (dO1 (dVar 3)))) (d_law_22 s__law_pen s__law_draw s_program_error s__law_deep_block s__law_deep_e s__law_words_right))
def d_law_24 (s__law_pen : List PD → (Rs → Prop) → Prop) (s__law_draw : Oc → List PD → (Rs → Oc → Prop) → Prop) (s_program_error : List PD → (Rs → Prop) → Prop) (s__law_deep_block : Oc → List PD → (Rs → Oc → Prop) → Prop) (s__law_deep_e : Oc → List PD → (Rs → Oc → Prop) → Prop) (s__law_words_right : Oc → List PD → (Rs → Oc → Prop) → Prop) : DS := (dSeq (dSet true 4 (dIfe (dTst (dTwo oLe oLe (dC (.int 1)) (dVar 3) (dC (.int 6)))) (dC .none) (dC (.str (PySem.Str.ofString "form"))))) (d_law_23 s__law_pen s__law_draw s_program_error s__law_deep_block s__law_deep_e s__law_words_right))
def d_law_25 (s__law_pen : List PD → (Rs → Prop) → Prop) (s__law_draw : Oc → List PD → (Rs → Oc → Prop) → Prop) (s_program_error : List PD → (Rs → Prop) → Prop) (s__law_deep_block : Oc → List PD → (Rs → Oc → Prop) → Prop) (s__law_deep_e : Oc → List PD → (Rs → Oc → Prop) → Prop) (s__law_words_right : Oc → List PD → (Rs → Oc → Prop) → Prop) : DS := (dRet (dAndV (dBin oIsN (dCall 1 s_program_error (dA (dTup (dA (dTup (dA (dTup (dA (dC (.str (PySem.Str.ofString "end"))) (dA (dC (.int 9)) dA0))) dA0)) (dA (dTupB dA0) dA0))) dA0)) (dC .none)) (dBin oEq (dCall 1 s_program_error (dA (dTup (dA (dTup (dA (dTup (dA (dC (.str (PySem.Str.ofString "end"))) (dA (dC (.int 10)) dA0))) dA0)) (dA (dTupB dA0) dA0))) dA0)) (dC (.str (PySem.Str.ofString "form"))))))
def d_law_26 (s__law_pen : List PD → (Rs → Prop) → Prop) (s__law_draw : Oc → List PD → (Rs → Oc → Prop) → Prop) (s_program_error : List PD → (Rs → Prop) → Prop) (s__law_deep_block : Oc → List PD → (Rs → Oc → Prop) → Prop) (s__law_deep_e : Oc → List PD → (Rs → Oc → Prop) → Prop) (s__law_words_right : Oc → List PD → (Rs → Oc → Prop) → Prop) : DS := (dCut (dFor (gNm 3) (iRng (dC (.int 8))) (d_law_24 s__law_pen s__law_draw s_program_error s__law_deep_block s__law_deep_e s__law_words_right)) (d_law_25 s__law_pen s__law_draw s_program_error s__law_deep_block s__law_deep_e s__law_words_right))
def d_law_27 (s__law_pen : List PD → (Rs → Prop) → Prop) (s__law_draw : Oc → List PD → (Rs → Oc → Prop) → Prop) (s_program_error : List PD → (Rs → Prop) → Prop) (s__law_deep_block : Oc → List PD → (Rs → Oc → Prop) → Prop) (s__law_deep_e : Oc → List PD → (Rs → Oc → Prop) → Prop) (s__law_words_right : Oc → List PD → (Rs → Oc → Prop) → Prop) : DS := (dSeq (dSet true 13 (dJoin (dC (.str (PySem.Str.ofString ""))) (dLcN 12 (iRng (dC (.int 7))) (dBin oIx (dC (.str (PySem.Str.ofString "abcdefghijklmnopqrstuvwxyz"))) (dCall1 2 s__law_draw (dA (dVar 1) (dA (dC (.int 26)) dA0))))))) (d_law_26 s__law_pen s__law_draw s_program_error s__law_deep_block s__law_deep_e s__law_words_right))
def d_law_28 (s__law_pen : List PD → (Rs → Prop) → Prop) (s__law_draw : Oc → List PD → (Rs → Oc → Prop) → Prop) (s_program_error : List PD → (Rs → Prop) → Prop) (s__law_deep_block : Oc → List PD → (Rs → Oc → Prop) → Prop) (s__law_deep_e : Oc → List PD → (Rs → Oc → Prop) → Prop) (s__law_words_right : Oc → List PD → (Rs → Oc → Prop) → Prop) : DS := (dCut (dIf (dNot (dTst (dCall1 1 s__law_words_right (dA (dVar 1) dA0)))) (d_law_19 s__law_pen s__law_draw s_program_error s__law_deep_block s__law_deep_e s__law_words_right) dNil) (d_law_27 s__law_pen s__law_draw s_program_error s__law_deep_block s__law_deep_e s__law_words_right))
def d_law_29 (s__law_pen : List PD → (Rs → Prop) → Prop) (s__law_draw : Oc → List PD → (Rs → Oc → Prop) → Prop) (s_program_error : List PD → (Rs → Prop) → Prop) (s__law_deep_block : Oc → List PD → (Rs → Oc → Prop) → Prop) (s__law_deep_e : Oc → List PD → (Rs → Oc → Prop) → Prop) (s__law_words_right : Oc → List PD → (Rs → Oc → Prop) → Prop) : DS := (dCut (dIf (dTst (dBin oNe (dCall 1 s_program_error (dA (dTup (dA (dTup dA0) (dA (dTupB (dA (dTup (dA (dC (.str (PySem.Str.ofString "d"))) (dA (dBin oMulT (dTup (dA (dTup (dA (dC (.str (PySem.Str.ofString "call"))) (dA (dC (.str (PySem.Str.ofString "q"))) dA0))) dA0)) (dC (.int 21))) dA0))) dA0)) dA0))) dA0)) (dC (.str (PySem.Str.ofString "form"))))) (d_law_18 s__law_pen s__law_draw s_program_error s__law_deep_block s__law_deep_e s__law_words_right) dNil) (d_law_28 s__law_pen s__law_draw s_program_error s__law_deep_block s__law_deep_e s__law_words_right))
def d_law_30 (s__law_pen : List PD → (Rs → Prop) → Prop) (s__law_draw : Oc → List PD → (Rs → Oc → Prop) → Prop) (s_program_error : List PD → (Rs → Prop) → Prop) (s__law_deep_block : Oc → List PD → (Rs → Oc → Prop) → Prop) (s__law_deep_e : Oc → List PD → (Rs → Oc → Prop) → Prop) (s__law_words_right : Oc → List PD → (Rs → Oc → Prop) → Prop) : DS := (dCut (dIf (dTst (dBin oNe (dCall 1 s_program_error (dA (dTup (dA (dBin oMulT (dTup (dA (dTup (dA (dC (.str (PySem.Str.ofString "leave"))) dA0)) dA0)) (dC (.int 21))) (dA (dTupB dA0) dA0))) dA0)) (dC (.str (PySem.Str.ofString "form"))))) (d_law_17 s__law_pen s__law_draw s_program_error s__law_deep_block s__law_deep_e s__law_words_right) dNil) (d_law_29 s__law_pen s__law_draw s_program_error s__law_deep_block s__law_deep_e s__law_words_right))
def d_law_31 (s__law_pen : List PD → (Rs → Prop) → Prop) (s__law_draw : Oc → List PD → (Rs → Oc → Prop) → Prop) (s_program_error : List PD → (Rs → Prop) → Prop) (s__law_deep_block : Oc → List PD → (Rs → Oc → Prop) → Prop) (s__law_deep_e : Oc → List PD → (Rs → Oc → Prop) → Prop) (s__law_words_right : Oc → List PD → (Rs → Oc → Prop) → Prop) : DS := (dCut (dFor (gPr 3 4) (iVal (dLst (dA (dTup (dA (dC (.int 6)) (dA (dC .none) dA0))) (dA (dTup (dA (dC (.int 7)) (dA (dC (.str (PySem.Str.ofString "form"))) dA0))) (dA (dTup (dA (dCall1 2 s__law_draw (dA (dVar 1) (dA (dC (.int 7)) dA0))) (dA (dC .none) dA0))) dA0))))) (d_law_16 s__law_pen s__law_draw s_program_error s__law_deep_block s__law_deep_e s__law_words_right)) (d_law_30 s__law_pen s__law_draw s_program_error s__law_deep_block s__law_deep_e s__law_words_right))
def d_law_32 (s__law_pen : List PD → (Rs → Prop) → Prop) (s__law_draw : Oc → List PD → (Rs → Oc → Prop) → Prop) (s_program_error : List PD → (Rs → Prop) → Prop) (s__law_deep_block : Oc → List PD → (Rs → Oc → Prop) → Prop) (s__law_deep_e : Oc → List PD → (Rs → Oc → Prop) → Prop) (s__law_words_right : Oc → List PD → (Rs → Oc → Prop) → Prop) : DS := (dCut (dFor (gPr 3 4) (iVal (dLst (dA (dTup (dA (dC (.int 6)) (dA (dC .none) dA0))) (dA (dTup (dA (dC (.int 7)) (dA (dC (.str (PySem.Str.ofString "form"))) dA0))) (dA (dTup (dA (dCall1 2 s__law_draw (dA (dVar 1) (dA (dC (.int 7)) dA0))) (dA (dC .none) dA0))) dA0))))) (d_law_13 s__law_pen s__law_draw s_program_error s__law_deep_block s__law_deep_e s__law_words_right)) (d_law_31 s__law_pen s__law_draw s_program_error s__law_deep_block s__law_deep_e s__law_words_right))
def d_law_33 (s__law_pen : List PD → (Rs → Prop) → Prop) (s__law_draw : Oc → List PD → (Rs → Oc → Prop) → Prop) (s_program_error : List PD → (Rs → Prop) → Prop) (s__law_deep_block : Oc → List PD → (Rs → Oc → Prop) → Prop) (s__law_deep_e : Oc → List PD → (Rs → Oc → Prop) → Prop) (s__law_words_right : Oc → List PD → (Rs → Oc → Prop) → Prop) : DS := (dCut (dFor (gNm 8) (iVal (dLst (dA (dTup dA0) (dA (dTup (dA (dTup (dA (dC (.str (PySem.Str.ofString "end"))) (dA (dC (.int 1)) dA0))) dA0)) dA0)))) (d_law_9 s__law_pen s__law_draw s_program_error s__law_deep_block s__law_deep_e s__law_words_right)) (d_law_32 s__law_pen s__law_draw s_program_error s__law_deep_block s__law_deep_e s__law_words_right))
def d_law_34 (s__law_pen : List PD → (Rs → Prop) → Prop) (s__law_draw : Oc → List PD → (Rs → Oc → Prop) → Prop) (s_program_error : List PD → (Rs → Prop) → Prop) (s__law_deep_block : Oc → List PD → (Rs → Oc → Prop) → Prop) (s__law_deep_e : Oc → List PD → (Rs → Oc → Prop) → Prop) (s__law_words_right : Oc → List PD → (Rs → Oc → Prop) → Prop) : DS := (dCut (dFor (gPr 3 4) (iVal (dLst (dA (dTup (dA (dC (.int 20)) (dA (dC .none) dA0))) (dA (dTup (dA (dC (.int 21)) (dA (dC (.str (PySem.Str.ofString "form"))) dA0))) (dA (dTup (dA (dCall1 2 s__law_draw (dA (dVar 1) (dA (dC (.int 21)) dA0))) (dA (dC .none) dA0))) dA0))))) (d_law_5 s__law_pen s__law_draw s_program_error s__law_deep_block s__law_deep_e s__law_words_right)) (d_law_33 s__law_pen s__law_draw s_program_error s__law_deep_block s__law_deep_e s__law_words_right))
def d_law_35 (s__law_pen : List PD → (Rs → Prop) → Prop) (s__law_draw : Oc → List PD → (Rs → Oc → Prop) → Prop) (s_program_error : List PD → (Rs → Prop) → Prop) (s__law_deep_block : Oc → List PD → (Rs → Oc → Prop) → Prop) (s__law_deep_e : Oc → List PD → (Rs → Oc → Prop) → Prop) (s__law_words_right : Oc → List PD → (Rs → Oc → Prop) → Prop) : DS := (dSeq (dSet true 2 (dBin oIx (dLst (dA (dTup (dA (dC (.str (PySem.Str.ofString "set"))) (dA (dC (.str (PySem.Str.ofString "x"))) (dA (dC (.int 1)) dA0)))) (dA (dTup (dA (dC (.str (PySem.Str.ofString "toss"))) (dA (dTup dA0) (dA (dTup dA0) dA0)))) (dA (dTup (dA (dC (.str (PySem.Str.ofString "end"))) (dA (dC (.int 3)) dA0))) (dA (dTup (dA (dC (.str (PySem.Str.ofString "loop"))) (dA (dTup dA0) dA0))) dA0))))) (dCall1 2 s__law_draw (dA (dVar 1) (dA (dC (.int 4)) dA0))))) (d_law_34 s__law_pen s__law_draw s_program_error s__law_deep_block s__law_deep_e s__law_words_right))
def d_law_36 (s__law_pen : List PD → (Rs → Prop) → Prop) (s__law_draw : Oc → List PD → (Rs → Oc → Prop) → Prop) (s_program_error : List PD → (Rs → Prop) → Prop) (s__law_deep_block : Oc → List PD → (Rs → Oc → Prop) → Prop) (s__law_deep_e : Oc → List PD → (Rs → Oc → Prop) → Prop) (s__law_words_right : Oc → List PD → (Rs → Oc → Prop) → Prop) : DS := (dSeq (dSet false 1 (dCall 1 s__law_pen (dA (dVar 0) dA0))) (d_law_35 s__law_pen s__law_draw s_program_error s__law_deep_block s__law_deep_e s__law_words_right))
abbrev d_law (s__law_pen : List PD → (Rs → Prop) → Prop) (s__law_draw : Oc → List PD → (Rs → Oc → Prop) → Prop) (s_program_error : List PD → (Rs → Prop) → Prop) (s__law_deep_block : Oc → List PD → (Rs → Oc → Prop) → Prop) (s__law_deep_e : Oc → List PD → (Rs → Oc → Prop) → Prop) (s__law_words_right : Oc → List PD → (Rs → Oc → Prop) → Prop) : DS := (d_law_36 s__law_pen s__law_draw s_program_error s__law_deep_block s__law_deep_e s__law_words_right)
abbrev St_law : Stmt := topS 25
theorem sc_law : FnScope ["script", "pen", "deed", "many", "due", "some", "blocks", "one", "last", "found", "e", "defs", "k", "letters", "word"] ["script"] (defScope St_law) := ⟨rfl, rfl, rfl, by decide +kernel, rfl, by decide +kernel, by decide +kernel⟩
theorem ok_law {f : Addr} {fd : FuncData} {k : Nat} (Fn : L2.Fun K "law" "law" St_law f fd) (n_range : mg "range" = none) (n_tuple : mg "tuple" = none) {s__law_pen : List PD → (Rs → Prop) → Prop} {s__law_draw : Oc → List PD → (Rs → Oc → Prop) → Prop} {s_program_error : List PD → (Rs → Prop) → Prop} {s__law_deep_block : Oc → List PD → (Rs → Oc → Prop) → Prop} {s__law_deep_e : Oc → List PD → (Rs → Oc → Prop) → Prop} {s__law_words_right : Oc → List PD → (Rs → Oc → Prop) → Prop} (C__law_pen : Cal P w K mg base "_law_pen" k (Pm K 1 s__law_pen)) (C__law_draw : Cal P w K mg base "_law_draw" k (Pm1 K 2 s__law_draw)) (C_program_error : Cal P w K mg base "program_error" k (Pm K 1 s_program_error)) (C__law_deep_block : Cal P w K mg base "_law_deep_block" k (Pm1 K 3 s__law_deep_block)) (C__law_deep_e : Cal P w K mg base "_law_deep_e" k (Pm1 K 2 s__law_deep_e)) (C__law_words_right : Cal P w K mg base "_law_words_right" k (Pm1 K 1 s__law_words_right)) {sp : List PD → (Rs → Prop) → Prop} (hs : ∀ ds Ψ, sp ds Ψ → (d_law s__law_pen s__law_draw s_program_error s__law_deep_block s__law_deep_e s__law_words_right) (env0 ["script", "pen", "deed", "many", "due", "some", "blocks", "one", "last", "found", "e", "defs", "k", "letters", "word"] ds) (post0 Ψ)) : FnOk P w K mg base CX0 (k + 1) f fd ["script"] (Pm K 1 sp) := by
  have nd := sc_law.nd
  refine okR0 (body := (d_law s__law_pen s__law_draw s_program_error s__law_deep_block s__law_deep_e s__law_words_right)) Fn sc_law (fun cdv A outer s H E hr => ?_) fun ds Ψ _ h => hs ds Ψ h
  have hu := hr.units
  exact (rss_seq (rs_set (i := 1) false (re_call C__law_pen hr (ra_cons (re_var (i := 0)) ra_nil))) (rss_seq (rs_set (i := 2) true (re_ix (ixr hu) rop_ix (re_lst (ra_cons (re_tup (ra_cons re_str (ra_cons re_str (ra_cons re_int ra_nil)))) (ra_cons (re_tup (ra_cons re_str (ra_cons (re_tup ra_nil) (ra_cons (re_tup ra_nil) ra_nil)))) (ra_cons (re_tup (ra_cons re_str (ra_cons re_int ra_nil))) (ra_cons (re_tup (ra_cons re_str (ra_cons (re_tup ra_nil) ra_nil))) ra_nil))))) (re_call1 C__law_draw hr (ra_cons (re_var (i := 1)) (ra_cons re_int ra_nil))))) (rss_cut (rs_for (ri_val (re_lst (ra_cons (re_tup (ra_cons re_int (ra_cons re_non ra_nil))) (ra_cons (re_tup (ra_cons re_int (ra_cons re_str ra_nil))) (ra_cons (re_tup (ra_cons (re_call1 C__law_draw hr (ra_cons (re_var (i := 1)) (ra_cons re_int ra_nil))) (ra_cons re_non ra_nil))) ra_nil))))) (rg_pair (i := 3) (j := 4)) (rss_seq (rs_set (i := 5) true (re_bin opr_mulT rop_mulT (re_tup (ra_cons (re_var (i := 2)) ra_nil)) (re_var (i := 3)))) (rss_seq (rs_set (i := 6) true (re_lst (ra_cons (re_tup (ra_cons (re_var (i := 5)) (ra_cons (re_tupB ra_nil) ra_nil))) (ra_cons (re_tup (ra_cons (re_tup (ra_cons (re_tup (ra_cons re_str (ra_cons (re_var (i := 5)) (ra_cons (re_tup ra_nil) ra_nil)))) ra_nil)) (ra_cons (re_tupB ra_nil) ra_nil))) (ra_cons (re_tup (ra_cons (re_tup (ra_cons (re_tup (ra_cons re_str (ra_cons (re_var (i := 5)) ra_nil))) ra_nil)) (ra_cons (re_tupB ra_nil) ra_nil))) ra_nil))))) (rss_seq (rs_set (i := 6) true (re_bin opr_add rop_add (re_var (i := 6)) (re_lst (ra_cons (re_tup (ra_cons (re_tup ra_nil) (ra_cons (re_tupB (ra_cons (re_tup (ra_cons re_str (ra_cons (re_var (i := 5)) ra_nil))) ra_nil)) ra_nil))) (ra_cons (re_tup (ra_cons (re_tup (ra_cons (re_tup (ra_cons re_str (ra_cons re_int (ra_cons (re_tup ra_nil) (ra_cons (re_var (i := 5)) ra_nil))))) ra_nil)) (ra_cons (re_tupB ra_nil) ra_nil))) ra_nil))))) (rss_one (rs_if (rt_cmp (opr_ne hu) rop_ne (re_lcN (i := 7) (ri_val (re_var (i := 6))) (fun _ => (re_call C_program_error hr (ra_cons (re_var (i := 7)) ra_nil)))) (re_bin opr_mul rop_mul (re_lst (ra_cons (re_var (i := 4)) ra_nil)) re_int)) (rss_one (rs_ret re_bl)) rss_nil)))))) (rss_cut (rs_for (ri_val (re_lst (ra_cons (re_tup ra_nil) (ra_cons (re_tup (ra_cons (re_tup (ra_cons re_str (ra_cons re_int ra_nil))) ra_nil)) ra_nil)))) (rg_name (i := 8)) (rss_one (rs_for (ri_val (re_lst (ra_cons (re_tup (ra_cons re_int (ra_cons re_non ra_nil))) (ra_cons (re_tup (ra_cons re_int (ra_cons re_str ra_nil))) (ra_cons (re_tup (ra_cons (re_bin opr_add rop_add re_int (re_call1 C__law_draw hr (ra_cons (re_var (i := 1)) (ra_cons re_int ra_nil)))) (ra_cons re_non ra_nil))) ra_nil))))) (rg_pair (i := 3) (j := 4)) (rss_seq (rs_set (i := 9) true (re_call1 C__law_deep_block hr (ra_cons (re_var (i := 1)) (ra_cons (re_var (i := 3)) (ra_cons (re_var (i := 8)) ra_nil))))) (rss_one (rs_if (rt_w (rw_or (rt_cmp (opr_ne hu) rop_ne (re_call C_program_error hr (ra_cons (re_tup (ra_cons (re_var (i := 9)) (ra_cons (re_tupB ra_nil) ra_nil))) ra_nil)) (re_var (i := 4))) (rw_or1 (rt_cmp (opr_ne hu) rop_ne (re_call C_program_error hr (ra_cons (re_tup (ra_cons (re_tup ra_nil) (ra_cons (re_tupB (ra_cons (re_tup (ra_cons re_str (ra_cons (re_var (i := 9)) ra_nil))) ra_nil)) ra_nil))) ra_nil)) (re_var (i := 4)))))) (rss_one (rs_ret re_bl)) rss_nil)))))) (rss_cut (rs_for (ri_val (re_lst (ra_cons (re_tup (ra_cons re_int (ra_cons re_non ra_nil))) (ra_cons (re_tup (ra_cons re_int (ra_cons re_str ra_nil))) (ra_cons (re_tup (ra_cons (re_call1 C__law_draw hr (ra_cons (re_var (i := 1)) (ra_cons re_int ra_nil))) (ra_cons re_non ra_nil))) ra_nil))))) (rg_pair (i := 3) (j := 4)) (rss_seq (rs_set (i := 10) true (re_call1 C__law_deep_e hr (ra_cons (re_var (i := 1)) (ra_cons (re_var (i := 3)) ra_nil)))) (rss_one (rs_for (ri_val (re_lst (ra_cons (re_tup (ra_cons re_str (ra_cons re_str (ra_cons (re_var (i := 10)) ra_nil)))) (ra_cons (re_tup (ra_cons re_str (ra_cons (re_var (i := 10)) ra_nil))) (ra_cons (re_tup (ra_cons re_str (ra_cons (re_var (i := 10)) (ra_cons (re_tup ra_nil) (ra_cons (re_tup ra_nil) ra_nil))))) ra_nil))))) (rg_name (i := 7)) (rss_one (rs_if (rt_cmp (opr_ne hu) rop_ne (re_call C_program_error hr (ra_cons (re_tup (ra_cons (re_tup (ra_cons (re_var (i := 7)) ra_nil)) (ra_cons (re_tupB ra_nil) ra_nil))) ra_nil)) (re_var (i := 4))) (rss_one (rs_ret re_bl)) rss_nil)))))) (rss_cut (rs_for (ri_val (re_lst (ra_cons (re_tup (ra_cons re_int (ra_cons re_non ra_nil))) (ra_cons (re_tup (ra_cons re_int (ra_cons re_str ra_nil))) (ra_cons (re_tup (ra_cons (re_call1 C__law_draw hr (ra_cons (re_var (i := 1)) (ra_cons re_int ra_nil))) (ra_cons re_non ra_nil))) ra_nil))))) (rg_pair (i := 3) (j := 4)) (rss_seq (rs_set (i := 11) true (re_tupleB n_tuple (re_lcN (i := 12) (ri_range1 n_range (re_var (i := 3))) (fun _ => (re_tup (ra_cons (re_ix (ixr hu) rop_ix re_str (re_var (i := 12))) (ra_cons (re_tup ra_nil) ra_nil))))))) (rss_one (rs_if (rt_cmp (opr_ne hu) rop_ne (re_call C_program_error hr (ra_cons (re_tup (ra_cons (re_tup ra_nil) (ra_cons (re_var (i := 11)) ra_nil))) ra_nil)) (re_var (i := 4))) (rss_one (rs_ret re_bl)) rss_nil)))) (rss_cut (rs_if (rt_cmp (opr_ne hu) rop_ne (re_call C_program_error hr (ra_cons (re_tup (ra_cons (re_bin opr_mulT rop_mulT (re_tup (ra_cons (re_tup (ra_cons re_str ra_nil)) ra_nil)) re_int) (ra_cons (re_tupB ra_nil) ra_nil))) ra_nil)) re_str) (rss_one (rs_ret re_bl)) rss_nil) (rss_cut (rs_if (rt_cmp (opr_ne hu) rop_ne (re_call C_program_error hr (ra_cons (re_tup (ra_cons (re_tup ra_nil) (ra_cons (re_tupB (ra_cons (re_tup (ra_cons re_str (ra_cons (re_bin opr_mulT rop_mulT (re_tup (ra_cons (re_tup (ra_cons re_str (ra_cons re_str ra_nil))) ra_nil)) re_int) ra_nil))) ra_nil)) ra_nil))) ra_nil)) re_str) (rss_one (rs_ret re_bl)) rss_nil) (rss_cut (rs_if (rt_not (rt_val (re_call1 C__law_words_right hr (ra_cons (re_var (i := 1)) ra_nil)))) (rss_one (rs_ret re_bl)) rss_nil) (rss_seq (rs_set (i := 13) true (re_join re_str (re_lcN (i := 12) (ri_range1 n_range re_int) (fun _ => (re_ix (ixr hu) rop_ix re_str (re_call1 C__law_draw hr (ra_cons (re_var (i := 1)) (ra_cons re_int ra_nil)))))))) (rss_cut (rs_for (ri_range1 n_range re_int) (rg_name (i := 3)) (rss_seq (rs_set (i := 4) true (re_ife (rt_two op_le op_le (rop_cmp (g := fun i j => decide (i ≤ j))) (rop_cmp (g := fun i j => decide (i ≤ j))) re_int (re_var (i := 3)) re_int) re_non re_str)) (rss_seq (rs_set (i := 14) true (re_slc (re_var (i := 13)) ro_none (ro_some (re_var (i := 3))))) (rss_one (rs_for (ri_val (re_lst (ra_cons (re_tup (ra_cons (re_tup (ra_cons (re_tup (ra_cons re_str (ra_cons (re_var (i := 14)) (ra_cons re_int ra_nil)))) ra_nil)) (ra_cons (re_tupB ra_nil) ra_nil))) (ra_cons (re_tup (ra_cons (re_tup (ra_cons (re_tup (ra_cons re_str (ra_cons (re_var (i := 14)) ra_nil))) ra_nil)) (ra_cons (re_tupB ra_nil) ra_nil))) (ra_cons (re_tup (ra_cons (re_tup ra_nil) (ra_cons (re_tupB (ra_cons (re_tup (ra_cons (re_var (i := 14)) (ra_cons (re_tup ra_nil) ra_nil))) ra_nil)) ra_nil))) ra_nil))))) (rg_name (i := 7)) (rss_one (rs_if (rt_cmp (opr_ne hu) rop_ne (re_call C_program_error hr (ra_cons (re_var (i := 7)) ra_nil)) (re_var (i := 4))) (rss_one (rs_ret re_bl)) rss_nil))))))) (rss_one (rs_ret (re_andV (re_cmp opr_isN rop_isN (re_call C_program_error hr (ra_cons (re_tup (ra_cons (re_tup (ra_cons (re_tup (ra_cons re_str (ra_cons re_int ra_nil))) ra_nil)) (ra_cons (re_tupB ra_nil) ra_nil))) ra_nil)) re_non) (re_one (re_cmp (opr_eq hu) rop_eq (re_call C_program_error hr (ra_cons (re_tup (ra_cons (re_tup (ra_cons (re_tup (ra_cons re_str (ra_cons re_int ra_nil))) ra_nil)) (ra_cons (re_tupB ra_nil) ra_nil))) ra_nil)) re_str))))))))))))))))
end
end K62

set_option maxHeartbeats 4000000
namespace K62
open PySem PySem.Spec PyProof.Rows L2 Bk
/-! programs, in plain Lean -/
abbrev zS (s : String) : PySem.Str := PySem.Str.ofString s
def letters : List Nat := (PySem.Str.ofString "abcdefghijklmnopqrstuvwxyz").cps.toList
def wordB : PD → Bool
  | .str z => decide (1 ≤ z.length) && decide (z.length ≤ 6) && z.cps.toList.all fun c => decide (c ∈ letters)
  | _ => false
def opsL : List PD := [.str (zS "plus"), .str (zS "less"), .str (zS "alike"), .str (zS "least")]
/-- an expression, n deep at most -/
def exprB : Nat → PD → Bool
  | 0, .tuple _ => false
  | n + 1, .tuple [.str z, a, b] => inW (.str z) opsL && (exprB n a && exprB n b)
  | _ + 1, .tuple _ => false
  | _, .int i => decide (0 ≤ i) && decide (i ≤ 9)
  | _, .bool _ => false
  | _, d => wordB d
def getP (ds : List PD) (k : Nat) : PD := ds.getD k .none
def lastP (ds : List PD) : PD := ds.getLast?.getD .none
def partsN (z : PySem.Str) : List Nat := if z = zS "toss" then [1, 2] else if z = zS "if" then [2, 3] else if z = zS "loop" then [1] else []
def sizeN (z : PySem.Str) : Int := if z = zS "toss" then 3 else if z = zS "set" then 3 else if z = zS "if" then 4 else if z = zS "loop" then 2 else if z = zS "leave" then 1 else if z = zS "end" then 2 else if z = zS "call" then 2 else -1
theorem parts_eq (z : PySem.Str) : (partsV z).getD (.tuple []) = .tuple ((partsN z).map fun p => .int (p : Nat)) := by
  unfold partsV partsN zS
  split
  · rfl
  split
  · rfl
  split <;> rfl
theorem sizes_eq (z : PySem.Str) : (sizesV z).getD (.int (-1)) = .int (sizeN z) := by
  unfold sizesV sizeN zS
  split
  · rfl
  split
  · rfl
  split
  · rfl
  split
  · rfl
  split
  · rfl
  split
  · rfl
  split <;> rfl
/-- a statement, blk telling the blocks within it -/
def stmtB (blk : PD → Bool) : PD → Bool
  | .tuple (.str z :: rest) =>
    decide ((((.str z : PD) :: rest).length : Int) = sizeN z) && (!inW (.str z) [.str (zS "set"), .str (zS "call")] || wordB (getP (.str z :: rest) 1)) && (!inW (.str z) [.str (zS "set"), .str (zS "end")] || exprB 6 (lastP (.str z :: rest)))
      && (!decide (z = zS "if") || exprB 6 (getP (.str z :: rest) 1)) && (partsN z).all fun p => blk (getP (.str z :: rest) p)
  | _ => false
/-- a block with n depths left -/
def blockB : Nat → PD → Bool
  | n + 1, .tuple ds => decide (ds.length ≤ 20) && ds.all (stmtB (blockB n))
  | _, _ => false
/-! what may be looked at: no dicts, no long texts, not too deep -/
mutual
def okD : PD → Bool
  | .str z => decide (z.length ≤ 100000) && PyData.strOk z
  | .list ds => okDs ds
  | .tuple ds => decide (ds.length ≤ 100000) && okDs ds
  | .dict _ => false
  | _ => true
def okDs : List PD → Bool
  | [] => true
  | d :: ds => okD d && okDs ds
end
mutual
theorem okD_nd : ∀ d, okD d = true → nd d = true ∧ ndE d = true ∧ d.canLay0 = true
  | .none, _ => by simp [nd, ndE, PyData.canLay0]
  | .bool _, _ => by simp [nd, ndE, PyData.canLay0]
  | .int _, _ => by simp [nd, ndE, PyData.canLay0]
  | .str z, h => by
    simp only [okD, Bool.and_eq_true] at h
    simp [nd, ndE, PyData.canLay0, h.2]
  | .list ds, h => by
    simp only [okD] at h
    have := okDs_nd ds h
    simp [nd, ndE, PyData.canLay0, this.1, this.2.1, this.2.2]
  | .tuple ds, h => by
    simp only [okD, Bool.and_eq_true] at h
    have := okDs_nd ds h.2
    simp [nd, ndE, PyData.canLay0, this.1, this.2.1, this.2.2]
  | .dict _, h => by simp [okD] at h
theorem okDs_nd : ∀ ds, okDs ds = true → nds ds = true ∧ ndEs ds = true ∧ PyData.canLayAll0 ds = true
  | [], _ => by simp [nds, ndEs, PyData.canLayAll0]
  | d :: ds, h => by
    simp only [okDs, Bool.and_eq_true] at h
    have h1 := okD_nd d h.1
    have h2 := okDs_nd ds h.2
    simp [nds, ndEs, PyData.canLayAll0, h1.1, h1.2.1, h1.2.2, h2.1, h2.2.1, h2.2.2]
end
structure Gd (d : PD) : Prop where
  ok : okD d = true
  dp : d.depth ≤ 64
theorem Gd.eq {d : PD} (g : Gd d) : EqOk d := ⟨(okD_nd d g.ok).1, by
  unfold SeqAt.shaped
  rw [(okD_nd d g.ok).2.2, Bool.true_and]
  exact decide_eq_true g.dp⟩
theorem Gd.ndE {d : PD} (g : Gd d) : ndE d = true := (okD_nd d g.ok).2.1
theorem okDs_mem {ds : List PD} (h : okDs ds = true) {d : PD} (m : d ∈ ds) : okD d = true := by
  induction ds with
  | nil => cases m
  | cons e ds ih =>
    simp only [okDs, Bool.and_eq_true] at h
    rcases List.mem_cons.mp m with rfl | m
    · exact h.1
    · exact ih h.2 m
theorem dpAll_mem {ds : List PD} {d : PD} (m : d ∈ ds) : d.depth ≤ PyData.depthAll ds := by
  induction ds with
  | nil => cases m
  | cons e ds ih =>
    simp only [PyData.depthAll]
    rcases List.mem_cons.mp m with rfl | m
    · exact Nat.le_max_left ..
    · exact Nat.le_trans (ih m) (Nat.le_max_right ..)
theorem Gd.mem {ds : List PD} (g : Gd (.tuple ds)) {d : PD} (m : d ∈ ds) : Gd d := by
  have h := g.ok
  simp only [okD, Bool.and_eq_true] at h
  have h2 := g.dp
  simp only [PyData.depth] at h2
  have h3 := dpAll_mem m
  exact ⟨okDs_mem h.2 m, by omega⟩
theorem Gd.len {ds : List PD} (g : Gd (.tuple ds)) : ds.length ≤ 100000 := by
  have h := g.ok
  simp only [okD, Bool.and_eq_true] at h
  exact of_decide_eq_true h.1
theorem Gd.str {d : PD} (g : Gd d) : ∀ z, d = .str z → z.length ≤ 100000 := by
  rintro z rfl
  have h := g.ok
  simp only [okD, Bool.and_eq_true] at h
  exact of_decide_eq_true h.1
end K62

set_option maxHeartbeats 4000000
namespace K62
open PySem PySem.Spec PyProof.Rows L2 Bk
theorem kit_str (d : PD) : kitB (tyD d) "str" = some (match d with | .str _ => true | _ => false) := by
  cases d with
  | none => exact (by decide +kernel : kitB "NoneType" "str" = some false)
  | bool b => exact (by decide +kernel : kitB "bool" "str" = some false)
  | int i => exact (by decide +kernel : kitB "int" "str" = some false)
  | str z => exact (by decide +kernel : kitB "str" "str" = some true)
  | list ds => exact (by decide +kernel : kitB "list" "str" = some false)
  | tuple ds => exact (by decide +kernel : kitB "tuple" "str" = some false)
  | dict es => exact (by decide +kernel : kitB "dict" "str" = some false)
def spWord : List PD → (Rs → Prop) → Prop := fun ds Ψ => ∃ d, ds = [d] ∧ ndE d = true ∧ (∀ z, d = .str z → z.length ≤ 100000) ∧ Ψ (.sh (.bool (wordB d)))
theorem e_word (d : PD) (h : ndE d = true) (hz : ∀ z, d = .str z → z.length ≤ 100000) (Ψ : Rs → Prop) (q : Ψ (.sh (.bool (wordB d)))) : d_is_word [.sh d, .un] (post0 Ψ) := by
  have no : (∀ z, d ≠ .str z) → wordB d = false := fun hn => by
    cases d <;> first | rfl | exact absurd rfl (hn _)
  unfold d_is_word d_is_word_1
  simp only [DD0, DD1, DD2, DD3, DD4, DD5, DD6, slG, slP, fzsK, Nat.zero_le, Nat.reduceLeDiff, List.length_cons, List.length_nil, if_true, if_false, reduceIte, true_and, and_true, Bool.not_true, Bool.not_false, Bool.false_eq_true]
  refine ⟨h, ?_⟩
  cases d with
  | str z =>
    have zl := hz z rfl
    refine ⟨true, kit_str _, fun _ => ?_, (fun g => by cases g)⟩
    simp only [DD0, DD1, DD2, DD3, DD4, DD5, DD6, slG, slP, fzsK, Nat.zero_le, Nat.reduceLeDiff, List.length_cons, List.length_nil, if_true, if_false, reduceIte, true_and, and_true, Bool.not_true, Bool.not_false, Bool.false_eq_true]
    refine ⟨zl, ?_⟩
    have e1 : decide ((1 : Int) ≤ (z.length : Nat)) = decide (1 ≤ z.length) := by rw [decide_eq_decide]; omega
    have e2 : decide (((z.length : Nat) : Int) ≤ 6) = decide (z.length ≤ 6) := by rw [decide_eq_decide]; omega
    rw [e1]
    have wB : wordB (.str z) = (decide (1 ≤ z.length) && decide (z.length ≤ 6) && z.cps.toList.all fun c => decide (c ∈ letters)) := rfl
    refine ⟨fun g1 => ?_, fun g1 => ⟨(fun g => g.elim), fun _ => by rw [wB, g1] at q; exact q⟩⟩
    rw [e2]
    refine ⟨fun g2 => ?_, fun g2 => by rw [wB, g1, g2] at q; exact q⟩
    simp only [itK]
    have sl : (sgnD z).length = z.cps.toList.length := by unfold sgnD; rw [List.length_map]
    refine ⟨by rw [sl]; exact zl, fun k E => E = [.sh (.str z), .un], fun k y => ∃ c, z.cps.toList[k]? = some c ∧ y = .bool (decide (c ∈ letters)), rfl, ?_, ?_⟩
    · rintro k d E2 hd rfl
      obtain ⟨c, hc, rfl⟩ := map_get (f := fun c => PyData.str ⟨#[c]⟩) hd
      simp only [DD0, DD1, DD2, DD3, DD4, DD5, DD6, slG, slP, fzsK, Nat.zero_le, Nat.reduceLeDiff, List.length_cons, List.length_nil, if_true, if_false, reduceIte, true_and, and_true, Bool.not_true, Bool.not_false, Bool.false_eq_true]
      exact ⟨c, rfl, c, hc, rfl⟩
    · rintro E2 ys rfl hl hR
      rw [sl] at hl
      refine ⟨z.cps.toList.map fun c => decide (c ∈ letters), ?_, ?_⟩
      · refine List.ext_getElem? fun i => ?_
        rw [List.getElem?_map, List.getElem?_map]
        rcases Nat.lt_or_ge i z.cps.toList.length with g | g
        · obtain ⟨c, hc, e⟩ := hR i _ (List.getElem?_eq_getElem (by omega))
          rw [List.getElem?_eq_getElem (by omega : i < ys.length), e, hc]
          rfl
        · rw [List.getElem?_eq_none (by omega : ys.length ≤ i), List.getElem?_eq_none g]
          rfl
      · rw [wB, g1, g2] at q
        rw [List.all_map]
        exact q
  | _ =>
    refine ⟨false, kit_str _, (fun g => by cases g), fun _ => ?_⟩
    rw [no (fun z g => by cases g)] at q
    exact q
end K62

set_option maxHeartbeats 4000000
namespace K62
open PySem PySem.Spec PyProof.Rows L2 Bk
theorem kit_tup (d : PD) : kitB (tyD d) "tuple" = some (match d with | .tuple _ => true | _ => false) := by
  cases d with
  | none => exact (by decide +kernel : kitB "NoneType" "tuple" = some false)
  | bool b => exact (by decide +kernel : kitB "bool" "tuple" = some false)
  | int i => exact (by decide +kernel : kitB "int" "tuple" = some false)
  | str z => exact (by decide +kernel : kitB "str" "tuple" = some false)
  | list ds => exact (by decide +kernel : kitB "list" "tuple" = some false)
  | tuple ds => exact (by decide +kernel : kitB "tuple" "tuple" = some true)
  | dict es => exact (by decide +kernel : kitB "dict" "tuple" = some false)
theorem kit_int (d : PD) : kitB (tyD d) "int" = some (match d with | .int _ => true | .bool _ => true | _ => false) := by
  cases d with
  | none => exact (by decide +kernel : kitB "NoneType" "int" = some false)
  | bool b => exact (by decide +kernel : kitB "bool" "int" = some true)
  | int i => exact (by decide +kernel : kitB "int" "int" = some true)
  | str z => exact (by decide +kernel : kitB "str" "int" = some false)
  | list ds => exact (by decide +kernel : kitB "list" "int" = some false)
  | tuple ds => exact (by decide +kernel : kitB "tuple" "int" = some false)
  | dict es => exact (by decide +kernel : kitB "dict" "int" = some false)
theorem kit_bool (d : PD) : kitB (tyD d) "bool" = some (match d with | .bool _ => true | _ => false) := by
  cases d with
  | none => exact (by decide +kernel : kitB "NoneType" "bool" = some false)
  | bool b => exact (by decide +kernel : kitB "bool" "bool" = some true)
  | int i => exact (by decide +kernel : kitB "int" "bool" = some false)
  | str z => exact (by decide +kernel : kitB "str" "bool" = some false)
  | list ds => exact (by decide +kernel : kitB "list" "bool" = some false)
  | tuple ds => exact (by decide +kernel : kitB "tuple" "bool" = some false)
  | dict es => exact (by decide +kernel : kitB "dict" "bool" = some false)
end K62

set_option maxHeartbeats 4000000
namespace K62
open PySem PySem.Spec PyProof.Rows L2 Bk
def spNone : List PD → (Rs → Prop) → Prop := fun _ _ => False
def spExpr (n : Nat) : List PD → (Rs → Prop) → Prop := fun ds Ψ => ∃ d, ds = [d, .int (n : Nat)] ∧ Gd d ∧ Ψ (.sh (.bool (exprB n d)))
def spExprB : Nat → List PD → (Rs → Prop) → Prop
  | 0 => spNone
  | n + 1 => spExpr n
theorem sw_of {d : PD} (g : Gd d) {Ψ : Rs → Prop} (q : Ψ (.sh (.bool (wordB d)))) : spWord [d] Ψ := ⟨d, rfl, g.ndE, g.str, q⟩
theorem ex_word {d : PD} (n : Nat) (h1 : isTup d = false) (h2 : ∀ i, d ≠ .int i) (h3 : ∀ i, d ≠ .bool i) : exprB n d = wordB d := by
  cases d with
  | tuple _ => cases h1
  | int i => exact absurd rfl (h2 i)
  | bool i => exact absurd rfl (h3 i)
  | _ => cases n <;> rfl
theorem ex_int (n : Nat) (i : Int) : exprB n (.int i) = (decide (0 ≤ i) && decide (i ≤ 9)) := by cases n <;> rfl
theorem ex_bool (n : Nat) (b : Bool) : exprB n (.bool b) = false := by cases n <;> rfl
theorem ex_tup (n : Nat) (z : PySem.Str) (a b : PD) : exprB (n + 1) (.tuple [.str z, a, b]) = (inW (.str z) opsL && (exprB n a && exprB n b)) := rfl
theorem ex_bad (n : Nat) {ds : List PD} (h : ∀ z a b, ds ≠ [.str z, a, b]) : exprB n (.tuple ds) = false := by
  cases n with
  | zero => rfl
  | succ n =>
    unfold exprB
    split <;> (first | rfl | (rename_i e; cases e; exact absurd rfl (h _ _ _)) | (rename_i e; cases e))
theorem three {ds : List PD} (h : ds.length = 3) : ∃ a b c, ds = [a, b, c] := by
  match ds, h with
  | [a, b, c], _ => exact ⟨a, b, c, rfl⟩
theorem str_or (d : PD) : (∃ z, d = .str z) ∨ ∀ z, d ≠ .str z := by
  cases d with
  | str z => exact .inl ⟨z, rfl⟩
  | _ => exact .inr fun z h => by cases h
theorem kit_noStr {d : PD} (h : ∀ z, d ≠ .str z) : kitB (tyD d) "str" = some false := by
  rw [kit_str]
  cases d with
  | str z => exact absurd rfl (h z)
  | _ => rfl
theorem kit_isStr (z : PySem.Str) : kitB (tyD (.str z)) "str" = some true := kit_str _
theorem ex_fin (n : Nat) {d i : PD} {Φ : Post} {Ψ : Rs → Prop} (h : Φ.rt = fun E r => rtK E r Ψ) (q : Ψ (.sh (.bool false))) : d_is_expression_1 (spExprB n) spWord [.sh d, .sh i, .sh (.bool false)] Φ := by
  unfold d_is_expression_1
  simp only [DD0, DD1, DD2, DD3, DD4, DD5, DD6, DD7, slG, slP, fzsK, Nat.zero_le, Nat.reduceLeDiff, List.length_cons, List.length_nil, if_true, if_false, reduceIte, true_and, and_true, Bool.not_true, Bool.not_false, Bool.false_eq_true]
  rw [h]
  simp only [DD0, DD1, DD2, DD3, DD4, DD5, DD6, DD7, slG, slP, fzsK, Nat.zero_le, Nat.reduceLeDiff, List.length_cons, List.length_nil, if_true, if_false, reduceIte, true_and, and_true, Bool.not_true, Bool.not_false, Bool.false_eq_true]
  exact ⟨(fun h => by cases h), fun _ => q⟩
theorem e_expr (n : Nat) (d : PD) (g : Gd d) (Ψ : Rs → Prop) (q : Ψ (.sh (.bool (exprB n d)))) : d_is_expression (spExprB n) spWord [.sh d, .sh (.int (n : Nat)), .un] (post0 Ψ) := by
  unfold d_is_expression d_is_expression_6
  simp only [DD0, DD1, DD2, DD3, DD4, DD5, DD6, DD7, slG, slP, fzsK, Nat.zero_le, Nat.reduceLeDiff, List.length_cons, List.length_nil, if_true, if_false, reduceIte, true_and, and_true, Bool.not_true, Bool.not_false, Bool.false_eq_true]
  have hnd := g.ndE
  cases d with
  | tuple ds =>
    refine ⟨fun _ => False, ⟨hnd, true, kit_tup _, fun _ => ?_, fun h => by cases h⟩, fun _ h => h.elim⟩
    unfold d_is_expression_2
    simp only [DD0, DD1, DD2, DD3, DD4, DD5, DD6, DD7, slG, slP, fzsK, Nat.zero_le, Nat.reduceLeDiff, List.length_cons, List.length_nil, if_true, if_false, reduceIte, true_and, and_true, Bool.not_true, Bool.not_false, Bool.false_eq_true]
    refine ⟨fun h0 => ⟨fun h1 => ?_, fun h1 => ex_fin n rfl ?_⟩, fun h0 => ex_fin n rfl ?_⟩
    · have h1 : ds.length = 3 := by have := of_decide_eq_true h1; omega
      obtain ⟨a, b, c, rfl⟩ := three h1
      have ga : Gd a := g.mem (by simp)
      have gb : Gd b := g.mem (by simp)
      have gc : Gd c := g.mem (by simp)
      refine ⟨a, rfl, ga.ndE, ?_⟩
      rcases str_or a with ⟨z, rfl⟩ | ha
      · refine ⟨true, kit_isStr z, fun _ => ⟨_, rfl, rfl, rfl, ?_⟩, fun h => by cases h⟩
        cases n with
        | zero => exact absurd (of_decide_eq_true h0) (by omega)
        | succ n =>
          rw [ex_tup] at q
          unfold opsL zS at q
          generalize inW (.str z) _ = v at q
          unfold d_is_expression_1
          simp only [DD0, DD1, DD2, DD3, DD4, DD5, DD6, DD7, slG, slP, fzsK, Nat.zero_le, Nat.reduceLeDiff, List.length_cons, List.length_nil, if_true, if_false, reduceIte, true_and, and_true, Bool.not_true, Bool.not_false, Bool.false_eq_true]
          have e : ((n + 1 : Nat) : Int) - 1 = (n : Nat) := by omega
          rw [e]
          refine ⟨fun hv => ?_, fun hv => by subst hv; exact q⟩
          subst hv
          refine ⟨b, rfl, fun Ψ1 kk => ⟨b, rfl, gb, kk _ ?_⟩⟩
          simp only [DD0, DD1, DD2, DD3, DD4, DD5, DD6, DD7, slG, slP, fzsK, Nat.zero_le, Nat.reduceLeDiff, List.length_cons, List.length_nil, if_true, if_false, reduceIte, true_and, and_true, Bool.not_true, Bool.not_false, Bool.false_eq_true]
          refine ⟨fun hv => ?_, fun hv => by rw [hv] at q; exact q⟩
          refine ⟨c, rfl, fun Ψ1 kk => ⟨c, rfl, gc, kk _ ?_⟩⟩
          simp only [DD0, DD1, DD2, DD3, DD4, DD5, DD6, DD7, slG, slP, fzsK, Nat.zero_le, Nat.reduceLeDiff, List.length_cons, List.length_nil, if_true, if_false, reduceIte, true_and, and_true, Bool.not_true, Bool.not_false, Bool.false_eq_true]
          rw [hv] at q
          exact q
      · refine ⟨false, kit_noStr ha, (fun h => by cases h), fun _ => ex_fin n rfl ?_⟩
        rw [ex_bad n fun z a b e => by cases e; exact ha _ rfl] at q
        exact q
    · rw [ex_bad n fun z a b e => by subst e; simp at h1] at q
      exact q
    · have hn : n = 0 := by have := of_decide_eq_false h0; omega
      subst hn
      exact q
  | int i =>
    refine ⟨fun E => E = _, ⟨hnd, false, kit_tup _, (fun h => by cases h), fun _ => rfl⟩, ?_⟩
    rintro E rfl
    unfold d_is_expression_5
    simp only [DD0, DD1, DD2, DD3, DD4, DD5, DD6, DD7, slG, slP, fzsK, Nat.zero_le, Nat.reduceLeDiff, List.length_cons, List.length_nil, if_true, if_false, reduceIte, true_and, and_true, Bool.not_true, Bool.not_false, Bool.false_eq_true]
    refine ⟨fun _ => False, ⟨hnd, true, kit_int _, fun _ => ?_, fun h => by cases h⟩, fun _ h => h.elim⟩
    unfold d_is_expression_3
    simp only [DD0, DD1, DD2, DD3, DD4, DD5, DD6, DD7, slG, slP, fzsK, Nat.zero_le, Nat.reduceLeDiff, List.length_cons, List.length_nil, if_true, if_false, reduceIte, true_and, and_true, Bool.not_true, Bool.not_false, Bool.false_eq_true]
    refine ⟨hnd, false, kit_bool _, ?_⟩
    rw [ex_int] at q
    refine ⟨fun _ => ⟨fun h1 => ?_, fun h1 => ?_⟩, fun h => by cases h⟩
    · rw [h1] at q
      exact q
    · rw [h1] at q
      exact q
  | bool i =>
    refine ⟨fun E => E = _, ⟨hnd, false, kit_tup _, (fun h => by cases h), fun _ => rfl⟩, ?_⟩
    rintro E rfl
    unfold d_is_expression_5
    simp only [DD0, DD1, DD2, DD3, DD4, DD5, DD6, DD7, slG, slP, fzsK, Nat.zero_le, Nat.reduceLeDiff, List.length_cons, List.length_nil, if_true, if_false, reduceIte, true_and, and_true, Bool.not_true, Bool.not_false, Bool.false_eq_true]
    refine ⟨fun _ => False, ⟨hnd, true, kit_int _, fun _ => ?_, fun h => by cases h⟩, fun _ h => h.elim⟩
    unfold d_is_expression_3
    simp only [DD0, DD1, DD2, DD3, DD4, DD5, DD6, DD7, slG, slP, fzsK, Nat.zero_le, Nat.reduceLeDiff, List.length_cons, List.length_nil, if_true, if_false, reduceIte, true_and, and_true, Bool.not_true, Bool.not_false, Bool.false_eq_true]
    refine ⟨hnd, true, kit_bool _, ?_⟩
    rw [ex_bool] at q
    exact ⟨(fun h => by cases h), fun _ => q⟩
  | dict es => exact absurd g.ok (by simp [okD])
  | _ => 
    rw [ex_word n rfl (fun _ h => by cases h) (fun _ h => by cases h)] at q
    refine ⟨fun E => E = _, ⟨hnd, false, kit_tup _, (fun h => by cases h), fun _ => rfl⟩, ?_⟩
    rintro E rfl
    unfold d_is_expression_5
    simp only [DD0, DD1, DD2, DD3, DD4, DD5, DD6, DD7, slG, slP, fzsK, Nat.zero_le, Nat.reduceLeDiff, List.length_cons, List.length_nil, if_true, if_false, reduceIte, true_and, and_true, Bool.not_true, Bool.not_false, Bool.false_eq_true]
    refine ⟨fun E => E = _, ⟨hnd, false, kit_int _, (fun h => by cases h), fun _ => rfl⟩, ?_⟩
    rintro E rfl
    unfold d_is_expression_4
    simp only [DD0, DD1, DD2, DD3, DD4, DD5, DD6, DD7, slG, slP, fzsK, Nat.zero_le, Nat.reduceLeDiff, List.length_cons, List.length_nil, if_true, if_false, reduceIte, true_and, and_true, Bool.not_true, Bool.not_false, Bool.false_eq_true]
    exact fun Ψ1 kk => sw_of g (kk _ q)
end K62

set_option maxHeartbeats 4000000
namespace K62
open PySem PySem.Spec PyProof.Rows L2 Bk
theorem at_k {α : Type} {ds : List α} {k : Nat} {d : α} (h : ds[k]? = some d) : atI ds ((k : Nat) : Int) = some d := by
  refine atI_of (j := k) ?_ h
  have hj : k < ds.length := (List.getElem?_eq_some_iff.mp h).1
  unfold ixN
  rw [if_pos (by omega), if_pos (by omega)]
  rfl
theorem at_0 {α : Type} {ds : List α} {d : α} : atI (d :: ds) 0 = some d := at_k (k := 0) rfl
theorem at_1 {α : Type} {ds : List α} {d e : α} : atI (d :: e :: ds) 1 = some e := at_k (k := 1) rfl
theorem at_last {α : Type} {ds : List α} {d : α} (h : ds.getLast? = some d) : atI ds (-1) = some d := by
  have hn : ds ≠ [] := fun e => by rw [e] at h; cases h
  have hl : 0 < ds.length := List.length_pos_iff.mpr hn
  refine atI_of (j := ds.length - 1) ?_ ?_
  · unfold ixN
    rw [if_neg (by omega), if_pos (by omega)]
    congr 1
    omega
  · rw [List.getLast?_eq_getElem?] at h
    exact h
theorem bools_of {α : Type} {ds : List α} {ys : List PD} {f : α → Bool} (hl : ys.length = ds.length) (hR : ∀ (i : Nat) (y : PD), ys[i]? = some y → ∃ d, ds[i]? = some d ∧ y = .bool (f d)) : ys = (ds.map f).map PyData.bool := by
  refine List.ext_getElem? fun i => ?_
  rw [List.map_map, List.getElem?_map]
  rcases Nat.lt_or_ge i ds.length with g | g
  · obtain ⟨c, hc, e⟩ := hR i _ (List.getElem?_eq_getElem (by omega))
    rw [List.getElem?_eq_getElem (by omega : i < ys.length), e, hc]
    rfl
  · rw [List.getElem?_eq_none (by omega : ys.length ≤ i), List.getElem?_eq_none g]
    rfl
structure Gt (d : PD) : Prop where
  n : ndE d = true
  t : isTup d = true → Gd d
theorem Gd.gt {d : PD} (g : Gd d) : Gt d := ⟨g.ndE, fun _ => g⟩
def spBlk (n : Nat) : List PD → (Rs → Prop) → Prop := fun ds Ψ => ∃ d, ds = [d, .int (7 - (n : Nat))] ∧ Gt d ∧ Ψ (.sh (.bool (blockB n d)))
def spStmt (n : Nat) : List PD → (Rs → Prop) → Prop := fun ds Ψ => ∃ d, ds = [d, .int (7 - ((n + 1 : Nat) : Int))] ∧ Gd d ∧ Ψ (.sh (.bool (stmtB (blockB n) d)))
def spStmtB : Nat → List PD → (Rs → Prop) → Prop
  | 0 => spNone
  | n + 1 => spStmt n
theorem blk_non (n : Nat) {d : PD} (h : isTup d = false) : blockB n d = false := by
  cases n with
  | zero => cases d <;> rfl
  | succ n => cases d <;> first | rfl | cases h
theorem blk_tup (n : Nat) (ds : List PD) : blockB (n + 1) (.tuple ds) = (decide (ds.length ≤ 20) && ds.all (stmtB (blockB n))) := rfl
theorem e_blk (n : Nat) (d : PD) (g : Gt d) (Ψ : Rs → Prop) (q : Ψ (.sh (.bool (blockB n d)))) : d_is_block (spStmtB n) [.sh d, .sh (.int (7 - (n : Nat))), .un] (post0 Ψ) := by
  unfold d_is_block d_is_block_3
  simp only [DD0, DD1, DD2, DD3, DD4, DD5, DD6, DD7, slG, slP, fzsK, Nat.zero_le, Nat.reduceLeDiff, List.length_cons, List.length_nil, if_true, if_false, reduceIte, true_and, and_true, Bool.not_true, Bool.not_false, Bool.false_eq_true]
  have hnd := g.n
  cases d with
  | tuple ds =>
    have g := g.t rfl
    refine ⟨fun E => n ≠ 0 ∧ ds.length ≤ 20 ∧ E = [.sh (.tuple ds), .sh (.int (7 - (n : Nat))), .un], ⟨hnd, true, kit_tup _, (fun h => by cases h), fun _ => ⟨fun h => ?_, fun h => ⟨fun h2 => ?_, fun h2 => ?_⟩⟩⟩, ?_⟩
    · refine ⟨fun _ => ?_, fun h => by cases h⟩
      unfold d_is_block_1
      simp only [DD0, DD1, DD2, DD3, DD4, DD5, DD6, DD7, slG, slP, fzsK, Nat.zero_le, Nat.reduceLeDiff, List.length_cons, List.length_nil, if_true, if_false, reduceIte, true_and, and_true, Bool.not_true, Bool.not_false, Bool.false_eq_true]
      have : ¬ ds.length ≤ 20 := by have := of_decide_eq_true h; omega
      cases n with
      | zero => exact q
      | succ n => rw [blk_tup, decide_eq_false this] at q; exact q
    · unfold d_is_block_1
      simp only [DD0, DD1, DD2, DD3, DD4, DD5, DD6, DD7, slG, slP, fzsK, Nat.zero_le, Nat.reduceLeDiff, List.length_cons, List.length_nil, if_true, if_false, reduceIte, true_and, and_true, Bool.not_true, Bool.not_false, Bool.false_eq_true]
      have : n = 0 := by have := of_decide_eq_true h2; omega
      subst this
      exact q
    · refine ⟨?_, ?_, rfl⟩
      · have := of_decide_eq_false h2; omega
      · have := of_decide_eq_false h; omega
    · rintro E ⟨hn, hl, rfl⟩
      cases n with
      | zero => exact absurd rfl hn
      | succ n =>
        rw [blk_tup, decide_eq_true hl] at q
        unfold d_is_block_2
        simp only [DD0, DD1, DD2, DD3, DD4, DD5, DD6, DD7, slG, slP, fzsK, Nat.zero_le, Nat.reduceLeDiff, List.length_cons, List.length_nil, if_true, if_false, reduceIte, true_and, and_true, Bool.not_true, Bool.not_false, Bool.false_eq_true]
        refine ⟨g.len, fun k E => ∃ b2, E = [.sh (.tuple ds), .sh (.int (7 - ((n + 1 : Nat) : Int))), b2], fun k y => ∃ d, ds[k]? = some d ∧ y = .bool (stmtB (blockB n) d), ⟨_, rfl⟩, ?_, ?_⟩
        · rintro k d E2 hd ⟨b2, rfl⟩
          simp only [DD0, DD1, DD2, DD3, DD4, DD5, DD6, DD7, slG, slP, fzsK, Nat.zero_le, Nat.reduceLeDiff, List.length_cons, List.length_nil, if_true, if_false, reduceIte, true_and, and_true, Bool.not_true, Bool.not_false, Bool.false_eq_true]
          exact fun Ψ1 kk => ⟨d, rfl, g.mem (List.mem_of_getElem? hd), kk _ ⟨⟨_, rfl⟩, d, hd, rfl⟩⟩
        · rintro E2 ys ⟨b2, rfl⟩ hl hR
          refine ⟨_, bools_of hl hR, ?_⟩
          rw [List.all_map]
          exact q
  | _ =>
    rw [blk_non n rfl] at q
    refine ⟨fun _ => False, ⟨hnd, false, kit_tup _, (fun _ => ⟨fun _ => ?_, fun h => by cases h⟩), fun h => by cases h⟩, fun _ h => h.elim⟩
    unfold d_is_block_1
    simp only [DD0, DD1, DD2, DD3, DD4, DD5, DD6, DD7, slG, slP, fzsK, Nat.zero_le, Nat.reduceLeDiff, List.length_cons, List.length_nil, if_true, if_false, reduceIte, true_and, and_true, Bool.not_true, Bool.not_false, Bool.false_eq_true]
    exact q
theorem st_non (f : PD → Bool) {d : PD} (h : ∀ z r, d ≠ .tuple (.str z :: r)) : stmtB f d = false := by
  unfold stmtB
  split
  · exact absurd rfl (h _ _)
  · rfl
theorem rfF {E : EnvB} {Φ : Post} {Ψ : Rs → Prop} (h : Φ.rt = fun E r => rtK E r Ψ) (q : Ψ (.sh (.bool false))) : dRet (dC (.bool false)) E Φ := by
  simp only [DD0, DD1, DD2, DD3, DD4, DD5, DD6, DD7, slG, slP, fzsK, Nat.zero_le, Nat.reduceLeDiff, List.length_cons, List.length_nil, if_true, if_false, reduceIte, true_and, and_true, Bool.not_true, Bool.not_false, Bool.false_eq_true]
  rw [h]
  exact q
theorem st_eq (f : PD → Bool) (z : PySem.Str) (rest : List PD) : stmtB f (.tuple (.str z :: rest)) = (decide (((rest.length + 1 : Nat) : Int) = sizeN z) && (!inW (.str z) [.str (zS "set"), .str (zS "call")] || wordB (getP (.str z :: rest) 1)) && (!inW (.str z) [.str (zS "set"), .str (zS "end")] || exprB 6 (lastP (.str z :: rest)))
      && (!decide (z = zS "if") || exprB 6 (getP (.str z :: rest) 1)) && (partsN z).all fun p => f (getP (.str z :: rest) p)) := rfl
theorem sz_wc {z : PySem.Str} (h : inW (.str z) [.str (zS "set"), .str (zS "call")] = true) : 2 ≤ sizeN z := by
  simp only [inW, List.any_cons, List.any_nil, eqW, Bool.or_eq_true, decide_eq_true_eq, Bool.or_false, Bool.false_eq_true, or_false] at h
  rcases h with rfl | rfl <;> decide +kernel
theorem sz_if {z : PySem.Str} (h : z = zS "if") : sizeN z = 4 := by
  subst h
  decide +kernel
theorem getN {ds : List PD} {k : Nat} (h : k < ds.length) : ∃ a, ds[k]? = some a ∧ atI ds (k : Nat) = some a ∧ a ∈ ds ∧ getP ds k = a := by
  have e := List.getElem?_eq_getElem h
  exact ⟨_, e, at_k e, List.getElem_mem h, by unfold getP; rw [List.getD_eq_getElem?_getD, e]; rfl⟩
theorem parts_in {z : PySem.Str} {p : Nat} (h : p ∈ partsN z) : (p : Int) < sizeN z := by
  unfold partsN at h
  split at h
  · next e => subst e; rw [show sizeN (zS "toss") = 3 by decide +kernel]; simp at h; omega
  split at h
  · next e => subst e; rw [show sizeN (zS "if") = 4 by decide +kernel]; simp at h; omega
  split at h
  · next e => subst e; rw [show sizeN (zS "loop") = 2 by decide +kernel]; simp at h; omega
  · cases h
theorem parts_len (z : PySem.Str) : (partsN z).length ≤ 2 := by
  unfold partsN
  split
  · decide
  split
  · decide
  split <;> decide
theorem get1 {rest : List PD} {z : PySem.Str} (h : 0 < rest.length) : ∃ a, atI ((.str z : PD) :: rest) 1 = some a ∧ a ∈ ((.str z : PD) :: rest) ∧ getP (.str z :: rest) 1 = a := by
  match rest, h with
  | a :: r, _ => exact ⟨a, at_1, by simp, rfl⟩
theorem getL {ds : List PD} {d : PD} : ∃ a, atI (d :: ds) (-1) = some a ∧ a ∈ (d :: ds) ∧ lastP (d :: ds) = a := by
  have h : (d :: ds).getLast? = some ((d :: ds).getLast (by simp)) := List.getLast?_eq_some_getLast (by simp)
  exact ⟨_, at_last h, List.getLast_mem _, by unfold lastP; rw [h]; rfl⟩
theorem e_stmt (n : Nat) (d : PD) (g : Gd d) (Ψ : Rs → Prop) (q : Ψ (.sh (.bool (stmtB (blockB n) d)))) : d_is_statement spWord (spExpr 6) (spBlk n) [.sh d, .sh (.int (7 - ((n + 1 : Nat) : Int))), .un] (post0 Ψ) := by
  unfold d_is_statement d_is_statement_11
  simp only [DD0, DD1, DD2, DD3, DD4, DD5, DD6, DD7, slG, slP, fzsK, Nat.zero_le, Nat.reduceLeDiff, List.length_cons, List.length_nil, if_true, if_false, reduceIte, true_and, and_true, Bool.not_true, Bool.not_false, Bool.false_eq_true]
  have hnd := g.ndE
  refine ⟨fun E => ∃ z rest, d = .tuple (.str z :: rest) ∧ E = [.sh d, .sh (.int (7 - ((n + 1 : Nat) : Int))), .un], ?_, ?_⟩
  · cases d with
    | tuple ds =>
      refine ⟨hnd, true, kit_tup _, (fun h => by cases h), fun _ => ?_⟩
      simp only [DD0, DD1, DD2, DD3, DD4, DD5, DD6, DD7, slG, slP, fzsK, Nat.zero_le, Nat.reduceLeDiff, List.length_cons, List.length_nil, if_true, if_false, reduceIte, true_and, and_true, Bool.not_true, Bool.not_false, Bool.false_eq_true]
      refine ⟨g.eq, ⟨rfl, rfl⟩, fun h => ⟨fun _ => rfF rfl ?_, fun h => by cases h⟩, fun h => ?_⟩
      · cases ds with
        | nil => exact q
        | cons d ds => exact absurd h (by simp [PyData.eqv, PyData.eqvAll])
      · cases ds with
        | nil => exact absurd h (by simp [PyData.eqv, PyData.eqvAll])
        | cons d rest =>
          have gd : Gd d := g.mem (by simp)
          refine ⟨d, at_0, gd.ndE, ?_⟩
          rcases str_or d with ⟨z, rfl⟩ | hs
          · exact ⟨true, kit_isStr z, (fun h => by cases h), fun _ => ⟨z, rest, rfl⟩⟩
          · refine ⟨false, kit_noStr hs, (fun _ => rfF rfl ?_), fun h => by cases h⟩
            rw [st_non _ fun z r e => by cases e; exact hs _ rfl] at q
            exact q
    | dict es => exact absurd g.ok (by simp [okD])
    | _ =>
      rw [st_non _ fun z r e => by cases e] at q
      exact ⟨hnd, false, kit_tup _, (fun _ => ⟨fun _ => rfF rfl q, fun h => by cases h⟩), fun h => by cases h⟩
  rintro E1 ⟨z, rest, rfl, rfl⟩
  unfold d_is_statement_10
  simp only [DD0, DD1, DD2, DD3, DD4, DD5, DD6, DD7, slG, slP, fzsK, Nat.zero_le, Nat.reduceLeDiff, List.length_cons, List.length_nil, if_true, if_false, reduceIte, true_and, and_true, Bool.not_true, Bool.not_false, Bool.false_eq_true]
  refine ⟨fun E => ((rest.length + 1 : Nat) : Int) = sizeN z ∧ E = [.sh (.tuple (.str z :: rest)), .sh (.int (7 - ((n + 1 : Nat) : Int))), .un], ⟨_, at_0, ?_⟩, ?_⟩
  · dsimp only
    rw [sizes_eq]
    simp only [DD0, DD1, DD2, DD3, DD4, DD5, DD6, DD7, slG, slP, fzsK, Nat.zero_le, Nat.reduceLeDiff, List.length_cons, List.length_nil, if_true, if_false, reduceIte, true_and, and_true, Bool.not_true, Bool.not_false, Bool.false_eq_true]
    rw [st_eq] at q
    refine ⟨fun h => rfF rfl ?_, fun h => ?_⟩
    · have h : ¬ ((rest.length + 1 : Nat) : Int) = sizeN z := by simpa using h
      rw [decide_eq_false h] at q
      exact q
    · simpa using h
  rintro E1 ⟨hsz, rfl⟩
  rw [st_eq, decide_eq_true hsz, Bool.true_and] at q
  unfold d_is_statement_9
  simp only [DD0, DD1, DD2, DD3, DD4, DD5, DD6, DD7, slG, slP, fzsK, Nat.zero_le, Nat.reduceLeDiff, List.length_cons, List.length_nil, if_true, if_false, reduceIte, true_and, and_true, Bool.not_true, Bool.not_false, Bool.false_eq_true]
  refine ⟨fun E => (!inW (.str z) [.str (zS "set"), .str (zS "call")] || wordB (getP (.str z :: rest) 1)) = true ∧ E = [.sh (.tuple (.str z :: rest)), .sh (.int (7 - ((n + 1 : Nat) : Int))), .un], ⟨_, at_0, rfl, rfl, fun h => ?_, fun h => ⟨fun h => h.elim, fun _ => ⟨?_, rfl⟩⟩⟩, ?_⟩
  · have h2 := sz_wc h
    obtain ⟨a, ha, hm, e⟩ := get1 (rest := rest) (z := z) (by omega)
    refine ⟨a, ha, fun Ψ1 kk => sw_of (g.mem hm) (kk _ ?_)⟩
    rw [e]
    simp only [DD0, DD1, DD2, DD3, DD4, DD5, DD6, DD7, slG, slP, fzsK, Nat.zero_le, Nat.reduceLeDiff, List.length_cons, List.length_nil, if_true, if_false, reduceIte, true_and, and_true, Bool.not_true, Bool.not_false, Bool.false_eq_true]
    refine ⟨fun hw => rfF rfl ?_, fun hw => ?_⟩
    · rw [e] at q
      have h : inW (.str z) [.str (zS "set"), .str (zS "call")] = true := h
      have hw : wordB a = false := by simpa using hw
      rw [h, hw] at q
      exact q
    · have hw : wordB a = true := by simpa using hw
      rw [hw]
      simp
  · have h : inW (.str z) [.str (zS "set"), .str (zS "call")] = false := h
    rw [h]
    rfl
  rintro E1 ⟨h9, rfl⟩
  rw [h9, Bool.true_and] at q
  unfold d_is_statement_8
  simp only [DD0, DD1, DD2, DD3, DD4, DD5, DD6, DD7, slG, slP, fzsK, Nat.zero_le, Nat.reduceLeDiff, List.length_cons, List.length_nil, if_true, if_false, reduceIte, true_and, and_true, Bool.not_true, Bool.not_false, Bool.false_eq_true]
  refine ⟨fun E => (!inW (.str z) [.str (zS "set"), .str (zS "end")] || exprB 6 (lastP (.str z :: rest))) = true ∧ E = [.sh (.tuple (.str z :: rest)), .sh (.int (7 - ((n + 1 : Nat) : Int))), .un], ⟨_, at_0, rfl, rfl, fun h => ?_, fun h => ⟨fun h => h.elim, fun _ => ⟨?_, rfl⟩⟩⟩, ?_⟩
  · obtain ⟨a, ha, hm, e⟩ := getL (ds := rest) (d := .str z)
    refine ⟨a, ha, fun Ψ1 kk => ⟨a, rfl, g.mem hm, kk _ ?_⟩⟩
    rw [e]
    simp only [DD0, DD1, DD2, DD3, DD4, DD5, DD6, DD7, slG, slP, fzsK, Nat.zero_le, Nat.reduceLeDiff, List.length_cons, List.length_nil, if_true, if_false, reduceIte, true_and, and_true, Bool.not_true, Bool.not_false, Bool.false_eq_true]
    refine ⟨fun hw => rfF rfl ?_, fun hw => ?_⟩
    · rw [e] at q
      have h : inW (.str z) [.str (zS "set"), .str (zS "end")] = true := h
      have hw : exprB 6 a = false := by simpa using hw
      rw [h, hw] at q
      exact q
    · have hw : exprB 6 a = true := by simpa using hw
      rw [hw]
      simp
  · have h : inW (.str z) [.str (zS "set"), .str (zS "end")] = false := h
    rw [h]
    rfl
  rintro E1 ⟨h8, rfl⟩
  rw [h8, Bool.true_and] at q
  unfold d_is_statement_7
  simp only [DD0, DD1, DD2, DD3, DD4, DD5, DD6, DD7, slG, slP, fzsK, Nat.zero_le, Nat.reduceLeDiff, List.length_cons, List.length_nil, if_true, if_false, reduceIte, true_and, and_true, Bool.not_true, Bool.not_false, Bool.false_eq_true]
  refine ⟨fun E => (!decide (z = zS "if") || exprB 6 (getP (.str z :: rest) 1)) = true ∧ E = [.sh (.tuple (.str z :: rest)), .sh (.int (7 - ((n + 1 : Nat) : Int))), .un], ⟨_, at_0, ?_⟩, ?_⟩
  · simp only [DD0, DD1, DD2, DD3, DD4, DD5, DD6, DD7, slG, slP, fzsK, Nat.zero_le, Nat.reduceLeDiff, List.length_cons, List.length_nil, if_true, if_false, reduceIte, true_and, and_true, Bool.not_true, Bool.not_false, Bool.false_eq_true]
    refine ⟨fun h => ?_, fun h => ⟨fun h => h.elim, fun _ => ?_⟩⟩
    · have h2 := sz_if (of_decide_eq_true h)
      obtain ⟨a, ha, hm, e⟩ := get1 (rest := rest) (z := z) (by omega)
      refine ⟨a, ha, fun Ψ1 kk => ⟨a, rfl, g.mem hm, kk _ ?_⟩⟩
      rw [e]
      simp only [DD0, DD1, DD2, DD3, DD4, DD5, DD6, DD7, slG, slP, fzsK, Nat.zero_le, Nat.reduceLeDiff, List.length_cons, List.length_nil, if_true, if_false, reduceIte, true_and, and_true, Bool.not_true, Bool.not_false, Bool.false_eq_true]
      refine ⟨fun hw => rfF rfl ?_, fun hw => ?_⟩
      · rw [e] at q
        have h : decide (z = zS "if") = true := h
        have hw : exprB 6 a = false := by simpa using hw
        rw [h, hw] at q
        exact q
      · have hw : exprB 6 a = true := by simpa using hw
        rw [hw]
        simp
    · have h : decide (z = zS "if") = false := h
      rw [h]
      rfl
  rintro E1 ⟨h7, rfl⟩
  rw [h7, Bool.true_and] at q
  unfold d_is_statement_6
  simp only [DD0, DD1, DD2, DD3, DD4, DD5, DD6, DD7, slG, slP, fzsK, Nat.zero_le, Nat.reduceLeDiff, List.length_cons, List.length_nil, if_true, if_false, reduceIte, true_and, and_true, Bool.not_true, Bool.not_false, Bool.false_eq_true]
  refine ⟨_, at_0, ?_⟩
  dsimp only
  rw [parts_eq]
  simp only [DD0, DD1, DD2, DD3, DD4, DD5, DD6, DD7, slG, slP, fzsK, Nat.zero_le, Nat.reduceLeDiff, List.length_cons, List.length_nil, if_true, if_false, reduceIte, true_and, and_true, Bool.not_true, Bool.not_false, Bool.false_eq_true]
  rw [List.length_map]
  have pl := parts_len z
  refine ⟨by omega, fun k E => ∃ b2, E = [.sh (.tuple (.str z :: rest)), .sh (.int (7 - ((n + 1 : Nat) : Int))), b2], fun k y => ∃ p, (partsN z)[k]? = some p ∧ y = .bool (blockB n (getP (.str z :: rest) p)), ⟨_, rfl⟩, ?_, ?_⟩
  · rintro k d E2 hd ⟨b2, rfl⟩
    obtain ⟨p, hp, rfl⟩ := map_get (f := fun p : Nat => PyData.int (p : Nat)) hd
    have hlt := parts_in (List.mem_of_getElem? hp)
    obtain ⟨a, _, ha, hm, e⟩ := getN (ds := .str z :: rest) (k := p) (by rw [List.length_cons]; omega)
    simp only [DD0, DD1, DD2, DD3, DD4, DD5, DD6, DD7, slG, slP, fzsK, Nat.zero_le, Nat.reduceLeDiff, List.length_cons, List.length_nil, if_true, if_false, reduceIte, true_and, and_true, Bool.not_true, Bool.not_false, Bool.false_eq_true]
    refine ⟨a, ha, fun Ψ1 kk => ⟨a, ?_, (g.mem hm).gt, kk _ ⟨⟨_, rfl⟩, p, hp, by rw [e]⟩⟩⟩
    rw [show (7 - ((n + 1 : Nat) : Int)) + 1 = 7 - (n : Nat) by omega]
  · rintro E2 ys ⟨b2, rfl⟩ hl hR
    refine ⟨_, bools_of hl hR, ?_⟩
    rw [List.all_map]
    exact q
end K62

set_option maxHeartbeats 4000000
namespace K62
open PySem PySem.Spec PyProof.Rows L2 Bk
/-! well formed programs -/
def entOf : PD → Option (PySem.Str × PD)
  | .tuple [.str z, b] => some (z, b)
  | _ => none
theorem entOf_none {e : PD} (h : ∀ z b, e ≠ .tuple [.str z, b]) : entOf e = none := by
  unfold entOf
  split
  · exact absurd rfl (h _ _)
  · rfl
theorem entOf_some {e : PD} {p : PySem.Str × PD} (h : entOf e = some p) : e = .tuple [.str p.1, p.2] := by
  unfold entOf at h
  split at h
  · cases h; rfl
  · cases h
def entB : List PySem.Str → List PD → Bool
  | _, [] => true
  | ws, e :: es => match entOf e with
    | some (z, b) => wordB (.str z) && !inW (.str z) (ws.map PyData.str) && blockB 6 b && entB (ws ++ [z]) es
    | none => false
def wfB : PD → Bool
  | .tuple [b, .tuple es] => blockB 6 b && decide (es.length ≤ 6) && entB [] es
  | _ => false
structure WfOk (v : PD) : Prop where
  n : ndE v = true
  m : ∀ ds, v = .tuple ds → ds.length ≤ 100000 ∧ ∀ d ∈ ds, Gt d
def spWf : List PD → (Rs → Prop) → Prop := fun ds Ψ => ∃ d, ds = [d] ∧ WfOk d ∧ Ψ (.sh (.bool (wfB d)))
theorem flat_strs (ws : List PySem.Str) : (ws.map PyData.str).all flatD = true := by
  rw [List.all_map, List.all_eq_true]
  intro x _
  rfl
theorem two {ds : List PD} (h : ds.length = 2) : ∃ a b, ds = [a, b] := by
  match ds, h with
  | [a, b], _ => exact ⟨a, b, rfl⟩
theorem wf_len {ds : List PD} (h : ds.length ≠ 2) : wfB (.tuple ds) = false := by
  unfold wfB
  split
  · next e => cases e; exact absurd rfl h
  · rfl
theorem ent_cons (ws : List PySem.Str) (z : PySem.Str) (b : PD) (es : List PD) : entB ws (.tuple [.str z, b] :: es) = (wordB (.str z) && !inW (.str z) (ws.map PyData.str) && blockB 6 b && entB (ws ++ [z]) es) := rfl
theorem ent_nil (ws : List PySem.Str) : entB ws [] = true := rfl
theorem ent_bad {ws : List PySem.Str} {e : PD} {es : List PD} (h : ∀ z b, e ≠ .tuple [.str z, b]) : entB ws (e :: es) = false := by
  show (match entOf e with | some (z, b) => _ | none => false) = false
  rw [entOf_none h]
theorem wf_pair (b : PD) (es : List PD) : wfB (.tuple [b, .tuple es]) = (blockB 6 b && decide (es.length ≤ 6) && entB [] es) := rfl
theorem wf_bad {v : PD} (h : ∀ b d, v ≠ .tuple [b, d]) : wfB v = false := by
  cases v with
  | tuple ds =>
    refine wf_len fun e => ?_
    obtain ⟨a, b, rfl⟩ := two e
    exact h a b rfl
  | _ => rfl
theorem wf_snd {b d : PD} (h : isTup d = false) : wfB (.tuple [b, d]) = false := by
  cases d with
  | tuple _ => cases h
  | _ => rfl
theorem e_wf (v : PD) (g : WfOk v) (Ψ : Rs → Prop) (q : Ψ (.sh (.bool (wfB v)))) : d_is_well_formed (spBlk 6) spWord [.sh v, .un, .un] (post0 Ψ) := by
  unfold d_is_well_formed d_is_well_formed_12
  simp only [DD0, DD1, DD2, DD3, DD4, DD5, DD6, DD7, slG, slP, fzsK, Nat.zero_le, Nat.reduceLeDiff, List.length_cons, List.length_nil, if_true, if_false, reduceIte, true_and, and_true, Bool.not_true, Bool.not_false, Bool.false_eq_true]
  refine ⟨fun E => ∃ b d, v = .tuple [b, d] ∧ blockB 6 b = true ∧ E = [.sh v, .un, .un], ⟨g.n, _, kit_tup _, ?_, ?_⟩, ?_⟩
  · cases v with
    | tuple ds => intro h; cases h
    | _ =>
      rw [wf_bad fun b d e => by cases e] at q
      exact fun _ => ⟨fun _ => rfF rfl q, fun h => by cases h⟩
  · cases v with
    | tuple ds =>
      intro _
      simp only [DD0, DD1, DD2, DD3, DD4, DD5, DD6, DD7, slG, slP, fzsK, Nat.zero_le, Nat.reduceLeDiff, List.length_cons, List.length_nil, if_true, if_false, reduceIte, true_and, and_true, Bool.not_true, Bool.not_false, Bool.false_eq_true]
      refine ⟨fun h => ⟨fun _ => rfF rfl ?_, fun h => by cases h⟩, fun h => ?_⟩
      · rw [wf_len fun e => by rw [e] at h; simp at h] at q
        exact q
      · have h : ds.length = 2 := by
          have : ((ds.length : Nat) : Int) = 2 := by simpa using h
          omega
        obtain ⟨b, d, rfl⟩ := two h
        have gb := (g.m _ rfl).2 b (by simp)
        refine ⟨b, at_0, fun Ψ1 kk => ⟨b, rfl, gb, kk _ ?_⟩⟩
        simp only [DD0, DD1, DD2, DD3, DD4, DD5, DD6, DD7, slG, slP, fzsK, Nat.zero_le, Nat.reduceLeDiff, List.length_cons, List.length_nil, if_true, if_false, reduceIte, true_and, and_true, Bool.not_true, Bool.not_false, Bool.false_eq_true]
        refine ⟨fun hb => rfF rfl ?_, fun hb => ⟨b, d, rfl, by simpa using hb⟩⟩
        have hb : blockB 6 b = false := by simpa using hb
        cases d with
        | tuple es => rw [wf_pair, hb] at q; exact q
        | _ => exact q
    | _ => intro h; cases h
  rintro E ⟨b, d, rfl, hb, rfl⟩
  obtain ⟨_, gm⟩ := g.m _ rfl
  have gd := gm d (by simp)
  unfold d_is_well_formed_11
  simp only [DD0, DD1, DD2, DD3, DD4, DD5, DD6, DD7, slG, slP, fzsK, Nat.zero_le, Nat.reduceLeDiff, List.length_cons, List.length_nil, if_true, if_false, reduceIte, true_and, and_true, Bool.not_true, Bool.not_false, Bool.false_eq_true]
  refine ⟨fun E => ∃ es, d = .tuple es ∧ es.length ≤ 6 ∧ E = [.sh (.tuple [b, d]), .un, .un], ⟨d, at_1, gd.n, _, kit_tup _, ?_, ?_⟩, ?_⟩
  · cases d with
    | tuple ds => intro h; cases h
    | _ =>
      rw [wf_snd rfl] at q
      exact fun _ => ⟨fun _ => rfF rfl q, fun h => by cases h⟩
  · cases d with
    | tuple es =>
      intro _
      refine ⟨_, at_1, ?_⟩
      simp only [DD0, DD1, DD2, DD3, DD4, DD5, DD6, DD7, slG, slP, fzsK, Nat.zero_le, Nat.reduceLeDiff, List.length_cons, List.length_nil, if_true, if_false, reduceIte, true_and, and_true, Bool.not_true, Bool.not_false, Bool.false_eq_true]
      refine ⟨fun h => rfF rfl ?_, fun h => ⟨es, rfl, ?_⟩⟩
      · have h : ¬ es.length ≤ 6 := by have := of_decide_eq_true h; omega
        rw [wf_pair, decide_eq_false h, hb] at q
        exact q
      · have := of_decide_eq_false h; omega
    | _ => intro h; cases h
  rintro E ⟨es, rfl, hl, rfl⟩
  have gd := gd.t rfl
  rw [wf_pair, hb, decide_eq_true hl, Bool.true_and] at q
  unfold d_is_well_formed_10
  simp only [DD0, DD1, DD2, DD3, DD4, DD5, DD6, DD7, slG, slP, fzsK, Nat.zero_le, Nat.reduceLeDiff, List.length_cons, List.length_nil, if_true, if_false, reduceIte, true_and, and_true, Bool.not_true, Bool.not_false, Bool.false_eq_true]
  unfold d_is_well_formed_9
  simp only [DD0, DD1, DD2, DD3, DD4, DD5, DD6, DD7, slG, slP, fzsK, Nat.zero_le, Nat.reduceLeDiff, List.length_cons, List.length_nil, if_true, if_false, reduceIte, true_and, and_true, Bool.not_true, Bool.not_false, Bool.false_eq_true]
  refine ⟨fun E => entB [] es = true ∧ ∃ b1 b2, E = [.sh (.tuple [b, .tuple es]), b1, b2], ⟨_, at_1, ?_⟩, ?_⟩
  · simp only [DD0, DD1, DD2, DD3, DD4, DD5, DD6, DD7, slG, slP, fzsK, Nat.zero_le, Nat.reduceLeDiff, List.length_cons, List.length_nil, if_true, if_false, reduceIte, true_and, and_true, Bool.not_true, Bool.not_false, Bool.false_eq_true]
    refine ⟨fun k E => ∃ (ws : List PySem.Str) (b2 : Bd), entB [] es = entB ws (es.drop k) ∧ ws.length ≤ k ∧ E = [.sh (.tuple [b, .tuple es]), .ow (.lst (ws.map PyData.str)), b2], ⟨[], _, rfl, Nat.le_refl _, rfl⟩, ?_, ?_⟩
    · rintro k e E2 he ⟨ws, b2, hE, hk, rfl⟩
      have ge : Gd e := gd.mem (List.mem_of_getElem? he)
      have hlt : k < es.length := (List.getElem?_eq_some_iff.mp he).1
      have hd : es.drop k = e :: es.drop (k + 1) := by
        rw [List.drop_eq_getElem_cons hlt, (List.getElem?_eq_some_iff.mp he).2]
      rw [hd] at hE
      have bad : (∀ z b, e ≠ .tuple [.str z, b]) → Ψ (.sh (.bool false)) := fun h => by
        rw [hE, ent_bad h] at q
        exact q
      simp only [DD0, DD1, DD2, DD3, DD4, DD5, DD6, DD7, slG, slP, fzsK, Nat.zero_le, Nat.reduceLeDiff, List.length_cons, List.length_nil, if_true, if_false, reduceIte, true_and, and_true, Bool.not_true, Bool.not_false, Bool.false_eq_true]
      unfold d_is_well_formed_7
      simp only [DD0, DD1, DD2, DD3, DD4, DD5, DD6, DD7, slG, slP, fzsK, Nat.zero_le, Nat.reduceLeDiff, List.length_cons, List.length_nil, if_true, if_false, reduceIte, true_and, and_true, Bool.not_true, Bool.not_false, Bool.false_eq_true]
      refine ⟨fun E => ∃ z c, e = .tuple [.str z, c] ∧ wordB (.str z) = true ∧ inW (.str z) (ws.map PyData.str) = false ∧ E = [.sh (.tuple [b, .tuple es]), .ow (.lst (ws.map PyData.str)), .sh e], ⟨ge.ndE, _, kit_tup _, ?_, ?_⟩, ?_⟩
      · cases e with
        | tuple ds => intro h; cases h
        | _ => exact fun _ => ⟨fun _ => rfF rfl (bad fun z b e => by cases e), fun h => by cases h⟩
      · cases e with
        | tuple ds =>
          intro _
          simp only [DD0, DD1, DD2, DD3, DD4, DD5, DD6, DD7, slG, slP, fzsK, Nat.zero_le, Nat.reduceLeDiff, List.length_cons, List.length_nil, if_true, if_false, reduceIte, true_and, and_true, Bool.not_true, Bool.not_false, Bool.false_eq_true]
          refine ⟨fun h => ⟨fun _ => rfF rfl (bad fun z b e => by cases e; simp at h), fun h => by cases h⟩, fun h => ?_⟩
          have h : ds.length = 2 := by
            have : ((ds.length : Nat) : Int) = 2 := by simpa using h
            omega
          obtain ⟨w, c, rfl⟩ := two h
          have gw : Gd w := ge.mem (by simp)
          refine ⟨w, at_0, fun Ψ1 kk => sw_of gw (kk _ ?_)⟩
          simp only [DD0, DD1, DD2, DD3, DD4, DD5, DD6, DD7, slG, slP, fzsK, Nat.zero_le, Nat.reduceLeDiff, List.length_cons, List.length_nil, if_true, if_false, reduceIte, true_and, and_true, Bool.not_true, Bool.not_false, Bool.false_eq_true]
          refine ⟨fun hw => ⟨fun _ => rfF rfl ?_, fun h => by cases h⟩, fun hw => ?_⟩
          · have hw : wordB w = false := by simpa using hw
            rcases str_or w with ⟨z, rfl⟩ | hs
            · rw [hE, ent_cons, hw] at q
              exact q
            · exact bad fun z b e => by cases e; exact hs _ rfl
          · have hw : wordB w = true := by simpa using hw
            rcases str_or w with ⟨z, rfl⟩ | hs
            · refine ⟨_, at_0, rfl, flat_strs ws, fun hi => rfF rfl ?_, fun hi => ⟨z, c, rfl, hw, hi⟩⟩
              rw [hE, ent_cons, hw, hi] at q
              exact q
            · cases w with
              | str z => exact absurd rfl (hs z)
              | _ => cases hw
        | _ => intro h; cases h
      · rintro E ⟨z, c, rfl, hw, hi, rfl⟩
        have gc : Gd c := ge.mem (by simp)
        rw [ent_cons, hw, hi] at hE
        unfold d_is_well_formed_6
        simp only [DD0, DD1, DD2, DD3, DD4, DD5, DD6, DD7, slG, slP, fzsK, Nat.zero_le, Nat.reduceLeDiff, List.length_cons, List.length_nil, if_true, if_false, reduceIte, true_and, and_true, Bool.not_true, Bool.not_false, Bool.false_eq_true]
        refine ⟨fun E => blockB 6 c = true ∧ E = [.sh (.tuple [b, .tuple es]), .ow (.lst (ws.map PyData.str)), .sh (.tuple [.str z, c])], ⟨c, at_1, fun Ψ1 kk => ⟨c, rfl, gc.gt, kk _ ?_⟩⟩, ?_⟩
        · simp only [DD0, DD1, DD2, DD3, DD4, DD5, DD6, DD7, slG, slP, fzsK, Nat.zero_le, Nat.reduceLeDiff, List.length_cons, List.length_nil, if_true, if_false, reduceIte, true_and, and_true, Bool.not_true, Bool.not_false, Bool.false_eq_true]
          refine ⟨fun hc => rfF rfl ?_, fun hc => by simpa using hc⟩
          have hc : blockB 6 c = false := by simpa using hc
          rw [hE, hc] at q
          exact q
        rintro E ⟨hc, rfl⟩
        rw [hc] at hE
        unfold d_is_well_formed_5
        simp only [DD0, DD1, DD2, DD3, DD4, DD5, DD6, DD7, slG, slP, fzsK, Nat.zero_le, Nat.reduceLeDiff, List.length_cons, List.length_nil, if_true, if_false, reduceIte, true_and, and_true, Bool.not_true, Bool.not_false, Bool.false_eq_true]
        refine ⟨_, at_0, ?_⟩
        rw [List.length_map]
        refine ⟨by omega, ws ++ [z], .sh (.tuple [.str z, c]), hE, ?_, ?_⟩
        · rw [List.length_append, List.length_singleton]; omega
        · rw [List.map_append]; rfl
    · rintro E2 ⟨ws, b2, hE, hk, rfl⟩
      rw [List.drop_length, ent_nil] at hE
      exact ⟨hE, _, _, rfl⟩
  rintro E ⟨hE, b1, b2, rfl⟩
  unfold d_is_well_formed_8
  simp only [DD0, DD1, DD2, DD3, DD4, DD5, DD6, DD7, slG, slP, fzsK, Nat.zero_le, Nat.reduceLeDiff, List.length_cons, List.length_nil, if_true, if_false, reduceIte, true_and, and_true, Bool.not_true, Bool.not_false, Bool.false_eq_true]
  rw [hE] at q
  exact q
end K62

set_option maxHeartbeats 4000000
namespace K62
open PySem PySem.Spec PyProof.Rows L2 Bk
/-! the first statement that is not valid; the words called -/
def firstP {α : Type} (f : α → PD) : List α → PD
  | [] => .none
  | x :: xs => if isNo (f x) = true then firstP f xs else f x
theorem firstP_skip {α : Type} {f : α → PD} {l : List α} {k : Nat} {x : α} (h : l[k]? = some x) (hn : isNo (f x) = true) : firstP f (l.drop k) = firstP f (l.drop (k + 1)) := by
  have hlt := (List.getElem?_eq_some_iff.mp h).1
  rw [List.drop_eq_getElem_cons hlt, (List.getElem?_eq_some_iff.mp h).2]
  show (if isNo (f x) = true then _ else _) = _
  rw [if_pos hn]
theorem firstP_hit {α : Type} {f : α → PD} {l : List α} {k : Nat} {x : α} (h : l[k]? = some x) (hn : isNo (f x) = false) : firstP f (l.drop k) = f x := by
  have hlt := (List.getElem?_eq_some_iff.mp h).1
  rw [List.drop_eq_getElem_cons hlt, (List.getElem?_eq_some_iff.mp h).2]
  show (if isNo (f x) = true then _ else _) = _
  rw [hn]
  rfl
theorem no_none {d : PD} (h : isNo d = true) : d = .none := by
  cases d <;> first | rfl | cases h
def fiS (rec : PD → List PD → Bool → PD) (W : PD → Bool) (here : List PD) (il : Bool) : PD → PD
  | .tuple (.str z :: rest) =>
    if z = zS "leave" ∧ il = false then .tuple [.str (zS "leave"), .tuple here]
    else if z = zS "call" ∧ W (getP (.str z :: rest) 1) = false then .tuple [.str (zS "def"), .tuple here]
    else firstP (fun p : Nat => rec (getP (.str z :: rest) p) (here ++ [.int (p : Nat)]) (il || decide (z = zS "loop"))) (partsN z)
  | _ => .none
def fiB : Nat → (PD → Bool) → PD → List PD → Bool → PD
  | n + 1, W, .tuple ds, path, il => firstP (fun x : PD × Nat => fiS (fiB n W) W (path ++ [.int (x.2 : Nat)]) il x.1) ds.zipIdx
  | _, _, _, _, _ => .none
theorem fiS_eq (rec : PD → List PD → Bool → PD) (W : PD → Bool) (here : List PD) (il : Bool) (z : PySem.Str) (rest : List PD) : fiS rec W here il (.tuple (.str z :: rest)) = (if z = zS "leave" ∧ il = false then .tuple [.str (zS "leave"), .tuple here]
    else if z = zS "call" ∧ W (getP (.str z :: rest) 1) = false then .tuple [.str (zS "def"), .tuple here]
    else firstP (fun p : Nat => rec (getP (.str z :: rest) p) (here ++ [.int (p : Nat)]) (il || decide (z = zS "loop"))) (partsN z)) := rfl
theorem fiB_eq (n : Nat) (W : PD → Bool) (ds path : List PD) (il : Bool) : fiB (n + 1) W (.tuple ds) path il = firstP (fun x : PD × Nat => fiS (fiB n W) W (path ++ [.int (x.2 : Nat)]) il x.1) ds.zipIdx := rfl
def spFi (n : Nat) : List PD → (Rs → Prop) → Prop := fun as Ψ => ∃ b fs path il, as = [b, .dict (dK fs), .tuple path, .bool il] ∧ blockB n b = true ∧ Gd b ∧ path.length + 2 * n ≤ 1000 ∧ Ψ (.sh (fiB n (hasK (dK fs)) b path il))
def spFiB : Nat → List PD → (Rs → Prop) → Prop
  | 0 => spNone
  | n + 1 => spFi n
/-- a statement that is valid by itself -/
theorem st_parts {f : PD → Bool} {s : PD} (h : stmtB f s = true) : ∃ z rest, s = .tuple (.str z :: rest) ∧ ((rest.length + 1 : Nat) : Int) = sizeN z ∧ (inW (.str z) [.str (zS "set"), .str (zS "call")] = true → wordB (getP (.str z :: rest) 1) = true) ∧ ∀ p ∈ partsN z, f (getP (.str z :: rest) p) = true := by
  have hs : ∃ z rest, s = .tuple (.str z :: rest) := by
    unfold stmtB at h
    split at h
    · exact ⟨_, _, rfl⟩
    · cases h
  obtain ⟨z, rest, rfl⟩ := hs
  rw [st_eq] at h
  simp only [Bool.and_eq_true, decide_eq_true_eq, Bool.or_eq_true, Bool.not_eq_true'] at h
  obtain ⟨⟨⟨⟨h1, h2⟩, h3⟩, h4⟩, h5⟩ := h
  refine ⟨z, rest, rfl, h1, fun e => ?_, fun p hp => List.all_eq_true.mp h5 p hp⟩
  rcases h2 with h2 | h2
  · rw [e] at h2; cases h2
  · exact h2
theorem enD_get2 {ds : List PD} {k : Nat} {d : PD} (h : (enD ds)[k]? = some d) : ∃ s, ds[k]? = some s ∧ d = .tuple [.int (k : Nat), s] := by
  unfold enD at h
  rw [List.getElem?_map, List.getElem?_zipIdx] at h
  cases hk : ds[k]? with
  | none => rw [hk] at h; cases h
  | some s =>
    rw [hk] at h
    simp at h
    exact ⟨s, rfl, h.symm⟩
theorem zipIdx_get {ds : List PD} {k : Nat} {s : PD} (h : ds[k]? = some s) : ds.zipIdx[k]? = some (s, k) := by
  rw [List.getElem?_zipIdx, h]
  simp
theorem word_str {d : PD} (h : wordB d = true) : ∃ z, d = .str z := by
  rcases str_or d with h' | h'
  · exact h'
  · cases d with
    | str z => exact ⟨z, rfl⟩
    | _ => cases h
theorem e_fi (n : Nat) (b : PD) (fs : List (Key × PD)) (path : List PD) (il : Bool) (hb : blockB n b = true) (g : Gd b) (hp : path.length + 2 * n ≤ 1000) (Ψ : Rs → Prop) (q : Ψ (.sh (fiB n (hasK (dK fs)) b path il))) : d_first_invalid (spFiB n) [.sh b, .sh (.dict (dK fs)), .sh (.tuple path), .sh (.bool il), .un, .un, .un, .un, .un] (post0 Ψ) := by
  cases n with
  | zero => cases hb
  | succ n =>
  cases b with
  | tuple ds =>
    rw [fiB_eq] at q
    rw [blk_tup] at hb
    simp only [Bool.and_eq_true, decide_eq_true_eq] at hb
    obtain ⟨hl, hall⟩ := hb
    generalize hW : hasK (dK fs) = W at q
    generalize hF : (fun x : PD × Nat => fiS (fiB n W) W (path ++ [.int (x.2 : Nat)]) il x.1) = F at q
    unfold d_first_invalid d_first_invalid_11
    simp only [DD0, DD1, DD2, DD3, DD4, DD5, DD6, DD7, slG, slP, fzsK, Nat.zero_le, Nat.reduceLeDiff, List.length_cons, List.length_nil, if_true, if_false, reduceIte, true_and, and_true, Bool.not_true, Bool.not_false, Bool.false_eq_true]
    refine ⟨fun E => firstP F ds.zipIdx = .none, ?_, ?_⟩
    · refine ⟨fun k E => ∃ b4 b5 b6 b7 b8, firstP F ds.zipIdx = firstP F (ds.zipIdx.drop k) ∧ E = [.sh (.tuple ds), .sh (.dict (dK fs)), .sh (.tuple path), .sh (.bool il), b4, b5, b6, b7, b8], ⟨_, _, _, _, _, rfl, rfl⟩, ?_, ?_⟩
      · rintro k d E2 hd ⟨b4, b5, b6, b7, b8, hk, rfl⟩
        obtain ⟨s, hs, rfl⟩ := enD_get2 hd
        have hz := zipIdx_get hs
        have gs : Gd s := g.mem (List.mem_of_getElem? hs)
        obtain ⟨z, rest, rfl, hsz, hw, hpt⟩ := st_parts (List.all_eq_true.mp hall s (List.mem_of_getElem? hs))
        have hFx : F (.tuple (.str z :: rest), k) = fiS (fiB n W) W (path ++ [.int (k : Nat)]) il (.tuple (.str z :: rest)) := by rw [← hF]
        have hit : isNo (F (.tuple (.str z :: rest), k)) = false → Ψ (.sh (F (.tuple (.str z :: rest), k))) := fun h => by
          rw [hk, firstP_hit hz h] at q
          exact q
        simp only [DD0, DD1, DD2, DD3, DD4, DD5, DD6, DD7, slG, slP, fzsK, Nat.zero_le, Nat.reduceLeDiff, List.length_cons, List.length_nil, if_true, if_false, reduceIte, true_and, and_true, Bool.not_true, Bool.not_false, Bool.false_eq_true]
        unfold d_first_invalid_9
        simp only [DD0, DD1, DD2, DD3, DD4, DD5, DD6, DD7, slG, slP, fzsK, Nat.zero_le, Nat.reduceLeDiff, List.length_cons, List.length_nil, if_true, if_false, reduceIte, true_and, and_true, Bool.not_true, Bool.not_false, Bool.false_eq_true]
        refine ⟨by omega, ?_⟩
        unfold d_first_invalid_8
        simp only [DD0, DD1, DD2, DD3, DD4, DD5, DD6, DD7, slG, slP, fzsK, Nat.zero_le, Nat.reduceLeDiff, List.length_cons, List.length_nil, if_true, if_false, reduceIte, true_and, and_true, Bool.not_true, Bool.not_false, Bool.false_eq_true]
        have nxt : isNo (F (.tuple (.str z :: rest), k)) = true → firstP F ds.zipIdx = firstP F (ds.zipIdx.drop (k + 1)) := fun h => hk.trans (firstP_skip hz h)
        refine ⟨fun E => ¬ (z = zS "leave" ∧ il = false) ∧ E = [.sh (.tuple ds), .sh (.dict (dK fs)), .sh (.tuple path), .sh (.bool il), .sh (.int (k : Nat)), .sh (.tuple (.str z :: rest)), .sh (.tuple (path ++ [.int (k : Nat)])), b7, b8], ⟨_, at_0, ?_⟩, ?_⟩
        · simp only [DD0, DD1, DD2, DD3, DD4, DD5, DD6, DD7, slG, slP, fzsK, Nat.zero_le, Nat.reduceLeDiff, List.length_cons, List.length_nil, if_true, if_false, reduceIte, true_and, and_true, Bool.not_true, Bool.not_false, Bool.false_eq_true]
          refine ⟨fun h => ⟨trivial, fun h2 => ?_, fun h2 h3 => ?_⟩, fun h => ⟨fun h => h.elim, fun _ h3 => ?_⟩⟩
          · have h : z = zS "leave" := of_decide_eq_true h
            have h2 : il = false := by simpa [truD] using h2
            have e : F (.tuple (.str z :: rest), k) = .tuple [.str (zS "leave"), .tuple (path ++ [.int (k : Nat)])] := by
              rw [hFx, fiS_eq, if_pos ⟨h, h2⟩]
            have q := hit (by rw [e]; rfl)
            rw [e] at q
            unfold d_first_invalid_1
            simp only [DD0, DD1, DD2, DD3, DD4, DD5, DD6, DD7, slG, slP, fzsK, Nat.zero_le, Nat.reduceLeDiff, List.length_cons, List.length_nil, if_true, if_false, reduceIte, true_and, and_true, Bool.not_true, Bool.not_false, Bool.false_eq_true]
            exact q
          · have h2 : il = true := by simpa [truD] using h2
            rw [h2] at h3
            exact Bool.noConfusion h3.2
          · exact absurd h3.1 (of_decide_eq_false h)
        rintro E ⟨hnl, rfl⟩
        unfold d_first_invalid_7
        simp only [DD0, DD1, DD2, DD3, DD4, DD5, DD6, DD7, slG, slP, fzsK, Nat.zero_le, Nat.reduceLeDiff, List.length_cons, List.length_nil, if_true, if_false, reduceIte, true_and, and_true, Bool.not_true, Bool.not_false, Bool.false_eq_true]
        refine ⟨fun E => ¬ (z = zS "call" ∧ W (getP (.str z :: rest) 1) = false) ∧ E = [.sh (.tuple ds), .sh (.dict (dK fs)), .sh (.tuple path), .sh (.bool il), .sh (.int (k : Nat)), .sh (.tuple (.str z :: rest)), .sh (.tuple (path ++ [.int (k : Nat)])), b7, b8], ⟨_, at_0, ?_⟩, ?_⟩
        · simp only [DD0, DD1, DD2, DD3, DD4, DD5, DD6, DD7, slG, slP, fzsK, Nat.zero_le, Nat.reduceLeDiff, List.length_cons, List.length_nil, if_true, if_false, reduceIte, true_and, and_true, Bool.not_true, Bool.not_false, Bool.false_eq_true]
          refine ⟨fun h => ?_, fun h => ⟨fun h => h.elim, fun _ h3 => ?_⟩⟩
          · have h : z = zS "call" := of_decide_eq_true h
            have hs2 : sizeN z = 2 := by subst h; decide +kernel
            have hwd := hw (by subst h; decide +kernel)
            obtain ⟨a, ha, hm, e⟩ := get1 (rest := rest) (z := z) (by omega)
            rw [e] at hwd
            obtain ⟨y, rfl⟩ := word_str hwd
            refine ⟨_, ha, ⟨fs, rfl⟩, rfl, ?_⟩
            rw [hW, e]
            refine ⟨fun h2 => ?_, fun h2 h3 => ?_⟩
            · have h2 : W (.str y) = false := by simpa using h2
              have e' : F (.tuple (.str z :: rest), k) = .tuple [.str (zS "def"), .tuple (path ++ [.int (k : Nat)])] := by
                rw [hFx, fiS_eq, if_neg hnl, e, if_pos ⟨h, h2⟩]
              have q := hit (by rw [e']; rfl)
              rw [e'] at q
              unfold d_first_invalid_2
              simp only [DD0, DD1, DD2, DD3, DD4, DD5, DD6, DD7, slG, slP, fzsK, Nat.zero_le, Nat.reduceLeDiff, List.length_cons, List.length_nil, if_true, if_false, reduceIte, true_and, and_true, Bool.not_true, Bool.not_false, Bool.false_eq_true]
              exact q
            · rw [h3.2] at h2
              cases h2
          · exact absurd h3.1 (of_decide_eq_false h)
        rintro E ⟨hnc, rfl⟩
        have hG : F (.tuple (.str z :: rest), k) = firstP (fun p : Nat => fiB n W (getP (.str z :: rest) p) ((path ++ [.int (k : Nat)]) ++ [.int (p : Nat)]) (il || decide (z = zS "loop"))) (partsN z) := by
          rw [hFx, fiS_eq, if_neg hnl, if_neg hnc]
        generalize hGG : (fun p : Nat => fiB n W (getP (.str z :: rest) p) ((path ++ [.int (k : Nat)]) ++ [.int (p : Nat)]) (il || decide (z = zS "loop"))) = GG at hG
        unfold d_first_invalid_6
        simp only [DD0, DD1, DD2, DD3, DD4, DD5, DD6, DD7, slG, slP, fzsK, Nat.zero_le, Nat.reduceLeDiff, List.length_cons, List.length_nil, if_true, if_false, reduceIte, true_and, and_true, Bool.not_true, Bool.not_false, Bool.false_eq_true]
        refine ⟨_, at_0, ?_⟩
        dsimp only
        rw [parts_eq]
        simp only [DD0, DD1, DD2, DD3, DD4, DD5, DD6, DD7, slG, slP, fzsK, Nat.zero_le, Nat.reduceLeDiff, List.length_cons, List.length_nil, if_true, if_false, reduceIte, true_and, and_true, Bool.not_true, Bool.not_false, Bool.false_eq_true]
        refine ⟨fun j E => ∃ b7 b8, firstP GG (partsN z) = firstP GG ((partsN z).drop j) ∧ E = [.sh (.tuple ds), .sh (.dict (dK fs)), .sh (.tuple path), .sh (.bool il), .sh (.int (k : Nat)), .sh (.tuple (.str z :: rest)), .sh (.tuple (path ++ [.int (k : Nat)])), b7, b8], ⟨_, _, rfl, rfl⟩, ?_, ?_⟩
        · rintro j d E2 hd ⟨b7, b8, hj, rfl⟩
          obtain ⟨p, hp2, rfl⟩ := map_get (f := fun p : Nat => PyData.int (p : Nat)) hd
          have hpm := List.mem_of_getElem? hp2
          have hlt := parts_in hpm
          obtain ⟨a, _, ha, hm, e⟩ := getN (ds := .str z :: rest) (k := p) (by rw [List.length_cons]; omega)
          have hbl := hpt p hpm
          rw [e] at hbl
          have hGp : GG p = fiB n W a (path ++ [.int (k : Nat)] ++ [.int (p : Nat)]) (il || decide (z = zS "loop")) := by rw [← hGG]; show fiB n W (getP (.str z :: rest) p) _ _ = _; rw [e]
          simp only [DD0, DD1, DD2, DD3, DD4, DD5, DD6, DD7, slG, slP, fzsK, Nat.zero_le, Nat.reduceLeDiff, List.length_cons, List.length_nil, if_true, if_false, reduceIte, true_and, and_true, Bool.not_true, Bool.not_false, Bool.false_eq_true]
          unfold d_first_invalid_5
          simp only [DD0, DD1, DD2, DD3, DD4, DD5, DD6, DD7, slG, slP, fzsK, Nat.zero_le, Nat.reduceLeDiff, List.length_cons, List.length_nil, if_true, if_false, reduceIte, true_and, and_true, Bool.not_true, Bool.not_false, Bool.false_eq_true]
          refine ⟨a, ha, ?_⟩
          rw [List.length_append, List.length_singleton]
          refine ⟨by omega, ?_⟩
          have key : ∀ (v : Bool) (Ψ1 : Rs → Prop), v = (il || decide (z = zS "loop")) → Ψ1 (.sh (GG p)) → spFiB (n + 1) [a, .dict (dK fs), .tuple (path ++ [.int (k : Nat)] ++ [.int (p : Nat)]), .bool v] Ψ1 := fun v Ψ1 hv q1 => ⟨a, fs, _, v, rfl, hbl, gs.mem hm, by rw [List.length_append, List.length_append, List.length_singleton, List.length_singleton]; omega, by rw [hW, hv, ← hGp]; exact q1⟩
          have tl : ∀ P : Post, P.rt = (fun E r => rtK E r Ψ) → (firstP GG (partsN z) = firstP GG ((partsN z).drop (j + 1)) → P.nx [.sh (.tuple ds), .sh (.dict (dK fs)), .sh (.tuple path), .sh (.bool il), .sh (.int (k : Nat)), .sh (.tuple (.str z :: rest)), .sh (.tuple (path ++ [.int (k : Nat)])), .sh (.int (p : Nat)), .sh (GG p)]) →
              d_first_invalid_4 (spFiB (n + 1)) [.sh (.tuple ds), .sh (.dict (dK fs)), .sh (.tuple path), .sh (.bool il), .sh (.int (k : Nat)), .sh (.tuple (.str z :: rest)), .sh (.tuple (path ++ [.int (k : Nat)])), .sh (.int (p : Nat)), .sh (GG p)] P := fun P hP hn => by
            unfold d_first_invalid_4
            simp only [DD0, DD1, DD2, DD3, DD4, DD5, DD6, DD7, slG, slP, fzsK, Nat.zero_le, Nat.reduceLeDiff, List.length_cons, List.length_nil, if_true, if_false, reduceIte, true_and, and_true, Bool.not_true, Bool.not_false, Bool.false_eq_true]
            refine ⟨fun h => ?_, fun h => hn (hj.trans (firstP_skip hp2 (by simpa using h)))⟩
            have h : isNo (GG p) = false := by simpa using h
            have e1 : F (.tuple (.str z :: rest), k) = GG p := by rw [hG, hj, firstP_hit hp2 h]
            have q := hit (by rw [e1]; exact h)
            rw [e1] at q
            unfold d_first_invalid_3
            simp only [DD0, DD1, DD2, DD3, DD4, DD5, DD6, DD7, slG, slP, fzsK, Nat.zero_le, Nat.reduceLeDiff, List.length_cons, List.length_nil, if_true, if_false, reduceIte, true_and, and_true, Bool.not_true, Bool.not_false, Bool.false_eq_true]
            rw [hP]
            exact q
          refine ⟨fun h Ψ1 kk => key _ _ (by rw [h]; rfl) (kk _ ?_), fun h => ?_⟩
          · simp only [DD0, DD1, DD2, DD3, DD4, DD5, DD6, DD7, slG, slP, fzsK, Nat.zero_le, Nat.reduceLeDiff, List.length_cons, List.length_nil, if_true, if_false, reduceIte, true_and, and_true, Bool.not_true, Bool.not_false, Bool.false_eq_true]
            exact tl _ rfl fun h => ⟨_, _, h, rfl⟩
          · refine ⟨_, at_0, ?_⟩
            simp only [DD0, DD1, DD2, DD3, DD4, DD5, DD6, DD7, slG, slP, fzsK, Nat.zero_le, Nat.reduceLeDiff, List.length_cons, List.length_nil, if_true, if_false, reduceIte, true_and, and_true, Bool.not_true, Bool.not_false, Bool.false_eq_true]
            refine fun Ψ1 kk => key _ _ (by rw [h]; rfl) (kk _ ?_)
            simp only [DD0, DD1, DD2, DD3, DD4, DD5, DD6, DD7, slG, slP, fzsK, Nat.zero_le, Nat.reduceLeDiff, List.length_cons, List.length_nil, if_true, if_false, reduceIte, true_and, and_true, Bool.not_true, Bool.not_false, Bool.false_eq_true]
            exact tl _ rfl fun h => ⟨_, _, h, rfl⟩
        · rintro E2 ⟨b7, b8, hj, rfl⟩
          rw [List.length_map, List.drop_length] at hj
          exact ⟨_, _, _, _, _, nxt (by rw [hG, hj]; rfl), rfl⟩
      · rintro E2 ⟨b4, b5, b6, b7, b8, hk, rfl⟩
        rw [enD_len, List.drop_eq_nil_of_le (by rw [List.length_zipIdx]; exact Nat.le_refl _)] at hk
        exact hk
    · rintro E hn
      rw [hn] at q
      unfold d_first_invalid_10
      simp only [DD0, DD1, DD2, DD3, DD4, DD5, DD6, DD7, slG, slP, fzsK, Nat.zero_le, Nat.reduceLeDiff, List.length_cons, List.length_nil, if_true, if_false, reduceIte, true_and, and_true, Bool.not_true, Bool.not_false, Bool.false_eq_true]
      exact q
  | _ => cases hb
end K62

set_option maxHeartbeats 4000000
namespace K62
open PySem PySem.Spec PyProof.Rows L2 Bk
/-! the words called -/
def cwS (rec : PD → List PD) : PD → List PD
  | .tuple (.str z :: rest) => (if z = zS "call" then [getP (.str z :: rest) 1] else []) ++ (partsN z).flatMap fun p => rec (getP (.str z :: rest) p)
  | _ => []
def cwB : Nat → PD → List PD
  | n + 1, .tuple ds => ds.flatMap (cwS (cwB n))
  | _, _ => []
theorem cwS_eq (rec : PD → List PD) (z : PySem.Str) (rest : List PD) : cwS rec (.tuple (.str z :: rest)) = (if z = zS "call" then [getP (.str z :: rest) 1] else []) ++ (partsN z).flatMap fun p => rec (getP (.str z :: rest) p) := rfl
theorem cwB_eq (n : Nat) (ds : List PD) : cwB (n + 1) (.tuple ds) = ds.flatMap (cwS (cwB n)) := rfl
theorem flat_take {α β : Type} {f : α → List β} {l : List α} {k : Nat} {x : α} (h : l[k]? = some x) : (l.take (k + 1)).flatMap f = (l.take k).flatMap f ++ f x := by
  have hlt := (List.getElem?_eq_some_iff.mp h).1
  rw [List.take_succ_eq_append_getElem hlt, (List.getElem?_eq_some_iff.mp h).2, List.flatMap_append]
  simp
theorem flat_le {α β : Type} {f : α → List β} {l : List α} (k : Nat) : ((l.take k).flatMap f).length ≤ (l.flatMap f).length := by
  conv => rhs; rw [← List.take_append_drop k l, List.flatMap_append, List.length_append]
  omega
def spCw (n : Nat) : List PD → (Rs → Prop) → Prop := fun as Ψ => ∃ b, as = [b] ∧ blockB n b = true ∧ Gd b ∧ (cwB n b).length ≤ 10000 ∧ Ψ (.nw (.lst (cwB n b)))
def spCwB : Nat → List PD → (Rs → Prop) → Prop
  | 0 => spNone
  | n + 1 => spCw n
theorem e_cw (n : Nat) (b : PD) (hb : blockB n b = true) (g : Gd b) (hl : (cwB n b).length ≤ 10000) (Ψ : Rs → Prop) (q : Ψ (.nw (.lst (cwB n b)))) : d_called_words (spCwB n) [.sh b, .un, .un, .un] (post0 Ψ) := by
  cases n with
  | zero => cases hb
  | succ n =>
  cases b with
  | tuple ds =>
    rw [cwB_eq] at q hl
    rw [blk_tup] at hb
    simp only [Bool.and_eq_true, decide_eq_true_eq] at hb
    obtain ⟨_, hall⟩ := hb
    unfold d_called_words d_called_words_7
    simp only [DD0, DD1, DD2, DD3, DD4, DD5, DD6, DD7, slG, slP, fzsK, Nat.zero_le, Nat.reduceLeDiff, List.length_cons, List.length_nil, if_true, if_false, reduceIte, true_and, and_true, Bool.not_true, Bool.not_false, Bool.false_eq_true]
    unfold d_called_words_6
    simp only [DD0, DD1, DD2, DD3, DD4, DD5, DD6, DD7, slG, slP, fzsK, Nat.zero_le, Nat.reduceLeDiff, List.length_cons, List.length_nil, if_true, if_false, reduceIte, true_and, and_true, Bool.not_true, Bool.not_false, Bool.false_eq_true]
    refine ⟨fun E => ∃ b2 b3, E = [.sh (.tuple ds), .ow (.lst (ds.flatMap (cwS (cwB n)))), b2, b3], ?_, ?_⟩
    · refine ⟨fun k E => ∃ b2 b3, E = [.sh (.tuple ds), .ow (.lst ((ds.take k).flatMap (cwS (cwB n)))), b2, b3], ⟨_, _, rfl⟩, ?_, ?_⟩
      · rintro k s E2 hs ⟨b2, b3, rfl⟩
        have gs : Gd s := g.mem (List.mem_of_getElem? hs)
        obtain ⟨z, rest, rfl, hsz, hw, hpt⟩ := st_parts (List.all_eq_true.mp hall s (List.mem_of_getElem? hs))
        have ht := flat_take (f := cwS (cwB n)) hs
        have hlen : ((ds.take k).flatMap (cwS (cwB n)) ++ cwS (cwB n) (.tuple (.str z :: rest))).length ≤ 10000 := by
          rw [← ht]
          exact Nat.le_trans (flat_le _) hl
        simp only [DD0, DD1, DD2, DD3, DD4, DD5, DD6, DD7, slG, slP, fzsK, Nat.zero_le, Nat.reduceLeDiff, List.length_cons, List.length_nil, if_true, if_false, reduceIte, true_and, and_true, Bool.not_true, Bool.not_false, Bool.false_eq_true]
        rw [ht]
        generalize (ds.take k).flatMap (cwS (cwB n)) = A at hlen ⊢
        rw [cwS_eq] at hlen ⊢
        unfold d_called_words_4
        simp only [DD0, DD1, DD2, DD3, DD4, DD5, DD6, DD7, slG, slP, fzsK, Nat.zero_le, Nat.reduceLeDiff, List.length_cons, List.length_nil, if_true, if_false, reduceIte, true_and, and_true, Bool.not_true, Bool.not_false, Bool.false_eq_true]
        refine ⟨fun E => ∃ b3, E = [.sh (.tuple ds), .ow (.lst (A ++ (if z = zS "call" then [getP (.str z :: rest) 1] else []))), .sh (.tuple (.str z :: rest)), b3], ⟨_, at_0, ?_⟩, ?_⟩
        · simp only [DD0, DD1, DD2, DD3, DD4, DD5, DD6, DD7, slG, slP, fzsK, Nat.zero_le, Nat.reduceLeDiff, List.length_cons, List.length_nil, if_true, if_false, reduceIte, true_and, and_true, Bool.not_true, Bool.not_false, Bool.false_eq_true]
          refine ⟨fun h => ?_, fun h => ?_⟩
          · have h : z = zS "call" := of_decide_eq_true h
            have hs2 : sizeN z = 2 := by subst h; decide +kernel
            obtain ⟨a, ha, hm, e⟩ := get1 (rest := rest) (z := z) (by omega)
            unfold d_called_words_1
            simp only [DD0, DD1, DD2, DD3, DD4, DD5, DD6, DD7, slG, slP, fzsK, Nat.zero_le, Nat.reduceLeDiff, List.length_cons, List.length_nil, if_true, if_false, reduceIte, true_and, and_true, Bool.not_true, Bool.not_false, Bool.false_eq_true]
            refine ⟨a, ha, ?_⟩
            rw [if_pos h, e]
            refine ⟨?_, _, rfl⟩
            simp only [List.length_append] at hlen
            omega
          · rw [if_neg (of_decide_eq_false h), List.append_nil]
            exact ⟨_, rfl⟩
        rintro E ⟨b3, rfl⟩
        rw [← List.append_assoc] at hlen ⊢
        generalize A ++ (if z = zS "call" then [getP (.str z :: rest) 1] else []) = B at hlen ⊢
        unfold d_called_words_3
        simp only [DD0, DD1, DD2, DD3, DD4, DD5, DD6, DD7, slG, slP, fzsK, Nat.zero_le, Nat.reduceLeDiff, List.length_cons, List.length_nil, if_true, if_false, reduceIte, true_and, and_true, Bool.not_true, Bool.not_false, Bool.false_eq_true]
        refine ⟨_, at_0, ?_⟩
        dsimp only
        rw [parts_eq]
        simp only [DD0, DD1, DD2, DD3, DD4, DD5, DD6, DD7, slG, slP, fzsK, Nat.zero_le, Nat.reduceLeDiff, List.length_cons, List.length_nil, if_true, if_false, reduceIte, true_and, and_true, Bool.not_true, Bool.not_false, Bool.false_eq_true]
        refine ⟨fun j E => ∃ b3, E = [.sh (.tuple ds), .ow (.lst (B ++ ((partsN z).take j).flatMap fun p => cwB n (getP (.str z :: rest) p))), .sh (.tuple (.str z :: rest)), b3], ⟨_, by rw [List.take_zero]; simp; rfl⟩, ?_, ?_⟩
        · rintro j d E2 hd ⟨b3, rfl⟩
          obtain ⟨p, hp2, rfl⟩ := map_get (f := fun p : Nat => PyData.int (p : Nat)) hd
          have hpm := List.mem_of_getElem? hp2
          have hlt := parts_in hpm
          obtain ⟨a, _, ha, hm, e⟩ := getN (ds := .str z :: rest) (k := p) (by rw [List.length_cons]; omega)
          have hbl := hpt p hpm
          have ht2 := flat_take (f := fun p => cwB n (getP (.str z :: rest) p)) hp2
          have hle := flat_le (f := fun p => cwB n (getP (.str z :: rest) p)) (l := partsN z) (j + 1)
          simp only [DD0, DD1, DD2, DD3, DD4, DD5, DD6, DD7, slG, slP, fzsK, Nat.zero_le, Nat.reduceLeDiff, List.length_cons, List.length_nil, if_true, if_false, reduceIte, true_and, and_true, Bool.not_true, Bool.not_false, Bool.false_eq_true]
          rw [ht2] at hle ⊢
          rw [e] at hbl
          simp only [List.length_append, e] at hle hlen
          rw [← List.append_assoc]
          generalize hB2 : B ++ ((partsN z).take j).flatMap (fun p => cwB n (getP (.str z :: rest) p)) = B2
          have hB3 : B2.length + (cwB n a).length ≤ 10000 := by
            rw [← hB2, List.length_append]
            omega
          rw [e]
          unfold d_called_words_2
          simp only [DD0, DD1, DD2, DD3, DD4, DD5, DD6, DD7, slG, slP, fzsK, Nat.zero_le, Nat.reduceLeDiff, List.length_cons, List.length_nil, if_true, if_false, reduceIte, true_and, and_true, Bool.not_true, Bool.not_false, Bool.false_eq_true]
          refine ⟨a, ha, fun Ψ1 kk => ⟨a, rfl, hbl, gs.mem hm, by omega, kk _ ?_⟩⟩
          simp only [DD0, DD1, DD2, DD3, DD4, DD5, DD6, DD7, slG, slP, fzsK, Nat.zero_le, Nat.reduceLeDiff, List.length_cons, List.length_nil, if_true, if_false, reduceIte, true_and, and_true, Bool.not_true, Bool.not_false, Bool.false_eq_true]
          exact ⟨by omega, _, rfl⟩
        · rintro E2 ⟨b3, rfl⟩
          rw [List.length_map, List.take_length]
          exact ⟨_, _, rfl⟩
      · rintro E2 ⟨b2, b3, rfl⟩
        rw [List.take_length]
        exact ⟨_, _, rfl⟩
    · rintro E ⟨b2, b3, rfl⟩
      unfold d_called_words_5
      simp only [DD0, DD1, DD2, DD3, DD4, DD5, DD6, DD7, slG, slP, fzsK, Nat.zero_le, Nat.reduceLeDiff, List.length_cons, List.length_nil, if_true, if_false, reduceIte, true_and, and_true, Bool.not_true, Bool.not_false, Bool.false_eq_true]
      exact q
  | _ => cases hb
end K62

set_option maxHeartbeats 4000000
namespace K62
open PySem PySem.Spec PyProof.Rows L2 Bk
/-! words that come to call themselves -/
def cwD (fs : List (Key × PD)) (w : PySem.Str) : List PD := match dlook fs (.inr w) with
  | some b => cwB 6 b
  | none => []
inductive Rch (fs : List (Key × PD)) (w0 : PySem.Str) : PySem.Str → Prop
  | one {x : PySem.Str} : (.str x : PD) ∈ cwD fs w0 → Rch fs w0 x
  | more {x y : PySem.Str} : Rch fs w0 x → (.str y : PD) ∈ cwD fs x → Rch fs w0 y
structure CiOk (fs : List (Key × PD)) : Prop where
  few : fs.length ≤ 6
  blk : ∀ w b, dlook fs (.inr w) = some b → blockB 6 b = true ∧ Gd b ∧ (cwB 6 b).length ≤ 10000 ∧ ∀ x ∈ cwB 6 b, ∃ z, x = .str z ∧ (dlook fs (.inr z)).isSome = true ∧ PyData.strOk z = true
theorem strs_of {P : PySem.Str → Prop} {l : List PD} (h : ∀ x ∈ l, ∃ z, x = .str z ∧ P z) : ∃ zs : List PySem.Str, l = zs.map PyData.str ∧ ∀ z ∈ zs, P z := by
  induction l with
  | nil => exact ⟨[], rfl, fun _ h => by cases h⟩
  | cons x l ih =>
    obtain ⟨zs, rfl, h2⟩ := ih fun y hy => h y (List.mem_cons_of_mem _ hy)
    obtain ⟨z, rfl, hz⟩ := h x List.mem_cons_self
    exact ⟨z :: zs, rfl, fun y hy => by
      rcases List.mem_cons.mp hy with rfl | hy
      · exact hz
      · exact h2 y hy⟩
theorem mem_strs {zs : List PySem.Str} {z : PySem.Str} : (.str z : PD) ∈ zs.map PyData.str ↔ z ∈ zs := by
  rw [List.mem_map]
  constructor
  · rintro ⟨y, hy, e⟩; cases e; exact hy
  · intro h; exact ⟨z, h, rfl⟩
theorem inW_str {x : PySem.Str} {ss : List PySem.Str} : inW (.str x) (ss.map PyData.str) = decide (x ∈ ss) := by
  unfold inW
  rw [List.any_map, Bool.eq_iff_iff, List.any_eq_true, decide_eq_true_iff]
  constructor
  · rintro ⟨y, hy, e⟩
    have e : decide (y = x) = true := e
    rw [← of_decide_eq_true e]
    exact hy
  · intro h
    exact ⟨x, h, decide_eq_true rfl⟩
theorem okDs_strs {ps : List PySem.Str} (h : ∀ z ∈ ps, PyData.strOk z = true) : nds (ps.map PyData.str) = true ∧ PyData.canLayAll0 (ps.map PyData.str) = true ∧ PyData.depthAll (ps.map PyData.str) = 0 := by
  induction ps with
  | nil => simp [nds, PyData.canLayAll0, PyData.depthAll]
  | cons p ps ih =>
    have i := ih fun z hz => h z (List.mem_cons_of_mem _ hz)
    simp [nds, nd, PyData.canLayAll0, PyData.canLay0, PyData.depthAll, PyData.depth, i.1, i.2.1, i.2.2, h p List.mem_cons_self]
theorem eqOk_strs {ps : List PySem.Str} (h : ∀ z ∈ ps, PyData.strOk z = true) : EqOk (.list (ps.map PyData.str)) := by
  obtain ⟨h1, h2, h3⟩ := okDs_strs h
  refine ⟨by simp only [nd]; exact h1, ?_⟩
  simp only [SeqAt.shaped, PyData.canLay0, PyData.depth, h2, h3]
  rfl
theorem eqv_strs_nil (ps : List PySem.Str) : PyData.eqv (.list (ps.map PyData.str)) (.list []) = decide (ps = []) := by
  cases ps with
  | nil => simp [PyData.eqv, PyData.eqvAll]
  | cons p ps => simp [PyData.eqv, PyData.eqvAll]
structure CiI (fs : List (Key × PD)) (w : PySem.Str) (ss ps : List PySem.Str) : Prop where
  nd : ss.Nodup
  sok : ∀ z ∈ ss, (dlook fs (.inr z)).isSome = true ∧ PyData.strOk z = true
  pok : ∀ z ∈ ps, (dlook fs (.inr z)).isSome = true ∧ PyData.strOk z = true
  rs : ∀ z ∈ ss, Rch fs w z
  rp : ∀ z ∈ ps, Rch fs w z
  cl : ∀ z ∈ ss, ∀ y, (.str y : PD) ∈ cwD fs z → y ∈ ss ∨ y ∈ ps
  c0 : ∀ y, (.str y : PD) ∈ cwD fs w → y ∈ ss ∨ y ∈ ps
  len : ps.length ≤ 10000 * (1 + ss.length)
theorem dlook_mem {fs : List (Key × PD)} {k : Key} (h : (dlook fs k).isSome = true) : k ∈ fs.map (·.1) := by
  unfold dlook at h
  cases hf : fs.find? (fun p => decide (p.1 = k)) with
  | none => rw [hf] at h; cases h
  | some p =>
    have h1 := List.find?_some hf
    have h2 := List.mem_of_find?_eq_some hf
    exact List.mem_map.mpr ⟨p, h2, of_decide_eq_true h1⟩
theorem CiI.few {fs : List (Key × PD)} {w : PySem.Str} {ss ps : List PySem.Str} (I : CiI fs w ss ps) : ss.length ≤ fs.length := by
  have := List.Nodup.length_le_of_subset (l₁ := ss.map (Sum.inr : PySem.Str → Key)) (l₂ := fs.map (·.1)) (by
    unfold List.Nodup
    rw [List.pairwise_map]
    exact I.nd.imp fun h e => h (Sum.inr.inj e)) (fun k hk => by
    obtain ⟨z, hz, rfl⟩ := List.mem_map.mp hk
    exact dlook_mem (I.sok z hz).1)
  rwa [List.length_map, List.length_map] at this
theorem CiI.skip {fs : List (Key × PD)} {w x : PySem.Str} {ss ps : List PySem.Str} (I : CiI fs w ss (ps ++ [x])) (hx : x ∈ ss) : CiI fs w ss ps := by
  have sp : ∀ y, y ∈ ss ∨ y ∈ ps ++ [x] → y ∈ ss ∨ y ∈ ps := fun y h => by
    rcases h with h | h
    · exact .inl h
    · rcases List.mem_append.mp h with h | h
      · exact .inr h
      · rw [List.mem_singleton.mp h]; exact .inl hx
  refine ⟨I.nd, I.sok, fun z h => I.pok z (List.mem_append_left _ h), I.rs, fun z h => I.rp z (List.mem_append_left _ h), fun z h y hy => sp y (I.cl z h y hy), fun y hy => sp y (I.c0 y hy), ?_⟩
  have := I.len
  rw [List.length_append, List.length_singleton] at this
  omega
theorem CiI.add {fs : List (Key × PD)} {w x : PySem.Str} {ss ps zs : List PySem.Str} (I : CiI fs w ss (ps ++ [x])) (hx : x ∉ ss) (hz : cwD fs x = zs.map PyData.str) (hl : zs.length ≤ 10000) (hk : ∀ z ∈ zs, (dlook fs (.inr z)).isSome = true ∧ PyData.strOk z = true) : CiI fs w (ss ++ [x]) (ps ++ zs) := by
  have hxp : x ∈ ps ++ [x] := by simp
  have sp : ∀ y, y ∈ ss ∨ y ∈ ps ++ [x] → y ∈ ss ++ [x] ∨ y ∈ ps ++ zs := fun y h => by
    rcases h with h | h
    · exact .inl (List.mem_append_left _ h)
    · rcases List.mem_append.mp h with h | h
      · exact .inr (List.mem_append_left _ h)
      · exact .inl (List.mem_append_right _ h)
  refine ⟨?_, ?_, ?_, ?_, ?_, ?_, fun y hy => sp y (I.c0 y hy), ?_⟩
  · rw [List.nodup_append]
    refine ⟨I.nd, by simp, fun a ha b hb e => ?_⟩
    rw [List.mem_singleton.mp hb] at e
    exact hx (e ▸ ha)
  · intro z h
    rcases List.mem_append.mp h with h | h
    · exact I.sok z h
    · rw [List.mem_singleton.mp h]; exact I.pok x hxp
  · intro z h
    rcases List.mem_append.mp h with h | h
    · exact I.pok z (List.mem_append_left _ h)
    · exact hk z h
  · intro z h
    rcases List.mem_append.mp h with h | h
    · exact I.rs z h
    · rw [List.mem_singleton.mp h]; exact I.rp x hxp
  · intro z h
    rcases List.mem_append.mp h with h | h
    · exact I.rp z (List.mem_append_left _ h)
    · exact .more (I.rp x hxp) (by rw [hz]; exact mem_strs.mpr h)
  · intro z h y hy
    rcases List.mem_append.mp h with h | h
    · exact sp y (I.cl z h y hy)
    · rw [List.mem_singleton.mp h, hz] at hy
      exact .inr (List.mem_append_right _ (mem_strs.mp hy))
  · have := I.len
    rw [List.length_append, List.length_singleton] at this
    rw [List.length_append, List.length_append, List.length_singleton]
    omega
theorem CiI.done {fs : List (Key × PD)} {w : PySem.Str} {ss : List PySem.Str} (I : CiI fs w ss []) : (decide (w ∈ ss) = true ↔ Rch fs w w) := by
  rw [decide_eq_true_iff]
  refine ⟨I.rs w, fun h => ?_⟩
  have all : ∀ x, Rch fs w x → x ∈ ss := fun x hx => by
    induction hx with
    | one h =>
      rcases I.c0 _ h with h | h
      · exact h
      · cases h
    | more _ h ih =>
      rcases I.cl _ ih _ h with h | h
      · exact h
      · cases h
  exact all w h
def spCi : List PD → (Rs → Prop) → Prop := fun as Ψ => ∃ w fs, as = [.str w, .dict (dK fs)] ∧ CiOk fs ∧ (dlook fs (.inr w)).isSome = true ∧ ∀ v : Bool, (v = true ↔ Rch fs w w) → Ψ (.sh (.bool v))
theorem CiOk.get {fs : List (Key × PD)} (C : CiOk fs) {w : PySem.Str} (h : (dlook fs (.inr w)).isSome = true) : ∃ (b : PD) (zs : List PySem.Str), dlook fs (.inr w) = some b ∧ blockB 6 b = true ∧ Gd b ∧ cwB 6 b = zs.map PyData.str ∧ zs.length ≤ 10000 ∧ cwD fs w = zs.map PyData.str ∧ ∀ z ∈ zs, (dlook fs (.inr z)).isSome = true ∧ PyData.strOk z = true := by
  cases hb : dlook fs (.inr w) with
  | none => rw [hb] at h; cases h
  | some b =>
    obtain ⟨h1, h2, h3, h4⟩ := C.blk w b hb
    obtain ⟨zs, e, hz⟩ := strs_of h4
    refine ⟨b, zs, rfl, h1, h2, e, by rw [e, List.length_map] at h3; exact h3, ?_, hz⟩
    unfold cwD
    rw [hb]
    exact e
theorem e_ci (w : PySem.Str) (fs : List (Key × PD)) (C : CiOk fs) (hw : (dlook fs (.inr w)).isSome = true) (Ψ : Rs → Prop) (q : ∀ v : Bool, (v = true ↔ Rch fs w w) → Ψ (.sh (.bool v))) : d_calls_itself (spCw 6) [.sh (.str w), .sh (.dict (dK fs)), .un, .un, .un] (post0 Ψ) := by
  unfold d_calls_itself d_calls_itself_8
  simp only [DD0, DD1, DD2, DD3, DD4, DD5, DD6, DD7, slG, slP, fzsK, Nat.zero_le, Nat.reduceLeDiff, List.length_cons, List.length_nil, if_true, if_false, reduceIte, true_and, and_true, Bool.not_true, Bool.not_false, Bool.false_eq_true]
  unfold d_calls_itself_7
  simp only [DD0, DD1, DD2, DD3, DD4, DD5, DD6, DD7, slG, slP, fzsK, Nat.zero_le, Nat.reduceLeDiff, List.length_cons, List.length_nil, if_true, if_false, reduceIte, true_and, and_true, Bool.not_true, Bool.not_false, Bool.false_eq_true]
  obtain ⟨b, zs, hb, h1, h2, h3, h4, h5, h6⟩ := C.get hw
  refine ⟨⟨fs, rfl⟩, rfl, b, ?_, fun Ψ1 kk => ⟨b, rfl, h1, h2, by rw [h3, List.length_map]; exact h4, kk _ ?_⟩⟩
  · show kLook (dK fs) (kD (.inr w)) = some b
    rw [kLook_dK, hb]
  rw [h3]
  simp only [DD0, DD1, DD2, DD3, DD4, DD5, DD6, DD7, slG, slP, fzsK, Nat.zero_le, Nat.reduceLeDiff, List.length_cons, List.length_nil, if_true, if_false, reduceIte, true_and, and_true, Bool.not_true, Bool.not_false, Bool.false_eq_true]
  unfold d_calls_itself_6
  simp only [DD0, DD1, DD2, DD3, DD4, DD5, DD6, DD7, slG, slP, fzsK, Nat.zero_le, Nat.reduceLeDiff, List.length_cons, List.length_nil, if_true, if_false, reduceIte, true_and, and_true, Bool.not_true, Bool.not_false, Bool.false_eq_true]
  refine ⟨fun E => ∃ ss b3 b4, CiI fs w ss [] ∧ E = [.sh (.str w), .sh (.dict (dK fs)), .ow (.lst (ss.map PyData.str)), b3, b4], ?_, ?_⟩
  · refine ⟨fun m E => ∃ ss ps b4, CiI fs w ss ps ∧ (fs.length - ss.length) * 10001 + ps.length ≤ m ∧ E = [.sh (.str w), .sh (.dict (dK fs)), .ow (.lst (ss.map PyData.str)), .ow (.lst (ps.map PyData.str)), b4], 80000, ⟨[], zs, _, ?_, ?_, rfl⟩, ?_⟩
    · exact ⟨List.nodup_nil, (fun z h => by cases h), h6, (fun z h => by cases h), fun z h => .one (by rw [h5]; exact mem_strs.mpr h), (fun z h => by cases h), fun y hy => .inr (by rw [h5] at hy; exact mem_strs.mp hy), by simp; exact h4⟩
    · have := C.few
      simp
      omega
    rintro m E1 ⟨ss, ps, b4, I, hm, rfl⟩
    have few := I.few
    simp only [DD0, DD1, DD2, DD3, DD4, DD5, DD6, DD7, slG, slP, fzsK, Nat.zero_le, Nat.reduceLeDiff, List.length_cons, List.length_nil, if_true, if_false, reduceIte, true_and, and_true, Bool.not_true, Bool.not_false, Bool.false_eq_true]
    rw [eqv_strs_nil]
    refine ⟨eqOk_strs fun z h => (I.pok z h).2, eqOk_strs (ps := []) (fun z h => by cases h), fun h => ?_, fun h => ?_⟩
    · rcases ps.eq_nil_or_concat with rfl | ⟨ps, x, rfl⟩
      · simp at h
      rw [List.concat_eq_append] at I hm ⊢
      rw [List.length_append, List.length_singleton] at hm
      unfold d_calls_itself_4
      simp only [DD0, DD1, DD2, DD3, DD4, DD5, DD6, DD7, slG, slP, fzsK, Nat.zero_le, Nat.reduceLeDiff, List.length_cons, List.length_nil, if_true, if_false, reduceIte, true_and, and_true, Bool.not_true, Bool.not_false, Bool.false_eq_true]
      refine ⟨.str x, by rw [List.map_append, List.length_append]; simp, ?_⟩
      rw [show ((ps ++ [x]).map PyData.str).dropLast = ps.map PyData.str by rw [List.map_append]; exact List.dropLast_concat]
      have hxp : x ∈ ps ++ [x] := by simp
      unfold d_calls_itself_3
      simp only [DD0, DD1, DD2, DD3, DD4, DD5, DD6, DD7, slG, slP, fzsK, Nat.zero_le, Nat.reduceLeDiff, List.length_cons, List.length_nil, if_true, if_false, reduceIte, true_and, and_true, Bool.not_true, Bool.not_false, Bool.false_eq_true]
      refine ⟨rfl, flat_strs ss, ?_⟩
      rw [inW_str]
      refine ⟨fun hx => ?_, fun hx => ?_⟩
      · have hx : x ∉ ss := by simpa using hx
        obtain ⟨b', zs', g1, g2, g3, g4, g5, g6, g7⟩ := C.get (I.pok x hxp).1
        have I2 := I.add hx g6 g5 g7
        have few2 := I2.few
        have len2 := I2.len
        have f6 := C.few
        rw [List.length_append, List.length_singleton] at few2
        rw [List.length_append, List.length_append, List.length_singleton] at len2
        unfold d_calls_itself_2
        simp only [DD0, DD1, DD2, DD3, DD4, DD5, DD6, DD7, slG, slP, fzsK, Nat.zero_le, Nat.reduceLeDiff, List.length_cons, List.length_nil, if_true, if_false, reduceIte, true_and, and_true, Bool.not_true, Bool.not_false, Bool.false_eq_true]
        rw [List.length_map]
        refine ⟨by omega, ?_⟩
        unfold d_calls_itself_1
        simp only [DD0, DD1, DD2, DD3, DD4, DD5, DD6, DD7, slG, slP, fzsK, Nat.zero_le, Nat.reduceLeDiff, List.length_cons, List.length_nil, if_true, if_false, reduceIte, true_and, and_true, Bool.not_true, Bool.not_false, Bool.false_eq_true]
        refine ⟨⟨fs, rfl⟩, rfl, b', ?_, fun Ψ1 kk => ⟨b', rfl, g2, g3, by rw [g4, List.length_map]; exact g5, kk _ ?_⟩⟩
        · show kLook (dK fs) (kD (.inr x)) = some b'
          rw [kLook_dK, g1]
        rw [g4]
        simp only [DD0, DD1, DD2, DD3, DD4, DD5, DD6, DD7, slG, slP, fzsK, Nat.zero_le, Nat.reduceLeDiff, List.length_cons, List.length_nil, if_true, if_false, reduceIte, true_and, and_true, Bool.not_true, Bool.not_false, Bool.false_eq_true]
        rw [List.length_map, List.length_map]
        refine ⟨by omega, (fs.length - (ss.length + 1)) * 10001 + (ps.length + zs'.length), by omega, ss ++ [x], ps ++ zs', .sh (.str x), I2, ?_, ?_⟩
        · rw [List.length_append, List.length_append, List.length_singleton]
          exact Nat.le_refl _
        · rw [List.map_append, List.map_append]
          rfl
      · have hx : x ∈ ss := by simpa using hx
        exact ⟨(fs.length - ss.length) * 10001 + ps.length, by omega, ss, ps, _, I.skip hx, Nat.le_refl _, rfl⟩
    · have h : ps = [] := by simpa using h
      subst h
      exact ⟨ss, _, _, I, rfl⟩
  · rintro E ⟨ss, b3, b4, I, rfl⟩
    unfold d_calls_itself_5
    simp only [DD0, DD1, DD2, DD3, DD4, DD5, DD6, DD7, slG, slP, fzsK, Nat.zero_le, Nat.reduceLeDiff, List.length_cons, List.length_nil, if_true, if_false, reduceIte, true_and, and_true, Bool.not_true, Bool.not_false, Bool.false_eq_true]
    refine ⟨rfl, flat_strs ss, ?_⟩
    rw [inW_str]
    exact q _ I.done
end K62

set_option maxHeartbeats 4000000
namespace K62
open PySem PySem.Spec PyProof.Rows L2 Bk
/-! program_error -/
def tupE (p : PySem.Str × PD) : PD := .tuple [.str p.1, p.2]
def fsOf (es : List (PySem.Str × PD)) : List (Key × PD) := es.map fun p => (.inr p.1, p.2)
theorem entOf_tup (p : PySem.Str × PD) : entOf (tupE p) = some p := rfl
theorem ent_all {es : List PD} : ∀ {ws : List PySem.Str}, entB ws es = true → ∃ ents : List (PySem.Str × PD), es = ents.map tupE ∧ (∀ p ∈ ents, wordB (.str p.1) = true ∧ blockB 6 p.2 = true ∧ p.1 ∉ ws) ∧ (ents.map (·.1)).Nodup := by
  induction es with
  | nil => intro ws _; exact ⟨[], rfl, (fun _ h => by cases h), List.nodup_nil⟩
  | cons e es ih =>
    intro ws h
    cases he : entOf e with
    | none =>
      have h : (match entOf e with | some (z, b) => (wordB (.str z) && !inW (.str z) (ws.map PyData.str) && blockB 6 b && entB (ws ++ [z]) es) | none => false) = true := h
      rw [he] at h
      cases h
    | some p =>
      obtain ⟨z, b⟩ := p
      obtain rfl := entOf_some he
      rw [ent_cons] at h
      simp only [Bool.and_eq_true, Bool.not_eq_true'] at h
      obtain ⟨⟨⟨h1, h2⟩, h3⟩, h4⟩ := h
      rw [inW_str] at h2
      obtain ⟨ents, rfl, h5, h6⟩ := ih h4
      refine ⟨(z, b) :: ents, rfl, fun p hp => ?_, ?_⟩
      · rcases List.mem_cons.mp hp with rfl | hp
        · exact ⟨h1, h3, of_decide_eq_false h2⟩
        · obtain ⟨g1, g2, g3⟩ := h5 p hp
          exact ⟨g1, g2, fun hm => g3 (List.mem_append_left _ hm)⟩
      · rw [List.map_cons, List.nodup_cons]
        refine ⟨fun hm => ?_, h6⟩
        obtain ⟨p, hp, e⟩ := List.mem_map.mp hm
        exact (h5 p hp).2.2 (by rw [e]; simp)
theorem fm_tup (ents : List (PySem.Str × PD)) : (ents.map tupE).filterMap entOf = ents := by
  induction ents with
  | nil => rfl
  | cons p ents ih =>
    rw [List.map_cons, List.filterMap_cons, entOf_tup]
    show p :: _ = _
    rw [ih]
theorem merge_nodup : ∀ (more kvs : List (Key × PD)), (∀ p ∈ more, ∀ q ∈ kvs, q.1 ≠ p.1) → (more.map (·.1)).Nodup → mergeD kvs more = kvs ++ more
  | [], kvs, _, _ => by unfold mergeD; simp
  | p :: more, kvs, h, hn => by
    rw [List.map_cons, List.nodup_cons] at hn
    have e : dput kvs p.1 p.2 = kvs ++ [p] := by
      unfold dput
      rw [if_neg]
      intro hc
      obtain ⟨q, hq, e⟩ := List.any_eq_true.mp hc
      exact h p List.mem_cons_self q hq (of_decide_eq_true e)
    show mergeD (dput kvs p.1 p.2) more = _
    rw [e, merge_nodup more (kvs ++ [p]) ?_ hn.2]
    · simp
    · intro q hq r hr
      rcases List.mem_append.mp hr with hr | hr
      · exact h q (List.mem_cons_of_mem _ hq) r hr
      · rw [List.mem_singleton.mp hr]
        exact fun e => hn.1 (List.mem_map.mpr ⟨q, hq, e.symm⟩)
theorem fs_keys (ents : List (PySem.Str × PD)) (h : (ents.map (·.1)).Nodup) : ((fsOf ents).map (·.1)).Nodup := by
  unfold fsOf
  rw [List.map_map]
  unfold List.Nodup at h ⊢
  rw [List.pairwise_map] at h ⊢
  exact h.imp fun h e => h (Sum.inr.inj e)
theorem merge_fs (ents : List (PySem.Str × PD)) (h : (ents.map (·.1)).Nodup) : mergeD [] (fsOf ents) = fsOf ents := by
  rw [merge_nodup _ _ (fun _ _ _ h => by cases h) (fs_keys ents h)]
  rfl
theorem fs_look {ents : List (PySem.Str × PD)} {w : PySem.Str} {b : PD} (h : dlook (fsOf ents) (.inr w) = some b) : (w, b) ∈ ents := by
  unfold dlook at h
  cases hf : (fsOf ents).find? (fun p => decide (p.1 = .inr w)) with
  | none => rw [hf] at h; cases h
  | some p =>
    rw [hf] at h
    cases h
    have h1 := of_decide_eq_true (List.find?_some (p := fun p : Key × PD => decide (p.1 = .inr w)) hf)
    have h2 := List.mem_of_find?_eq_some hf
    unfold fsOf at h2
    obtain ⟨q, hq, rfl⟩ := List.mem_map.mp h2
    cases h1
    exact hq
theorem fs_in {ents : List (PySem.Str × PD)} {p : PySem.Str × PD} (h : p ∈ ents) : (dlook (fsOf ents) (.inr p.1)).isSome = true := by
  unfold dlook
  rw [Option.isSome_map, List.find?_isSome]
  exact ⟨(.inr p.1, p.2), List.mem_map.mpr ⟨p, h, rfl⟩, decide_eq_true rfl⟩
/-- the words called, looked at -/
theorem cw_word : ∀ (n : Nat) (b : PD), blockB n b = true → Gd b → ∀ x ∈ cwB n b, wordB x = true ∧ Gd x
  | 0, b, h, _, _, _ => by cases h
  | n + 1, b, h, g, x, hx => by
    cases b with
    | tuple ds =>
      rw [cwB_eq] at hx
      rw [blk_tup] at h
      simp only [Bool.and_eq_true, decide_eq_true_eq] at h
      obtain ⟨s, hs, hx⟩ := List.mem_flatMap.mp hx
      have gs := g.mem hs
      obtain ⟨z, rest, rfl, hsz, hw, hpt⟩ := st_parts (List.all_eq_true.mp h.2 s hs)
      rw [cwS_eq] at hx
      rcases List.mem_append.mp hx with hx | hx
      · by_cases hz : z = zS "call"
        · rw [if_pos hz, List.mem_singleton] at hx
          have hs2 : sizeN z = 2 := by subst hz; decide +kernel
          obtain ⟨a, ha, hm, e⟩ := get1 (rest := rest) (z := z) (by omega)
          rw [e] at hx
          subst hx
          have := hw (by subst hz; decide +kernel)
          rw [e] at this
          exact ⟨this, gs.mem hm⟩
        · rw [if_neg hz] at hx
          cases hx
      · obtain ⟨p, hp, hx⟩ := List.mem_flatMap.mp hx
        have hlt := parts_in hp
        obtain ⟨a, _, ha, hm, e⟩ := getN (ds := .str z :: rest) (k := p) (by rw [List.length_cons]; omega)
        have hb := hpt p hp
        rw [e] at hb hx
        exact cw_word n a hb (gs.mem hm) x hx
    | _ => cases h
theorem firstP_none {α : Type} {f : α → PD} {l : List α} (h : firstP f l = .none) : ∀ x ∈ l, f x = .none := by
  induction l with
  | nil => intro x hx; cases hx
  | cons y l ih =>
    have h : (if isNo (f y) = true then firstP f l else f y) = .none := h
    intro x hx
    split at h
    · next e =>
      rcases List.mem_cons.mp hx with rfl | hx
      · exact no_none e
      · exact ih h x hx
    · next e => rw [h] at e; exact absurd rfl e
theorem fi_defs (W : PD → Bool) : ∀ (n : Nat) (b : PD) (path : List PD) (il : Bool), blockB n b = true → Gd b → fiB n W b path il = .none → ∀ x ∈ cwB n b, W x = true
  | 0, b, _, _, h, _, _, _, _ => by cases h
  | n + 1, b, path, il, h, g, hf, x, hx => by
    cases b with
    | tuple ds =>
      rw [cwB_eq] at hx
      rw [blk_tup] at h
      simp only [Bool.and_eq_true, decide_eq_true_eq] at h
      obtain ⟨s, hs, hx⟩ := List.mem_flatMap.mp hx
      have gs := g.mem hs
      obtain ⟨z, rest, rfl, hsz, hw, hpt⟩ := st_parts (List.all_eq_true.mp h.2 s hs)
      rw [fiB_eq] at hf
      obtain ⟨k, hk, e⟩ := List.getElem_of_mem hs
      have hz := zipIdx_get (List.getElem?_eq_some_iff.mpr ⟨hk, e⟩)
      have hS := firstP_none hf _ (List.mem_of_getElem? hz)
      dsimp only at hS
      rw [fiS_eq] at hS
      split at hS
      · cases hS
      split at hS
      · cases hS
      · next h1 h2 =>
        rw [cwS_eq] at hx
        rcases List.mem_append.mp hx with hx | hx
        · by_cases hz : z = zS "call"
          · rw [if_pos hz, List.mem_singleton] at hx
            subst hx
            cases hW : W (getP (.str z :: rest) 1) with
            | true => rfl
            | false => exact absurd ⟨hz, hW⟩ h2
          · rw [if_neg hz] at hx
            cases hx
        · obtain ⟨p, hp, hx⟩ := List.mem_flatMap.mp hx
          have hlt := parts_in hp
          obtain ⟨a, _, ha, hm, e⟩ := getN (ds := .str z :: rest) (k := p) (by rw [List.length_cons]; omega)
          have hb := hpt p hp
          have hP := firstP_none hS p hp
          rw [e] at hb hx hP
          exact fi_defs W n a _ _ hb (gs.mem hm) hP x hx
    | _ => cases h
theorem firstP_take {α : Type} {f : α → PD} : ∀ {l : List α} {k : Nat} {x : α}, l[k]? = some x → firstP f (l.take (k + 1)) = if isNo (firstP f (l.take k)) = true then f x else firstP f (l.take k)
  | [], _, _, h => by simp at h
  | y :: l, 0, x, h => by
    simp at h
    subst h
    show (if isNo (f y) = true then PyData.none else f y) = if true = true then f y else _
    rw [if_pos rfl]
    split
    · next e => rw [no_none e]
    · rfl
  | y :: l, k + 1, x, h => by
    have ih := firstP_take (f := f) (l := l) (k := k) (x := x) (by simpa using h)
    show (if isNo (f y) = true then firstP f (l.take (k + 1)) else f y) = if isNo (if isNo (f y) = true then firstP f (l.take k) else f y) = true then f x else (if isNo (f y) = true then firstP f (l.take k) else f y)
    split
    · exact ih
    · next e => first | rfl | rw [if_neg e]
open Classical in
noncomputable def ringP (fs : List (Key × PD)) (w : PySem.Str) : PD := if Rch fs w w then .tuple [.str (zS "ring"), .str w] else .none
def fndG (fs : List (Key × PD)) (x : (PySem.Str × PD) × Nat) : PD := fiB 6 (hasK (dK fs)) x.1.2 [.int (x.2 : Nat)] false
noncomputable def prgR (b : PD) (ents : List (PySem.Str × PD)) : PD :=
  if isNo (fiB 6 (hasK (dK (fsOf ents))) b [.int (-1)] false) = true then
    if isNo (firstP (fndG (fsOf ents)) ents.zipIdx) = true then firstP (fun p : PySem.Str × PD => ringP (fsOf ents) p.1) ents else firstP (fndG (fsOf ents)) ents.zipIdx
  else fiB 6 (hasK (dK (fsOf ents))) b [.int (-1)] false
noncomputable def perr (v : PD) : PD := if wfB v = true then (match v with | .tuple [b, .tuple es] => prgR b (es.filterMap entOf) | _ => .none) else .str (zS "form")
theorem perr_form {v : PD} (h : wfB v = false) : perr v = .str (zS "form") := by unfold perr; rw [if_neg (by rw [h]; exact Bool.false_ne_true)]
theorem perr_ok {b : PD} {es : List PD} (h : wfB (.tuple [b, .tuple es]) = true) : perr (.tuple [b, .tuple es]) = prgR b (es.filterMap entOf) := by unfold perr; rw [if_pos h]
structure PeOk (v : PD) : Prop where
  w : WfOk (unb v)
  b : wfB (unb v) = true → ∃ b es, v = .tuple [b, tb es] ∧ unb b = b ∧ unbs es = es
  s : ∀ b es, unb v = .tuple [b, .tuple es] → wfB (unb v) = true → ∀ p ∈ es.filterMap entOf, (cwB 6 p.2).length ≤ 10000
noncomputable def spPe : List PD → (Rs → Prop) → Prop := fun as Ψ => ∃ v, as = [v] ∧ PeOk v ∧ Ψ (.sh (perr (unb v)))
theorem fstep_t {f0 A x : PD} (h : isNo (if isNo f0 = true then A else f0) = true) : (if isNo f0 = true then (if isNo A = true then x else A) else f0) = x := by
  cases h0 : isNo f0 with
  | true => rw [h0] at h; rw [if_pos rfl] at h ⊢; rw [if_pos h]
  | false => rw [h0, if_neg (by simp), h0] at h; cases h
theorem fstep_f {f0 A x : PD} (h : isNo (if isNo f0 = true then A else f0) = false) : (if isNo f0 = true then (if isNo A = true then x else A) else f0) = (if isNo f0 = true then A else f0) := by
  cases h0 : isNo f0 with
  | true => rw [h0] at h; rw [if_pos rfl] at h ⊢; rw [if_neg (by rw [h]; simp)]; rfl
  | false => rw [if_neg (by simp), if_neg (by simp)]
theorem e_pe (v : PD) (O : PeOk v) (Ψ : Rs → Prop) (q : Ψ (.sh (perr (unb v)))) : d_program_error spWf (spFi 6) spCi [.sh v, .un, .un, .un, .un, .un] (post0 Ψ) := by
  unfold d_program_error d_program_error_13
  simp only [DD0, DD1, DD2, DD3, DD4, DD5, DD6, DD7, slG, slP, fzsK, Nat.zero_le, Nat.reduceLeDiff, List.length_cons, List.length_nil, if_true, if_false, reduceIte, true_and, and_true, Bool.not_true, Bool.not_false, Bool.false_eq_true]
  refine ⟨fun E => wfB (unb v) = true ∧ E = [.sh v, .un, .un, .un, .un, .un], fun Ψ1 kk => ⟨_, rfl, O.w, kk _ ?_⟩, ?_⟩
  · simp only [DD0, DD1, DD2, DD3, DD4, DD5, DD6, DD7, slG, slP, fzsK, Nat.zero_le, Nat.reduceLeDiff, List.length_cons, List.length_nil, if_true, if_false, reduceIte, true_and, and_true, Bool.not_true, Bool.not_false, Bool.false_eq_true]
    refine ⟨fun h => ?_, fun h => by simpa using h⟩
    rw [perr_form (by simpa using h)] at q
    unfold d_program_error_1
    simp only [DD0, DD1, DD2, DD3, DD4, DD5, DD6, DD7, slG, slP, fzsK, Nat.zero_le, Nat.reduceLeDiff, List.length_cons, List.length_nil, if_true, if_false, reduceIte, true_and, and_true, Bool.not_true, Bool.not_false, Bool.false_eq_true]
    exact q
  rintro E ⟨hwf, rfl⟩
  obtain ⟨b, es, rfl, hub, hue⟩ := O.b hwf
  have hu : unb (.tuple [b, tb es]) = .tuple [b, .tuple es] := by
    simp only [unb, unbs, tb, hub, hue]
  have hsz := O.s b es hu hwf
  have hW := O.w
  rw [hu] at hwf hW q
  rw [perr_ok hwf] at q
  have hwf2 := hwf
  rw [wf_pair] at hwf2
  simp only [Bool.and_eq_true, decide_eq_true_eq] at hwf2
  obtain ⟨⟨hb, hl6⟩, hent⟩ := hwf2
  have gb : Gd b := ((hW.m _ rfl).2 b (by simp)).t (by cases b <;> first | rfl | cases hb)
  have ge : Gd (.tuple es) := ((hW.m _ rfl).2 (.tuple es) (by simp)).t rfl
  obtain ⟨ents, rfl, hen, hnd⟩ := ent_all hent
  rw [fm_tup] at q hsz
  rw [List.length_map] at hl6
  have gp : ∀ p ∈ ents, Gd p.2 ∧ Gd (.str p.1) := fun p hp => by
    have g1 : Gd (tupE p) := ge.mem (List.mem_map.mpr ⟨p, hp, rfl⟩)
    exact ⟨g1.mem (by simp), g1.mem (by simp)⟩
  unfold d_program_error_12
  simp only [DD0, DD1, DD2, DD3, DD4, DD5, DD6, DD7, slG, slP, fzsK, Nat.zero_le, Nat.reduceLeDiff, List.length_cons, List.length_nil, if_true, if_false, reduceIte, true_and, and_true, Bool.not_true, Bool.not_false, Bool.false_eq_true]
  refine ⟨_, at_1, ?_⟩
  unfold tb
  rw [s_uDctT]
  refine ⟨fsOf ents, by unfold fsOf; rw [List.map_map]; rfl, ?_⟩
  rw [merge_fs ents hnd]
  generalize hfs : fsOf ents = fs at q
  unfold d_program_error_11
  simp only [DD0, DD1, DD2, DD3, DD4, DD5, DD6, DD7, slG, slP, fzsK, Nat.zero_le, Nat.reduceLeDiff, List.length_cons, List.length_nil, if_true, if_false, reduceIte, true_and, and_true, Bool.not_true, Bool.not_false, Bool.false_eq_true]
  have hu' : unb (.tuple [b, .dict [(.bool true, .tuple (ents.map tupE))]]) = .tuple [b, .tuple (ents.map tupE)] := hu
  rw [hu']
  simp only [DD0, DD1, DD2, DD3, DD4, DD5, DD6, DD7, slG, slP, fzsK, Nat.zero_le, Nat.reduceLeDiff, List.length_cons, List.length_nil, if_true, if_false, reduceIte, true_and, and_true, Bool.not_true, Bool.not_false, Bool.false_eq_true]
  refine ⟨b, at_0, fun Ψ1 kk => ⟨b, fs, [.int (-1)], false, rfl, hb, gb, by decide, kk _ ?_⟩⟩
  unfold prgR at q
  rw [hfs] at q
  generalize hf0 : fiB 6 (hasK (dK fs)) b [.int (-1)] false = f0 at q ⊢
  simp only [DD0, DD1, DD2, DD3, DD4, DD5, DD6, DD7, slG, slP, fzsK, Nat.zero_le, Nat.reduceLeDiff, List.length_cons, List.length_nil, if_true, if_false, reduceIte, true_and, and_true, Bool.not_true, Bool.not_false, Bool.false_eq_true]
  unfold d_program_error_10
  simp only [DD0, DD1, DD2, DD3, DD4, DD5, DD6, DD7, slG, slP, fzsK, Nat.zero_le, Nat.reduceLeDiff, List.length_cons, List.length_nil, if_true, if_false, reduceIte, true_and, and_true, Bool.not_true, Bool.not_false, Bool.false_eq_true]
  rw [hu']
  simp only [DD0, DD1, DD2, DD3, DD4, DD5, DD6, DD7, slG, slP, fzsK, Nat.zero_le, Nat.reduceLeDiff, List.length_cons, List.length_nil, if_true, if_false, reduceIte, true_and, and_true, Bool.not_true, Bool.not_false, Bool.false_eq_true]
  generalize hv : (PyData.tuple [b, .dict [(.bool true, .tuple (ents.map tupE))]]) = vv
  refine ⟨fun E => ∃ b3 b4, E = [.sh vv, .sh (.dict (dK fs)), .sh (if isNo f0 = true then firstP (fndG fs) ents.zipIdx else f0), b3, b4, .un], ⟨_, at_1, ?_⟩, ?_⟩
  · simp only [DD0, DD1, DD2, DD3, DD4, DD5, DD6, DD7, slG, slP, fzsK, Nat.zero_le, Nat.reduceLeDiff, List.length_cons, List.length_nil, if_true, if_false, reduceIte, true_and, and_true, Bool.not_true, Bool.not_false, Bool.false_eq_true]
    refine ⟨fun k E => ∃ b3 b4, E = [.sh vv, .sh (.dict (dK fs)), .sh (if isNo f0 = true then firstP (fndG fs) (ents.zipIdx.take k) else f0), b3, b4, .un], ⟨.un, .un, ?_⟩, ?_, ?_⟩
    · have e0 : (if isNo f0 = true then firstP (fndG fs) (ents.zipIdx.take 0) else f0) = f0 := by
        rw [List.take_zero]
        split
        · next e => rw [no_none e]; rfl
        · rfl
      rw [e0]
    · rintro k d E2 hd ⟨b3, b4, rfl⟩
      obtain ⟨s, hs, rfl⟩ := enD_get2 hd
      rw [List.getElem?_map] at hs
      cases hp : ents[k]? with
      | none => rw [hp] at hs; cases hs
      | some p =>
        rw [hp] at hs
        cases hs
        have hpm := List.mem_of_getElem? hp
        have hz : ents.zipIdx[k]? = some (p, k) := by
          rw [List.getElem?_zipIdx, hp]
          simp
        have htk := firstP_take (f := fndG fs) hz
        have key : ∀ Ψ1 : Rs → Prop, Ψ1 (.sh (fndG fs (p, k))) → spFi 6 [p.2, .dict (dK fs), .tuple [.int (k : Nat)], .bool false] Ψ1 := fun Ψ1 q1 => ⟨p.2, fs, [.int (k : Nat)], false, rfl, (hen p hpm).2.1, (gp p hpm).1, by rw [List.length_singleton]; decide, q1⟩
        simp only [DD0, DD1, DD2, DD3, DD4, DD5, DD6, DD7, slG, slP, fzsK, Nat.zero_le, Nat.reduceLeDiff, List.length_cons, List.length_nil, if_true, if_false, reduceIte, true_and, and_true, Bool.not_true, Bool.not_false, Bool.false_eq_true]
        unfold d_program_error_3
        simp only [DD0, DD1, DD2, DD3, DD4, DD5, DD6, DD7, slG, slP, fzsK, Nat.zero_le, Nat.reduceLeDiff, List.length_cons, List.length_nil, if_true, if_false, reduceIte, true_and, and_true, Bool.not_true, Bool.not_false, Bool.false_eq_true]
        rw [htk]
        refine ⟨fun h => ?_, fun h => ?_⟩
        · rw [fstep_t h]
          unfold d_program_error_2 tupE
          simp only [DD0, DD1, DD2, DD3, DD4, DD5, DD6, DD7, slG, slP, fzsK, Nat.zero_le, Nat.reduceLeDiff, List.length_cons, List.length_nil, if_true, if_false, reduceIte, true_and, and_true, Bool.not_true, Bool.not_false, Bool.false_eq_true]
          refine ⟨_, at_1, fun Ψ1 kk => key _ (kk _ ?_)⟩
          simp only [DD0, DD1, DD2, DD3, DD4, DD5, DD6, DD7, slG, slP, fzsK, Nat.zero_le, Nat.reduceLeDiff, List.length_cons, List.length_nil, if_true, if_false, reduceIte, true_and, and_true, Bool.not_true, Bool.not_false, Bool.false_eq_true]
          exact ⟨_, _, rfl⟩
        · rw [fstep_f h]
          exact ⟨_, _, rfl⟩
    · rintro E2 ⟨b3, b4, rfl⟩
      rw [enD_len, List.length_map, show ents.length = ents.zipIdx.length by simp, List.take_length]
      exact ⟨_, _, rfl⟩
  rintro E ⟨b3, b4, rfl⟩
  unfold d_program_error_9
  simp only [DD0, DD1, DD2, DD3, DD4, DD5, DD6, DD7, slG, slP, fzsK, Nat.zero_le, Nat.reduceLeDiff, List.length_cons, List.length_nil, if_true, if_false, reduceIte, true_and, and_true, Bool.not_true, Bool.not_false, Bool.false_eq_true]
  generalize hfd : (if isNo f0 = true then firstP (fndG fs) ents.zipIdx else f0) = fd
  have q : Ψ (.sh (if isNo fd = true then firstP (fun p : PySem.Str × PD => ringP fs p.1) ents else fd)) := by
    rw [← hfd]
    by_cases h0 : isNo f0 = true
    · rw [if_pos h0] at q ⊢
      exact q
    · rw [if_neg h0] at q
      rw [if_neg h0, if_neg h0]
      exact q
  refine ⟨fun E => fd = .none ∧ E = [.sh vv, .sh (.dict (dK fs)), .sh fd, b3, b4, .un], ⟨fun h => ?_, fun h => ⟨no_none (by simpa using h), rfl⟩⟩, ?_⟩
  · rw [if_neg (by simpa using h)] at q
    unfold d_program_error_4
    simp only [DD0, DD1, DD2, DD3, DD4, DD5, DD6, DD7, slG, slP, fzsK, Nat.zero_le, Nat.reduceLeDiff, List.length_cons, List.length_nil, if_true, if_false, reduceIte, true_and, and_true, Bool.not_true, Bool.not_false, Bool.false_eq_true]
    exact q
  rintro E ⟨hn, rfl⟩
  rw [if_pos (by rw [hn]; rfl)] at q
  have C : CiOk fs := by
    rw [hn] at hfd
    have hf0n : f0 = .none := by
      cases h0 : isNo f0 with
      | true => exact no_none h0
      | false => rw [if_neg (by rw [h0]; simp)] at hfd; exact hfd
    rw [hf0n, if_pos (show isNo PyData.none = true from rfl)] at hfd
    refine ⟨by rw [← hfs]; unfold fsOf; rw [List.length_map]; exact hl6, fun w c hc => ?_⟩
    rw [← hfs] at hc
    have hm := fs_look hc
    obtain ⟨g1, g2, _⟩ := hen _ hm
    refine ⟨g2, (gp _ hm).1, hsz _ hm, fun x hx => ?_⟩
    obtain ⟨g3, g4⟩ := cw_word 6 c g2 (gp _ hm).1 x hx
    obtain ⟨z, rfl⟩ := word_str g3
    obtain ⟨k, hk, e⟩ := List.getElem_of_mem hm
    have hz : ents.zipIdx[k]? = some ((w, c), k) := by
      rw [List.getElem?_zipIdx, List.getElem?_eq_getElem hk, e]
      simp
    have hF := firstP_none hfd _ (List.mem_of_getElem? hz)
    have hW := fi_defs _ 6 c _ _ g2 (gp _ hm).1 hF _ hx
    refine ⟨z, rfl, ?_, ?_⟩
    · have hW : hasK (dK fs) (kD (.inr z)) = true := hW
      rw [hasK_dK] at hW
      exact hW
    · have := g4.ok
      simp only [okD, Bool.and_eq_true] at this
      exact this.2
  unfold d_program_error_8
  simp only [DD0, DD1, DD2, DD3, DD4, DD5, DD6, DD7, slG, slP, fzsK, Nat.zero_le, Nat.reduceLeDiff, List.length_cons, List.length_nil, if_true, if_false, reduceIte, true_and, and_true, Bool.not_true, Bool.not_false, Bool.false_eq_true]
  refine ⟨fun E => firstP (fun p : PySem.Str × PD => ringP fs p.1) ents = .none, ⟨fs, rfl, ?_⟩, ?_⟩
  · refine ⟨fun k E => ∃ b5, firstP (fun p : PySem.Str × PD => ringP fs p.1) ents = firstP (fun p : PySem.Str × PD => ringP fs p.1) (ents.drop k) ∧ E = [.sh vv, .sh (.dict (dK fs)), .sh fd, b3, b4, b5], ⟨_, rfl, rfl⟩, ?_, ?_⟩
    · rintro k d E2 hd ⟨b5, hk, rfl⟩
      rw [← hfs] at hd
      unfold fsOf at hd
      rw [List.map_map, List.getElem?_map] at hd
      cases hp : ents[k]? with
      | none => rw [hp] at hd; cases hd
      | some p =>
        rw [hp] at hd
        cases hd
        have hpm := List.mem_of_getElem? hp
        simp only [DD0, DD1, DD2, DD3, DD4, DD5, DD6, DD7, slG, slP, fzsK, Nat.zero_le, Nat.reduceLeDiff, List.length_cons, List.length_nil, if_true, if_false, reduceIte, true_and, and_true, Bool.not_true, Bool.not_false, Bool.false_eq_true]
        unfold d_program_error_6
        simp only [DD0, DD1, DD2, DD3, DD4, DD5, DD6, DD7, slG, slP, fzsK, Nat.zero_le, Nat.reduceLeDiff, List.length_cons, List.length_nil, if_true, if_false, reduceIte, true_and, and_true, Bool.not_true, Bool.not_false, Bool.false_eq_true]
        refine fun Ψ1 kk => ⟨p.1, fs, rfl, C, by rw [← hfs]; exact fs_in hpm, fun v hv => kk _ ?_⟩
        simp only [DD0, DD1, DD2, DD3, DD4, DD5, DD6, DD7, slG, slP, fzsK, Nat.zero_le, Nat.reduceLeDiff, List.length_cons, List.length_nil, if_true, if_false, reduceIte, true_and, and_true, Bool.not_true, Bool.not_false, Bool.false_eq_true]
        refine ⟨fun h => ?_, fun h => ⟨_, hk.trans (firstP_skip hp ?_), rfl⟩⟩
        · have hr : ringP fs p.1 = .tuple [.str (zS "ring"), .str p.1] := if_pos (hv.mp h)
          rw [hk, firstP_hit hp (by rw [hr]; rfl)] at q
          rw [hr] at q
          unfold d_program_error_5
          simp only [DD0, DD1, DD2, DD3, DD4, DD5, DD6, DD7, slG, slP, fzsK, Nat.zero_le, Nat.reduceLeDiff, List.length_cons, List.length_nil, if_true, if_false, reduceIte, true_and, and_true, Bool.not_true, Bool.not_false, Bool.false_eq_true]
          exact q
        · have hr : ringP fs p.1 = .none := if_neg fun g => by rw [hv.mpr g] at h; cases h
          rw [hr]
          rfl
    · rintro E2 ⟨b5, hk, rfl⟩
      rw [hk, ← hfs]
      unfold fsOf
      rw [List.map_map, List.length_map, List.drop_length]
      rfl
  · rintro E hn
    rw [hn] at q
    unfold d_program_error_7
    simp only [DD0, DD1, DD2, DD3, DD4, DD5, DD6, DD7, slG, slP, fzsK, Nat.zero_le, Nat.reduceLeDiff, List.length_cons, List.length_nil, if_true, if_false, reduceIte, true_and, and_true, Bool.not_true, Bool.not_false, Bool.false_eq_true]
    exact q
end K62

set_option maxHeartbeats 4000000
namespace K62
open PySem PySem.Spec PyProof.Rows L2 Bk
section
variable {P : Program} {w : World} {K : PySem.W.Frag} {mg : Str → Option Value} {base : Heap}
abbrev sPen : Stmt := topS 19
theorem scPen : FnScope ["script"] ["script"] (defScope sPen) := ⟨rfl, rfl, rfl, by decide +kernel, rfl, by decide +kernel, by decide +kernel⟩
theorem ok_pen {f : Addr} {fd : FuncData} {k : Nat} (Fn : L2.Fun K "_law_pen" "_law_pen" sPen f fd) (ml : mg "list" = none) : FnOk P w K mg base CX0 (k + 1) f fd ["script"] (Pm K 1 spPen) := by
  have nd := scPen.nd
  refine ok_def Fn scPen fun cdv A outer s H E F ds Ψ hr hl hs => ?_
  obtain ⟨ns, rfl, hn, q⟩ := hs
  show XSs _ F (defBody sPen) [.sh (.dict [(.none, .list (pI ns))])] _
  refine xss_one (xs_ret ?_)
  refine xe_lst (xa_cons ?_)
  refine xe_callT call_list_of ml boot_list (xa_cons ?_)
  refine xe_slice (xe_var (i := 0) rfl ⟨_, .sh, xo_none (xo_some (xe_int ⟨63, rfl, ?_⟩))⟩)
  refine slj_scr ⟨_, .nw, xa_nil (cj_list (.lst .sh) ⟨_, .nw, ?_⟩)⟩
  refine xa_cons (xe_int ⟨_, .sh, xa_cons (xe_int ⟨_, .sh, xa_nil ⟨_, _, .sh (.sh (.sh .nil)), by simp, ?_⟩⟩)⟩)
  rw [cut_63 (by simpa using hn)]
  exact ⟨_, .nw, q⟩
abbrev sFresh : Stmt := topS 20
theorem scFresh : FnScope ["pen", "at", "cell", "p", "one", "found", "turn"] ["pen"] (defScope sFresh) := ⟨rfl, rfl, rfl, by decide +kernel, rfl, by decide +kernel, by decide +kernel⟩
theorem ok_fresh {f : Addr} {fd : FuncData} {k : Nat} (Fn : L2.Fun K "_law_fresh" "_law_fresh" sFresh f fd) (ml : mg "len" = none) (mr : mg "range" = none) : FnOk P w K mg base CX0 (k + 1) f fd ["pen"] (Pm1 K 1 spFresh) := by
  have nd := scFresh.nd
  refine ok_def1 Fn scFresh fun cdv A outer s H E F o ds Ψ hr hl hs => ?_
  obtain ⟨ns, a, d, rfl, rfl, hn, q⟩ := hs
  have hu := hr.units
  show XSs _ F (defBody sFresh) [.ib 0 (Pen ns a d), .un, .un, .un, .un, .un, .un] _
  -- at = pen[1]
  refine xss_cons (xs_set (i := 1) (xe_ix (ixr hu) (xe_lent (i := 0) rfl ⟨_, .br, xe_int ⟨_, .sh, oj_ixL (.ib rfl) rfl ⟨_, .sh (.tl .hd), ?_⟩⟩⟩)) nd)
  -- pen[1] = at + 1
  refine xss_cons (xs_store hu (xe_bin opr_add (xe_var (i := 1) rfl ⟨_, .sh, xe_int ⟨_, .sh, oj_addI ⟨_, .sh, xe_lent (i := 0) rfl ⟨_, rfl, xe_int ⟨_, _, _, _, .sh .nil, rfl, .lst rfl rfl rfl .hd, ?_⟩⟩⟩⟩⟩)))
  -- cell = 0
  refine xss_cons (xs_set (i := 2) (xe_int ⟨_, .sh (.tl (.tl .hd)), ?_⟩) nd)
  -- if pen[0] != []
  refine xss_cut (fun E => ∃ c : Int, E = [.ib 0 (Pen ns (a + 1) d), .sh (.int (a : Nat)), .sh (.int c), .un, .un, .un, .un]) (xs_if (xt_cmp (opr_ne hu) (xe_ix (ixr hu) (xe_lent (i := 0) rfl ⟨_, .br, xe_int ⟨_, .sh, oj_ixL (.ib rfl) rfl ⟨_, .sh, ?_⟩⟩⟩)))) ?_
  · refine xe_lst (xa_nil ⟨_, [], .nil, by decide, _, .nw, oj_neLI (ns := ns) (ms := []) .sh .sh ⟨_, rfl, fun hk => ?_, fun hk => xss_nil ⟨0, rfl⟩⟩⟩)
    have hne : ns ≠ [] := by simpa using hk
    have hpos : 0 < ns.length := List.length_pos_iff.mpr hne
    -- cell = pen[0][at % len(pen[0])]
    refine xss_one (xs_set (i := 2) (xe_ix (ixr hu) (xe_ix (ixr hu) (xe_lent (i := 0) rfl ⟨_, .br, xe_int ⟨_, .sh, oj_ixL (.ib rfl) rfl ⟨_, .sh, ?_⟩⟩⟩))) nd)
    refine xe_bin op_modN (xe_var (i := 1) rfl ⟨_, .sh, ?_⟩)
    refine xe_callB call_len ml PySem.boot_len (xa_cons (xe_ix (ixr hu) (xe_lent (i := 0) rfl ⟨_, .br, xe_int ⟨_, .sh, oj_ixL (.ib rfl) rfl ⟨_, .sh, xa_nil (cj_len (.lst .sh) ⟨_, .sh, ?_⟩)⟩⟩⟩)))
    have el : (pI ns).length = ns.length := by simp [pI]
    rw [el]
    refine oj_modP (by omega) ⟨_, .sh, ?_⟩
    have hm : a % ns.length < ns.length := Nat.mod_lt _ hpos
    have e : ((a : Int) % (ns.length : Int)) = ((a % ns.length : Nat) : Int) := by omega
    rw [e]
    exact oj_ixL .sh (atI_ints (List.getElem?_eq_getElem hm)) ⟨_, .sh (.tl (.tl .hd)), _, rfl⟩
  rintro E1 ⟨c, rfl⟩
  -- if at < len(pen[0]) and cell >= 10 ** 18
  refine xss_cut (fun E => E = [.ib 0 (Pen ns (a + 1) d), .sh (.int (a : Nat)), .sh (.int c), .un, .un, .un, .un]) (xs_if (xt_w (xw_and (xt_cmp op_lt (xe_var (i := 1) rfl ⟨_, .sh, ?_⟩))))) ?_
  · refine xe_callB call_len ml PySem.boot_len (xa_cons (xe_ix (ixr hu) (xe_lent (i := 0) rfl ⟨_, .br, xe_int ⟨_, .sh, oj_ixL (.ib rfl) rfl ⟨_, .sh, xa_nil (cj_len (.lst .sh) ⟨_, .sh, ?_⟩)⟩⟩⟩)))
    refine oj_ltI ⟨_, rfl, fun _ => xw_and1 ?_, fun _ => ⟨fun z => (by cases z), fun _ => xss_nil rfl⟩⟩
    refine xt_cmp op_ge (xe_var (i := 2) rfl ⟨_, .sh, xe_bin op_pow (xe_int ⟨_, .sh, xe_int ⟨_, .sh, oj_pow ⟨by decide, by decide, by decide⟩ ⟨_, .sh, oj_geI ⟨_, rfl, fun hk => ?_, fun _ => xss_nil rfl⟩⟩⟩⟩)⟩)
    have hc : (10 : Int) ^ (18 : Int).toNat ≤ c := of_decide_eq_true hk
    refine xss_one (xs_ret (xe_bin op_sub (xe_var (i := 2) rfl ⟨_, .sh, xe_bin op_pow (xe_int ⟨_, .sh, xe_int ⟨_, .sh, oj_pow ⟨by decide, by decide, by decide⟩ ⟨_, .sh, oj_subI ⟨_, _, .sh, rfl, ?_⟩⟩⟩⟩)⟩)))
    have e : c - 10 ^ (18 : Int).toNat = ((c - 10 ^ (18 : Int).toNat).toNat : Nat) := by omega
    rw [e]
    exact q _
  rintro E1 rfl
  -- p, one, found
  refine xss_cons (xs_set (i := 3) (xe_int ⟨_, .sh (.tl (.tl (.tl .hd))), ?_⟩) nd)
  refine xss_cons (xs_set (i := 4) (xe_bin op_modN (xe_bin opr_add (xe_bin opr_add (xe_bin opr_mul (xe_var (i := 2) rfl ⟨_, .sh, xe_int ⟨_, .sh, oj_mulI (.inl (.inr (by decide))) ⟨_, .sh, ?_⟩⟩⟩))))) nd)
  refine xe_bin opr_mul (xe_int ⟨_, .sh, xe_var (i := 1) rfl ⟨_, .sh, oj_mulI (.inl (.inl (by decide))) ⟨_, .sh, oj_addI ⟨_, .sh, xe_int ⟨_, .sh, oj_addI ⟨_, .sh, xe_var (i := 3) rfl ⟨_, .sh, oj_modP (by decide) ⟨_, .sh (.tl (.tl (.tl (.tl .hd)))), ?_⟩⟩⟩⟩⟩⟩⟩⟩)
  refine xss_cons (xs_set (i := 5) (xe_var (i := 4) rfl ⟨_, .sh (.tl (.tl (.tl (.tl (.tl .hd))))), ?_⟩) nd)
  refine xss_cons (xs_for (xi_range1 mr (xe_int ⟨_, rfl, by decide, ?_⟩)))
  refine ⟨fun i E => ∃ (x y : Nat) (b : Bd), x < 2305843009213693951 ∧ E = [.ib 0 (Pen ns (a + 1) d), .sh (.int (a : Nat)), .sh (.int c), .sh (.int 2305843009213693951), .sh (.int (x : Nat)), .sh (.int (y : Nat)), b], ?_, fun i dd E2 hd hI => ?_, fun E2 hI => ?_⟩
  · have h0 := Int.emod_nonneg (c * 48271 + 40692 * (a : Int) + 31) (by decide : (2305843009213693951 : Int) ≠ 0)
    have h1 := Int.emod_lt_of_pos (c * 48271 + 40692 * (a : Int) + 31) (by decide : (0 : Int) < 2305843009213693951)
    have e : (c * 48271 + 40692 * (a : Int) + 31) % 2305843009213693951 = (((c * 48271 + 40692 * (a : Int) + 31) % 2305843009213693951).toNat : Nat) := by omega
    refine ⟨((c * 48271 + 40692 * (a : Int) + 31) % 2305843009213693951).toNat, ((c * 48271 + 40692 * (a : Int) + 31) % 2305843009213693951).toNat, .un, by omega, ?_⟩
    rw [← e]
  · obtain ⟨x, y, b, hx, rfl⟩ := hI
    obtain ⟨hi, rfl⟩ := rngD_get hd
    have hi6 : i < 6 := hi
    refine xg_name (i := 6) ⟨_, .tl (.tl (.tl (.tl (.tl (.tl .hd))))), ?_⟩ nd
    refine xss_cons (xs_set (i := 4) (xe_bin op_modN (xe_bin opr_add (xe_bin opr_add (xe_bin opr_mul (xe_var (i := 4) rfl ⟨_, .sh, xe_var (i := 4) rfl ⟨_, .sh, oj_mulI (.inl (.inl (by omega))) ⟨_, .sh, ?_⟩⟩⟩))))) nd)
    refine xe_bin opr_mul (xe_bin opr_mul (xe_int ⟨_, .sh, xe_bin opr_add (xe_var (i := 6) rfl ⟨_, .sh, xe_int ⟨_, .sh, oj_addI ⟨_, .sh, oj_mulI (.inl (.inl (by decide))) ⟨_, .sh, ?_⟩⟩⟩⟩)⟩))
    refine xe_bin opr_add (xe_var (i := 1) rfl ⟨_, .sh, xe_int ⟨_, .sh, oj_addI ⟨_, .sh, oj_mulI (.inl (.inl (by omega))) ⟨_, .sh, ?_⟩⟩⟩⟩)
    refine oj_addI ⟨_, .sh, xe_var (i := 2) rfl ⟨_, .sh, oj_addI ⟨_, .sh, xe_var (i := 3) rfl ⟨_, .sh, oj_modP (by decide) ⟨_, .sh (.tl (.tl (.tl (.tl .hd)))), ?_⟩⟩⟩⟩⟩
    generalize hz : ((x : Int) * x + 69621 * (0 + (i : Int) + 1) * ((a : Int) + 1) + c) = z
    have h0 := Int.emod_nonneg z (by decide : (2305843009213693951 : Int) ≠ 0)
    have h1 := Int.emod_lt_of_pos z (by decide : (0 : Int) < 2305843009213693951)
    refine xss_one (xs_set (i := 5) (xe_bin opr_add (xe_bin opr_mul (xe_var (i := 5) rfl ⟨_, .sh, xe_var (i := 3) rfl ⟨_, .sh, oj_mulI (.inl (.inr (by decide))) ⟨_, .sh, xe_var (i := 4) rfl ⟨_, .sh, oj_addI ⟨_, .sh (.tl (.tl (.tl (.tl (.tl .hd))))), ?_⟩⟩⟩⟩⟩))) nd)
    have e1 : z % 2305843009213693951 = ((z % 2305843009213693951).toNat : Nat) := by omega
    refine ⟨(z % 2305843009213693951).toNat, y * 2305843009213693951 + (z % 2305843009213693951).toNat, .sh (.int (0 + (i : Int))), by omega, ?_⟩
    have e2 : (y : Int) * 2305843009213693951 + z % 2305843009213693951 = ((y * 2305843009213693951 + (z % 2305843009213693951).toNat : Nat) : Int) := by omega
    rw [e2, ← e1]
  · obtain ⟨x, y, b, hx, rfl⟩ := hI
    exact xss_one (xs_ret (xe_var (i := 5) rfl ⟨_, _, .sh, rfl, q y⟩))
end
section
variable {P : Program} {w : World} {K : PySem.W.Frag} {mg : Str → Option Value} {base : Heap}
abbrev sDraw : Stmt := topS 21
theorem scDraw : FnScope ["pen", "many", "digit"] ["pen", "many"] (defScope sDraw) := ⟨rfl, rfl, rfl, by decide +kernel, rfl, by decide +kernel, by decide +kernel⟩
theorem ok_draw {f : Addr} {fd : FuncData} {k : Nat} (Fn : L2.Fun K "_law_draw" "_law_draw" sDraw f fd) (C : Cal P w K mg base "_law_fresh" k (Pm1 K 1 spFresh)) : FnOk P w K mg base CX0 (k + 1) f fd ["pen", "many"] (Pm1 K 2 spDraw) := by
  have nd := scDraw.nd
  refine ok_def1 Fn scDraw fun cdv A outer s H E F o ds Ψ hr hl hs => ?_
  obtain ⟨ns, a, d, m, rfl, rfl, hn, hm0, hm1, q⟩ := hs
  have hu := hr.units
  show XSs _ F (defBody sDraw) [.ib 0 (Pen ns a d), .sh (.int m), .un] _
  refine xss_cut (fun E => ∃ a d : Nat, E = [.ib 0 (Pen ns a d), .sh (.int m), .un]) (xs_if (xt_cmp op_lt (xe_ix (ixr hu) (xe_lent (i := 0) rfl ⟨_, .br, xe_int ⟨_, .sh, oj_ixL (.ib rfl) rfl ⟨_, .sh, ?_⟩⟩⟩)))) ?_
  · refine xe_var (i := 1) rfl ⟨_, .sh, oj_ltI ⟨_, rfl, fun _ => ?_, fun _ => xss_nil ⟨a, d, rfl⟩⟩⟩
    refine xss_one (xs_store hu (xe_call1 C hr (xa_cons (xe_lent (i := 0) rfl ⟨_, .br, xa_nil ?_⟩))))
    refine ⟨0, [], _, [], _, _, rfl, .nil, rfl, rfl, rfl, fun Ψ' kk => ⟨ns, a, d, rfl, rfl, hn, fun x => kk _ _ ⟨_, .hd, ?_⟩⟩⟩
    exact ⟨_, .sh, xe_lent (i := 0) rfl ⟨_, rfl, xe_int ⟨_, _, _, _, .sh .nil, rfl, .lst rfl rfl rfl .hd, a + 1, x, rfl⟩⟩⟩
  rintro E1 ⟨a, d, rfl⟩
  refine xss_cons (xs_set (i := 2) (xe_bin op_modN (xe_ix (ixr hu) (xe_lent (i := 0) rfl ⟨_, .br, xe_int ⟨_, .sh, oj_ixL (.ib rfl) rfl ⟨_, .sh, ?_⟩⟩⟩))) nd)
  refine xe_var (i := 1) rfl ⟨_, .sh, oj_modP (by omega) ⟨_, .sh (.tl (.tl .hd)), ?_⟩⟩
  refine xss_cons (xs_store hu (xe_bin opr_div (xe_ix (ixr hu) (xe_lent (i := 0) rfl ⟨_, .br, xe_int ⟨_, .sh, oj_ixL (.ib rfl) rfl ⟨_, .sh, ?_⟩⟩⟩))))
  refine xe_var (i := 1) rfl ⟨_, .sh, oj_divP ⟨by omega, by simpa using hm1⟩ ⟨_, .sh, ?_⟩⟩
  refine xe_lent (i := 0) rfl ⟨_, rfl, xe_int ⟨_, _, _, _, .sh .nil, rfl, .lst rfl rfl rfl .hd, ?_⟩⟩
  have hlt : d % m < m := Nat.mod_lt _ hm0
  have e1 : ((d : Int) % (m : Int)) = ((d % m : Nat) : Int) := by omega
  have e2 : ((d : Int) / (m : Int)) = ((d / m : Nat) : Int) := by omega
  refine xss_one (xs_ret (xe_var (i := 2) rfl ⟨_, Pen ns a (d / m), .sh, ?_, ?_⟩))
  · rw [e2]; rfl
  · rw [e1]; exact q _ _ _ hlt
end
end K62

set_option maxHeartbeats 4000000
namespace K62
open PySem PySem.Spec PyProof.Rows L2 Bk
/-! statements, one by one -/
theorem st_loop (f : PD → Bool) (b : PD) : stmtB f (.tuple [.str (zS "loop"), b]) = f b := by
  rw [st_eq, show sizeN (zS "loop") = 2 by decide +kernel, show inW (.str (zS "loop")) [.str (zS "set"), .str (zS "call")] = false by decide +kernel, show inW (.str (zS "loop")) [.str (zS "set"), .str (zS "end")] = false by decide +kernel, show decide (zS "loop" = zS "if") = false by decide +kernel, show partsN (zS "loop") = [1] by decide +kernel]
  simp [getP]
theorem st_toss (f : PD → Bool) (a b : PD) : stmtB f (.tuple [.str (zS "toss"), a, b]) = (f a && f b) := by
  rw [st_eq, show sizeN (zS "toss") = 3 by decide +kernel, show inW (.str (zS "toss")) [.str (zS "set"), .str (zS "call")] = false by decide +kernel, show inW (.str (zS "toss")) [.str (zS "set"), .str (zS "end")] = false by decide +kernel, show decide (zS "toss" = zS "if") = false by decide +kernel, show partsN (zS "toss") = [1, 2] by decide +kernel]
  simp [getP]
theorem st_if (f : PD → Bool) (e a b : PD) : stmtB f (.tuple [.str (zS "if"), e, a, b]) = (exprB 6 e && (f a && f b)) := by
  rw [st_eq, show sizeN (zS "if") = 4 by decide +kernel, show inW (.str (zS "if")) [.str (zS "set"), .str (zS "call")] = false by decide +kernel, show inW (.str (zS "if")) [.str (zS "set"), .str (zS "end")] = false by decide +kernel, show partsN (zS "if") = [2, 3] by decide +kernel]
  simp [getP]
theorem st_set (f : PD → Bool) (w e : PD) : stmtB f (.tuple [.str (zS "set"), w, e]) = (wordB w && exprB 6 e) := by
  rw [st_eq, show sizeN (zS "set") = 3 by decide +kernel, show inW (.str (zS "set")) [.str (zS "set"), .str (zS "call")] = true by decide +kernel, show inW (.str (zS "set")) [.str (zS "set"), .str (zS "end")] = true by decide +kernel, show decide (zS "set" = zS "if") = false by decide +kernel, show partsN (zS "set") = [] by decide +kernel]
  simp [getP, lastP]
theorem st_end (f : PD → Bool) (e : PD) : stmtB f (.tuple [.str (zS "end"), e]) = exprB 6 e := by
  rw [st_eq, show sizeN (zS "end") = 2 by decide +kernel, show inW (.str (zS "end")) [.str (zS "set"), .str (zS "call")] = false by decide +kernel, show inW (.str (zS "end")) [.str (zS "set"), .str (zS "end")] = true by decide +kernel, show decide (zS "end" = zS "if") = false by decide +kernel, show partsN (zS "end") = [] by decide +kernel]
  simp [lastP]
theorem st_call (f : PD → Bool) (w : PD) : stmtB f (.tuple [.str (zS "call"), w]) = wordB w := by
  rw [st_eq, show sizeN (zS "call") = 2 by decide +kernel, show inW (.str (zS "call")) [.str (zS "set"), .str (zS "call")] = true by decide +kernel, show inW (.str (zS "call")) [.str (zS "set"), .str (zS "end")] = false by decide +kernel, show decide (zS "call" = zS "if") = false by decide +kernel, show partsN (zS "call") = [] by decide +kernel]
  simp [getP]
/-! quiet blocks: no leave, no call -/
def qS (rec : PD → Bool) : PD → Bool
  | .tuple (.str z :: rest) => !decide (z = zS "leave") && !decide (z = zS "call") && (partsN z).all fun p => rec (getP (.str z :: rest) p)
  | _ => false
def qB : Nat → PD → Bool
  | n + 1, .tuple ds => ds.all (qS (qB n))
  | _, _ => false
theorem qS_eq (f : PD → Bool) (z : PySem.Str) (rest : List PD) : qS f (.tuple (.str z :: rest)) = (!decide (z = zS "leave") && !decide (z = zS "call") && (partsN z).all fun p => f (getP (.str z :: rest) p)) := rfl
theorem qB_eq (n : Nat) (ds : List PD) : qB (n + 1) (.tuple ds) = ds.all (qS (qB n)) := rfl
theorem q_loop (f : PD → Bool) (b : PD) : qS f (.tuple [.str (zS "loop"), b]) = f b := by
  rw [qS_eq, show decide (zS "loop" = zS "leave") = false by decide +kernel, show decide (zS "loop" = zS "call") = false by decide +kernel, show partsN (zS "loop") = [1] by decide +kernel]
  simp [getP]
theorem q_toss (f : PD → Bool) (a b : PD) : qS f (.tuple [.str (zS "toss"), a, b]) = (f a && f b) := by
  rw [qS_eq, show decide (zS "toss" = zS "leave") = false by decide +kernel, show decide (zS "toss" = zS "call") = false by decide +kernel, show partsN (zS "toss") = [1, 2] by decide +kernel]
  simp [getP]
theorem q_if (f : PD → Bool) (e a b : PD) : qS f (.tuple [.str (zS "if"), e, a, b]) = (f a && f b) := by
  rw [qS_eq, show decide (zS "if" = zS "leave") = false by decide +kernel, show decide (zS "if" = zS "call") = false by decide +kernel, show partsN (zS "if") = [2, 3] by decide +kernel]
  simp [getP]
theorem q_set (f : PD → Bool) (w e : PD) : qS f (.tuple [.str (zS "set"), w, e]) = true := by
  rw [qS_eq, show decide (zS "set" = zS "leave") = false by decide +kernel, show decide (zS "set" = zS "call") = false by decide +kernel, show partsN (zS "set") = [] by decide +kernel]
  rfl
theorem q_end (f : PD → Bool) (e : PD) : qS f (.tuple [.str (zS "end"), e]) = true := by
  rw [qS_eq, show decide (zS "end" = zS "leave") = false by decide +kernel, show decide (zS "end" = zS "call") = false by decide +kernel, show partsN (zS "end") = [] by decide +kernel]
  rfl
theorem firstP_all {α : Type} {f : α → PD} {l : List α} (h : ∀ x ∈ l, f x = .none) : firstP f l = .none := by
  induction l with
  | nil => rfl
  | cons x l ih =>
    show (if isNo (f x) = true then firstP f l else f x) = .none
    rw [h x List.mem_cons_self]
    exact ih fun y hy => h y (List.mem_cons_of_mem _ hy)
theorem qS_cases {f : PD → Bool} {s : PD} (h : qS f s = true) : ∃ z rest, s = .tuple (.str z :: rest) ∧ z ≠ zS "leave" ∧ z ≠ zS "call" ∧ ∀ p ∈ partsN z, f (getP (.str z :: rest) p) = true := by
  have hs : ∃ z rest, s = .tuple (.str z :: rest) := by
    unfold qS at h
    split at h
    · exact ⟨_, _, rfl⟩
    · cases h
  obtain ⟨z, rest, rfl⟩ := hs
  rw [qS_eq] at h
  simp only [Bool.and_eq_true, Bool.not_eq_true', decide_eq_false_iff_not] at h
  exact ⟨z, rest, rfl, h.1.1, h.1.2, fun p hp => List.all_eq_true.mp h.2 p hp⟩
theorem q_none (W : PD → Bool) : ∀ (n : Nat) (b : PD) (path : List PD) (il : Bool), qB n b = true → fiB n W b path il = .none
  | 0, b, _, _, h => by cases h
  | n + 1, b, path, il, h => by
    cases b with
    | tuple ds =>
      rw [qB_eq, List.all_eq_true] at h
      rw [fiB_eq]
      refine firstP_all fun x hx => ?_
      have hm : x.1 ∈ ds := by
        obtain ⟨s, k⟩ := x
        rw [List.mem_iff_getElem?] at hx ⊢
        obtain ⟨i, hi⟩ := hx
        rw [List.getElem?_zipIdx] at hi
        cases hd : ds[i]? with
        | none => rw [hd] at hi; cases hi
        | some y => rw [hd] at hi; cases hi; exact ⟨_, hd⟩
      obtain ⟨z, rest, e, h1, h2, h3⟩ := qS_cases (h _ hm)
      rw [e, fiS_eq, if_neg fun g => h1 g.1, if_neg fun g => h2 g.1]
      exact firstP_all fun p hp => q_none W n _ _ _ (h3 p hp)
    | _ => cases h
theorem q_calls : ∀ (n : Nat) (b : PD), qB n b = true → cwB n b = []
  | 0, b, h => by cases h
  | n + 1, b, h => by
    cases b with
    | tuple ds =>
      rw [qB_eq, List.all_eq_true] at h
      rw [cwB_eq, List.flatMap_eq_nil_iff]
      intro s hs
      obtain ⟨z, rest, rfl, h1, h2, h3⟩ := qS_cases (h _ hs)
      rw [cwS_eq, if_neg h2, List.nil_append, List.flatMap_eq_nil_iff]
      intro p hp
      exact q_calls n _ (h3 p hp)
    | _ => cases h
theorem perr_none {b : PD} {es : List PD} (h : wfB (.tuple [b, .tuple es]) = true) (qb : qB 6 b = true) (qe : ∀ p ∈ es.filterMap entOf, qB 6 p.2 = true) : perr (.tuple [b, .tuple es]) = .none := by
  rw [perr_ok h]
  unfold prgR
  rw [q_none _ 6 b _ _ qb, if_pos (show isNo PyData.none = true from rfl)]
  generalize es.filterMap entOf = ents at qe
  have hG : firstP (fndG (fsOf ents)) ents.zipIdx = .none := firstP_all fun x hx => by
    refine q_none _ 6 _ _ _ (qe x.1 ?_)
    obtain ⟨s, k⟩ := x
    rw [List.mem_iff_getElem?] at hx ⊢
    obtain ⟨i, hi⟩ := hx
    rw [List.getElem?_zipIdx] at hi
    cases hd : ents[i]? with
    | none => rw [hd] at hi; cases hi
    | some y => rw [hd] at hi; cases hi; exact ⟨_, hd⟩
  rw [hG, if_pos (show isNo PyData.none = true from rfl)]
  refine firstP_all fun p hp => if_neg fun R => ?_
  have no : ∀ w, cwD (fsOf ents) w = [] := fun w => by
    unfold cwD
    split
    · next c hc => exact q_calls 6 c (qe _ (fs_look hc))
    · rfl
  have : ∀ x, Rch (fsOf ents) p.1 x → False := fun x hx => by
    cases hx with
    | one h => rw [no] at h; cases h
    | more _ h => rw [no] at h; cases h
  exact this _ R
/-! values that may be asked -/
mutual
theorem unb_ok : ∀ d, okD d = true → unb d = d
  | .none, _ => by simp only [unb]
  | .bool _, _ => by simp only [unb]
  | .int _, _ => by simp only [unb]
  | .str _, _ => by simp only [unb]
  | .list ds, h => by
    simp only [okD] at h
    simp only [unb, unbs_ok ds h]
  | .tuple ds, h => by
    simp only [okD, Bool.and_eq_true] at h
    simp only [unb, unbs_ok ds h.2]
  | .dict _, h => by simp [okD] at h
theorem unbs_ok : ∀ ds, okDs ds = true → unbs ds = ds
  | [], _ => by simp only [unbs]
  | d :: ds, h => by
    simp only [okDs, Bool.and_eq_true] at h
    simp only [unbs, unb_ok d h.1, unbs_ok ds h.2]
end
theorem unb_prog {b : PD} {es : List PD} (gb : Gd b) (ge : Gd (.tuple es)) : unb (.tuple [b, tb es]) = .tuple [b, .tuple es] := by
  have h := ge.ok
  simp only [okD, Bool.and_eq_true] at h
  simp only [unb, unbs, tb, unb_ok b gb.ok, unbs_ok es h.2]
theorem pe_mk {b : PD} {es : List PD} (gb : Gd b) (ge : Gd (.tuple es)) (hs : wfB (.tuple [b, .tuple es]) = true → ∀ p ∈ es.filterMap entOf, (cwB 6 p.2).length ≤ 10000) : PeOk (.tuple [b, tb es]) := by
  have h := ge.ok
  simp only [okD, Bool.and_eq_true] at h
  have hu := unb_prog gb ge
  refine ⟨?_, fun _ => ⟨b, es, rfl, unb_ok b gb.ok, unbs_ok es h.2⟩, fun b' es' e hw => ?_⟩
  · rw [hu]
    refine ⟨by simp only [ndE, ndEs, gb.ndE]; simpa [ndE] using ge.ndE, ?_⟩
    rintro ds e
    cases e
    refine ⟨by simp, fun d hd => ?_⟩
    rcases List.mem_cons.mp hd with rfl | hd
    · exact gb.gt
    · rw [List.mem_singleton.mp hd]; exact ge.gt
  · rw [hu] at e hw
    cases e
    exact hs hw
end K62

set_option maxHeartbeats 4000000
namespace K62
open PySem PySem.Spec PyProof.Rows L2 Bk
theorem okT {ds : List PD} (h : ds.length ≤ 100000) (h2 : okDs ds = true) : okD (.tuple ds) = true := by simp [okD, h, h2]
theorem okDs_cons {d : PD} {ds : List PD} (h : okD d = true) (h2 : okDs ds = true) : okDs (d :: ds) = true := by simp [okDs, h, h2]
theorem okDs_nil : okDs [] = true := rfl
theorem okInt (i : Int) : okD (.int i) = true := rfl
theorem opStr {a : PD} (h : a ∈ opsL) : ∃ z, a = .str z := by
  unfold opsL at h
  simp only [List.mem_cons, List.not_mem_nil, or_false] at h
  rcases h with rfl | rfl | rfl | rfl <;> exact ⟨_, rfl⟩
structure DeepE (k : Nat) (e : PD) : Prop where
  v : ∀ n, exprB n e = decide (k ≤ n)
  g : okD e = true
  d : e.depth ≤ k
theorem DeepE.base (i : Nat) (h : i < 10) : DeepE 0 (.int (i : Nat)) :=
  ⟨fun n => by rw [ex_int, decide_eq_true (by omega : (0 : Int) ≤ (i : Nat)), decide_eq_true (by omega : ((i : Nat) : Int) ≤ 9)]; simp, by simp [okD], by simp [PyData.depth]⟩
theorem isOp {z : PySem.Str} (h : (.str z : PD) ∈ opsL) : inW (.str z) opsL = true ∧ okD (.str z) = true := by
  unfold opsL at h
  simp only [List.mem_cons, List.not_mem_nil, or_false, PyData.str.injEq] at h
  rcases h with rfl | rfl | rfl | rfl <;> exact ⟨by decide +kernel, by decide +kernel⟩
theorem DeepE.wrap {k : Nat} {e : PD} (D : DeepE k e) {z : PySem.Str} (hz : (.str z : PD) ∈ opsL) : DeepE (k + 1) (.tuple [.str z, e, .int 1]) ∧ DeepE (k + 1) (.tuple [.str z, .str (zS "x"), e]) := by
  obtain ⟨h1, h2⟩ := isOp hz
  have hx : wordB (.str (zS "x")) = true := by decide +kernel
  have hxo : okD (.str (zS "x")) = true := by decide +kernel
  have hd := D.d
  have hg := D.g
  refine ⟨⟨fun n => ?_, ?_, ?_⟩, ⟨fun n => ?_, ?_, ?_⟩⟩
  · cases n with
    | zero => rfl
    | succ n =>
      rw [ex_tup, h1, D.v, ex_int, Bool.true_and, show (decide ((0 : Int) ≤ 1) && decide ((1 : Int) ≤ 9)) = true from rfl, Bool.and_true, decide_eq_decide]
      omega
  · exact okT (by simp) (okDs_cons h2 (okDs_cons hg (okDs_cons (okInt 1) okDs_nil)))
  · simp only [PyData.depth, PyData.depthAll]
    omega
  · cases n with
    | zero => rfl
    | succ n =>
      rw [ex_tup, h1, D.v, ex_word n rfl (fun _ h => by cases h) (fun _ h => by cases h), hx, Bool.true_and, Bool.true_and, decide_eq_decide]
      omega
  · exact okT (by simp) (okDs_cons h2 (okDs_cons hxo (okDs_cons hg okDs_nil)))
  · simp only [PyData.depth, PyData.depthAll]
    omega
def spDe : Oc → List PD → (Rs → Oc → Prop) → Prop := fun o as Ψ => ∃ (ns : List Int) (a d k : Nat), o = Pen ns a d ∧ as = [.int (k : Nat)] ∧ ns.length ≤ 63 ∧ k ≤ 7 ∧ ∀ e a' d', DeepE k e → Ψ (.sh e) (Pen ns a' d')
theorem e_de (ns : List Int) (a d k : Nat) (hn : ns.length ≤ 63) (hk : k ≤ 7) (Ψ : Rs → Oc → Prop) (q : ∀ e a' d', DeepE k e → Ψ (.sh e) (Pen ns a' d')) : d__law_deep_e spDraw [.ib 0 (Pen ns a d), .sh (.int (k : Nat)), .un, .un, .un] (post1 Ψ) := by
  unfold d__law_deep_e d__law_deep_e_5
  simp only [DD0, DD1, DD2, DD3, DD4, DD5, DD6, DD7, slG, slP, fzsK, Nat.zero_le, Nat.reduceLeDiff, List.length_cons, List.length_nil, if_true, if_false, reduceIte, true_and, and_true, Bool.not_true, Bool.not_false, Bool.false_eq_true]
  refine fun Ψ1 kk => ⟨ns, a, d, 10, rfl, rfl, hn, by decide, by decide, fun x a d hx => kk _ _ ?_⟩
  simp only [DD0, DD1, DD2, DD3, DD4, DD5, DD6, DD7, slG, slP, fzsK, Nat.zero_le, Nat.reduceLeDiff, List.length_cons, List.length_nil, if_true, if_false, reduceIte, true_and, and_true, Bool.not_true, Bool.not_false, Bool.false_eq_true]
  unfold d__law_deep_e_4
  simp only [DD0, DD1, DD2, DD3, DD4, DD5, DD6, DD7, slG, slP, fzsK, Nat.zero_le, Nat.reduceLeDiff, List.length_cons, List.length_nil, if_true, if_false, reduceIte, true_and, and_true, Bool.not_true, Bool.not_false, Bool.false_eq_true]
  refine ⟨fun E => ∃ a d e b3 b4, DeepE k e ∧ E = [.ib 0 (Pen ns a d), .sh (.int (k : Nat)), .sh e, b3, b4], ⟨by omega, fun i E => ∃ a d e b3 b4, DeepE i e ∧ E = [.ib 0 (Pen ns a d), .sh (.int (k : Nat)), .sh e, b3, b4], ⟨a, d, _, .un, .un, .base x hx, rfl⟩, ?_, ?_⟩, ?_⟩
  · rintro i y E2 hd ⟨a, d, e, b3, b4, D, rfl⟩
    obtain ⟨hi, rfl⟩ := rngD_get hd
    simp only [DD0, DD1, DD2, DD3, DD4, DD5, DD6, DD7, slG, slP, fzsK, Nat.zero_le, Nat.reduceLeDiff, List.length_cons, List.length_nil, if_true, if_false, reduceIte, true_and, and_true, Bool.not_true, Bool.not_false, Bool.false_eq_true]
    unfold d__law_deep_e_2
    simp only [DD0, DD1, DD2, DD3, DD4, DD5, DD6, DD7, slG, slP, fzsK, Nat.zero_le, Nat.reduceLeDiff, List.length_cons, List.length_nil, if_true, if_false, reduceIte, true_and, and_true, Bool.not_true, Bool.not_false, Bool.false_eq_true]
    refine fun Ψ1 kk => ⟨ns, a, d, 4, rfl, rfl, hn, by decide, by decide, fun x a d hx => kk _ _ ?_⟩
    simp only [DD0, DD1, DD2, DD3, DD4, DD5, DD6, DD7, slG, slP, fzsK, Nat.zero_le, Nat.reduceLeDiff, List.length_cons, List.length_nil, if_true, if_false, reduceIte, true_and, and_true, Bool.not_true, Bool.not_false, Bool.false_eq_true]
    obtain ⟨w, _, hw, hm, _⟩ := getN (ds := opsL) (k := x) hx
    obtain ⟨z, rfl⟩ := opStr hm
    obtain ⟨D1, D2⟩ := D.wrap hm
    refine ⟨_, hw, ?_⟩
    unfold d__law_deep_e_1
    simp only [DD0, DD1, DD2, DD3, DD4, DD5, DD6, DD7, slG, slP, fzsK, Nat.zero_le, Nat.reduceLeDiff, List.length_cons, List.length_nil, if_true, if_false, reduceIte, true_and, and_true, Bool.not_true, Bool.not_false, Bool.false_eq_true]
    refine fun Ψ1 kk => ⟨ns, a, d, 2, rfl, rfl, hn, by decide, by decide, fun x a d hx => kk _ _ ?_⟩
    simp only [DD0, DD1, DD2, DD3, DD4, DD5, DD6, DD7, slG, slP, fzsK, Nat.zero_le, Nat.reduceLeDiff, List.length_cons, List.length_nil, if_true, if_false, reduceIte, true_and, and_true, Bool.not_true, Bool.not_false, Bool.false_eq_true]
    exact ⟨fun _ => ⟨a, d, _, _, _, D1, rfl⟩, fun _ => ⟨a, d, _, _, _, D2, rfl⟩⟩
  · rintro E2 ⟨a, d, e, b3, b4, D, rfl⟩
    rw [rngD_len] at D
    exact ⟨a, d, e, b3, b4, by simpa using D, rfl⟩
  · rintro E ⟨a, d, e, b3, b4, D, rfl⟩
    unfold d__law_deep_e_3
    simp only [DD0, DD1, DD2, DD3, DD4, DD5, DD6, DD7, slG, slP, fzsK, Nat.zero_le, Nat.reduceLeDiff, List.length_cons, List.length_nil, if_true, if_false, reduceIte, true_and, and_true, Bool.not_true, Bool.not_false, Bool.false_eq_true]
    exact q e a d D
structure DeepB (k : Nat) (b : PD) : Prop where
  v : ∀ n, blockB n b = decide (k < n)
  q : ∀ n, k < n → qB n b = true
  g : okD b = true
  d : b.depth ≤ 2 * k + 2
theorem blk_nil (n : Nat) : blockB n (.tuple []) = decide (0 < n) := by cases n <;> rfl
theorem DeepB.nil : DeepB 0 (.tuple []) := ⟨blk_nil, (fun n h => by cases n with | zero => omega | succ n => rfl), rfl, by decide⟩
theorem blk_one (n : Nat) (s : PD) : blockB (n + 1) (.tuple [s]) = stmtB (blockB n) s := by
  rw [blk_tup]
  simp
theorem qB_one (n : Nat) (s : PD) : qB (n + 1) (.tuple [s]) = qS (qB n) s := by
  rw [qB_eq]
  simp
theorem DeepB.one {s : PD} (h : ∀ f, stmtB f s = true) (h2 : ∀ f, qS f s = true) (g : okD s = true) (d : s.depth ≤ 1) : DeepB 0 (.tuple [s]) :=
  ⟨fun n => by
    cases n with
    | zero => rfl
    | succ n => rw [blk_one, h]; simp,
  fun n hn => by
    cases n with
    | zero => omega
    | succ n => rw [qB_one, h2],
  okT (by simp) (okDs_cons g okDs_nil), by simp only [PyData.depth, PyData.depthAll]; omega⟩
theorem DeepB.wrap {k : Nat} {b s : PD} (D : DeepB k b) (h : ∀ n, blockB n s = (blockB (n - 1) b && decide (0 < n))) (h2 : ∀ n, qB (n + 1) s = (qB n b || false)) (g : okD s = true) (d : s.depth ≤ max b.depth 1 + 2) : DeepB (k + 1) s :=
  ⟨fun n => by
    rw [h, D.v, Bool.eq_iff_iff, Bool.and_eq_true, decide_eq_true_iff, decide_eq_true_iff, decide_eq_true_iff]
    omega,
  fun n hn => by
    cases n with
    | zero => omega
    | succ n => rw [h2, D.q n (by omega)]; rfl, g, by have := D.d; omega⟩
theorem qB_nil (n : Nat) : qB (n + 1) (.tuple []) = true := rfl
theorem okS (s : PD) (h : okD s = true := by decide +kernel) : okD s = true := h
theorem DeepB.loop {k : Nat} {b : PD} (D : DeepB k b) : DeepB (k + 1) (.tuple [.tuple [.str (zS "loop"), b]]) := by
  have hg := D.g
  refine D.wrap (fun n => ?_) (fun n => ?_) (okT (by simp) (okDs_cons (okT (by simp) (okDs_cons (okS _) (okDs_cons hg okDs_nil))) okDs_nil)) (by simp only [PyData.depth, PyData.depthAll]; omega)
  · cases n with
    | zero => simp [blockB]
    | succ n => rw [blk_one, st_loop]; simp
  · rw [qB_one, q_loop, Bool.or_false]
theorem DeepB.pos {k : Nat} {b : PD} (D : DeepB k b) (n : Nat) : (blockB n (.tuple []) && blockB n b) = blockB n b := by
  rw [blk_nil, D.v, Bool.eq_iff_iff, Bool.and_eq_true, decide_eq_true_iff, decide_eq_true_iff]
  omega
theorem DeepB.qpos {b : PD} (n : Nat) : (qB n (.tuple []) && qB n b) = qB n b := by
  cases n with
  | zero => cases b <;> rfl
  | succ n => rw [qB_nil, Bool.true_and]
theorem DeepB.toss {k : Nat} {b : PD} (D : DeepB k b) : DeepB (k + 1) (.tuple [.tuple [.str (zS "toss"), .tuple [], b]]) := by
  have hg := D.g
  refine D.wrap (fun n => ?_) (fun n => ?_) (okT (by simp) (okDs_cons (okT (by simp) (okDs_cons (okS _) (okDs_cons (okS _) (okDs_cons hg okDs_nil)))) okDs_nil)) (by simp only [PyData.depth, PyData.depthAll]; omega)
  · cases n with
    | zero => simp [blockB]
    | succ n => rw [blk_one, st_toss, D.pos]; simp
  · rw [qB_one, q_toss, DeepB.qpos, Bool.or_false]
theorem DeepB.iff {k : Nat} {b : PD} (D : DeepB k b) : DeepB (k + 1) (.tuple [.tuple [.str (zS "if"), .str (zS "x"), .tuple [], b]]) := by
  have hg := D.g
  refine D.wrap (fun n => ?_) (fun n => ?_) (okT (by simp) (okDs_cons (okT (by simp) (okDs_cons (okS _) (okDs_cons (okS _) (okDs_cons (okS _) (okDs_cons hg okDs_nil))))) okDs_nil)) (by simp only [PyData.depth, PyData.depthAll]; omega)
  · cases n with
    | zero => simp [blockB]
    | succ n => rw [blk_one, st_if, D.pos, show exprB 6 (.str (zS "x")) = true by decide +kernel]; simp
  · rw [qB_one, q_if, DeepB.qpos, Bool.or_false]
theorem DeepB.set {k : Nat} {b : PD} (D : DeepB k b) : DeepB (k + 1) (.tuple [.tuple [.str (zS "set"), .str (zS "x"), .int 1], .tuple [.str (zS "toss"), b, .tuple []]]) := by
  have hg := D.g
  refine D.wrap (fun n => ?_) (fun n => ?_) (okT (by simp) (okDs_cons (okS _) (okDs_cons (okT (by simp) (okDs_cons (okS _) (okDs_cons hg (okDs_cons (okS _) okDs_nil)))) okDs_nil))) (by simp only [PyData.depth, PyData.depthAll]; omega)
  · cases n with
    | zero => simp [blockB]
    | succ n =>
      rw [blk_tup, List.all_cons, List.all_cons, st_set, st_toss, Bool.and_comm (blockB n b), D.pos, show wordB (.str (zS "x")) = true by decide +kernel, show exprB 6 (.int 1) = true by decide +kernel]
      simp
  · rw [qB_eq, List.all_cons, List.all_cons, q_set, q_toss, Bool.and_comm (qB n b), DeepB.qpos]
    simp
def spDb : Oc → List PD → (Rs → Oc → Prop) → Prop := fun o as Ψ => ∃ (ns : List Int) (a d k : Nat) (l : PD), o = Pen ns a d ∧ as = [.int ((k + 1 : Nat) : Int), l] ∧ ns.length ≤ 63 ∧ k ≤ 7 ∧ DeepB 0 l ∧ ∀ b a' d', DeepB k b → Ψ (.sh b) (Pen ns a' d')
theorem e_db (ns : List Int) (a d k : Nat) (l : PD) (hn : ns.length ≤ 63) (hk : k ≤ 7) (L : DeepB 0 l) (Ψ : Rs → Oc → Prop) (q : ∀ b a' d', DeepB k b → Ψ (.sh b) (Pen ns a' d')) : d__law_deep_block spDraw [.ib 0 (Pen ns a d), .sh (.int ((k + 1 : Nat) : Int)), .sh l, .un, .un, .un] (post1 Ψ) := by
  unfold d__law_deep_block d__law_deep_block_11
  simp only [DD0, DD1, DD2, DD3, DD4, DD5, DD6, DD7, slG, slP, fzsK, Nat.zero_le, Nat.reduceLeDiff, List.length_cons, List.length_nil, if_true, if_false, reduceIte, true_and, and_true, Bool.not_true, Bool.not_false, Bool.false_eq_true]
  unfold d__law_deep_block_10
  simp only [DD0, DD1, DD2, DD3, DD4, DD5, DD6, DD7, slG, slP, fzsK, Nat.zero_le, Nat.reduceLeDiff, List.length_cons, List.length_nil, if_true, if_false, reduceIte, true_and, and_true, Bool.not_true, Bool.not_false, Bool.false_eq_true]
  rw [show ((k + 1 : Nat) : Int) - 1 = (k : Nat) by omega]
  refine ⟨fun E => ∃ a d b b4 b5, DeepB k b ∧ E = [.ib 0 (Pen ns a d), .sh (.int ((k + 1 : Nat) : Int)), .sh l, .sh b, b4, b5], ⟨by omega, fun i E => ∃ a d b b4 b5, DeepB i b ∧ E = [.ib 0 (Pen ns a d), .sh (.int ((k + 1 : Nat) : Int)), .sh l, .sh b, b4, b5], ⟨a, d, _, .un, .un, L, rfl⟩, ?_, ?_⟩, ?_⟩
  · rintro i y E2 hd ⟨a, d, b, b4, b5, D, rfl⟩
    obtain ⟨hi, rfl⟩ := rngD_get hd
    simp only [DD0, DD1, DD2, DD3, DD4, DD5, DD6, DD7, slG, slP, fzsK, Nat.zero_le, Nat.reduceLeDiff, List.length_cons, List.length_nil, if_true, if_false, reduceIte, true_and, and_true, Bool.not_true, Bool.not_false, Bool.false_eq_true]
    unfold d__law_deep_block_8
    simp only [DD0, DD1, DD2, DD3, DD4, DD5, DD6, DD7, slG, slP, fzsK, Nat.zero_le, Nat.reduceLeDiff, List.length_cons, List.length_nil, if_true, if_false, reduceIte, true_and, and_true, Bool.not_true, Bool.not_false, Bool.false_eq_true]
    refine fun Ψ1 kk => ⟨ns, a, d, 4, rfl, rfl, hn, by decide, by decide, fun x a d hx => kk _ _ ?_⟩
    simp only [DD0, DD1, DD2, DD3, DD4, DD5, DD6, DD7, slG, slP, fzsK, Nat.zero_le, Nat.reduceLeDiff, List.length_cons, List.length_nil, if_true, if_false, reduceIte, true_and, and_true, Bool.not_true, Bool.not_false, Bool.false_eq_true]
    unfold d__law_deep_block_7
    simp only [DD0, DD1, DD2, DD3, DD4, DD5, DD6, DD7, slG, slP, fzsK, Nat.zero_le, Nat.reduceLeDiff, List.length_cons, List.length_nil, if_true, if_false, reduceIte, true_and, and_true, Bool.not_true, Bool.not_false, Bool.false_eq_true]
    refine ⟨fun _ => ?_, fun _ => ?_⟩
    · unfold d__law_deep_block_1
      simp only [DD0, DD1, DD2, DD3, DD4, DD5, DD6, DD7, slG, slP, fzsK, Nat.zero_le, Nat.reduceLeDiff, List.length_cons, List.length_nil, if_true, if_false, reduceIte, true_and, and_true, Bool.not_true, Bool.not_false, Bool.false_eq_true]
      exact ⟨a, d, _, _, _, D.loop, rfl⟩
    unfold d__law_deep_block_6
    simp only [DD0, DD1, DD2, DD3, DD4, DD5, DD6, DD7, slG, slP, fzsK, Nat.zero_le, Nat.reduceLeDiff, List.length_cons, List.length_nil, if_true, if_false, reduceIte, true_and, and_true, Bool.not_true, Bool.not_false, Bool.false_eq_true]
    refine ⟨fun _ => ?_, fun _ => ?_⟩
    · unfold d__law_deep_block_2
      simp only [DD0, DD1, DD2, DD3, DD4, DD5, DD6, DD7, slG, slP, fzsK, Nat.zero_le, Nat.reduceLeDiff, List.length_cons, List.length_nil, if_true, if_false, reduceIte, true_and, and_true, Bool.not_true, Bool.not_false, Bool.false_eq_true]
      exact ⟨a, d, _, _, _, D.toss, rfl⟩
    unfold d__law_deep_block_5
    simp only [DD0, DD1, DD2, DD3, DD4, DD5, DD6, DD7, slG, slP, fzsK, Nat.zero_le, Nat.reduceLeDiff, List.length_cons, List.length_nil, if_true, if_false, reduceIte, true_and, and_true, Bool.not_true, Bool.not_false, Bool.false_eq_true]
    refine ⟨fun _ => ?_, fun _ => ?_⟩
    · unfold d__law_deep_block_3
      simp only [DD0, DD1, DD2, DD3, DD4, DD5, DD6, DD7, slG, slP, fzsK, Nat.zero_le, Nat.reduceLeDiff, List.length_cons, List.length_nil, if_true, if_false, reduceIte, true_and, and_true, Bool.not_true, Bool.not_false, Bool.false_eq_true]
      exact ⟨a, d, _, _, _, D.set, rfl⟩
    unfold d__law_deep_block_4
    simp only [DD0, DD1, DD2, DD3, DD4, DD5, DD6, DD7, slG, slP, fzsK, Nat.zero_le, Nat.reduceLeDiff, List.length_cons, List.length_nil, if_true, if_false, reduceIte, true_and, and_true, Bool.not_true, Bool.not_false, Bool.false_eq_true]
    exact ⟨a, d, _, _, _, D.iff, rfl⟩
  · rintro E2 ⟨a, d, b, b4, b5, D, rfl⟩
    rw [rngD_len] at D
    exact ⟨a, d, b, b4, b5, by simpa using D, rfl⟩
  · rintro E ⟨a, d, b, b4, b5, D, rfl⟩
    unfold d__law_deep_block_9
    simp only [DD0, DD1, DD2, DD3, DD4, DD5, DD6, DD7, slG, slP, fzsK, Nat.zero_le, Nat.reduceLeDiff, List.length_cons, List.length_nil, if_true, if_false, reduceIte, true_and, and_true, Bool.not_true, Bool.not_false, Bool.false_eq_true]
    exact q b a d D
end K62

set_option maxHeartbeats 4000000
namespace K62
open PySem PySem.Spec PyProof.Rows L2 Bk
theorem bad_prog {b : PD} {es : List PD} (gb : Gd b) (ge : Gd (.tuple es)) (h : wfB (.tuple [b, .tuple es]) = false) : PeOk (.tuple [b, tb es]) ∧ perr (unb (.tuple [b, tb es])) = .str (zS "form") :=
  ⟨pe_mk gb ge fun e => (by rw [h] at e; cases e), by rw [unb_prog gb ge, perr_form h]⟩
theorem good_prog {b : PD} {es : List PD} (gb : Gd b) (ge : Gd (.tuple es)) (h : wfB (.tuple [b, .tuple es]) = true) (qb : qB 6 b = true) (qe : ∀ p ∈ es.filterMap entOf, qB 6 p.2 = true) : PeOk (.tuple [b, tb es]) ∧ perr (unb (.tuple [b, tb es])) = .none :=
  ⟨pe_mk gb ge fun _ p hp => by rw [q_calls 6 p.2 (qe p hp)]; exact Nat.zero_le _, by rw [unb_prog gb ge, perr_none h qb qe]⟩
theorem spPe_of {v r : PD} (h : PeOk v ∧ perr (unb v) = r) {Ψ : Rs → Prop} (q : Ψ (.sh r)) : spPe [v] Ψ := ⟨v, rfl, h.1, by rw [h.2]; exact q⟩
theorem gdS (d : PD) (h : okD d = true := by decide +kernel) (h2 : d.depth ≤ 64 := by decide +kernel) : Gd d := ⟨h, h2⟩
theorem gdEq (d : PD) (h : okD d = true := by decide +kernel) (h2 : d.depth ≤ 64 := by decide +kernel) : EqOk d := (gdS d h h2).eq
theorem gd_nil : Gd (.tuple []) := gdS _
theorem gdT {ds : List PD} (h : ds.length ≤ 100000) (h2 : okDs ds = true) (h3 : PyData.depthAll ds ≤ 63) : Gd (.tuple ds) := ⟨okT h h2, by simp only [PyData.depth]; omega⟩
theorem ent_one (z : PySem.Str) (c : PD) : entB [] [.tuple [.str z, c]] = (wordB (.str z) && blockB 6 c) := by
  rw [ent_cons, ent_nil]
  simp [inW]
theorem fm_one (z : PySem.Str) (c : PD) : [PyData.tuple [.str z, c]].filterMap entOf = [(z, c)] := rfl
/-- a program with a main block alone; with one word alone -/
theorem main_bad {b : PD} (gb : Gd b) (h : blockB 6 b = false) : PeOk (.tuple [b, tb []]) ∧ perr (unb (.tuple [b, tb []])) = .str (zS "form") := bad_prog gb gd_nil (by rw [wf_pair, h]; rfl)
theorem main_good {b : PD} (gb : Gd b) (h : blockB 6 b = true) (q : qB 6 b = true) : PeOk (.tuple [b, tb []]) ∧ perr (unb (.tuple [b, tb []])) = .none := good_prog gb gd_nil (by rw [wf_pair, h]; rfl) q (fun _ h => by cases h)
theorem word_gd {z : PySem.Str} {c : PD} (gz : okD (.str z) = true) (gc : okD c = true) (dc : c.depth ≤ 60) : Gd (.tuple [.tuple [.str z, c]]) := gdT (by simp) (okDs_cons (okT (by simp) (okDs_cons gz (okDs_cons gc okDs_nil))) okDs_nil) (by simp only [PyData.depth, PyData.depthAll]; omega)
theorem word_bad {z : PySem.Str} {c : PD} (gz : okD (.str z) = true) (gc : okD c = true) (dc : c.depth ≤ 60) (h : (wordB (.str z) && blockB 6 c) = false) : PeOk (.tuple [.tuple [], tb [.tuple [.str z, c]]]) ∧ perr (unb (.tuple [.tuple [], tb [.tuple [.str z, c]]])) = .str (zS "form") := bad_prog gd_nil (word_gd gz gc dc) (by rw [wf_pair, ent_one, h, Bool.and_false])
theorem word_good {z : PySem.Str} {c : PD} (gz : okD (.str z) = true) (gc : okD c = true) (dc : c.depth ≤ 60) (hz : wordB (.str z) = true) (h : blockB 6 c = true) (q : qB 6 c = true) : PeOk (.tuple [.tuple [], tb [.tuple [.str z, c]]]) ∧ perr (unb (.tuple [.tuple [], tb [.tuple [.str z, c]]])) = .none := good_prog gd_nil (word_gd gz gc dc) (by rw [wf_pair, ent_one, h, hz]; rfl) (qB_nil 5) (fun p hp => by
  rw [fm_one, List.mem_singleton] at hp
  rw [hp]
  exact q)
/-! words that are none -/
def signs : PySem.Str := zS "_0123456789 -,()'A"
def oddS (i at_ : Nat) : PySem.Str := cutS (zS "abcd") none (some (at_ : Nat)) ++ ⟨#[signs.cps.toList.getD i 0]⟩ ++ cutS (zS "abcd") (some (at_ : Nat)) none
theorem odd_ok : ∀ i < 18, ∀ a < 5, wordB (.str (oddS i a)) = false ∧ okD (.str (oddS i a)) = true ∧ (cutS (zS "abcd") none (some (a : Nat))).length ≤ 5 ∧ (cutS (zS "abcd") none (some (a : Nat)) ++ (⟨#[signs.cps.toList.getD i 0]⟩ : PySem.Str)).length ≤ 6 ∧ (cutS (zS "abcd") (some (a : Nat)) none).length ≤ 5 := by decide +kernel
def spWr : Oc → List PD → (Rs → Oc → Prop) → Prop := fun o as Ψ => ∃ (ns : List Int) (a d : Nat), o = Pen ns a d ∧ as = [] ∧ ns.length ≤ 63 ∧ ∀ a' d', Ψ (.sh (.bool true)) (Pen ns a' d')
theorem e_wr (ns : List Int) (a d : Nat) (hn : ns.length ≤ 63) (Ψ : Rs → Oc → Prop) (q : ∀ a' d', Ψ (.sh (.bool true)) (Pen ns a' d')) : d__law_words_right spDraw spPe [.ib 0 (Pen ns a d), .un, .un, .un, .un, .un] (post1 Ψ) := by
  unfold d__law_words_right d__law_words_right_5
  simp only [DD0, DD1, DD2, DD3, DD4, DD5, DD6, DD7, slG, slP, fzsK, Nat.zero_le, Nat.reduceLeDiff, List.length_cons, List.length_nil, if_true, if_false, reduceIte, true_and, and_true, Bool.not_true, Bool.not_false, Bool.false_eq_true]
  refine fun Ψ1 kk => ⟨ns, a, d, 18, rfl, rfl, hn, by decide, by decide, fun i a d hi => kk _ _ ?_⟩
  simp only [DD0, DD1, DD2, DD3, DD4, DD5, DD6, DD7, slG, slP, fzsK, Nat.zero_le, Nat.reduceLeDiff, List.length_cons, List.length_nil, if_true, if_false, reduceIte, true_and, and_true, Bool.not_true, Bool.not_false, Bool.false_eq_true]
  have hs : signs.cps.toList[i]? = some (signs.cps.toList.getD i 0) := by
    rw [List.getD_eq_getElem?_getD]
    cases h : signs.cps.toList[i]? with
    | none =>
      have := List.getElem?_eq_none_iff.mp h
      rw [show signs.cps.toList.length = 18 by decide +kernel] at this
      omega
    | some c => rfl
  refine ⟨by decide +kernel, _, at_k hs, ?_⟩
  unfold d__law_words_right_4
  simp only [DD0, DD1, DD2, DD3, DD4, DD5, DD6, DD7, slG, slP, fzsK, Nat.zero_le, Nat.reduceLeDiff, List.length_cons, List.length_nil, if_true, if_false, reduceIte, true_and, and_true, Bool.not_true, Bool.not_false, Bool.false_eq_true]
  refine fun Ψ1 kk => ⟨ns, a, d, 5, rfl, rfl, hn, by decide, by decide, fun j a d hj => kk _ _ ?_⟩
  simp only [DD0, DD1, DD2, DD3, DD4, DD5, DD6, DD7, slG, slP, fzsK, Nat.zero_le, Nat.reduceLeDiff, List.length_cons, List.length_nil, if_true, if_false, reduceIte, true_and, and_true, Bool.not_true, Bool.not_false, Bool.false_eq_true]
  obtain ⟨h1, h2, h3, h4, h5⟩ := odd_ok i hi j hj
  unfold d__law_words_right_3
  simp only [DD0, DD1, DD2, DD3, DD4, DD5, DD6, DD7, slG, slP, fzsK, Nat.zero_le, Nat.reduceLeDiff, List.length_cons, List.length_nil, if_true, if_false, reduceIte, true_and, and_true, Bool.not_true, Bool.not_false, Bool.false_eq_true]
  unfold zS at h3 h4 h5
  have hc1 : ({ cps := #[signs.cps.toList.getD i 0] } : PySem.Str).length = 1 := rfl
  refine ⟨by decide +kernel, by rw [hc1]; omega, by decide +kernel, by omega, ?_⟩
  show d__law_words_right_2 spDraw spPe [.ib 0 (Pen ns a d), .sh (.str { cps := #[signs.cps.toList.getD i 0] }), .sh (.int (j : Nat)), .sh (.str (oddS i j)), .un, .un] (post1 Ψ)
  generalize oddS i j = odd at h1 h2
  have gt : ∀ {l : List PD}, okDs l = true → l.length ≤ 3 → PyData.depthAll l ≤ 3 → Gd (.tuple [.tuple l]) := fun h l1 h2 => gdT (by simp) (okDs_cons (okT (by omega) h) okDs_nil) (by simp only [PyData.depth, PyData.depthAll]; omega)
  have ex : exprB 6 (.str odd) = false := by rw [ex_word 6 rfl (fun _ h => by cases h) (fun _ h => by cases h), h1]
  have p1 := main_bad (b := .tuple [.tuple [.str (zS "set"), .str odd, .int 1]]) (gt (okDs_cons (okS _) (okDs_cons h2 (okDs_cons (okInt 1) okDs_nil))) (by simp) (by simp [PyData.depth, PyData.depthAll])) (by rw [blk_one 5, st_set, h1]; rfl)
  have p2 := main_bad (b := .tuple [.tuple [.str (zS "end"), .str odd]]) (gt (okDs_cons (okS _) (okDs_cons h2 okDs_nil)) (by simp) (by simp [PyData.depth, PyData.depthAll])) (by rw [blk_one 5, st_end, ex])
  have p3 := bad_prog (b := .tuple [.tuple [.str (zS "call"), .str odd]]) (es := [.tuple [.str odd, .tuple []]]) (gt (okDs_cons (okS _) (okDs_cons h2 okDs_nil)) (by simp) (by simp [PyData.depth, PyData.depthAll])) (word_gd h2 (okS _) (by decide)) (by rw [wf_pair, blk_one 5, st_call, h1]; rfl)
  have p4 := word_bad (z := odd) (c := .tuple []) h2 (okS _) (by decide) (by rw [h1]; rfl)
  unfold d__law_words_right_2
  simp only [DD0, DD1, DD2, DD3, DD4, DD5, DD6, DD7, slG, slP, fzsK, Nat.zero_le, Nat.reduceLeDiff, List.length_cons, List.length_nil, if_true, if_false, reduceIte, true_and, and_true, Bool.not_true, Bool.not_false, Bool.false_eq_true]
  unfold d__law_words_right_1
  simp only [DD0, DD1, DD2, DD3, DD4, DD5, DD6, DD7, slG, slP, fzsK, Nat.zero_le, Nat.reduceLeDiff, List.length_cons, List.length_nil, if_true, if_false, reduceIte, true_and, and_true, Bool.not_true, Bool.not_false, Bool.false_eq_true]
  obtain ⟨pl, hpl⟩ : ∃ pl : List PD, pl = [.tuple [.tuple [.tuple [.str (zS "set"), .str odd, .int 1]], tb []], .tuple [.tuple [.tuple [.str (zS "end"), .str odd]], tb []], .tuple [.tuple [.tuple [.str (zS "call"), .str odd]], tb [.tuple [.str odd, .tuple []]]], .tuple [.tuple [], tb [.tuple [.str odd, .tuple []]]]] := ⟨_, rfl⟩
  have all : ∀ v ∈ pl, PeOk v ∧ perr (unb v) = .str (zS "form") := fun v hv => by
    rw [hpl] at hv
    simp only [List.mem_cons, List.not_mem_nil, or_false] at hv
    rcases hv with rfl | rfl | rfl | rfl
    · exact p1
    · exact p2
    · exact p3
    · exact p4
  have hl4 : pl.length = 4 := by rw [hpl]; rfl
  unfold zS at hpl
  rw [← hpl]
  refine ⟨fun k E => E = [.ib 0 (Pen ns a d), .sh (.str { cps := #[signs.cps.toList.getD i 0] }), .sh (.int (j : Nat)), .sh (.str odd), .sh (.list pl), .un], fun k y => y = .str (zS "form"), rfl, ?_, ?_⟩
  · rintro k v E2 hv rfl
    simp only [DD0, DD1, DD2, DD3, DD4, DD5, DD6, DD7, slG, slP, fzsK, Nat.zero_le, Nat.reduceLeDiff, List.length_cons, List.length_nil, if_true, if_false, reduceIte, true_and, and_true, Bool.not_true, Bool.not_false, Bool.false_eq_true]
    refine fun Ψ1 kk => spPe_of (all v (List.mem_of_getElem? hv)) (kk _ ?_)
    simp only [DD0, DD1, DD2, DD3, DD4, DD5, DD6, DD7, slG, slP, fzsK, Nat.zero_le, Nat.reduceLeDiff, List.length_cons, List.length_nil, if_true, if_false, reduceIte, true_and, and_true, Bool.not_true, Bool.not_false, Bool.false_eq_true]
  · rintro E2 ys rfl hl hR
    have e : ys = List.replicate 4 (.str (zS "form")) := List.eq_replicate_iff.mpr ⟨hl, fun y hy => by
      obtain ⟨k, hk⟩ := List.getElem?_of_mem hy
      exact hR k y hk⟩
    rw [e]
    simp only [DD0, DD1, DD2, DD3, DD4, DD5, DD6, DD7, slG, slP, fzsK, Nat.zero_le, Nat.reduceLeDiff, List.length_cons, List.length_nil, if_true, if_false, reduceIte, true_and, and_true, Bool.not_true, Bool.not_false, Bool.false_eq_true]
    refine ⟨by decide, gdEq _, gdEq _, ?_⟩
    exact q a d
end K62

set_option maxHeartbeats 4000000
namespace K62
open PySem PySem.Spec PyProof.Rows L2 Bk
/-! the law -/
structure Deed (s : PD) : Prop where
  v : ∀ n, stmtB (blockB (n + 1)) s = true
  q : ∀ n, qS (qB (n + 1)) s = true
  g : okD s = true
  d : s.depth ≤ 2
theorem deed_ok {s : PD} (h : s ∈ [PyData.tuple [.str (zS "set"), .str (zS "x"), .int 1], .tuple [.str (zS "toss"), .tuple [], .tuple []], .tuple [.str (zS "end"), .int 3], .tuple [.str (zS "loop"), .tuple []]]) : Deed s := by
  simp only [List.mem_cons, List.not_mem_nil, or_false] at h
  rcases h with rfl | rfl | rfl | rfl
  · exact ⟨fun n => by rw [st_set]; decide +kernel, fun n => q_set _ _ _, by decide +kernel, by decide +kernel⟩
  · exact ⟨fun n => by rw [st_toss]; rfl, fun n => by rw [q_toss]; rfl, by decide +kernel, by decide +kernel⟩
  · exact ⟨fun n => by rw [st_end]; decide +kernel, fun n => q_end _ _, by decide +kernel, by decide +kernel⟩
  · exact ⟨fun n => by rw [st_loop]; rfl, fun n => by rw [q_loop]; rfl, by decide +kernel, by decide +kernel⟩
/-- what is due of a number that may be m at most -/
def Due (m k : Nat) (r : PD) : Prop := (k ≤ m ∧ r = .none) ∨ (m < k ∧ r = .str (zS "form"))
theorem all_rep {f : PD → Bool} {s : PD} {k : Nat} (h : f s = true) : (List.replicate k s).all f = true := by
  rw [List.all_eq_true]
  intro x hx
  rw [(List.mem_replicate.mp hx).2]
  exact h
theorem okDs_rep {s : PD} (h : okD s = true) : ∀ k, okDs (List.replicate k s) = true
  | 0 => rfl
  | k + 1 => okDs_cons h (okDs_rep h k)
theorem depth_rep {s : PD} {m : Nat} (h : s.depth ≤ m) : ∀ k, PyData.depthAll (List.replicate k s) ≤ m
  | 0 => Nat.zero_le _
  | k + 1 => by
    have i := depth_rep h k
    show max s.depth (PyData.depthAll (List.replicate k s)) ≤ m
    omega
theorem deed_blk {s : PD} (D : Deed s) (n k : Nat) : blockB (n + 2) (.tuple (List.replicate k s)) = decide (k ≤ 20) := by
  rw [blk_tup, all_rep (D.v n), List.length_replicate, Bool.and_true]
theorem deed_q {s : PD} (D : Deed s) (n k : Nat) : qB (n + 2) (.tuple (List.replicate k s)) = true := by
  rw [qB_eq]
  exact all_rep (D.q n)
/-- five programs about one block -/
theorem five {b r : PD} {m k : Nat} (gb : okD b = true) (db : b.depth ≤ 3) (h6 : ∀ n, blockB (n + 2) b = decide (k ≤ m)) (q6 : ∀ n, qB (n + 2) b = true) (hr : Due m k r) :
    ∀ v ∈ [PyData.tuple [b, tb []], .tuple [.tuple [.tuple [.str (zS "toss"), b, .tuple []]], tb []], .tuple [.tuple [.tuple [.str (zS "loop"), b]], tb []], .tuple [.tuple [], tb [.tuple [.str (zS "d"), b]]], .tuple [.tuple [.tuple [.str (zS "if"), .int 1, .tuple [], b]], tb []]], PeOk v ∧ perr (unb v) = r := by
  have g0 : Gd b := ⟨gb, by omega⟩
  have g1 : Gd (.tuple [.tuple [.str (zS "toss"), b, .tuple []]]) := gdT (by simp) (okDs_cons (okT (by simp) (okDs_cons (okS _) (okDs_cons gb (okDs_cons (okS _) okDs_nil)))) okDs_nil) (by simp only [PyData.depth, PyData.depthAll]; omega)
  have g2 : Gd (.tuple [.tuple [.str (zS "loop"), b]]) := gdT (by simp) (okDs_cons (okT (by simp) (okDs_cons (okS _) (okDs_cons gb okDs_nil))) okDs_nil) (by simp only [PyData.depth, PyData.depthAll]; omega)
  have g4 : Gd (.tuple [.tuple [.str (zS "if"), .int 1, .tuple [], b]]) := gdT (by simp) (okDs_cons (okT (by simp) (okDs_cons (okS _) (okDs_cons (okS _) (okDs_cons (okS _) (okDs_cons gb okDs_nil))))) okDs_nil) (by simp only [PyData.depth, PyData.depthAll]; omega)
  have e1 : blockB 6 (.tuple [.tuple [.str (zS "toss"), b, .tuple []]]) = decide (k ≤ m) := by rw [blk_one 5, st_toss, h6 3]; simp [blockB]
  have e2 : blockB 6 (.tuple [.tuple [.str (zS "loop"), b]]) = decide (k ≤ m) := by rw [blk_one 5, st_loop, h6 3]
  have e4 : blockB 6 (.tuple [.tuple [.str (zS "if"), .int 1, .tuple [], b]]) = decide (k ≤ m) := by rw [blk_one 5, st_if, h6 3, show exprB 6 (.int 1) = true by decide +kernel]; simp [blockB]
  have f1 : qB 6 (.tuple [.tuple [.str (zS "toss"), b, .tuple []]]) = true := by rw [qB_one 5, q_toss, q6 3]; rfl
  have f2 : qB 6 (.tuple [.tuple [.str (zS "loop"), b]]) = true := by rw [qB_one 5, q_loop, q6 3]
  have f4 : qB 6 (.tuple [.tuple [.str (zS "if"), .int 1, .tuple [], b]]) = true := by rw [qB_one 5, q_if, q6 3]; rfl
  have hd : okD (.str (zS "d")) = true := by decide +kernel
  have hw : wordB (.str (zS "d")) = true := by decide +kernel
  intro v hv
  simp only [List.mem_cons, List.not_mem_nil, or_false] at hv
  rcases hr with ⟨hk, rfl⟩ | ⟨hk, rfl⟩
  · have t : decide (k ≤ m) = true := decide_eq_true hk
    rcases hv with rfl | rfl | rfl | rfl | rfl
    · exact main_good g0 ((h6 4).trans t) (q6 4)
    · exact main_good g1 (e1.trans t) f1
    · exact main_good g2 (e2.trans t) f2
    · exact word_good hd gb (by omega) hw ((h6 4).trans t) (q6 4)
    · exact main_good g4 (e4.trans t) f4
  · have t : decide (k ≤ m) = false := decide_eq_false (by omega)
    rcases hv with rfl | rfl | rfl | rfl | rfl
    · exact main_bad g0 ((h6 4).trans t)
    · exact main_bad g1 (e1.trans t)
    · exact main_bad g2 (e2.trans t)
    · exact word_bad hd gb (by omega) (by rw [hw, h6 4, t]; rfl)
    · exact main_bad g4 (e4.trans t)
theorem due_eq {m k : Nat} {r : PD} (h : Due m k r) : EqOk r ∧ EqOk (.list (List.replicate 5 r)) ∧ PyData.eqv (.list (List.replicate 5 r)) (.list (List.replicate 5 r)) = true ∧ PyData.eqv r r = true := by
  rcases h with ⟨_, rfl⟩ | ⟨_, rfl⟩
  · exact ⟨gdEq _, gdEq _, by decide +kernel, by decide +kernel⟩
  · exact ⟨gdEq _, gdEq _, by decide +kernel, by decide +kernel⟩
variable {S : Bd} {ns : List Int} {b5 b6 b7 b8 b9 b10 b11 b12 b13 b14 : Bd}
theorem e_l5 {s r : PD} {a d k : Nat} {P : Post} (D : Deed s) (hk : k ≤ 21) (hr : Due 20 k r) (h : ∀ b5 b6 b7, P.nx [S, .ow (Pen ns a d), .sh s, .sh (.int (k : Nat)), .sh r, b5, b6, b7, b8, b9, b10, b11, b12, b13, b14]) :
    d_law_5 spPen spDraw spPe spDb spDe spWr [S, .ow (Pen ns a d), .sh s, .sh (.int (k : Nat)), .sh r, b5, b6, b7, b8, b9, b10, b11, b12, b13, b14] P := by
  unfold d_law_5
  simp only [DD0, DD1, DD2, DD3, DD4, DD5, DD6, DD7, slG, slP, fzsK, Nat.zero_le, Nat.reduceLeDiff, List.length_cons, List.length_nil, if_true, if_false, reduceIte, true_and, and_true, Bool.not_true, Bool.not_false, Bool.false_eq_true]
  refine ⟨by omega, ?_⟩
  rw [show ((k : Nat) : Int).toNat = k from Int.toNat_natCast k]
  have F := five (okT (by rw [List.length_replicate]; omega) (okDs_rep D.g k)) (by have := depth_rep D.d k; simp only [PyData.depth]; omega) (fun n => deed_blk D n k) (fun n => deed_q D n k) hr
  generalize PyData.tuple (List.replicate k s) = some at F
  unfold d_law_4
  simp only [DD0, DD1, DD2, DD3, DD4, DD5, DD6, DD7, slG, slP, fzsK, Nat.zero_le, Nat.reduceLeDiff, List.length_cons, List.length_nil, if_true, if_false, reduceIte, true_and, and_true, Bool.not_true, Bool.not_false, Bool.false_eq_true]
  unfold d_law_3
  simp only [DD0, DD1, DD2, DD3, DD4, DD5, DD6, DD7, slG, slP, fzsK, Nat.zero_le, Nat.reduceLeDiff, List.length_cons, List.length_nil, if_true, if_false, reduceIte, true_and, and_true, Bool.not_true, Bool.not_false, Bool.false_eq_true]
  obtain ⟨pl, hpl⟩ : ∃ pl : List PD, pl = [PyData.tuple [some, tb []], .tuple [.tuple [.tuple [.str (zS "toss"), some, .tuple []]], tb []], .tuple [.tuple [.tuple [.str (zS "loop"), some]], tb []], .tuple [.tuple [], tb [.tuple [.str (zS "d"), some]]], .tuple [.tuple [.tuple [.str (zS "if"), .int 1, .tuple [], some]], tb []]] := ⟨_, rfl⟩
  rw [← hpl] at F
  have hl : pl.length = 5 := by rw [hpl]; rfl
  refine ⟨by decide, ?_⟩
  show d_law_2 _ _ _ _ _ _ [S, .ow (Pen ns a d), .sh s, .sh (.int (k : Nat)), .sh r, .sh some, .sh (.list [PyData.tuple [some, tb []], .tuple [.tuple [.tuple [.str (zS "toss"), some, .tuple []]], tb []], .tuple [.tuple [.tuple [.str (zS "loop"), some]], tb []], .tuple [.tuple [], tb [.tuple [.str (zS "d"), some]]], .tuple [.tuple [.tuple [.str (zS "if"), .int 1, .tuple [], some]], tb []]]), _, _, _, _, _, _, _, _] _
  rw [← hpl]
  obtain ⟨q1, q2, q3, q4⟩ := due_eq hr
  unfold d_law_2
  simp only [DD0, DD1, DD2, DD3, DD4, DD5, DD6, DD7, slG, slP, fzsK, Nat.zero_le, Nat.reduceLeDiff, List.length_cons, List.length_nil, if_true, if_false, reduceIte, true_and, and_true, Bool.not_true, Bool.not_false, Bool.false_eq_true]
  refine ⟨by omega, fun j E => E = [S, .ow (Pen ns a d), .sh s, .sh (.int (k : Nat)), .sh r, .sh some, .sh (.list pl), .un, b8, b9, b10, b11, b12, b13, b14], fun j y => y = r, rfl, ?_, ?_⟩
  · rintro j v E2 hv rfl
    simp only [DD0, DD1, DD2, DD3, DD4, DD5, DD6, DD7, slG, slP, fzsK, Nat.zero_le, Nat.reduceLeDiff, List.length_cons, List.length_nil, if_true, if_false, reduceIte, true_and, and_true, Bool.not_true, Bool.not_false, Bool.false_eq_true]
    refine fun Ψ1 kk => spPe_of (F v (List.mem_of_getElem? hv)) (kk _ ?_)
    simp only [DD0, DD1, DD2, DD3, DD4, DD5, DD6, DD7, slG, slP, fzsK, Nat.zero_le, Nat.reduceLeDiff, List.length_cons, List.length_nil, if_true, if_false, reduceIte, true_and, and_true, Bool.not_true, Bool.not_false, Bool.false_eq_true]
  · rintro E2 ys rfl hl2 hR
    have e : ys = List.replicate 5 r := List.eq_replicate_iff.mpr ⟨hl2.trans hl, fun y hy => by
      obtain ⟨k, hk⟩ := List.getElem?_of_mem hy
      exact hR k y hk⟩
    rw [e]
    simp only [DD0, DD1, DD2, DD3, DD4, DD5, DD6, DD7, slG, slP, fzsK, Nat.zero_le, Nat.reduceLeDiff, List.length_cons, List.length_nil, if_true, if_false, reduceIte, true_and, and_true, Bool.not_true, Bool.not_false, Bool.false_eq_true]
    refine ⟨by decide, q2, q2, fun g => ?_, fun _ => h _ _ _⟩
    rw [show (Int.toNat 5) = 5 from rfl, q3] at g
    cases g
end K62

set_option maxHeartbeats 4000000
namespace K62
open PySem PySem.Spec PyProof.Rows L2 Bk
theorem due_ne {m k : Nat} {r : PD} (h : Due m k r) {K : Rs → Prop} (q : K (.sh (.bool false))) : oNe r r K := by
  obtain ⟨q1, _, _, q4⟩ := due_eq h
  rcases h with ⟨_, rfl⟩ | ⟨_, rfl⟩
  · show EqOk .none ∧ EqOk .none ∧ K (.sh (.bool (!PyData.eqv .none .none)))
    exact ⟨q1, q1, by rw [q4]; exact q⟩
  · show K (.sh (.bool (!decide (zS "form" = zS "form"))))
    rw [decide_eq_true rfl]
    exact q
theorem deep_two {b r : PD} {k : Nat} (D : DeepB k b) (hk : k ≤ 7) (hr : Due 6 (k + 1) r) : (PeOk (.tuple [b, tb []]) ∧ perr (unb (.tuple [b, tb []])) = r) ∧ (PeOk (.tuple [.tuple [], tb [.tuple [.str (zS "d"), b]]]) ∧ perr (unb (.tuple [.tuple [], tb [.tuple [.str (zS "d"), b]]])) = r) := by
  have hd : okD (.str (zS "d")) = true := by decide +kernel
  have hw : wordB (.str (zS "d")) = true := by decide +kernel
  have dd := D.d
  have g0 : Gd b := ⟨D.g, by omega⟩
  have v := D.v 6
  rcases hr with ⟨h, rfl⟩ | ⟨h, rfl⟩
  · rw [decide_eq_true (by omega)] at v
    exact ⟨main_good g0 v (D.q 6 (by omega)), word_good hd D.g (by omega) hw v (D.q 6 (by omega))⟩
  · rw [decide_eq_false (by omega)] at v
    exact ⟨main_bad g0 v, word_bad hd D.g (by omega) (by rw [hw, v]; rfl)⟩
theorem deep_one {e r : PD} {k : Nat} (D : DeepE k e) (hk : k ≤ 7) (hr : Due 6 k r) : ∀ s ∈ [PyData.tuple [.str (zS "set"), .str (zS "x"), e], .tuple [.str (zS "end"), e], .tuple [.str (zS "if"), e, .tuple [], .tuple []]], PeOk (.tuple [.tuple [s], tb []]) ∧ perr (unb (.tuple [.tuple [s], tb []])) = r := by
  have v := D.v 6
  have d := D.d
  have hx : wordB (.str (zS "x")) = true := by decide +kernel
  intro s hs
  simp only [List.mem_cons, List.not_mem_nil, or_false] at hs
  have gs : Gd (.tuple [s]) := by
    rcases hs with rfl | rfl | rfl
    · exact gdT (by simp) (okDs_cons (okT (by simp) (okDs_cons (okS _) (okDs_cons (okS _) (okDs_cons D.g okDs_nil)))) okDs_nil) (by simp only [PyData.depth, PyData.depthAll]; omega)
    · exact gdT (by simp) (okDs_cons (okT (by simp) (okDs_cons (okS _) (okDs_cons D.g okDs_nil))) okDs_nil) (by simp only [PyData.depth, PyData.depthAll]; omega)
    · exact gdT (by simp) (okDs_cons (okT (by simp) (okDs_cons (okS _) (okDs_cons D.g (okDs_cons (okS _) (okDs_cons (okS _) okDs_nil))))) okDs_nil) (by simp only [PyData.depth, PyData.depthAll]; omega)
  have vs : blockB 6 (.tuple [s]) = exprB 6 e := by
    rw [blk_one 5]
    rcases hs with rfl | rfl | rfl
    · rw [st_set, hx, Bool.true_and]
    · rw [st_end]
    · rw [st_if]; simp [blockB]
  have qs : qB 6 (.tuple [s]) = true := by
    rw [qB_one 5]
    rcases hs with rfl | rfl | rfl
    · exact q_set _ _ _
    · exact q_end _ _
    · rw [q_if]; rfl
  rcases hr with ⟨h, rfl⟩ | ⟨h, rfl⟩
  · rw [decide_eq_true (by omega)] at v
    exact main_good gs (vs.trans v) qs
  · rw [decide_eq_false (by omega)] at v
    exact main_bad gs (vs.trans v)
variable {S : Bd} {ns : List Int} {b2 b4 b5 b6 b7 b8 b9 b10 b11 b12 b13 b14 : Bd}
theorem e_l8 {l r : PD} {a d k : Nat} {P : Post} (hn : ns.length ≤ 63) (L : DeepB 0 l) (hk : k ≤ 7) (hr : Due 6 (k + 1) r) (h : ∀ a d b9, P.nx [S, .ow (Pen ns a d), b2, .sh (.int ((k + 1 : Nat) : Int)), .sh r, b5, b6, b7, .sh l, b9, b10, b11, b12, b13, b14]) :
    d_law_8 spPen spDraw spPe spDb spDe spWr [S, .ow (Pen ns a d), b2, .sh (.int ((k + 1 : Nat) : Int)), .sh r, b5, b6, b7, .sh l, b9, b10, b11, b12, b13, b14] P := by
  unfold d_law_8
  simp only [DD0, DD1, DD2, DD3, DD4, DD5, DD6, DD7, slG, slP, fzsK, Nat.zero_le, Nat.reduceLeDiff, List.length_cons, List.length_nil, if_true, if_false, reduceIte, true_and, and_true, Bool.not_true, Bool.not_false, Bool.false_eq_true]
  refine fun Ψ1 kk => ⟨ns, a, d, k, l, rfl, rfl, hn, hk, L, fun b a d D => kk _ _ ?_⟩
  simp only [DD0, DD1, DD2, DD3, DD4, DD5, DD6, DD7, slG, slP, fzsK, Nat.zero_le, Nat.reduceLeDiff, List.length_cons, List.length_nil, if_true, if_false, reduceIte, true_and, and_true, Bool.not_true, Bool.not_false, Bool.false_eq_true]
  obtain ⟨p1, p2⟩ := deep_two D hk hr
  unfold d_law_7
  simp only [DD0, DD1, DD2, DD3, DD4, DD5, DD6, DD7, slG, slP, fzsK, Nat.zero_le, Nat.reduceLeDiff, List.length_cons, List.length_nil, if_true, if_false, reduceIte, true_and, and_true, Bool.not_true, Bool.not_false, Bool.false_eq_true]
  refine fun Ψ1 kk => spPe_of p1 (kk _ ?_)
  simp only [DD0, DD1, DD2, DD3, DD4, DD5, DD6, DD7, slG, slP, fzsK, Nat.zero_le, Nat.reduceLeDiff, List.length_cons, List.length_nil, if_true, if_false, reduceIte, true_and, and_true, Bool.not_true, Bool.not_false, Bool.false_eq_true]
  refine due_ne hr ?_
  simp only [DD0, DD1, DD2, DD3, DD4, DD5, DD6, DD7, slG, slP, fzsK, Nat.zero_le, Nat.reduceLeDiff, List.length_cons, List.length_nil, if_true, if_false, reduceIte, true_and, and_true, Bool.not_true, Bool.not_false, Bool.false_eq_true]
  refine ⟨(fun g => by cases g), fun _ => fun Ψ1 kk => spPe_of p2 (kk _ ?_)⟩
  simp only [DD0, DD1, DD2, DD3, DD4, DD5, DD6, DD7, slG, slP, fzsK, Nat.zero_le, Nat.reduceLeDiff, List.length_cons, List.length_nil, if_true, if_false, reduceIte, true_and, and_true, Bool.not_true, Bool.not_false, Bool.false_eq_true]
  refine due_ne hr ?_
  simp only [DD0, DD1, DD2, DD3, DD4, DD5, DD6, DD7, slG, slP, fzsK, Nat.zero_le, Nat.reduceLeDiff, List.length_cons, List.length_nil, if_true, if_false, reduceIte, true_and, and_true, Bool.not_true, Bool.not_false, Bool.false_eq_true]
  exact ⟨(fun g => by cases g), fun _ => h _ _ _⟩
theorem e_l13 {r : PD} {a d k : Nat} {P : Post} (hn : ns.length ≤ 63) (hk : k ≤ 7) (hr : Due 6 k r) (h : ∀ a d b7 b10, P.nx [S, .ow (Pen ns a d), b2, .sh (.int (k : Nat)), .sh r, b5, b6, b7, b8, b9, b10, b11, b12, b13, b14]) :
    d_law_13 spPen spDraw spPe spDb spDe spWr [S, .ow (Pen ns a d), b2, .sh (.int (k : Nat)), .sh r, b5, b6, b7, b8, b9, b10, b11, b12, b13, b14] P := by
  unfold d_law_13
  simp only [DD0, DD1, DD2, DD3, DD4, DD5, DD6, DD7, slG, slP, fzsK, Nat.zero_le, Nat.reduceLeDiff, List.length_cons, List.length_nil, if_true, if_false, reduceIte, true_and, and_true, Bool.not_true, Bool.not_false, Bool.false_eq_true]
  refine fun Ψ1 kk => ⟨ns, a, d, k, rfl, rfl, hn, hk, fun e a d D => kk _ _ ?_⟩
  simp only [DD0, DD1, DD2, DD3, DD4, DD5, DD6, DD7, slG, slP, fzsK, Nat.zero_le, Nat.reduceLeDiff, List.length_cons, List.length_nil, if_true, if_false, reduceIte, true_and, and_true, Bool.not_true, Bool.not_false, Bool.false_eq_true]
  have F := deep_one D hk hr
  unfold d_law_12
  simp only [DD0, DD1, DD2, DD3, DD4, DD5, DD6, DD7, slG, slP, fzsK, Nat.zero_le, Nat.reduceLeDiff, List.length_cons, List.length_nil, if_true, if_false, reduceIte, true_and, and_true, Bool.not_true, Bool.not_false, Bool.false_eq_true]
  refine ⟨fun i E => ∃ b7, E = [S, .ow (Pen ns a d), b2, .sh (.int (k : Nat)), .sh r, b5, b6, b7, b8, b9, .sh e, b11, b12, b13, b14], ⟨_, rfl⟩, ?_, ?_⟩
  · rintro i s E2 hs ⟨b7, rfl⟩
    simp only [DD0, DD1, DD2, DD3, DD4, DD5, DD6, DD7, slG, slP, fzsK, Nat.zero_le, Nat.reduceLeDiff, List.length_cons, List.length_nil, if_true, if_false, reduceIte, true_and, and_true, Bool.not_true, Bool.not_false, Bool.false_eq_true]
    unfold d_law_11
    simp only [DD0, DD1, DD2, DD3, DD4, DD5, DD6, DD7, slG, slP, fzsK, Nat.zero_le, Nat.reduceLeDiff, List.length_cons, List.length_nil, if_true, if_false, reduceIte, true_and, and_true, Bool.not_true, Bool.not_false, Bool.false_eq_true]
    refine fun Ψ1 kk => spPe_of (F s (List.mem_of_getElem? hs)) (kk _ ?_)
    simp only [DD0, DD1, DD2, DD3, DD4, DD5, DD6, DD7, slG, slP, fzsK, Nat.zero_le, Nat.reduceLeDiff, List.length_cons, List.length_nil, if_true, if_false, reduceIte, true_and, and_true, Bool.not_true, Bool.not_false, Bool.false_eq_true]
    refine due_ne hr ?_
    simp only [DD0, DD1, DD2, DD3, DD4, DD5, DD6, DD7, slG, slP, fzsK, Nat.zero_le, Nat.reduceLeDiff, List.length_cons, List.length_nil, if_true, if_false, reduceIte, true_and, and_true, Bool.not_true, Bool.not_false, Bool.false_eq_true]
    exact ⟨(fun g => by cases g), fun _ => ⟨_, rfl⟩⟩
  · rintro E2 ⟨b7, rfl⟩
    exact h _ _ _ _
def abcS : PySem.Str := zS "abcdefg"
def defsL (k : Nat) : List PD := (List.range k).map fun i => .tuple [.str ⟨#[abcS.cps.toList.getD i 0]⟩, .tuple []]
theorem defs_ok : ∀ k, k < 8 → okD (.tuple (defsL k)) = true ∧ PyData.depth (.tuple (defsL k)) ≤ 64 ∧ wfB (.tuple [.tuple [], .tuple (defsL k)]) = decide (k ≤ 6) ∧ ((defsL k).filterMap entOf).all (fun p => qB 6 p.2) = true := by decide +kernel
theorem e_l16 {r : PD} {a d k : Nat} {P : Post} (hk : k ≤ 7) (hr : Due 6 k r) (h : ∀ b11 b12, P.nx [S, .ow (Pen ns a d), b2, .sh (.int (k : Nat)), .sh r, b5, b6, b7, b8, b9, b10, b11, b12, b13, b14]) :
    d_law_16 spPen spDraw spPe spDb spDe spWr [S, .ow (Pen ns a d), b2, .sh (.int (k : Nat)), .sh r, b5, b6, b7, b8, b9, b10, b11, b12, b13, b14] P := by
  obtain ⟨h1, h2, h3, h4⟩ := defs_ok k (by omega)
  have F : PeOk (.tuple [.tuple [], tb (defsL k)]) ∧ perr (unb (.tuple [.tuple [], tb (defsL k)])) = r := by
    rcases hr with ⟨g, rfl⟩ | ⟨g, rfl⟩
    · exact good_prog gd_nil ⟨h1, h2⟩ (h3.trans (decide_eq_true g)) (qB_nil 5) (List.all_eq_true.mp h4)
    · exact bad_prog gd_nil ⟨h1, h2⟩ (h3.trans (decide_eq_false (by omega)))
  unfold d_law_16
  simp only [DD0, DD1, DD2, DD3, DD4, DD5, DD6, DD7, slG, slP, fzsK, Nat.zero_le, Nat.reduceLeDiff, List.length_cons, List.length_nil, if_true, if_false, reduceIte, true_and, and_true, Bool.not_true, Bool.not_false, Bool.false_eq_true]
  refine ⟨by omega, ?_⟩
  rw [Int.toNat_natCast, rngD_len]
  refine ⟨by omega, fun j E => ∃ b12, E = [S, .ow (Pen ns a d), b2, .sh (.int (k : Nat)), .sh r, b5, b6, b7, b8, b9, b10, b11, b12, b13, b14], fun j y => (defsL k)[j]? = some y, ⟨_, rfl⟩, ?_, ?_⟩
  · rintro j v E2 hv ⟨b12, rfl⟩
    obtain ⟨hj, rfl⟩ := rngD_get hv
    have hs : abcS.cps.toList[j]? = some (abcS.cps.toList.getD j 0) := by
      rw [List.getD_eq_getElem?_getD]
      cases h : abcS.cps.toList[j]? with
      | none =>
        have := List.getElem?_eq_none_iff.mp h
        rw [show abcS.cps.toList.length = 7 by decide +kernel] at this
        omega
      | some c => rfl
    simp only [DD0, DD1, DD2, DD3, DD4, DD5, DD6, DD7, slG, slP, fzsK, Nat.zero_le, Nat.reduceLeDiff, List.length_cons, List.length_nil, if_true, if_false, reduceIte, true_and, and_true, Bool.not_true, Bool.not_false, Bool.false_eq_true]
    rw [Int.zero_add]
    refine ⟨by decide +kernel, _, at_k hs, ?_⟩
    refine ⟨⟨_, rfl⟩, ?_⟩
    unfold defsL
    rw [List.getElem?_map, List.getElem?_range hj]
    rfl
  · rintro E2 ys ⟨b12, rfl⟩ hl hR
    have e : ys = defsL k := by
      refine List.ext_getElem? fun i => ?_
      rcases Nat.lt_or_ge i k with g | g
      · rw [hR i _ (List.getElem?_eq_getElem (by omega)), List.getElem?_eq_getElem (by omega : i < ys.length)]
      · rw [List.getElem?_eq_none (by omega), List.getElem?_eq_none (by unfold defsL; rw [List.length_map, List.length_range]; exact g)]
    rw [e]
    simp only [DD0, DD1, DD2, DD3, DD4, DD5, DD6, DD7, slG, slP, fzsK, Nat.zero_le, Nat.reduceLeDiff, List.length_cons, List.length_nil, if_true, if_false, reduceIte, true_and, and_true, Bool.not_true, Bool.not_false, Bool.false_eq_true]
    unfold d_law_15
    simp only [DD0, DD1, DD2, DD3, DD4, DD5, DD6, DD7, slG, slP, fzsK, Nat.zero_le, Nat.reduceLeDiff, List.length_cons, List.length_nil, if_true, if_false, reduceIte, true_and, and_true, Bool.not_true, Bool.not_false, Bool.false_eq_true]
    refine fun Ψ1 kk => spPe_of F (kk _ ?_)
    simp only [DD0, DD1, DD2, DD3, DD4, DD5, DD6, DD7, slG, slP, fzsK, Nat.zero_le, Nat.reduceLeDiff, List.length_cons, List.length_nil, if_true, if_false, reduceIte, true_and, and_true, Bool.not_true, Bool.not_false, Bool.false_eq_true]
    refine due_ne hr ?_
    simp only [DD0, DD1, DD2, DD3, DD4, DD5, DD6, DD7, slG, slP, fzsK, Nat.zero_le, Nat.reduceLeDiff, List.length_cons, List.length_nil, if_true, if_false, reduceIte, true_and, and_true, Bool.not_true, Bool.not_false, Bool.false_eq_true]
    exact ⟨(fun g => by cases g), fun _ => h _ _⟩
/-! words of letters -/
theorem word_take {cs : List Nat} (h7 : cs.length = 7) (hc : ∀ c ∈ cs, c ∈ letters) {k : Nat} (hk : k ≤ 7) : wordB (.str ⟨(cs.take k).toArray⟩) = (decide (1 ≤ k) && decide (k ≤ 6)) ∧ okD (.str ⟨(cs.take k).toArray⟩) = true := by
  have hl : (⟨(cs.take k).toArray⟩ : PySem.Str).length = k := by
    show (cs.take k).toArray.size = k
    rw [List.size_toArray, List.length_take]
    omega
  have hm : ∀ c ∈ cs.take k, c ∈ letters := fun c h => hc c (List.mem_of_mem_take h)
  constructor
  · have wB : wordB (.str ⟨(cs.take k).toArray⟩) = (decide (1 ≤ (⟨(cs.take k).toArray⟩ : PySem.Str).length) && decide ((⟨(cs.take k).toArray⟩ : PySem.Str).length ≤ 6) && (cs.take k).toArray.toList.all fun c => decide (c ∈ letters)) := rfl
    rw [wB, hl]
    have : (cs.take k).toArray.toList.all (fun c => decide (c ∈ letters)) = true := by
      rw [List.all_eq_true]
      intro c h
      exact decide_eq_true (hm c (by simpa using h))
    rw [this, Bool.and_true]
  · have : PyData.strOk ⟨(cs.take k).toArray⟩ = true := by
      unfold PyData.strOk
      rw [Array.all_eq_true']
      intro c h
      have h : c ∈ cs.take k := by simpa using h
      have hlt : ∀ c ∈ letters, c < 1114112 := by decide +kernel
      exact decide_eq_true (hlt c (hm c h))
    simp only [okD, hl, this, Bool.and_true]
    exact decide_eq_true (by omega)
theorem word_three {z : PySem.Str} {r : PD} (gz : okD (.str z) = true) (h : (wordB (.str z) = true ∧ r = .none) ∨ (wordB (.str z) = false ∧ r = .str (zS "form"))) :
    ∀ v ∈ [PyData.tuple [.tuple [.tuple [.str (zS "set"), .str z, .int 1]], tb []], .tuple [.tuple [.tuple [.str (zS "end"), .str z]], tb []], .tuple [.tuple [], tb [.tuple [.str z, .tuple []]]]], PeOk v ∧ perr (unb v) = r := by
  have ex : exprB 6 (.str z) = wordB (.str z) := ex_word 6 rfl (fun _ h => by cases h) (fun _ h => by cases h)
  have g1 : Gd (.tuple [.tuple [.str (zS "set"), .str z, .int 1]]) := gdT (by simp) (okDs_cons (okT (by simp) (okDs_cons (okS _) (okDs_cons gz (okDs_cons (okInt 1) okDs_nil)))) okDs_nil) (by simp [PyData.depth, PyData.depthAll])
  have g2 : Gd (.tuple [.tuple [.str (zS "end"), .str z]]) := gdT (by simp) (okDs_cons (okT (by simp) (okDs_cons (okS _) (okDs_cons gz okDs_nil))) okDs_nil) (by simp [PyData.depth, PyData.depthAll])
  have e1 : blockB 6 (.tuple [.tuple [.str (zS "set"), .str z, .int 1]]) = wordB (.str z) := by rw [blk_one 5, st_set, show exprB 6 (.int 1) = true by decide +kernel, Bool.and_true]
  have e2 : blockB 6 (.tuple [.tuple [.str (zS "end"), .str z]]) = wordB (.str z) := by rw [blk_one 5, st_end, ex]
  intro v hv
  simp only [List.mem_cons, List.not_mem_nil, or_false] at hv
  rcases h with ⟨h, rfl⟩ | ⟨h, rfl⟩
  · rcases hv with rfl | rfl | rfl
    · exact main_good g1 (e1.trans h) (by rw [qB_one 5]; exact q_set _ _ _)
    · exact main_good g2 (e2.trans h) (by rw [qB_one 5]; exact q_end _ _)
    · exact word_good gz (okS _) (by decide) h (by decide +kernel) (by decide +kernel)
  · rcases hv with rfl | rfl | rfl
    · exact main_bad g1 (e1.trans h)
    · exact main_bad g2 (e2.trans h)
    · exact word_bad gz (okS _) (by decide) (by rw [h]; rfl)
theorem e_l24 {cs : List Nat} {a d k : Nat} {P : Post} (h7 : cs.length = 7) (hc : ∀ c ∈ cs, c ∈ letters) (hk : k ≤ 7) (h : ∀ b4 b7 b14, P.nx [S, .ow (Pen ns a d), b2, .sh (.int (k : Nat)), b4, b5, b6, b7, b8, b9, b10, b11, b12, .sh (.str ⟨cs.toArray⟩), b14]) :
    d_law_24 spPen spDraw spPe spDb spDe spWr [S, .ow (Pen ns a d), b2, .sh (.int (k : Nat)), b4, b5, b6, b7, b8, b9, b10, b11, b12, .sh (.str ⟨cs.toArray⟩), b14] P := by
  obtain ⟨h1, h2⟩ := word_take h7 hc hk
  have go : ∀ r : PD, Due 0 (if 1 ≤ k ∧ k ≤ 6 then 0 else 1) r → d_law_23 spPen spDraw spPe spDb spDe spWr [S, .ow (Pen ns a d), b2, .sh (.int (k : Nat)), .sh r, b5, b6, b7, b8, b9, b10, b11, b12, .sh (.str ⟨cs.toArray⟩), b14] P := fun r hr => by
    have F := word_three (r := r) h2 (by
      rcases hr with ⟨g, e⟩ | ⟨g, e⟩
      · have hp : 1 ≤ k ∧ k ≤ 6 := by
          by_cases hp : 1 ≤ k ∧ k ≤ 6
          · exact hp
          · rw [if_neg hp] at g; omega
        exact .inl ⟨by rw [h1, decide_eq_true hp.1, decide_eq_true hp.2]; rfl, e⟩
      · have hp : ¬ (1 ≤ k ∧ k ≤ 6) := fun hp => by rw [if_pos hp] at g; omega
        refine .inr ⟨?_, e⟩
        rw [h1, ← Bool.decide_and, decide_eq_false hp])
    unfold d_law_23
    simp only [DD0, DD1, DD2, DD3, DD4, DD5, DD6, DD7, slG, slP, fzsK, Nat.zero_le, Nat.reduceLeDiff, List.length_cons, List.length_nil, if_true, if_false, reduceIte, true_and, and_true, Bool.not_true, Bool.not_false, Bool.false_eq_true]
    rw [cut_to]
    refine ⟨by show cs.toArray.size ≤ _; rw [List.size_toArray]; omega, ?_⟩
    generalize (⟨(cs.take k).toArray⟩ : PySem.Str) = z at F
    unfold d_law_22
    simp only [DD0, DD1, DD2, DD3, DD4, DD5, DD6, DD7, slG, slP, fzsK, Nat.zero_le, Nat.reduceLeDiff, List.length_cons, List.length_nil, if_true, if_false, reduceIte, true_and, and_true, Bool.not_true, Bool.not_false, Bool.false_eq_true]
    refine ⟨fun i E => ∃ b7, E = [S, .ow (Pen ns a d), b2, .sh (.int (k : Nat)), .sh r, b5, b6, b7, b8, b9, b10, b11, b12, .sh (.str ⟨cs.toArray⟩), .sh (.str z)], ⟨_, rfl⟩, ?_, ?_⟩
    · rintro i v E2 hv ⟨b7, rfl⟩
      simp only [DD0, DD1, DD2, DD3, DD4, DD5, DD6, DD7, slG, slP, fzsK, Nat.zero_le, Nat.reduceLeDiff, List.length_cons, List.length_nil, if_true, if_false, reduceIte, true_and, and_true, Bool.not_true, Bool.not_false, Bool.false_eq_true]
      unfold d_law_21
      simp only [DD0, DD1, DD2, DD3, DD4, DD5, DD6, DD7, slG, slP, fzsK, Nat.zero_le, Nat.reduceLeDiff, List.length_cons, List.length_nil, if_true, if_false, reduceIte, true_and, and_true, Bool.not_true, Bool.not_false, Bool.false_eq_true]
      refine fun Ψ1 kk => spPe_of (F v (List.mem_of_getElem? hv)) (kk _ ?_)
      simp only [DD0, DD1, DD2, DD3, DD4, DD5, DD6, DD7, slG, slP, fzsK, Nat.zero_le, Nat.reduceLeDiff, List.length_cons, List.length_nil, if_true, if_false, reduceIte, true_and, and_true, Bool.not_true, Bool.not_false, Bool.false_eq_true]
      refine due_ne hr ?_
      simp only [DD0, DD1, DD2, DD3, DD4, DD5, DD6, DD7, slG, slP, fzsK, Nat.zero_le, Nat.reduceLeDiff, List.length_cons, List.length_nil, if_true, if_false, reduceIte, true_and, and_true, Bool.not_true, Bool.not_false, Bool.false_eq_true]
      exact ⟨(fun g => by cases g), fun _ => ⟨_, rfl⟩⟩
    · rintro E2 ⟨b7, rfl⟩
      exact h _ _ _
  unfold d_law_24
  simp only [DD0, DD1, DD2, DD3, DD4, DD5, DD6, DD7, slG, slP, fzsK, Nat.zero_le, Nat.reduceLeDiff, List.length_cons, List.length_nil, if_true, if_false, reduceIte, true_and, and_true, Bool.not_true, Bool.not_false, Bool.false_eq_true]
  have t : ∀ r : PD, (1 ≤ k ∧ k ≤ 6) → r = .none → Due 0 (if 1 ≤ k ∧ k ≤ 6 then 0 else 1) r := fun r hp e => .inl ⟨by rw [if_pos hp]; exact Nat.le_refl _, e⟩
  have f : ∀ r : PD, ¬ (1 ≤ k ∧ k ≤ 6) → r = .str (zS "form") → Due 0 (if 1 ≤ k ∧ k ≤ 6 then 0 else 1) r := fun r hp e => .inr ⟨by rw [if_neg hp]; decide, e⟩
  refine ⟨fun g1 => ⟨fun g2 => go _ (t _ ?_ rfl), fun g2 => go _ (f _ ?_ rfl)⟩, fun g1 => ⟨fun g => g.elim, fun _ => go _ (f _ ?_ rfl)⟩⟩
  · have := of_decide_eq_true g1; have := of_decide_eq_true g2; omega
  · have := of_decide_eq_false g2; omega
  · have := of_decide_eq_false g1; omega
end K62

set_option maxHeartbeats 4000000
namespace K62
open PySem PySem.Spec PyProof.Rows L2 Bk
theorem sum_sg (cs : List Nat) : ((cs.map sgS).map (·.length)).sum = cs.length := by
  induction cs with
  | nil => rfl
  | cons c cs ih =>
    rw [List.map_cons, List.map_cons, List.sum_cons, ih, List.length_cons]
    show 1 + _ = _
    omega
theorem rep_q (s : PD) (n : Nat) : blockB 6 (.tuple (List.replicate 21 s)) = false := by
  rw [blk_tup 5, List.length_replicate]
  rfl
theorem map_of {α : Type} {P : α → Prop} {f : α → PD} {l : List PD} (h : ∀ x ∈ l, ∃ z, x = f z ∧ P z) : ∃ zs : List α, l = zs.map f ∧ ∀ z ∈ zs, P z := by
  induction l with
  | nil => exact ⟨[], rfl, fun _ h => by cases h⟩
  | cons x l ih =>
    obtain ⟨zs, rfl, h2⟩ := ih fun y hy => h y (List.mem_cons_of_mem _ hy)
    obtain ⟨z, rfl, hz⟩ := h x List.mem_cons_self
    exact ⟨z :: zs, rfl, fun y hy => by
      rcases List.mem_cons.mp hy with rfl | hy
      · exact hz
      · exact h2 y hy⟩
theorem e_law (ns : List Int) (hn : ns.length ≤ 63) (Ψ : Rs → Prop) (q : Ψ (.sh (.bool true))) : d_law spPen spDraw spPe spDb spDe spWr [.sh (.dict [(.none, .list (pI ns))]), .un, .un, .un, .un, .un, .un, .un, .un, .un, .un, .un, .un, .un, .un] (post0 Ψ) := by
  generalize hS : Bd.sh (.dict [(.none, .list (pI ns))]) = S
  unfold d_law d_law_36
  rw [← hS]
  simp only [DD0, DD1, DD2, DD3, DD4, DD5, DD6, DD7, slG, slP, fzsK, Nat.zero_le, Nat.reduceLeDiff, List.length_cons, List.length_nil, if_true, if_false, reduceIte, true_and, and_true, Bool.not_true, Bool.not_false, Bool.false_eq_true]
  refine fun Ψ1 kk => ⟨ns, rfl, hn, kk _ ?_⟩
  rw [hS]
  show d_law_35 spPen spDraw spPe spDb spDe spWr [S, .ow (Pen ns 0 0), .un, .un, .un, .un, .un, .un, .un, .un, .un, .un, .un, .un, .un] (post0 Ψ)
  unfold d_law_35
  simp only [DD0, DD1, DD2, DD3, DD4, DD5, DD6, DD7, slG, slP, fzsK, Nat.zero_le, Nat.reduceLeDiff, List.length_cons, List.length_nil, if_true, if_false, reduceIte, true_and, and_true, Bool.not_true, Bool.not_false, Bool.false_eq_true]
  refine fun Ψ1 kk => ⟨ns, 0, 0, 4, rfl, rfl, hn, by decide, by decide, fun x a d hx => kk _ _ ?_⟩
  simp only [DD0, DD1, DD2, DD3, DD4, DD5, DD6, DD7, slG, slP, fzsK, Nat.zero_le, Nat.reduceLeDiff, List.length_cons, List.length_nil, if_true, if_false, reduceIte, true_and, and_true, Bool.not_true, Bool.not_false, Bool.false_eq_true]
  obtain ⟨s, _, hs, hm, _⟩ := getN (ds := [PyData.tuple [.str (zS "set"), .str (zS "x"), .int 1], .tuple [.str (zS "toss"), .tuple [], .tuple []], .tuple [.str (zS "end"), .int 3], .tuple [.str (zS "loop"), .tuple []]]) (k := x) hx
  have D := deed_ok hm
  refine ⟨s, hs, ?_⟩
  unfold d_law_34
  simp only [DD0, DD1, DD2, DD3, DD4, DD5, DD6, DD7, slG, slP, fzsK, Nat.zero_le, Nat.reduceLeDiff, List.length_cons, List.length_nil, if_true, if_false, reduceIte, true_and, and_true, Bool.not_true, Bool.not_false, Bool.false_eq_true]
  have all5 : ∀ E : EnvB, True := fun _ => trivial
  refine ⟨fun E => ∃ a d b2 b3 b4 b5 b6 b7, E = [S, .ow (Pen ns a d), b2, b3, b4, b5, b6, b7, .un, .un, .un, .un, .un, .un, .un], fun Ψ1 kk => ⟨ns, a, d, 21, rfl, rfl, hn, by decide, by decide, fun x a d hx => kk _ _ ?_⟩, ?_⟩
  · simp only [DD0, DD1, DD2, DD3, DD4, DD5, DD6, DD7, slG, slP, fzsK, Nat.zero_le, Nat.reduceLeDiff, List.length_cons, List.length_nil, if_true, if_false, reduceIte, true_and, and_true, Bool.not_true, Bool.not_false, Bool.false_eq_true]
    refine ⟨fun i E => ∃ a d b3 b4 b5 b6 b7, E = [S, .ow (Pen ns a d), .sh s, b3, b4, b5, b6, b7, .un, .un, .un, .un, .un, .un, .un], ⟨a, d, _, _, _, _, _, rfl⟩, ?_, ?_⟩
    · rintro i v E2 hv ⟨a, d, b3, b4, b5, b6, b7, rfl⟩
      have hv := List.mem_of_getElem? hv
      simp only [List.mem_cons, List.not_mem_nil, or_false] at hv
      have go : ∀ (k : Nat) (r : PD), k ≤ 21 → Due 20 k r → v = .tuple [.int (k : Nat), r] → gPr 3 4 v [S, .ow (Pen ns a d), .sh s, b3, b4, b5, b6, b7, .un, .un, .un, .un, .un, .un, .un] fun E3 => d_law_5 spPen spDraw spPe spDb spDe spWr E3 { nx := fun E => ∃ a d b3 b4 b5 b6 b7, E = [S, .ow (Pen ns a d), .sh s, b3, b4, b5, b6, b7, .un, .un, .un, .un, .un, .un, .un], rt := fun E r => rtK E r Ψ, bk := fun E => ∃ a d b2 b3 b4 b5 b6 b7, E = [S, .ow (Pen ns a d), b2, b3, b4, b5, b6, b7, .un, .un, .un, .un, .un, .un, .un], ct := fun E => ∃ a d b3 b4 b5 b6 b7, E = [S, .ow (Pen ns a d), .sh s, b3, b4, b5, b6, b7, .un, .un, .un, .un, .un, .un, .un] } := fun k r hk hr e => by
        subst e
        simp only [DD0, DD1, DD2, DD3, DD4, DD5, DD6, DD7, slG, slP, fzsK, Nat.zero_le, Nat.reduceLeDiff, List.length_cons, List.length_nil, if_true, if_false, reduceIte, true_and, and_true, Bool.not_true, Bool.not_false, Bool.false_eq_true]
        exact e_l5 D hk hr fun b5 b6 b7 => ⟨a, d, _, _, _, _, _, rfl⟩
      rcases hv with rfl | rfl | rfl
      · exact go 20 _ (by decide) (.inl ⟨by decide, rfl⟩) rfl
      · exact go 21 _ (by decide) (.inr ⟨by decide, rfl⟩) rfl
      · exact go x _ (by omega) (.inl ⟨by omega, rfl⟩) rfl
    · rintro E2 ⟨a, d, b3, b4, b5, b6, b7, rfl⟩
      exact ⟨a, d, _, _, _, _, _, _, rfl⟩
  rintro E ⟨a, d, b2, b3, b4, b5, b6, b7, rfl⟩
  unfold d_law_33
  simp only [DD0, DD1, DD2, DD3, DD4, DD5, DD6, DD7, slG, slP, fzsK, Nat.zero_le, Nat.reduceLeDiff, List.length_cons, List.length_nil, if_true, if_false, reduceIte, true_and, and_true, Bool.not_true, Bool.not_false, Bool.false_eq_true]
  refine ⟨fun E => ∃ a d b3 b4 b8 b9, E = [S, .ow (Pen ns a d), b2, b3, b4, b5, b6, b7, b8, b9, .un, .un, .un, .un, .un], ?_, ?_⟩
  · refine ⟨fun i E => ∃ a d b3 b4 b8 b9, E = [S, .ow (Pen ns a d), b2, b3, b4, b5, b6, b7, b8, b9, .un, .un, .un, .un, .un], ⟨a, d, _, _, _, _, rfl⟩, ?_, ?_⟩
    · rintro i l E2 hl ⟨a, d, b3, b4, b8, b9, rfl⟩
      have hl := List.mem_of_getElem? hl
      simp only [List.mem_cons, List.not_mem_nil, or_false] at hl
      have L : DeepB 0 l := by
        rcases hl with rfl | rfl
        · exact .nil
        · exact .one (fun f => by rw [st_end]; decide +kernel) (fun f => q_end _ _) (by decide +kernel) (by decide +kernel)
      simp only [DD0, DD1, DD2, DD3, DD4, DD5, DD6, DD7, slG, slP, fzsK, Nat.zero_le, Nat.reduceLeDiff, List.length_cons, List.length_nil, if_true, if_false, reduceIte, true_and, and_true, Bool.not_true, Bool.not_false, Bool.false_eq_true]
      unfold d_law_9
      simp only [DD0, DD1, DD2, DD3, DD4, DD5, DD6, DD7, slG, slP, fzsK, Nat.zero_le, Nat.reduceLeDiff, List.length_cons, List.length_nil, if_true, if_false, reduceIte, true_and, and_true, Bool.not_true, Bool.not_false, Bool.false_eq_true]
      refine fun Ψ1 kk => ⟨ns, a, d, 6, rfl, rfl, hn, by decide, by decide, fun x a d hx => kk _ _ ?_⟩
      simp only [DD0, DD1, DD2, DD3, DD4, DD5, DD6, DD7, slG, slP, fzsK, Nat.zero_le, Nat.reduceLeDiff, List.length_cons, List.length_nil, if_true, if_false, reduceIte, true_and, and_true, Bool.not_true, Bool.not_false, Bool.false_eq_true]
      refine ⟨fun i E => ∃ a d b3 b4 b9, E = [S, .ow (Pen ns a d), b2, b3, b4, b5, b6, b7, .sh l, b9, .un, .un, .un, .un, .un], ⟨a, d, _, _, _, rfl⟩, ?_, ?_⟩
      · rintro i v E2 hv ⟨a, d, b3, b4, b9, rfl⟩
        have hv := List.mem_of_getElem? hv
        simp only [List.mem_cons, List.not_mem_nil, or_false] at hv
        rcases hv with rfl | rfl | rfl
        · simp only [DD0, DD1, DD2, DD3, DD4, DD5, DD6, DD7, slG, slP, fzsK, Nat.zero_le, Nat.reduceLeDiff, List.length_cons, List.length_nil, if_true, if_false, reduceIte, true_and, and_true, Bool.not_true, Bool.not_false, Bool.false_eq_true]
          exact e_l8 (k := 5) hn L (by decide) (.inl ⟨by decide, rfl⟩) fun a d b9 => ⟨a, d, _, _, _, rfl⟩
        · simp only [DD0, DD1, DD2, DD3, DD4, DD5, DD6, DD7, slG, slP, fzsK, Nat.zero_le, Nat.reduceLeDiff, List.length_cons, List.length_nil, if_true, if_false, reduceIte, true_and, and_true, Bool.not_true, Bool.not_false, Bool.false_eq_true]
          exact e_l8 (k := 6) hn L (by decide) (.inr ⟨by decide, rfl⟩) fun a d b9 => ⟨a, d, _, _, _, rfl⟩
        · simp only [DD0, DD1, DD2, DD3, DD4, DD5, DD6, DD7, slG, slP, fzsK, Nat.zero_le, Nat.reduceLeDiff, List.length_cons, List.length_nil, if_true, if_false, reduceIte, true_and, and_true, Bool.not_true, Bool.not_false, Bool.false_eq_true]
          rw [show (1 : Int) + (x : Nat) = ((x + 1 : Nat) : Int) by omega]
          exact e_l8 (k := x) hn L (by omega) (.inl ⟨by omega, rfl⟩) fun a d b9 => ⟨a, d, _, _, _, rfl⟩
      · rintro E2 ⟨a, d, b3, b4, b9, rfl⟩
        exact ⟨a, d, _, _, _, _, rfl⟩
    · rintro E2 ⟨a, d, b3, b4, b8, b9, rfl⟩
      exact ⟨a, d, _, _, _, _, rfl⟩
  rintro E ⟨a, d, b3, b4, b8, b9, rfl⟩
  unfold d_law_32
  simp only [DD0, DD1, DD2, DD3, DD4, DD5, DD6, DD7, slG, slP, fzsK, Nat.zero_le, Nat.reduceLeDiff, List.length_cons, List.length_nil, if_true, if_false, reduceIte, true_and, and_true, Bool.not_true, Bool.not_false, Bool.false_eq_true]
  refine ⟨fun E => ∃ a d b3 b4 b7 b10, E = [S, .ow (Pen ns a d), b2, b3, b4, b5, b6, b7, b8, b9, b10, .un, .un, .un, .un], fun Ψ1 kk => ⟨ns, a, d, 7, rfl, rfl, hn, by decide, by decide, fun x a d hx => kk _ _ ?_⟩, ?_⟩
  · simp only [DD0, DD1, DD2, DD3, DD4, DD5, DD6, DD7, slG, slP, fzsK, Nat.zero_le, Nat.reduceLeDiff, List.length_cons, List.length_nil, if_true, if_false, reduceIte, true_and, and_true, Bool.not_true, Bool.not_false, Bool.false_eq_true]
    refine ⟨fun i E => ∃ a d b3 b4 b7 b10, E = [S, .ow (Pen ns a d), b2, b3, b4, b5, b6, b7, b8, b9, b10, .un, .un, .un, .un], ⟨a, d, _, _, _, _, rfl⟩, ?_, ?_⟩
    · rintro i v E2 hv ⟨a, d, b3, b4, b7, b10, rfl⟩
      have hv := List.mem_of_getElem? hv
      simp only [List.mem_cons, List.not_mem_nil, or_false] at hv
      rcases hv with rfl | rfl | rfl
      · simp only [DD0, DD1, DD2, DD3, DD4, DD5, DD6, DD7, slG, slP, fzsK, Nat.zero_le, Nat.reduceLeDiff, List.length_cons, List.length_nil, if_true, if_false, reduceIte, true_and, and_true, Bool.not_true, Bool.not_false, Bool.false_eq_true]
        exact e_l13 (k := 6) hn (by decide) (.inl ⟨by decide, rfl⟩) fun a d b7 b10 => ⟨a, d, _, _, _, _, rfl⟩
      · simp only [DD0, DD1, DD2, DD3, DD4, DD5, DD6, DD7, slG, slP, fzsK, Nat.zero_le, Nat.reduceLeDiff, List.length_cons, List.length_nil, if_true, if_false, reduceIte, true_and, and_true, Bool.not_true, Bool.not_false, Bool.false_eq_true]
        exact e_l13 (k := 7) hn (by decide) (.inr ⟨by decide, rfl⟩) fun a d b7 b10 => ⟨a, d, _, _, _, _, rfl⟩
      · simp only [DD0, DD1, DD2, DD3, DD4, DD5, DD6, DD7, slG, slP, fzsK, Nat.zero_le, Nat.reduceLeDiff, List.length_cons, List.length_nil, if_true, if_false, reduceIte, true_and, and_true, Bool.not_true, Bool.not_false, Bool.false_eq_true]
        exact e_l13 (k := x) hn (by omega) (.inl ⟨by omega, rfl⟩) fun a d b7 b10 => ⟨a, d, _, _, _, _, rfl⟩
    · rintro E2 ⟨a, d, b3, b4, b7, b10, rfl⟩
      exact ⟨a, d, _, _, _, _, rfl⟩
  rintro E ⟨a, d, b3, b4, b7, b10, rfl⟩
  unfold d_law_31
  simp only [DD0, DD1, DD2, DD3, DD4, DD5, DD6, DD7, slG, slP, fzsK, Nat.zero_le, Nat.reduceLeDiff, List.length_cons, List.length_nil, if_true, if_false, reduceIte, true_and, and_true, Bool.not_true, Bool.not_false, Bool.false_eq_true]
  refine ⟨fun E => ∃ a d b3 b4 b11 b12, E = [S, .ow (Pen ns a d), b2, b3, b4, b5, b6, b7, b8, b9, b10, b11, b12, .un, .un], fun Ψ1 kk => ⟨ns, a, d, 7, rfl, rfl, hn, by decide, by decide, fun x a d hx => kk _ _ ?_⟩, ?_⟩
  · simp only [DD0, DD1, DD2, DD3, DD4, DD5, DD6, DD7, slG, slP, fzsK, Nat.zero_le, Nat.reduceLeDiff, List.length_cons, List.length_nil, if_true, if_false, reduceIte, true_and, and_true, Bool.not_true, Bool.not_false, Bool.false_eq_true]
    refine ⟨fun i E => ∃ a d b3 b4 b11 b12, E = [S, .ow (Pen ns a d), b2, b3, b4, b5, b6, b7, b8, b9, b10, b11, b12, .un, .un], ⟨a, d, _, _, _, _, rfl⟩, ?_, ?_⟩
    · rintro i v E2 hv ⟨a, d, b3, b4, b11, b12, rfl⟩
      have hv := List.mem_of_getElem? hv
      simp only [List.mem_cons, List.not_mem_nil, or_false] at hv
      rcases hv with rfl | rfl | rfl
      · simp only [DD0, DD1, DD2, DD3, DD4, DD5, DD6, DD7, slG, slP, fzsK, Nat.zero_le, Nat.reduceLeDiff, List.length_cons, List.length_nil, if_true, if_false, reduceIte, true_and, and_true, Bool.not_true, Bool.not_false, Bool.false_eq_true]
        exact e_l16 (k := 6) (by decide) (.inl ⟨by decide, rfl⟩) fun b11 b12 => ⟨a, d, _, _, _, _, rfl⟩
      · simp only [DD0, DD1, DD2, DD3, DD4, DD5, DD6, DD7, slG, slP, fzsK, Nat.zero_le, Nat.reduceLeDiff, List.length_cons, List.length_nil, if_true, if_false, reduceIte, true_and, and_true, Bool.not_true, Bool.not_false, Bool.false_eq_true]
        exact e_l16 (k := 7) (by decide) (.inr ⟨by decide, rfl⟩) fun b11 b12 => ⟨a, d, _, _, _, _, rfl⟩
      · simp only [DD0, DD1, DD2, DD3, DD4, DD5, DD6, DD7, slG, slP, fzsK, Nat.zero_le, Nat.reduceLeDiff, List.length_cons, List.length_nil, if_true, if_false, reduceIte, true_and, and_true, Bool.not_true, Bool.not_false, Bool.false_eq_true]
        exact e_l16 (k := x) (by omega) (.inl ⟨by omega, rfl⟩) fun b11 b12 => ⟨a, d, _, _, _, _, rfl⟩
    · rintro E2 ⟨a, d, b3, b4, b11, b12, rfl⟩
      exact ⟨a, d, _, _, _, _, rfl⟩
  rintro E ⟨a, d, b3, b4, b11, b12, rfl⟩
  unfold d_law_30
  simp only [DD0, DD1, DD2, DD3, DD4, DD5, DD6, DD7, slG, slP, fzsK, Nat.zero_le, Nat.reduceLeDiff, List.length_cons, List.length_nil, if_true, if_false, reduceIte, true_and, and_true, Bool.not_true, Bool.not_false, Bool.false_eq_true]
  refine ⟨fun E => E = [S, .ow (Pen ns a d), b2, b3, b4, b5, b6, b7, b8, b9, b10, b11, b12, .un, .un], ⟨by decide, fun Ψ1 kk => spPe_of (main_bad (b := .tuple (List.replicate 21 (.tuple [.str (zS "leave")]))) (gdS _) (rep_q _ 0)) (kk _ ?_)⟩, ?_⟩
  · simp only [DD0, DD1, DD2, DD3, DD4, DD5, DD6, DD7, slG, slP, fzsK, Nat.zero_le, Nat.reduceLeDiff, List.length_cons, List.length_nil, if_true, if_false, reduceIte, true_and, and_true, Bool.not_true, Bool.not_false, Bool.false_eq_true]
    exact ⟨(fun g => by simp at g), fun _ => trivial⟩
  rintro E rfl
  unfold d_law_29
  simp only [DD0, DD1, DD2, DD3, DD4, DD5, DD6, DD7, slG, slP, fzsK, Nat.zero_le, Nat.reduceLeDiff, List.length_cons, List.length_nil, if_true, if_false, reduceIte, true_and, and_true, Bool.not_true, Bool.not_false, Bool.false_eq_true]
  refine ⟨fun E => E = [S, .ow (Pen ns a d), b2, b3, b4, b5, b6, b7, b8, b9, b10, b11, b12, .un, .un], ⟨by decide, fun Ψ1 kk => spPe_of (word_bad (z := zS "d") (c := .tuple (List.replicate 21 (.tuple [.str (zS "call"), .str (zS "q")]))) (by decide +kernel) (by decide +kernel) (by decide +kernel) (by rw [rep_q _ 0, Bool.and_false])) (kk _ ?_)⟩, ?_⟩
  · simp only [DD0, DD1, DD2, DD3, DD4, DD5, DD6, DD7, slG, slP, fzsK, Nat.zero_le, Nat.reduceLeDiff, List.length_cons, List.length_nil, if_true, if_false, reduceIte, true_and, and_true, Bool.not_true, Bool.not_false, Bool.false_eq_true]
    exact ⟨(fun g => by simp at g), fun _ => trivial⟩
  rintro E rfl
  unfold d_law_28
  simp only [DD0, DD1, DD2, DD3, DD4, DD5, DD6, DD7, slG, slP, fzsK, Nat.zero_le, Nat.reduceLeDiff, List.length_cons, List.length_nil, if_true, if_false, reduceIte, true_and, and_true, Bool.not_true, Bool.not_false, Bool.false_eq_true]
  refine ⟨fun E => ∃ a d, E = [S, .ow (Pen ns a d), b2, b3, b4, b5, b6, b7, b8, b9, b10, b11, b12, .un, .un], fun Ψ1 kk => ⟨ns, a, d, rfl, rfl, hn, fun a d => kk _ _ ?_⟩, ?_⟩
  · simp only [DD0, DD1, DD2, DD3, DD4, DD5, DD6, DD7, slG, slP, fzsK, Nat.zero_le, Nat.reduceLeDiff, List.length_cons, List.length_nil, if_true, if_false, reduceIte, true_and, and_true, Bool.not_true, Bool.not_false, Bool.false_eq_true]
    exact ⟨(fun g => by cases g), fun _ => ⟨a, d, rfl⟩⟩
  rintro E ⟨a, d, rfl⟩
  unfold d_law_27
  simp only [DD0, DD1, DD2, DD3, DD4, DD5, DD6, DD7, slG, slP, fzsK, Nat.zero_le, Nat.reduceLeDiff, List.length_cons, List.length_nil, if_true, if_false, reduceIte, true_and, and_true, Bool.not_true, Bool.not_false, Bool.false_eq_true]
  refine ⟨by decide, by decide, fun j E => ∃ a d b12, E = [S, .ow (Pen ns a d), b2, b3, b4, b5, b6, b7, b8, b9, b10, b11, b12, .un, .un], fun j y => ∃ c, y = .str (sgS c) ∧ c ∈ letters, ⟨a, d, _, rfl⟩, ?_, ?_⟩
  · rintro j v E2 hv ⟨a, d, b12, rfl⟩
    simp only [DD0, DD1, DD2, DD3, DD4, DD5, DD6, DD7, slG, slP, fzsK, Nat.zero_le, Nat.reduceLeDiff, List.length_cons, List.length_nil, if_true, if_false, reduceIte, true_and, and_true, Bool.not_true, Bool.not_false, Bool.false_eq_true]
    refine fun Ψ1 kk => ⟨ns, a, d, 26, rfl, rfl, hn, by decide, by decide, fun x a d hx => kk _ _ ?_⟩
    have hlen : x < letters.length := by
      rw [show letters.length = 26 by decide +kernel]
      exact hx
    simp only [DD0, DD1, DD2, DD3, DD4, DD5, DD6, DD7, slG, slP, fzsK, Nat.zero_le, Nat.reduceLeDiff, List.length_cons, List.length_nil, if_true, if_false, reduceIte, true_and, and_true, Bool.not_true, Bool.not_false, Bool.false_eq_true]
    exact ⟨by decide +kernel, _, at_k (List.getElem?_eq_getElem (l := letters) hlen), ⟨a, d, _, rfl⟩, _, rfl, List.getElem_mem hlen⟩
  · rintro E2 ys ⟨a, d, b12, rfl⟩ hl hR
    obtain ⟨cs, rfl, hc⟩ := map_of (f := fun c => PyData.str (sgS c)) (P := fun c => c ∈ letters) (l := ys) fun y hy => by
      obtain ⟨k, hk⟩ := List.getElem?_of_mem hy
      exact hR k y hk
    rw [List.length_map] at hl
    have h7 : cs.length = 7 := hl
    simp only [DD0, DD1, DD2, DD3, DD4, DD5, DD6, DD7, slG, slP, fzsK, Nat.zero_le, Nat.reduceLeDiff, List.length_cons, List.length_nil, if_true, if_false, reduceIte, true_and, and_true, Bool.not_true, Bool.not_false, Bool.false_eq_true]
    refine ⟨cs.map sgS, by rw [List.map_map]; rfl, by rw [sum_sg, List.length_map, h7]; decide, ?_⟩
    rw [join_e]
    unfold d_law_26
    simp only [DD0, DD1, DD2, DD3, DD4, DD5, DD6, DD7, slG, slP, fzsK, Nat.zero_le, Nat.reduceLeDiff, List.length_cons, List.length_nil, if_true, if_false, reduceIte, true_and, and_true, Bool.not_true, Bool.not_false, Bool.false_eq_true]
    refine ⟨fun E => ∃ b3 b4 b7 b14, E = [S, .ow (Pen ns a d), b2, b3, b4, b5, b6, b7, b8, b9, b10, b11, b12, .sh (.str ⟨cs.toArray⟩), b14], ⟨by decide, fun i E => ∃ b3 b4 b7 b14, E = [S, .ow (Pen ns a d), b2, b3, b4, b5, b6, b7, b8, b9, b10, b11, b12, .sh (.str ⟨cs.toArray⟩), b14], ⟨_, _, _, _, rfl⟩, ?_, ?_⟩, ?_⟩
    · rintro i v E2 hv ⟨b3, b4, b7, b14, rfl⟩
      obtain ⟨hi, rfl⟩ := rngD_get hv
      have hi : i < 8 := hi
      simp only [DD0, DD1, DD2, DD3, DD4, DD5, DD6, DD7, slG, slP, fzsK, Nat.zero_le, Nat.reduceLeDiff, List.length_cons, List.length_nil, if_true, if_false, reduceIte, true_and, and_true, Bool.not_true, Bool.not_false, Bool.false_eq_true]
      rw [Int.zero_add]
      exact e_l24 h7 hc (by omega) fun b4 b7 b14 => ⟨_, _, _, _, rfl⟩
    · rintro E2 ⟨b3, b4, b7, b14, rfl⟩
      exact ⟨_, _, _, _, rfl⟩
    rintro E ⟨b3, b4, b7, b14, rfl⟩
    unfold d_law_25
    simp only [DD0, DD1, DD2, DD3, DD4, DD5, DD6, DD7, slG, slP, fzsK, Nat.zero_le, Nat.reduceLeDiff, List.length_cons, List.length_nil, if_true, if_false, reduceIte, true_and, and_true, Bool.not_true, Bool.not_false, Bool.false_eq_true]
    refine fun Ψ1 kk => spPe_of (main_good (b := .tuple [.tuple [.str (zS "end"), .int 9]]) (gdS _) (by decide +kernel) (by decide +kernel)) (kk _ ?_)
    simp only [DD0, DD1, DD2, DD3, DD4, DD5, DD6, DD7, slG, slP, fzsK, Nat.zero_le, Nat.reduceLeDiff, List.length_cons, List.length_nil, if_true, if_false, reduceIte, true_and, and_true, Bool.not_true, Bool.not_false, Bool.false_eq_true]
    refine ⟨fun _ => fun Ψ1 kk => spPe_of (main_bad (b := .tuple [.tuple [.str (zS "end"), .int 10]]) (gdS _) (by decide +kernel)) (kk _ ?_), (fun g => by cases g)⟩
    simp only [DD0, DD1, DD2, DD3, DD4, DD5, DD6, DD7, slG, slP, fzsK, Nat.zero_le, Nat.reduceLeDiff, List.length_cons, List.length_nil, if_true, if_false, reduceIte, true_and, and_true, Bool.not_true, Bool.not_false, Bool.false_eq_true]
    rw [decide_eq_true trivial]
    exact q
end K62

set_option maxHeartbeats 4000000
namespace K62
open PySem PySem.Spec PyProof.Rows L2 Bk
section
variable {P : Program} {w : World} {K : PySem.W.Frag} {mg : Str → Option Value} {base : Heap}
theorem ok_none {k n : Nat} {f : Addr} {fd : FuncData} {ps : List Str} : FnOk P w K mg base CX0 k f fd ps (Pm K n spNone) :=
  ⟨fun _ _ _ _ ⟨_, _, _, _, _, h⟩ => h.elim, fun _ _ _ _ _ _ _ _ _ _ _ _ _ ⟨_, _, _, _, _, h⟩ => h.elim⟩
theorem hs_word : ∀ ds Ψ, spWord ds Ψ → d_is_word (env0 ["value", "letter"] ds) (post0 Ψ) := fun _ _ ⟨d, e, h1, h2, q⟩ => by subst e; exact e_word d h1 h2 _ q
theorem hs_expr (n : Nat) : ∀ ds Ψ, spExpr n ds Ψ → d_is_expression (spExprB n) spWord (env0 ["value", "depth_left", "valid"] ds) (post0 Ψ) := fun _ _ ⟨d, e, h, q⟩ => by subst e; exact e_expr n d h _ q
theorem hs_blk (n : Nat) : ∀ ds Ψ, spBlk n ds Ψ → d_is_block (spStmtB n) (env0 ["value", "depth", "statement"] ds) (post0 Ψ) := fun _ _ ⟨d, e, h, q⟩ => by subst e; exact e_blk n d h _ q
theorem hs_stmt (n : Nat) : ∀ ds Ψ, spStmt n ds Ψ → d_is_statement spWord (spExpr 6) (spBlk n) (env0 ["value", "depth", "part"] ds) (post0 Ψ) := fun _ _ ⟨d, e, h, q⟩ => by subst e; exact e_stmt n d h _ q
theorem hs_wf : ∀ ds Ψ, spWf ds Ψ → d_is_well_formed (spBlk 6) spWord (env0 ["value", "words", "entry"] ds) (post0 Ψ) := fun _ _ ⟨d, e, h, q⟩ => by subst e; exact e_wf d h _ q
theorem hs_fi (n : Nat) : ∀ ds Ψ, spFi n ds Ψ → d_first_invalid (spFiB n) (env0 ["block", "defs", "path", "in_loop", "index", "statement", "here", "part", "found"] ds) (post0 Ψ) := fun _ _ ⟨b, fs, path, il, e, h1, h2, h3, q⟩ => by subst e; exact e_fi n b fs path il h1 h2 h3 _ q
theorem hs_cw (n : Nat) : ∀ ds Ψ, spCw n ds Ψ → d_called_words (spCwB n) (env0 ["block", "found", "statement", "part"] ds) (post0 Ψ) := fun _ _ ⟨b, e, h1, h2, h3, q⟩ => by subst e; exact e_cw n b h1 h2 h3 _ q
theorem hs_ci : ∀ ds Ψ, spCi ds Ψ → d_calls_itself (spCw 6) (env0 ["word", "defs", "seen", "pending", "other"] ds) (post0 Ψ) := fun _ _ ⟨x, fs, e, h1, h2, q⟩ => by subst e; exact e_ci x fs h1 h2 _ q
theorem hs_pe : ∀ ds Ψ, spPe ds Ψ → d_program_error spWf (spFi 6) spCi (env0 ["value", "defs", "found", "index", "entry", "word"] ds) (post0 Ψ) := fun _ _ ⟨v, e, h, q⟩ => by subst e; exact e_pe v h _ q
theorem rec_expr {f : Addr} {fd : FuncData} (Fn : L2.Fun K "is_expression" "is_expression" St_is_expression f fd) (n_isinstance : mg "isinstance" = none) (n_tuple : mg "tuple" = none) (n_len : mg "len" = none) (n_str : mg "str" = none) (n_int : mg "int" = none) (n_bool : mg "bool" = none) {u_OPERATORS : Value} {v_OPERATORS : V} (m_OPERATORS : mg "OPERATORS" = some u_OPERATORS) (r_OPERATORS : RelV v_OPERATORS u_OPERATORS) (h_OPERATORS : ∀ G, Rp K G v_OPERATORS (.tuple opsL))
    (mk : ∀ j sp, FnOk P w K mg base CX0 j f fd ["value", "depth_left"] (Pm K 2 sp) → Cal P w K mg base "is_expression" j (Pm K 2 sp)) (Cw : Cal P w K mg base "is_word" 1 (Pm K 1 spWord)) : ∀ n, FnOk P w K mg base CX0 (n + 2) f fd ["value", "depth_left"] (Pm K 2 (spExpr n))
  | 0 => ok_is_expression Fn n_isinstance n_tuple n_len n_str n_int n_bool m_OPERATORS r_OPERATORS h_OPERATORS (mk 1 _ ok_none) Cw (hs_expr 0)
  | n + 1 => ok_is_expression Fn n_isinstance n_tuple n_len n_str n_int n_bool m_OPERATORS r_OPERATORS h_OPERATORS (mk (n + 2) _ (rec_expr Fn n_isinstance n_tuple n_len n_str n_int n_bool m_OPERATORS r_OPERATORS h_OPERATORS mk Cw n)) (Cal.up Cw (by omega)) (hs_expr (n + 1))
abbrev KD (K : PySem.W.Frag) (val : PySem.Str → Option PD) (e : Array DictEntry) : Prop := ∀ z, (∃ u v d, findBy Value.isStrOf e z = some u ∧ RelV v u ∧ (∀ G, Rp K G v d) ∧ val z = some d) ∨ (findBy Value.isStrOf e z = none ∧ val z = none)
theorem rec_blk {f f' : Addr} {fd fd' : FuncData} (Fn : L2.Fun K "is_block" "is_block" St_is_block f fd) (Fn' : L2.Fun K "is_statement" "is_statement" St_is_statement f' fd') (n_isinstance : mg "isinstance" = none) (n_tuple : mg "tuple" = none) (n_str : mg "str" = none) (n_len : mg "len" = none) (n_all : mg "all" = none)
    {d_S : Addr} {e_S : Array DictEntry} {n_S : Nat} (m_S : mg "STATEMENT_SIZES" = some (.ref d_S)) (D_S : KDict K w d_S e_S n_S) (v_S : KD K sizesV e_S) {t_E : Tok} (m_E : mg "MAX_EXPRESSION_DEPTH" = some (.int 6 t_E)) {d_B : Addr} {e_B : Array DictEntry} {n_B : Nat} (m_B : mg "BLOCK_PARTS" = some (.ref d_B)) (D_B : KDict K w d_B e_B n_B) (v_B : KD K partsV e_B)
    {t_M : Tok} (m_M : mg "MAX_STATEMENTS" = some (.int 20 t_M)) {t_D : Tok} (m_D : mg "MAX_BLOCK_DEPTH" = some (.int 6 t_D))
    (mk : ∀ j sp, FnOk P w K mg base CX0 j f fd ["value", "depth"] (Pm K 2 sp) → Cal P w K mg base "is_block" j (Pm K 2 sp)) (mk' : ∀ j sp, FnOk P w K mg base CX0 j f' fd' ["value", "depth"] (Pm K 2 sp) → Cal P w K mg base "is_statement" j (Pm K 2 sp))
    (Cw : Cal P w K mg base "is_word" 1 (Pm K 1 spWord)) (Ce : Cal P w K mg base "is_expression" 8 (Pm K 2 (spExpr 6))) : ∀ n, FnOk P w K mg base CX0 (9 + 2 * n) f fd ["value", "depth"] (Pm K 2 (spBlk n)) ∧ FnOk P w K mg base CX0 (10 + 2 * n) f' fd' ["value", "depth"] (Pm K 2 (spStmt n)) := by
  have go : ∀ n, FnOk P w K mg base CX0 (9 + 2 * n) f fd ["value", "depth"] (Pm K 2 (spBlk n)) → FnOk P w K mg base CX0 (9 + 2 * n + 1) f' fd' ["value", "depth"] (Pm K 2 (spStmt n)) := fun n h =>
    ok_is_statement (k := 9 + 2 * n) Fn' n_isinstance n_tuple n_str n_len n_all m_S D_S v_S m_E m_B D_B v_B (Cal.up Cw (by omega)) (Cal.up Ce (by omega)) (mk _ _ h) (hs_stmt n)
  intro n
  induction n with
  | zero =>
    have h : FnOk P w K mg base CX0 (9 + 2 * 0) f fd ["value", "depth"] (Pm K 2 (spBlk 0)) := ok_is_block (k := 8) Fn n_isinstance n_tuple n_len n_all m_M m_D (mk' 8 _ ok_none) (hs_blk 0)
    exact ⟨h, go 0 h⟩
  | succ n ih =>
    have h : FnOk P w K mg base CX0 (9 + 2 * (n + 1)) f fd ["value", "depth"] (Pm K 2 (spBlk (n + 1))) := (ok_is_block (k := 10 + 2 * n) Fn n_isinstance n_tuple n_len n_all m_M m_D (mk' _ _ ih.2) (hs_blk (n + 1))).mono (by omega)
    exact ⟨h, (go (n + 1) h).mono (by omega)⟩
theorem rec_fi {f : Addr} {fd : FuncData} (Fn : L2.Fun K "first_invalid" "first_invalid" St_first_invalid f fd) (n_enumerate : mg "enumerate" = none) {d_B : Addr} {e_B : Array DictEntry} {n_B : Nat} (m_B : mg "BLOCK_PARTS" = some (.ref d_B)) (D_B : KDict K w d_B e_B n_B) (v_B : KD K partsV e_B)
    (mk : ∀ j sp, FnOk P w K mg base CX0 j f fd ["block", "defs", "path", "in_loop"] (Pm K 4 sp) → Cal P w K mg base "first_invalid" j (Pm K 4 sp)) : ∀ n, FnOk P w K mg base CX0 (n + 1) f fd ["block", "defs", "path", "in_loop"] (Pm K 4 (spFi n))
  | 0 => ok_first_invalid Fn n_enumerate m_B D_B v_B (mk 0 _ ok_none) (hs_fi 0)
  | n + 1 => ok_first_invalid Fn n_enumerate m_B D_B v_B (mk (n + 1) _ (rec_fi Fn n_enumerate m_B D_B v_B mk n)) (hs_fi (n + 1))
theorem rec_cw {f : Addr} {fd : FuncData} (Fn : L2.Fun K "called_words" "called_words" St_called_words f fd) {d_B : Addr} {e_B : Array DictEntry} {n_B : Nat} (m_B : mg "BLOCK_PARTS" = some (.ref d_B)) (D_B : KDict K w d_B e_B n_B) (v_B : KD K partsV e_B)
    (mk : ∀ j sp, FnOk P w K mg base CX0 j f fd ["block"] (Pm K 1 sp) → Cal P w K mg base "called_words" j (Pm K 1 sp)) : ∀ n, FnOk P w K mg base CX0 (n + 1) f fd ["block"] (Pm K 1 (spCw n))
  | 0 => ok_called_words Fn m_B D_B v_B (mk 0 _ ok_none) (hs_cw 0)
  | n + 1 => ok_called_words Fn m_B D_B v_B (mk (n + 1) _ (rec_cw Fn m_B D_B v_B mk n)) (hs_cw (n + 1))
/-! the kept constants -/
theorem isS (z w : PySem.Str) (t : Tok) : Value.isStrOf z (.str w t) = decide (z = w) := by
  show (w == z) = _
  rw [Bool.eq_iff_iff, beq_iff_eq, decide_eq_true_iff]
  exact eq_comm
theorem rp_kint (i : Int) : ∀ G, Rp K G (.int i) (.int i) := fun _ => .int i
theorem ops_kept {a : Addr} {its : Array Value} {n : Nat} (h : K.lookup a = some ⟨.type "tuple", none, .seq its n, #[]⟩) (hv : Vals (([zS "plus", zS "less", zS "alike", zS "least"] : List PySem.Str).map V.str) its.toList) : ∀ G, Rp K G (.ref a) (.tuple opsL) :=
  kept_strs (zs := [zS "plus", zS "less", zS "alike", zS "least"]) h rfl rfl (by have := hv.length; simp at this; rw [← this]; decide) hv
theorem kept_ints {a : Addr} {its : Array Value} {n : Nat} {zs : List Int} (h : K.lookup a = some ⟨.type "tuple", none, .seq its n, #[]⟩) (hv : Vals (zs.map V.int) its.toList) (hl : zs.length ≤ 100) : ∀ G, Rp K G (.ref a) (.tuple (zs.map PyData.int)) := fun G => by
  have e := hv.length
  rw [List.length_map] at e
  have e2 : its.size = zs.length := by rw [← Array.length_toList]; exact e.symm
  exact .tup (.inr ⟨_, its, n, h, rfl, rfl, by rw [e2]; exact Nat.le_trans hl (by decide), hv⟩) (Rps.of_ints zs)
theorem siz_kept {h0 h1 h2 h3 h4 h5 h6 : Int} {t0 s0 t1 s1 t2 s2 t3 s3 t4 s4 t5 s5 t6 s6 : Tok} : KD K sizesV #[⟨h0, .str (zS "toss") t0, .int 3 s0⟩, ⟨h1, .str (zS "set") t1, .int 3 s1⟩, ⟨h2, .str (zS "if") t2, .int 4 s2⟩, ⟨h3, .str (zS "loop") t3, .int 2 s3⟩, ⟨h4, .str (zS "leave") t4, .int 1 s4⟩, ⟨h5, .str (zS "end") t5, .int 2 s5⟩, ⟨h6, .str (zS "call") t6, .int 2 s6⟩] := fun z => by
  unfold findBy sizesV
  simp only [List.find?_toArray, List.find?_cons, List.find?_nil, isS]
  by_cases a0 : z = zS "toss"
  · exact .inl ⟨.int 3 s0, .int 3, .int 3, by rw [decide_eq_true a0]; rfl, ⟨s0, rfl⟩, rp_kint _, if_pos a0⟩
  · rw [decide_eq_false a0, if_neg a0]
    by_cases a1 : z = zS "set"
    · exact .inl ⟨.int 3 s1, .int 3, .int 3, by rw [decide_eq_true a1]; rfl, ⟨s1, rfl⟩, rp_kint _, if_pos a1⟩
    · rw [decide_eq_false a1, if_neg a1]
      by_cases a2 : z = zS "if"
      · exact .inl ⟨.int 4 s2, .int 4, .int 4, by rw [decide_eq_true a2]; rfl, ⟨s2, rfl⟩, rp_kint _, if_pos a2⟩
      · rw [decide_eq_false a2, if_neg a2]
        by_cases a3 : z = zS "loop"
        · exact .inl ⟨.int 2 s3, .int 2, .int 2, by rw [decide_eq_true a3]; rfl, ⟨s3, rfl⟩, rp_kint _, if_pos a3⟩
        · rw [decide_eq_false a3, if_neg a3]
          by_cases a4 : z = zS "leave"
          · exact .inl ⟨.int 1 s4, .int 1, .int 1, by rw [decide_eq_true a4]; rfl, ⟨s4, rfl⟩, rp_kint _, if_pos a4⟩
          · rw [decide_eq_false a4, if_neg a4]
            by_cases a5 : z = zS "end"
            · exact .inl ⟨.int 2 s5, .int 2, .int 2, by rw [decide_eq_true a5]; rfl, ⟨s5, rfl⟩, rp_kint _, if_pos a5⟩
            · rw [decide_eq_false a5, if_neg a5]
              by_cases a6 : z = zS "call"
              · exact .inl ⟨.int 2 s6, .int 2, .int 2, by rw [decide_eq_true a6]; rfl, ⟨s6, rfl⟩, rp_kint _, if_pos a6⟩
              · rw [decide_eq_false a6, if_neg a6]
                exact .inr ⟨rfl, rfl⟩
theorem par_kept {h0 h1 h2 : Int} {t0 t1 t2 : Tok} {a0 a1 a2 : Addr} {i0 i1 i2 : Array Value} {n0 n1 n2 : Nat} (l0 : K.lookup a0 = some ⟨.type "tuple", none, .seq i0 n0, #[]⟩) (v0 : Vals (([1, 2] : List Int).map V.int) i0.toList) (l1 : K.lookup a1 = some ⟨.type "tuple", none, .seq i1 n1, #[]⟩) (v1 : Vals (([2, 3] : List Int).map V.int) i1.toList) (l2 : K.lookup a2 = some ⟨.type "tuple", none, .seq i2 n2, #[]⟩) (v2 : Vals (([1] : List Int).map V.int) i2.toList) : KD K partsV #[⟨h0, .str (zS "toss") t0, .ref a0⟩, ⟨h1, .str (zS "if") t1, .ref a1⟩, ⟨h2, .str (zS "loop") t2, .ref a2⟩] := fun z => by
  unfold findBy partsV
  simp only [List.find?_toArray, List.find?_cons, List.find?_nil, isS]
  by_cases a0_ : z = zS "toss"
  · exact .inl ⟨.ref a0, .ref a0, .tuple (([1, 2] : List Int).map PyData.int), by rw [decide_eq_true a0_]; rfl, rfl, kept_ints l0 v0 (by decide), if_pos a0_⟩
  · rw [decide_eq_false a0_, if_neg a0_]
    by_cases a1_ : z = zS "if"
    · exact .inl ⟨.ref a1, .ref a1, .tuple (([2, 3] : List Int).map PyData.int), by rw [decide_eq_true a1_]; rfl, rfl, kept_ints l1 v1 (by decide), if_pos a1_⟩
    · rw [decide_eq_false a1_, if_neg a1_]
      by_cases a2_ : z = zS "loop"
      · exact .inl ⟨.ref a2, .ref a2, .tuple (([1] : List Int).map PyData.int), by rw [decide_eq_true a2_]; rfl, rfl, kept_ints l2 v2 (by decide), if_pos a2_⟩
      · rw [decide_eq_false a2_, if_neg a2_]
        exact .inr ⟨rfl, rfl⟩
end
theorem hs_de : ∀ o ds Ψ, spDe o ds Ψ → d__law_deep_e spDraw (env1 ["pen", "many", "found", "k", "word"] o ds) (post1 Ψ) := fun _ _ _ ⟨ns, a, d, k, e1, e2, h1, h2, q⟩ => by subst e1; subst e2; exact e_de ns a d k h1 h2 _ q
theorem hs_db : ∀ o ds Ψ, spDb o ds Ψ → d__law_deep_block spDraw (env1 ["pen", "many", "last", "found", "k", "option"] o ds) (post1 Ψ) := fun _ _ _ ⟨ns, a, d, k, l, e1, e2, h1, h2, h3, q⟩ => by subst e1; subst e2; exact e_db ns a d k l h1 h2 h3 _ q
theorem hs_wr : ∀ o ds Ψ, spWr o ds Ψ → d__law_words_right spDraw spPe (env1 ["pen", "sign", "at", "odd", "wrong", "one"] o ds) (post1 Ψ) := fun _ _ _ ⟨ns, a, d, e1, e2, h1, q⟩ => by subst e1; subst e2; exact e_wr ns a d h1 _ q
theorem hs_law : ∀ ds Ψ, spLaw ds Ψ → d_law spPen spDraw spPe spDb spDe spWr (env0 ["script", "pen", "deed", "many", "due", "some", "blocks", "one", "last", "found", "e", "defs", "k", "letters", "word"] ds) (post0 Ψ) := fun _ _ ⟨ns, e, h, q⟩ => by subst e; exact e_law ns h _ q
end K62

namespace K62
open PySem PySem.Spec PyProof.Rows L2 Bk
theorem all_mk {l : PySem.W.OpenLaw} {w : World} {K : PySem.W.Frag} {h : Heap} {mg : Str → Option Value} {fa f1 f2 f3 f4 f5 f6 f7 f8 f9 f10 f11 f12 f13 f14 f15 f16 : Addr} (X : K.In h) (G : h.Ns mainGlobals mg) (hfa : mg "law" = some (.ref fa))
    {od1 an1 od2 an2 od3 an3 od4 an4 od5 an5 od6 an6 od7 an7 od8 an8 od9 an9 od10 an10 od11 an11 od12 an12 od13 an13 od14 an14 od15 an15 od16 an16 : Option Addr} {sl1 sl2 sl3 sl4 sl5 sl6 sl7 sl8 sl9 sl10 sl11 sl12 sl13 sl14 sl15 sl16 : Array (Option Value)} {oc1 kV1 dc1 pm1 cd1 ct1 oc2 kV2 dc2 pm2 cd2 ct2 oc3 kV3 dc3 pm3 cd3 ct3 oc4 kV4 dc4 pm4 cd4 ct4 oc5 kV5 dc5 pm5 cd5 ct5 oc6 kV6 dc6 pm6 cd6 ct6 oc7 kV7 dc7 pm7 cd7 ct7 oc8 kV8 dc8 pm8 cd8 ct8 oc9 kV9 dc9 pm9 cd9 ct9 oc10 kV10 dc10 pm10 cd10 ct10 oc11 kV11 dc11 pm11 cd11 ct11 oc12 kV12 dc12 pm12 cd12 ct12 oc13 kV13 dc13 pm13 cd13 ct13 oc14 kV14 dc14 pm14 cd14 ct14 oc15 kV15 dc15 pm15 cd15 ct15 oc16 kV16 dc16 pm16 cd16 ct16 : Value}
    (a1 : PySem.W.nsIn K mainGlobals "is_word" = some (some (.ref f1))) (l1 : K.lookup f1 = some ⟨oc1, od1, .func (PySem.W.fnOf "is_word" "is_word" (defArgs St_is_word) (defBody St_is_word) (defScope St_is_word) .none kV1 dc1 pm1 an1 cd1 ct1), sl1⟩) (c1 : PySem.W.codeIn K cd1 "is_word" = true) (k1 : PySem.W.keepIn K (.ref f1) = true)
    (a2 : PySem.W.nsIn K mainGlobals "is_expression" = some (some (.ref f2))) (l2 : K.lookup f2 = some ⟨oc2, od2, .func (PySem.W.fnOf "is_expression" "is_expression" (defArgs St_is_expression) (defBody St_is_expression) (defScope St_is_expression) .none kV2 dc2 pm2 an2 cd2 ct2), sl2⟩) (c2 : PySem.W.codeIn K cd2 "is_expression" = true) (k2 : PySem.W.keepIn K (.ref f2) = true)
    (a3 : PySem.W.nsIn K mainGlobals "is_statement" = some (some (.ref f3))) (l3 : K.lookup f3 = some ⟨oc3, od3, .func (PySem.W.fnOf "is_statement" "is_statement" (defArgs St_is_statement) (defBody St_is_statement) (defScope St_is_statement) .none kV3 dc3 pm3 an3 cd3 ct3), sl3⟩) (c3 : PySem.W.codeIn K cd3 "is_statement" = true) (k3 : PySem.W.keepIn K (.ref f3) = true)
    (a4 : PySem.W.nsIn K mainGlobals "is_block" = some (some (.ref f4))) (l4 : K.lookup f4 = some ⟨oc4, od4, .func (PySem.W.fnOf "is_block" "is_block" (defArgs St_is_block) (defBody St_is_block) (defScope St_is_block) .none kV4 dc4 pm4 an4 cd4 ct4), sl4⟩) (c4 : PySem.W.codeIn K cd4 "is_block" = true) (k4 : PySem.W.keepIn K (.ref f4) = true)
    (a5 : PySem.W.nsIn K mainGlobals "is_well_formed" = some (some (.ref f5))) (l5 : K.lookup f5 = some ⟨oc5, od5, .func (PySem.W.fnOf "is_well_formed" "is_well_formed" (defArgs St_is_well_formed) (defBody St_is_well_formed) (defScope St_is_well_formed) .none kV5 dc5 pm5 an5 cd5 ct5), sl5⟩) (c5 : PySem.W.codeIn K cd5 "is_well_formed" = true) (k5 : PySem.W.keepIn K (.ref f5) = true)
    (a6 : PySem.W.nsIn K mainGlobals "first_invalid" = some (some (.ref f6))) (l6 : K.lookup f6 = some ⟨oc6, od6, .func (PySem.W.fnOf "first_invalid" "first_invalid" (defArgs St_first_invalid) (defBody St_first_invalid) (defScope St_first_invalid) .none kV6 dc6 pm6 an6 cd6 ct6), sl6⟩) (c6 : PySem.W.codeIn K cd6 "first_invalid" = true) (k6 : PySem.W.keepIn K (.ref f6) = true)
    (a7 : PySem.W.nsIn K mainGlobals "called_words" = some (some (.ref f7))) (l7 : K.lookup f7 = some ⟨oc7, od7, .func (PySem.W.fnOf "called_words" "called_words" (defArgs St_called_words) (defBody St_called_words) (defScope St_called_words) .none kV7 dc7 pm7 an7 cd7 ct7), sl7⟩) (c7 : PySem.W.codeIn K cd7 "called_words" = true) (k7 : PySem.W.keepIn K (.ref f7) = true)
    (a8 : PySem.W.nsIn K mainGlobals "calls_itself" = some (some (.ref f8))) (l8 : K.lookup f8 = some ⟨oc8, od8, .func (PySem.W.fnOf "calls_itself" "calls_itself" (defArgs St_calls_itself) (defBody St_calls_itself) (defScope St_calls_itself) .none kV8 dc8 pm8 an8 cd8 ct8), sl8⟩) (c8 : PySem.W.codeIn K cd8 "calls_itself" = true) (k8 : PySem.W.keepIn K (.ref f8) = true)
    (a9 : PySem.W.nsIn K mainGlobals "program_error" = some (some (.ref f9))) (l9 : K.lookup f9 = some ⟨oc9, od9, .func (PySem.W.fnOf "program_error" "program_error" (defArgs St_program_error) (defBody St_program_error) (defScope St_program_error) .none kV9 dc9 pm9 an9 cd9 ct9), sl9⟩) (c9 : PySem.W.codeIn K cd9 "program_error" = true) (k9 : PySem.W.keepIn K (.ref f9) = true)
    (a10 : PySem.W.nsIn K mainGlobals "_law_pen" = some (some (.ref f10))) (l10 : K.lookup f10 = some ⟨oc10, od10, .func (PySem.W.fnOf "_law_pen" "_law_pen" (defArgs sPen) (defBody sPen) (defScope sPen) .none kV10 dc10 pm10 an10 cd10 ct10), sl10⟩) (c10 : PySem.W.codeIn K cd10 "_law_pen" = true) (k10 : PySem.W.keepIn K (.ref f10) = true)
    (a11 : PySem.W.nsIn K mainGlobals "_law_fresh" = some (some (.ref f11))) (l11 : K.lookup f11 = some ⟨oc11, od11, .func (PySem.W.fnOf "_law_fresh" "_law_fresh" (defArgs sFresh) (defBody sFresh) (defScope sFresh) .none kV11 dc11 pm11 an11 cd11 ct11), sl11⟩) (c11 : PySem.W.codeIn K cd11 "_law_fresh" = true) (k11 : PySem.W.keepIn K (.ref f11) = true)
    (a12 : PySem.W.nsIn K mainGlobals "_law_draw" = some (some (.ref f12))) (l12 : K.lookup f12 = some ⟨oc12, od12, .func (PySem.W.fnOf "_law_draw" "_law_draw" (defArgs sDraw) (defBody sDraw) (defScope sDraw) .none kV12 dc12 pm12 an12 cd12 ct12), sl12⟩) (c12 : PySem.W.codeIn K cd12 "_law_draw" = true) (k12 : PySem.W.keepIn K (.ref f12) = true)
    (a13 : PySem.W.nsIn K mainGlobals "_law_deep_e" = some (some (.ref f13))) (l13 : K.lookup f13 = some ⟨oc13, od13, .func (PySem.W.fnOf "_law_deep_e" "_law_deep_e" (defArgs St__law_deep_e) (defBody St__law_deep_e) (defScope St__law_deep_e) .none kV13 dc13 pm13 an13 cd13 ct13), sl13⟩) (c13 : PySem.W.codeIn K cd13 "_law_deep_e" = true) (k13 : PySem.W.keepIn K (.ref f13) = true)
    (a14 : PySem.W.nsIn K mainGlobals "_law_deep_block" = some (some (.ref f14))) (l14 : K.lookup f14 = some ⟨oc14, od14, .func (PySem.W.fnOf "_law_deep_block" "_law_deep_block" (defArgs St__law_deep_block) (defBody St__law_deep_block) (defScope St__law_deep_block) .none kV14 dc14 pm14 an14 cd14 ct14), sl14⟩) (c14 : PySem.W.codeIn K cd14 "_law_deep_block" = true) (k14 : PySem.W.keepIn K (.ref f14) = true)
    (a15 : PySem.W.nsIn K mainGlobals "_law_words_right" = some (some (.ref f15))) (l15 : K.lookup f15 = some ⟨oc15, od15, .func (PySem.W.fnOf "_law_words_right" "_law_words_right" (defArgs St__law_words_right) (defBody St__law_words_right) (defScope St__law_words_right) .none kV15 dc15 pm15 an15 cd15 ct15), sl15⟩) (c15 : PySem.W.codeIn K cd15 "_law_words_right" = true) (k15 : PySem.W.keepIn K (.ref f15) = true)
    (a16 : PySem.W.nsIn K mainGlobals "law" = some (some (.ref f16))) (l16 : K.lookup f16 = some ⟨oc16, od16, .func (PySem.W.fnOf "law" "law" (defArgs St_law) (defBody St_law) (defScope St_law) .none kV16 dc16 pm16 an16 cd16 ct16), sl16⟩) (c16 : PySem.W.codeIn K cd16 "law" = true) (k16 : PySem.W.keepIn K (.ref f16) = true)
    (z_isinstance : PySem.W.nsIn K mainGlobals "isinstance" = some none)
    (z_str : PySem.W.nsIn K mainGlobals "str" = some none)
    (z_len : PySem.W.nsIn K mainGlobals "len" = some none)
    (z_all : PySem.W.nsIn K mainGlobals "all" = some none)
    (z_tuple : PySem.W.nsIn K mainGlobals "tuple" = some none)
    (z_int : PySem.W.nsIn K mainGlobals "int" = some none)
    (z_bool : PySem.W.nsIn K mainGlobals "bool" = some none)
    (z_enumerate : PySem.W.nsIn K mainGlobals "enumerate" = some none)
    (z_dict : PySem.W.nsIn K mainGlobals "dict" = some none)
    (z_range : PySem.W.nsIn K mainGlobals "range" = some none)
    (z_list : PySem.W.nsIn K mainGlobals "list" = some none)
    {t_MAX_STATEMENTS : Tok} (i_MAX_STATEMENTS : PySem.W.nsIn K mainGlobals "MAX_STATEMENTS" = some (some (.int 20 t_MAX_STATEMENTS)))
    {t_MAX_DEFS : Tok} (i_MAX_DEFS : PySem.W.nsIn K mainGlobals "MAX_DEFS" = some (some (.int 6 t_MAX_DEFS)))
    {t_MAX_BLOCK_DEPTH : Tok} (i_MAX_BLOCK_DEPTH : PySem.W.nsIn K mainGlobals "MAX_BLOCK_DEPTH" = some (some (.int 6 t_MAX_BLOCK_DEPTH)))
    {t_MAX_EXPRESSION_DEPTH : Tok} (i_MAX_EXPRESSION_DEPTH : PySem.W.nsIn K mainGlobals "MAX_EXPRESSION_DEPTH" = some (some (.int 6 t_MAX_EXPRESSION_DEPTH)))
    {t_L : Tok} (i_L : PySem.W.nsIn K mainGlobals "LETTERS" = some (some (.str "abcdefghijklmnopqrstuvwxyz" t_L)))
    {d_O : Addr} {e_O : Array Value} {n_O : Nat} (a_O : PySem.W.nsIn K mainGlobals "OPERATORS" = some (some (.ref d_O))) (l_O : K.lookup d_O = some ⟨.type "tuple", none, .seq e_O n_O, #[]⟩) (v_O : Vals (([zS "plus", zS "less", zS "alike", zS "least"] : List PySem.Str).map V.str) e_O.toList)
    {d_S : Addr} {e_S : Array DictEntry} {n_S : Nat} (a_S : PySem.W.nsIn K mainGlobals "STATEMENT_SIZES" = some (some (.ref d_S))) (l_S : K.lookup d_S = some ⟨.type "dict", none, .dict e_S n_S, #[]⟩) (q_S : PySem.W.KeysLit w.params e_S.toList) (s_S : (d_S == sysModules) = false) (h_S : KD K sizesV e_S)
    {d_B : Addr} {e_B : Array DictEntry} {n_B : Nat} (a_B : PySem.W.nsIn K mainGlobals "BLOCK_PARTS" = some (some (.ref d_B))) (l_B : K.lookup d_B = some ⟨.type "dict", none, .dict e_B n_B, #[]⟩) (q_B : PySem.W.KeysLit w.params e_B.toList) (s_B : (d_B == sysModules) = false) (h_B : KD K partsV e_B)
    :
    ∃ fd : FuncData, (∀ (s : Shared) (v : Value), BindsTo s fd ⟨[v], []⟩ [("script", v)]) ∧ ∀ base : Heap, K.In base → base.Ns mainGlobals mg → FnOk l.prog w K mg base CX0 25 fa fd ["script"] (Pm K 1 spLaw) := by
  have e := hfa.symm.trans (PySem.W.mg_of X G a16)
  cases e
  have F1 := fun_mk (st := St_is_word) l1 c1 k1
  have b1 := F1.binds (ps := ["value"]) fun _ _ _ _ _ _ us hl => match us, hl with | [_], _ => rfl
  have m1 := PySem.W.mg_of X G a1
  have F2 := fun_mk (st := St_is_expression) l2 c2 k2
  have b2 := F2.binds (ps := ["value", "depth_left"]) fun _ _ _ _ _ _ us hl => match us, hl with | [_, _], _ => rfl
  have m2 := PySem.W.mg_of X G a2
  have F3 := fun_mk (st := St_is_statement) l3 c3 k3
  have b3 := F3.binds (ps := ["value", "depth"]) fun _ _ _ _ _ _ us hl => match us, hl with | [_, _], _ => rfl
  have m3 := PySem.W.mg_of X G a3
  have F4 := fun_mk (st := St_is_block) l4 c4 k4
  have b4 := F4.binds (ps := ["value", "depth"]) fun _ _ _ _ _ _ us hl => match us, hl with | [_, _], _ => rfl
  have m4 := PySem.W.mg_of X G a4
  have F5 := fun_mk (st := St_is_well_formed) l5 c5 k5
  have b5 := F5.binds (ps := ["value"]) fun _ _ _ _ _ _ us hl => match us, hl with | [_], _ => rfl
  have m5 := PySem.W.mg_of X G a5
  have F6 := fun_mk (st := St_first_invalid) l6 c6 k6
  have b6 := F6.binds (ps := ["block", "defs", "path", "in_loop"]) fun _ _ _ _ _ _ us hl => match us, hl with | [_, _, _, _], _ => rfl
  have m6 := PySem.W.mg_of X G a6
  have F7 := fun_mk (st := St_called_words) l7 c7 k7
  have b7 := F7.binds (ps := ["block"]) fun _ _ _ _ _ _ us hl => match us, hl with | [_], _ => rfl
  have m7 := PySem.W.mg_of X G a7
  have F8 := fun_mk (st := St_calls_itself) l8 c8 k8
  have b8 := F8.binds (ps := ["word", "defs"]) fun _ _ _ _ _ _ us hl => match us, hl with | [_, _], _ => rfl
  have m8 := PySem.W.mg_of X G a8
  have F9 := fun_mk (st := St_program_error) l9 c9 k9
  have b9 := F9.binds (ps := ["value"]) fun _ _ _ _ _ _ us hl => match us, hl with | [_], _ => rfl
  have m9 := PySem.W.mg_of X G a9
  have F10 := fun_mk (st := sPen) l10 c10 k10
  have b10 := F10.binds (ps := ["script"]) fun _ _ _ _ _ _ us hl => match us, hl with | [_], _ => rfl
  have m10 := PySem.W.mg_of X G a10
  have F11 := fun_mk (st := sFresh) l11 c11 k11
  have b11 := F11.binds (ps := ["pen"]) fun _ _ _ _ _ _ us hl => match us, hl with | [_], _ => rfl
  have m11 := PySem.W.mg_of X G a11
  have F12 := fun_mk (st := sDraw) l12 c12 k12
  have b12 := F12.binds (ps := ["pen", "many"]) fun _ _ _ _ _ _ us hl => match us, hl with | [_, _], _ => rfl
  have m12 := PySem.W.mg_of X G a12
  have F13 := fun_mk (st := St__law_deep_e) l13 c13 k13
  have b13 := F13.binds (ps := ["pen", "many"]) fun _ _ _ _ _ _ us hl => match us, hl with | [_, _], _ => rfl
  have m13 := PySem.W.mg_of X G a13
  have F14 := fun_mk (st := St__law_deep_block) l14 c14 k14
  have b14 := F14.binds (ps := ["pen", "many", "last"]) fun _ _ _ _ _ _ us hl => match us, hl with | [_, _, _], _ => rfl
  have m14 := PySem.W.mg_of X G a14
  have F15 := fun_mk (st := St__law_words_right) l15 c15 k15
  have b15 := F15.binds (ps := ["pen"]) fun _ _ _ _ _ _ us hl => match us, hl with | [_], _ => rfl
  have m15 := PySem.W.mg_of X G a15
  have F16 := fun_mk (st := St_law) l16 c16 k16
  have m16 := PySem.W.mg_of X G a16
  have n_isinstance := PySem.W.mg_none_of X G z_isinstance
  have n_str := PySem.W.mg_none_of X G z_str
  have n_len := PySem.W.mg_none_of X G z_len
  have n_all := PySem.W.mg_none_of X G z_all
  have n_tuple := PySem.W.mg_none_of X G z_tuple
  have n_int := PySem.W.mg_none_of X G z_int
  have n_bool := PySem.W.mg_none_of X G z_bool
  have n_enumerate := PySem.W.mg_none_of X G z_enumerate
  have n_dict := PySem.W.mg_none_of X G z_dict
  have n_range := PySem.W.mg_none_of X G z_range
  have n_list := PySem.W.mg_none_of X G z_list
  have m_MAX_STATEMENTS := PySem.W.mg_of X G i_MAX_STATEMENTS
  have m_MAX_DEFS := PySem.W.mg_of X G i_MAX_DEFS
  have m_MAX_BLOCK_DEPTH := PySem.W.mg_of X G i_MAX_BLOCK_DEPTH
  have m_MAX_EXPRESSION_DEPTH := PySem.W.mg_of X G i_MAX_EXPRESSION_DEPTH
  refine ⟨PySem.W.fnOf "law" "law" (defArgs St_law) (defBody St_law) (defScope St_law) .none kV16 dc16 pm16 an16 cd16 ct16, fun s v => .of_eq rfl, fun base _ _ => ?_⟩
  have m_L := PySem.W.mg_of X G i_L
  have m_O := PySem.W.mg_of X G a_O
  have m_S := PySem.W.mg_of X G a_S
  have m_B := PySem.W.mg_of X G a_B
  have D_S : KDict K w d_S e_S n_S := ⟨l_S, q_S, s_S⟩
  have D_B : KDict K w d_B e_B n_B := ⟨l_B, q_B, s_B⟩
  have h_O := ops_kept l_O v_O
  have Cw1 : Cal l.prog w K mg base "is_word" 1 (Pm K 1 spWord) := ⟨⟨f1, _, ["value"], ok_is_word F1 n_isinstance n_str n_len n_all m_L hs_word, m1, k1, b1⟩⟩
  have Ce8 : Cal l.prog w K mg base "is_expression" 8 (Pm K 2 (spExpr 6)) := ⟨⟨f2, _, ["value", "depth_left"], rec_expr F2 n_isinstance n_tuple n_len n_str n_int n_bool m_O (show RelV (.ref d_O) (.ref d_O) from rfl) h_O (fun _ _ h => ⟨⟨f2, _, ["value", "depth_left"], h, m2, k2, b2⟩⟩) Cw1 6, m2, k2, b2⟩⟩
  have Cb21 : Cal l.prog w K mg base "is_block" 21 (Pm K 2 (spBlk 6)) := ⟨⟨f4, _, ["value", "depth"], (rec_blk F4 F3 n_isinstance n_tuple n_str n_len n_all m_S D_S h_S m_MAX_EXPRESSION_DEPTH m_B D_B h_B m_MAX_STATEMENTS m_MAX_BLOCK_DEPTH (fun _ _ h => ⟨⟨f4, _, ["value", "depth"], h, m4, k4, b4⟩⟩) (fun _ _ h => ⟨⟨f3, _, ["value", "depth"], h, m3, k3, b3⟩⟩) Cw1 Ce8 6).1, m4, k4, b4⟩⟩
  have Cwf : Cal l.prog w K mg base "is_well_formed" 22 (Pm K 1 spWf) := ⟨⟨f5, _, ["value"], ok_is_well_formed F5 n_isinstance n_tuple n_len m_MAX_DEFS Cb21 (Cal.up Cw1 (by decide)) hs_wf, m5, k5, b5⟩⟩
  have Cfi : Cal l.prog w K mg base "first_invalid" 7 (Pm K 4 (spFi 6)) := ⟨⟨f6, _, ["block", "defs", "path", "in_loop"], rec_fi F6 n_enumerate m_B D_B h_B (fun _ _ h => ⟨⟨f6, _, ["block", "defs", "path", "in_loop"], h, m6, k6, b6⟩⟩) 6, m6, k6, b6⟩⟩
  have Ccw : Cal l.prog w K mg base "called_words" 7 (Pm K 1 (spCw 6)) := ⟨⟨f7, _, ["block"], rec_cw F7 m_B D_B h_B (fun _ _ h => ⟨⟨f7, _, ["block"], h, m7, k7, b7⟩⟩) 6, m7, k7, b7⟩⟩
  have Cci : Cal l.prog w K mg base "calls_itself" 8 (Pm K 2 spCi) := ⟨⟨f8, _, ["word", "defs"], ok_calls_itself F8 Ccw hs_ci, m8, k8, b8⟩⟩
  have Cpe : Cal l.prog w K mg base "program_error" 23 (Pm K 1 spPe) := ⟨⟨f9, _, ["value"], ok_program_error F9 n_dict n_enumerate Cwf (Cal.up Cfi (by decide)) (Cal.up Cci (by decide)) hs_pe, m9, k9, b9⟩⟩
  have Cfr1 : Cal l.prog w K mg base "_law_fresh" 1 (Pm1 K 1 spFresh) := ⟨⟨f11, _, ["pen"], ok_fresh F11 n_len n_range, m11, k11, b11⟩⟩
  have Cd2 : Cal l.prog w K mg base "_law_draw" 2 (Pm1 K 2 spDraw) := ⟨⟨f12, _, ["pen", "many"], ok_draw F12 Cfr1, m12, k12, b12⟩⟩
  have Cde : Cal l.prog w K mg base "_law_deep_e" 3 (Pm1 K 2 spDe) := ⟨⟨f13, _, ["pen", "many"], ok__law_deep_e F13 n_range Cd2 hs_de, m13, k13, b13⟩⟩
  have Cdb : Cal l.prog w K mg base "_law_deep_block" 3 (Pm1 K 3 spDb) := ⟨⟨f14, _, ["pen", "many", "last"], ok__law_deep_block F14 n_range Cd2 hs_db, m14, k14, b14⟩⟩
  have Cwr : Cal l.prog w K mg base "_law_words_right" 24 (Pm1 K 1 spWr) := ⟨⟨f15, _, ["pen"], ok__law_words_right F15 (Cal.up Cd2 (by decide)) Cpe hs_wr, m15, k15, b15⟩⟩
  have Cp : Cal l.prog w K mg base "_law_pen" 1 (Pm K 1 spPen) := ⟨⟨f10, _, ["script"], ok_pen F10 n_list, m10, k10, b10⟩⟩
  exact ok_law F16 n_range n_tuple (Cal.up Cp (by decide)) (Cal.up Cd2 (by decide)) (Cal.up Cpe (by decide)) (Cal.up Cdb (by decide)) (Cal.up Cde (by decide)) Cwr hs_law
end K62
open PySem PySem.W PyProof.Rows
set_option maxHeartbeats 0 in
theorem PySem.Challenge.cw_bentcoin_k62_bounds_of_programs_holds : PySem.Challenge.rw_bentcoin_k62_bounds_of_programs.Holds := by
  w_on; o_law; k_head; (case hw => w_witness2)
  k_fill
  refine L2.walk_of (l := PySem.Challenge.rw_bentcoin_k62_bounds_of_programs) (n := 63) (k := 25) (x := "script") (CX := fun _ => L2.CX0) (sp := fun w => Bk.Pm _ 1 Bk.spLaw) rfl (by decide) rfl ⟨rfl, by decide, by decide⟩ (fun w h Y => PySem.W.kIn_of Y) ?F (fun _ _ a ns hl _ hS => Bk.sp_start hl hS) (fun _ _ _ _ _ h => h)
  case F =>
    intro w mg fa h KX G hmg
    refine' K62.all_mk KX G hmg ?a1 ?l1 ?c1 ?k1 ?a2 ?l2 ?c2 ?k2 ?a3 ?l3 ?c3 ?k3 ?a4 ?l4 ?c4 ?k4 ?a5 ?l5 ?c5 ?k5 ?a6 ?l6 ?c6 ?k6 ?a7 ?l7 ?c7 ?k7 ?a8 ?l8 ?c8 ?k8 ?a9 ?l9 ?c9 ?k9 ?a10 ?l10 ?c10 ?k10 ?a11 ?l11 ?c11 ?k11 ?a12 ?l12 ?c12 ?k12 ?a13 ?l13 ?c13 ?k13 ?a14 ?l14 ?c14 ?k14 ?a15 ?l15 ?c15 ?k15 ?a16 ?l16 ?c16 ?k16 ?z_isinstance ?z_str ?z_len ?z_all ?z_tuple ?z_int ?z_bool ?z_enumerate ?z_dict ?z_range ?z_list ?i_MAX_STATEMENTS ?i_MAX_DEFS ?i_MAX_BLOCK_DEPTH ?i_MAX_EXPRESSION_DEPTH ?i_L ?a_O ?l_O ?v_O ?a_S ?l_S ?q_S ?s_S ?h_S ?a_B ?l_B ?q_B ?s_B ?h_B
    (case a1 => k_is); (case l1 => k_is); (case c1 => k_is); (case k1 => k_is); (case a2 => k_is); (case l2 => k_is); (case c2 => k_is); (case k2 => k_is); (case a3 => k_is); (case l3 => k_is); (case c3 => k_is); (case k3 => k_is); (case a4 => k_is); (case l4 => k_is); (case c4 => k_is); (case k4 => k_is); (case a5 => k_is); (case l5 => k_is); (case c5 => k_is); (case k5 => k_is); (case a6 => k_is); (case l6 => k_is); (case c6 => k_is); (case k6 => k_is); (case a7 => k_is); (case l7 => k_is); (case c7 => k_is); (case k7 => k_is); (case a8 => k_is); (case l8 => k_is); (case c8 => k_is); (case k8 => k_is); (case a9 => k_is); (case l9 => k_is); (case c9 => k_is); (case k9 => k_is); (case a10 => k_is); (case l10 => k_is); (case c10 => k_is); (case k10 => k_is); (case a11 => k_is); (case l11 => k_is); (case c11 => k_is); (case k11 => k_is); (case a12 => k_is); (case l12 => k_is); (case c12 => k_is); (case k12 => k_is); (case a13 => k_is); (case l13 => k_is); (case c13 => k_is); (case k13 => k_is); (case a14 => k_is); (case l14 => k_is); (case c14 => k_is); (case k14 => k_is); (case a15 => k_is); (case l15 => k_is); (case c15 => k_is); (case k15 => k_is); (case a16 => k_is); (case l16 => k_is); (case c16 => k_is); (case k16 => k_is); (case z_isinstance => k_is); (case z_str => k_is); (case z_len => k_is); (case z_all => k_is); (case z_tuple => k_is); (case z_int => k_is); (case z_bool => k_is); (case z_enumerate => k_is); (case z_dict => k_is); (case z_range => k_is); (case z_list => k_is); (case i_MAX_STATEMENTS => k_is); (case i_MAX_DEFS => k_is); (case i_MAX_BLOCK_DEPTH => k_is); (case i_MAX_EXPRESSION_DEPTH => k_is)
    (case i_L => k_is)
    (case a_O => k_is)
    (case l_O => k_is)
    (case v_O => exact .cons ⟨_, rfl⟩ (.cons ⟨_, rfl⟩ (.cons ⟨_, rfl⟩ (.cons ⟨_, rfl⟩ (.nil)))))
    (case a_S => k_is)
    (case l_S => k_is)
    (case q_S => exact ⟨⟨_, _, rfl, rfl⟩, ⟨⟨_, _, rfl, rfl⟩, ⟨⟨_, _, rfl, rfl⟩, ⟨⟨_, _, rfl, rfl⟩, ⟨⟨_, _, rfl, rfl⟩, ⟨⟨_, _, rfl, rfl⟩, ⟨⟨_, _, rfl, rfl⟩, trivial⟩⟩⟩⟩⟩⟩⟩)
    (case s_S => rfl)
    (case h_S => exact K62.siz_kept)
    (case a_B => k_is)
    (case l_B => k_is)
    (case q_B => exact ⟨⟨_, _, rfl, rfl⟩, ⟨⟨_, _, rfl, rfl⟩, ⟨⟨_, _, rfl, rfl⟩, trivial⟩⟩⟩)
    (case s_B => rfl)
    (case h_B => refine' K62.par_kept ?l0 ?v0 ?l1 ?v1 ?l2 ?v2; (case l0 => k_is); (case l1 => k_is); (case l2 => k_is); (case v0 => exact .cons ⟨_, rfl⟩ (.cons ⟨_, rfl⟩ (.nil))); (case v1 => exact .cons ⟨_, rfl⟩ (.cons ⟨_, rfl⟩ (.nil))); (case v2 => exact .cons ⟨_, rfl⟩ (.nil)))
