import PyProof.Rows.All
import HandS.ForMost
import HandS.Exc
import HandS.ExcOwn
import HandS.TryOnly
import HandS.TryMany
import HandS.TryElse
import HandS.SuiteRaise
import HandS.WordsExc
import HandS.CallSlots
import HandS.Wide
import HandS.WideBits
import HandS.IsInst
import HandS.EndBits
import HandS.Defaults
import HandS.Head0
import HandS.Head1
import HandS.Head2
import HandS.HeadEnd
import HandS.HeadHook1
import HandS.HeadHook2
import KE.KStateDown
import HandS.TupAny
import HandS.TupLe
import HandS.DictComp
import KE.KEqNest
import HandS.More
import HandS.ExcIs
import HandS.HeadWalk
import HandS.Dict
import HandS.Iter
import HandS.Walk
import HandS.SortInts
import HandS.Finally
import HandS.ClsMeth
import HandS.SortKw
import PyProof.TupleOfSeq
import KE.BitLaws
import PySem.Challenge.RW_twinwires_k23_the_same_but_for_a_factor
set_option Elab.async false
set_option linter.all false
set_option maxRecDepth 100000
/-! TW1: values without a heap (D), owned lists and dicts in slots, and how a state of these stands in the layer's heap. -/
namespace TW
open PySem PySem.Spec L2

/-- a value: tuples, lists and dicts by what they hold; ref: a thing of the logical heap -/
inductive D where
  | non | bl (b : Bool) | int (i : Int) | str (x : Str)
  | tup (ds : List D) | lst (ds : List D) | scr (ds : List D) | dic (kvs : List (Key × D)) | ins (C : Str) (fs : List (Str × D)) | ref (k : Nat) | exn (c : Str)

/-- what is fixed for one law: the written part, the classes' addresses, the exceptions' classes -/
structure SX where
  K : PySem.W.Frag
  CA : Str → Addr → Prop
  EX : Str → Value → Prop
  CL : Str → List V → HO → Prop
  EO : Str → HO → Prop
  cur : Option (Str × Addr) := none

mutual
inductive VR (Z : SX) (B : Hp) (ρ : List Addr) : V → D → Prop
  | non : VR Z B ρ .non .non
  | bl (b : Bool) : VR Z B ρ (.bl b) (.bl b)
  | int (i : Int) : VR Z B ρ (.int i) (.int i)
  | str (x : Str) : VR Z B ρ (.str x) (.str x)
  | tup {a : Addr} {xs : List V} {ds : List D} (h : SqT Z.K B a xs) (hs : VRs Z B ρ xs ds) : VR Z B ρ (.ref a) (.tup ds)
  | lst {a : Addr} {xs : List V} {ds : List D} (h : B a = some (.lst xs)) (hs : VRs Z B ρ xs ds) : VR Z B ρ (.ref a) (.lst ds)
  | scr {a : Addr} {xs : List V} {ds : List D} (h : SqL Z.K B a xs) (hs : VRs Z B ρ xs ds) : VR Z B ρ (.ref a) (.scr ds)
  | dic {a : Addr} {ks : List (Key × V)} {ds : List (Key × D)} (h : Rd B a (.dK ks)) (hs : VRk Z B ρ ks ds) : VR Z B ρ (.ref a) (.dic ds)
  | ins {a C dx : Addr} {c : Str} {fs : List (Str × V)} {ds : List (Str × D)} (hc : Z.CA c C) (h : B a = some (.ins C dx fs)) (hs : VRf Z B ρ fs ds) : VR Z B ρ (.ref a) (.ins c ds)
  | ref {a : Addr} {k : Nat} (h : ρ[k]? = some a) : VR Z B ρ (.ref a) (.ref k)
  | exn {a : Addr} {c : Str} {o : HO} (h : B a = some o) (e : Z.EO c o) (n1 : ∀ ks, o ≠ .dK ks) (n2 : ∀ ob u, o ≠ .frz ob u) : VR Z B ρ (.ref a) (.exn c)
inductive VRs (Z : SX) (B : Hp) (ρ : List Addr) : List V → List D → Prop
  | nil : VRs Z B ρ [] []
  | cons {v : V} {d : D} {vs : List V} {ds : List D} (h : VR Z B ρ v d) (hs : VRs Z B ρ vs ds) : VRs Z B ρ (v :: vs) (d :: ds)
inductive VRk (Z : SX) (B : Hp) (ρ : List Addr) : List (Key × V) → List (Key × D) → Prop
  | nil : VRk Z B ρ [] []
  | cons {k : Key} {v : V} {d : D} {vs : List (Key × V)} {ds : List (Key × D)} (h : VR Z B ρ v d) (hs : VRk Z B ρ vs ds) : VRk Z B ρ ((k, v) :: vs) ((k, d) :: ds)
inductive VRf (Z : SX) (B : Hp) (ρ : List Addr) : List (Str × V) → List (Str × D) → Prop
  | nil : VRf Z B ρ [] []
  | cons {k : Str} {v : V} {d : D} {vs : List (Str × V)} {ds : List (Str × D)} (h : VR Z B ρ v d) (hs : VRf Z B ρ vs ds) : VRf Z B ρ ((k, v) :: vs) ((k, d) :: ds)
end

/-- what may be read in the one may be read in the other -/
structure Le (B B' : Hp) : Prop where
  rl : ∀ a xs, Rd B a (.lst xs) → Rd B' a (.lst xs)
  rt : ∀ a xs, Rd B a (.tup xs) → Rd B' a (.tup xs)
  rd : ∀ a ks, Rd B a (.dK ks) → Rd B' a (.dK ks)
  ot : ∀ a o, B a = some o → (∀ ks, o ≠ .dK ks) → (∀ ob u, o ≠ .frz ob u) → B' a = some o
theorem Le.of_same {B B' : Hp} (h : Same B B') : Le B B' := by
  have rd : ∀ a u, Rd B a u → Rd B' a u := fun a u r => by
    rcases r with r | ⟨o, r⟩
    · exact .inl (h _ _ r)
    · exact .inr ⟨o, h _ _ r⟩
  exact ⟨fun a xs => rd a _, fun a xs => rd a _, fun a xs => rd a _, fun a o e _ _ => h _ _ e⟩
theorem Le.refl (B : Hp) : Le B B := .of_same fun _ _ e => e
theorem Le.trans {A B C : Hp} (h : Le A B) (h' : Le B C) : Le A C := ⟨fun a u r => h'.rl a u (h.rl a u r), fun a u r => h'.rt a u (h.rt a u r), fun a u r => h'.rd a u (h.rd a u r), fun a o e n1 n2 => h'.ot a o (h.ot a o e n1 n2) n1 n2⟩
theorem Le.seq {K : PySem.W.Frag} {B B' : Hp} (h : Le B B') {a : Addr} {xs : List V} (r : SqL K B a xs) : SqL K B' a xs := by
  rcases r with r | r
  · exact .inl (h.rl _ _ r)
  · exact .inr r
theorem Le.tup {K : PySem.W.Frag} {B B' : Hp} (h : Le B B') {a : Addr} {xs : List V} (r : SqT K B a xs) : SqT K B' a xs := by
  rcases r with r | r
  · exact .inl (h.rt _ _ r)
  · exact .inr r
theorem Le.lst {B B' : Hp} (h : Le B B') {a : Addr} {xs : List V} (r : B a = some (.lst xs)) : B' a = some (.lst xs) := h.ot a _ r (fun _ => by simp) fun _ _ => by simp
theorem Le.ins {B B' : Hp} (h : Le B B') {a C dx : Addr} {fs : List (Str × V)} (r : B a = some (.ins C dx fs)) : B' a = some (.ins C dx fs) := h.ot a _ r (fun _ => by simp) fun _ _ => by simp
/-- one list of addresses goes on the other -/
def Ex (ρ ρ' : List Addr) : Prop := ∀ (k : Nat) a, ρ[k]? = some a → ρ'[k]? = some a
theorem Ex.refl (ρ : List Addr) : Ex ρ ρ := fun _ _ h => h
theorem Ex.trans {a b c : List Addr} (h : Ex a b) (h' : Ex b c) : Ex a c := fun k x e => h' k x (h k x e)
theorem Ex.nil (ρ : List Addr) : Ex [] ρ := fun k x e => by simp at e
theorem Ex.app (ρ τ : List Addr) : Ex ρ (ρ ++ τ) := fun k x e => by
  have hk : k < ρ.length := (List.getElem?_eq_some_iff.mp e).1
  rw [List.getElem?_append_left hk]
  exact e

mutual
theorem VR.mono {Z : SX} {B B' : Hp} {ρ ρ' : List Addr} (hB : Le B B') (hρ : Ex ρ ρ') : ∀ {v : V} {d : D}, VR Z B ρ v d → VR Z B' ρ' v d
  | _, _, .non => .non
  | _, _, .bl b => .bl b
  | _, _, .int i => .int i
  | _, _, .str x => .str x
  | _, _, .tup h hs => .tup (hB.tup h) (VRs.mono hB hρ hs)
  | _, _, .lst h hs => .lst (hB.lst h) (VRs.mono hB hρ hs)
  | _, _, .scr h hs => .scr (hB.seq h) (VRs.mono hB hρ hs)
  | _, _, .dic h hs => .dic (hB.rd _ _ h) (VRk.mono hB hρ hs)
  | _, _, .ins hc h hs => .ins hc (hB.ins h) (VRf.mono hB hρ hs)
  | _, _, .ref h => .ref (hρ _ _ h)
  | _, _, .exn h e n1 n2 => .exn (hB.ot _ _ h n1 n2) e n1 n2
theorem VRs.mono {Z : SX} {B B' : Hp} {ρ ρ' : List Addr} (hB : Le B B') (hρ : Ex ρ ρ') : ∀ {v : List V} {d : List D}, VRs Z B ρ v d → VRs Z B' ρ' v d
  | _, _, .nil => .nil
  | _, _, .cons h hs => .cons (VR.mono hB hρ h) (VRs.mono hB hρ hs)
theorem VRk.mono {Z : SX} {B B' : Hp} {ρ ρ' : List Addr} (hB : Le B B') (hρ : Ex ρ ρ') : ∀ {v : List (Key × V)} {d : List (Key × D)}, VRk Z B ρ v d → VRk Z B' ρ' v d
  | _, _, .nil => .nil
  | _, _, .cons h hs => .cons (VR.mono hB hρ h) (VRk.mono hB hρ hs)
theorem VRf.mono {Z : SX} {B B' : Hp} {ρ ρ' : List Addr} (hB : Le B B') (hρ : Ex ρ ρ') : ∀ {v : List (Str × V)} {d : List (Str × D)}, VRf Z B ρ v d → VRf Z B' ρ' v d
  | _, _, .nil => .nil
  | _, _, .cons h hs => .cons (VR.mono hB hρ h) (VRf.mono hB hρ hs)
end

/-! ### lists of values -/
section
variable {Z : SX} {B : Hp} {ρ : List Addr}
theorem VRs.length : ∀ {vs : List V} {ds : List D}, VRs Z B ρ vs ds → vs.length = ds.length
  | _, _, .nil => rfl
  | _, _, .cons _ t => by rw [List.length_cons, List.length_cons, VRs.length t]
theorem VRs.get : ∀ {vs : List V} {ds : List D} {i : Nat} {d : D}, VRs Z B ρ vs ds → ds[i]? = some d → ∃ v, vs[i]? = some v ∧ VR Z B ρ v d
  | _, _, _, _, .nil, e => by simp at e
  | _, _, 0, _, .cons h _, e => ⟨_, rfl, by simp at e; subst e; exact h⟩
  | _, _, i + 1, d, .cons _ t, e => by
    obtain ⟨v, h1, h2⟩ := VRs.get (i := i) (d := d) t (by simpa using e)
    exact ⟨v, by simpa using h1, h2⟩
theorem VRs.get' : ∀ {vs : List V} {ds : List D} {i : Nat} {v : V}, VRs Z B ρ vs ds → vs[i]? = some v → ∃ d, ds[i]? = some d ∧ VR Z B ρ v d
  | _, _, _, _, .nil, e => by simp at e
  | _, _, 0, _, .cons h _, e => ⟨_, rfl, by simp at e; subst e; exact h⟩
  | _, _, i + 1, v, .cons _ t, e => by
    obtain ⟨d, h1, h2⟩ := VRs.get' (i := i) (v := v) t (by simpa using e)
    exact ⟨d, by simpa using h1, h2⟩
theorem VRs.append : ∀ {vs ws : List V} {ds es : List D}, VRs Z B ρ vs ds → VRs Z B ρ ws es → VRs Z B ρ (vs ++ ws) (ds ++ es)
  | _, _, _, _, .nil, s => s
  | _, _, _, _, .cons r t, s => .cons r (VRs.append t s)
theorem VRs.take : ∀ {vs : List V} {ds : List D} (n : Nat), VRs Z B ρ vs ds → VRs Z B ρ (vs.take n) (ds.take n)
  | _, _, 0, _ => .nil
  | _, _, _ + 1, .nil => .nil
  | _, _, n + 1, .cons r t => .cons r (VRs.take n t)
theorem VRs.drop : ∀ {vs : List V} {ds : List D} (n : Nat), VRs Z B ρ vs ds → VRs Z B ρ (vs.drop n) (ds.drop n)
  | _, _, 0, r => r
  | _, _, _ + 1, .nil => .nil
  | _, _, n + 1, .cons _ t => VRs.drop n t
theorem VRs.set {v : V} {d : D} (r : VR Z B ρ v d) : ∀ {vs : List V} {ds : List D} (i : Nat), VRs Z B ρ vs ds → VRs Z B ρ (vs.set i v) (ds.set i d)
  | _, _, _, .nil => .nil
  | _, _, 0, .cons _ t => .cons r t
  | _, _, i + 1, .cons q t => .cons q (VRs.set r i t)
theorem VRs.erase : ∀ {vs : List V} {ds : List D} (i : Nat), VRs Z B ρ vs ds → VRs Z B ρ (vs.eraseIdx i) (ds.eraseIdx i)
  | _, _, _, .nil => .nil
  | _, _, 0, .cons _ t => t
  | _, _, i + 1, .cons q t => .cons q (VRs.erase i t)
theorem VRs.dropLast : ∀ {vs : List V} {ds : List D}, VRs Z B ρ vs ds → VRs Z B ρ vs.dropLast ds.dropLast
  | _, _, .nil => .nil
  | _, _, .cons _ .nil => .nil
  | _, _, .cons q (.cons r t) => .cons q (VRs.dropLast (.cons r t))
theorem VRs.reverse : ∀ {vs : List V} {ds : List D}, VRs Z B ρ vs ds → VRs Z B ρ vs.reverse ds.reverse
  | _, _, .nil => .nil
  | _, _, .cons q t => by
    rw [List.reverse_cons, List.reverse_cons]
    exact (VRs.reverse t).append (.cons q .nil)
theorem VRs.flatRep {vs : List V} {ds : List D} (r : VRs Z B ρ vs ds) : ∀ k : Nat, VRs Z B ρ (List.replicate k vs).flatten (List.replicate k ds).flatten
  | 0 => .nil
  | k + 1 => by
    rw [List.replicate_succ, List.replicate_succ, List.flatten_cons, List.flatten_cons]
    exact r.append (VRs.flatRep r k)
/-- ints, texts, truths alone -/
theorem VRs.ints : ∀ {vs : List V} {ns : List Int}, VRs Z B ρ vs (ns.map D.int) → vs = ns.map V.int
  | vs, [], h => by
    cases h
    rfl
  | vs, n :: ns, h => by
    cases h with
    | cons h t =>
      cases h
      rw [VRs.ints t]
      rfl
theorem VRs.of_ints : ∀ ns : List Int, VRs Z B ρ (ns.map V.int) (ns.map D.int)
  | [] => .nil
  | n :: ns => .cons (.int n) (VRs.of_ints ns)
theorem VRs.strs : ∀ {vs : List V} {ns : List Str}, VRs Z B ρ vs (ns.map D.str) → vs = ns.map V.str
  | vs, [], h => by
    cases h
    rfl
  | vs, n :: ns, h => by
    cases h with
    | cons h t =>
      cases h
      rw [VRs.strs t]
      rfl
theorem VRs.of_strs : ∀ ns : List Str, VRs Z B ρ (ns.map V.str) (ns.map D.str)
  | [] => .nil
  | n :: ns => .cons (.str n) (VRs.of_strs ns)
theorem VRs.bls : ∀ {vs : List V} {ns : List Bool}, VRs Z B ρ vs (ns.map D.bl) → vs = ns.map V.bl
  | vs, [], h => by
    cases h
    rfl
  | vs, n :: ns, h => by
    cases h with
    | cons h t =>
      cases h
      rw [VRs.bls t]
      rfl
theorem VRk.length : ∀ {vs : List (Key × V)} {ds : List (Key × D)}, VRk Z B ρ vs ds → vs.length = ds.length
  | _, _, .nil => rfl
  | _, _, .cons _ t => by rw [List.length_cons, List.length_cons, VRk.length t]
theorem VRf.lookup : ∀ {vs : List (Str × V)} {ds : List (Str × D)} {f : Str} {d : D}, VRf Z B ρ vs ds → ds.lookup f = some d → ∃ v, vs.lookup f = some v ∧ VR Z B ρ v d
  | _, _, _, _, .nil, e => by simp at e
  | (k, _) :: _, _, f, d, .cons h t, e => by
    rw [List.lookup_cons] at e ⊢
    cases q : f == k with
    | true =>
      rw [q] at e
      injection e with e
      subst e
      exact ⟨_, rfl, h⟩
    | false =>
      rw [q] at e
      exact VRf.lookup t e
theorem VRf.none : ∀ {vs : List (Str × V)} {ds : List (Str × D)} {f : Str}, VRf Z B ρ vs ds → ds.lookup f = Option.none → vs.lookup f = Option.none
  | _, _, _, .nil, e => rfl
  | (k, _) :: _, _, f, .cons h t, e => by
    rw [List.lookup_cons] at e ⊢
    cases q : f == k with
    | true =>
      rw [q] at e
      cases e
    | false =>
      rw [q] at e
      exact VRf.none t e
theorem VRf.length : ∀ {vs : List (Str × V)} {ds : List (Str × D)}, VRf Z B ρ vs ds → vs.length = ds.length
  | _, _, .nil => rfl
  | _, _, .cons _ t => by rw [List.length_cons, List.length_cons, VRf.length t]
end

/-! ### dicts, fields, by values -/
def dget (kvs : List (Key × D)) (k : Key) : Option D := (kvs.find? fun kv => decide (kv.1 = k)).map (·.2)
def dput (kvs : List (Key × D)) (k : Key) (v : D) : List (Key × D) :=
  if (kvs.any fun kv => decide (kv.1 = k)) = true then kvs.map fun kv => if kv.1 = k then (kv.1, v) else kv else kvs ++ [(k, v)]
def ddrop (kvs : List (Key × D)) (k : Key) : List (Key × D) := kvs.filter fun kv => decide (kv.1 ≠ k)
def fput (f : Str) (v : D) : List (Str × D) → List (Str × D)
  | [] => [(f, v)]
  | (g, u) :: r => if g = f then (g, v) :: r else (g, u) :: fput f v r
section
variable {Z : SX} {B : Hp} {ρ : List Addr}
theorem VRk.get : ∀ {vs : List (Key × V)} {ds : List (Key × D)} (k : Key), VRk Z B ρ vs ds →
    (dget ds k = none ∧ valV vs k = none) ∨ ∃ d v, dget ds k = some d ∧ valV vs k = some v ∧ VR Z B ρ v d
  | _, _, _, .nil => .inl ⟨rfl, rfl⟩
  | (j, v) :: vs, (_, d) :: ds, k, .cons h t => by
    by_cases e : j = k
    · refine .inr ⟨d, v, ?_, valV_pos e, h⟩
      unfold dget
      rw [List.find?_cons, decide_eq_true e]
      rfl
    · have e1 : dget ((j, d) :: ds) k = dget ds k := by
        unfold dget
        rw [List.find?_cons, decide_eq_false e]
      rw [e1, valV_neg e]
      exact VRk.get k t
theorem VRk.any : ∀ {vs : List (Key × V)} {ds : List (Key × D)} (k : Key), VRk Z B ρ vs ds → (vs.any fun kv => decide (kv.1 = k)) = ds.any fun kv => decide (kv.1 = k)
  | _, _, _, .nil => rfl
  | _, _, k, .cons _ t => by
    rw [List.any_cons, List.any_cons, VRk.any k t]
theorem VRk.append : ∀ {vs ws : List (Key × V)} {ds es : List (Key × D)}, VRk Z B ρ vs ds → VRk Z B ρ ws es → VRk Z B ρ (vs ++ ws) (ds ++ es)
  | _, _, _, _, .nil, s => s
  | _, _, _, _, .cons r t, s => .cons r (VRk.append t s)
theorem VRk.repl {v : V} {d : D} (r : VR Z B ρ v d) (k : Key) : ∀ {vs : List (Key × V)} {ds : List (Key × D)}, VRk Z B ρ vs ds →
    VRk Z B ρ (vs.map fun kv => if kv.1 = k then (kv.1, v) else kv) (ds.map fun kv => if kv.1 = k then (kv.1, d) else kv)
  | _, _, .nil => .nil
  | (j, _) :: _, (_, _) :: _, .cons h t => by
    rw [List.map_cons, List.map_cons]
    by_cases e : j = k
    · rw [if_pos e, if_pos e]
      exact .cons r (VRk.repl r k t)
    · rw [if_neg e, if_neg e]
      exact .cons h (VRk.repl r k t)
theorem VRk.put {v : V} {d : D} (r : VR Z B ρ v d) (k : Key) {vs : List (Key × V)} {ds : List (Key × D)} (h : VRk Z B ρ vs ds) : VRk Z B ρ (putK vs k v) (dput ds k d) := by
  unfold putK dput
  rw [← VRk.any k h]
  by_cases e : (vs.any fun kv => decide (kv.1 = k)) = true
  · rw [if_pos e, if_pos e]
    exact h.repl r k
  · rw [if_neg e, if_neg e]
    exact h.append (.cons r .nil)
theorem VRk.dropK (k : Key) : ∀ {vs : List (Key × V)} {ds : List (Key × D)}, VRk Z B ρ vs ds → VRk Z B ρ (L2.dropK vs k) (ddrop ds k)
  | _, _, .nil => .nil
  | (j, _) :: _, (_, _) :: _, .cons h t => by
    unfold L2.dropK ddrop
    rw [List.filter_cons, List.filter_cons]
    by_cases e : j ≠ k
    · rw [if_pos (decide_eq_true e), if_pos (decide_eq_true e)]
      exact .cons h (VRk.dropK k t)
    · rw [if_neg (by rw [decide_eq_false e]; exact Bool.false_ne_true), if_neg (by rw [decide_eq_false e]; exact Bool.false_ne_true)]
      exact VRk.dropK k t
theorem VRf.put {v : V} {d : D} (r : VR Z B ρ v d) (f : Str) : ∀ {vs : List (Str × V)} {ds : List (Str × D)}, VRf Z B ρ vs ds → VRf Z B ρ (putF f v vs) (fput f d ds)
  | _, _, .nil => .cons r .nil
  | (j, _) :: _, (_, _) :: _, .cons h t => by
    unfold putF fput
    by_cases e : j = f
    · rw [if_pos e, if_pos e]
      exact .cons r t
    · rw [if_neg e, if_neg e]
      exact .cons h (VRf.put r f t)
end
/-! ### owned things, slots, the logical heap -/
inductive Cont where
  | lst (ds : List D) | dic (kvs : List (Key × D))
def Cont.toD : Cont → D
  | .lst ds => .lst ds
  | .dic kvs => .dic kvs
/-- a slot's content: a value, or a list or dict of the frame's own that nothing else refers to (locked while it is walked) -/
inductive Sl where
  | val (d : D) | own (c : Cont) (lk : Bool) | exc (c : Str)
inductive LO where
  | con (c : Cont) (lk : Bool) | ins (C : Str) (fs : List (Str × D)) | clo (id : Str) (ds : List D)
structure DS where
  sl : List (Option Sl)
  L : List LO
inductive RV where
  | val (d : D) | own (c : Cont) | plc (i : Nat)
inductive Res (α : Type) where
  | ok (a : α) (S : DS) | exc (c : Str) (S : DS) | stk
def Res.bind {α β : Type} (m : Res α) (k : α → DS → Res β) : Res β := match m with
  | .ok a S => k a S
  | .exc c S => .exc c S
  | .stk => .stk
def Wp {α : Type} (m : Res α) (P : α → DS → Prop) (E : Str → DS → Prop) : Prop := match m with
  | .ok a S => P a S
  | .exc c S => E c S
  | .stk => False
theorem Wp.bind {α β : Type} {m : Res α} {k : α → DS → Res β} {P : β → DS → Prop} {E : Str → DS → Prop} (h : Wp (m.bind k) P E) : Wp m (fun a S => Wp (k a S) P E) E := by
  cases m with
  | ok a S => exact h
  | exc c S => exact h
  | stk => exact h
theorem Wp.mono {α : Type} {m : Res α} {P P' : α → DS → Prop} {E E' : Str → DS → Prop} (h : Wp m P E) (hP : ∀ a S, P a S → P' a S) (hE : ∀ c S, E c S → E' c S) : Wp m P' E' := by
  cases m with
  | ok a S => exact hP _ _ h
  | exc c S => exact hE _ _ h
  | stk => exact h

theorem Wp.monoE {α : Type} {m : Res α} {P P' : α → DS → Prop} {E E' : Str → DS → Prop} (h : Wp m P E) (hP : ∀ a S, m = .ok a S → P a S → P' a S) (hE : ∀ c S, E c S → E' c S) : Wp m P' E' := by
  cases m with
  | ok a S => exact hP _ _ rfl h
  | exc c S => exact hE _ _ h
  | stk => exact h
section
variable (Z : SX)
/-- what an owned thing is in the layer -/
def CO (B : Hp) (ρ : List Addr) : Cont → HO → Prop
  | .lst ds, o => ∃ xs, o = .lst xs ∧ VRs Z B ρ xs ds
  | .dic kvs, o => ∃ ks, o = .dK ks ∧ VRk Z B ρ ks kvs
def CR (B : Hp) (ρ : List Addr) (H : Hp) (a : Addr) (c : Cont) (lk : Bool) : Prop := ∃ o, CO Z B ρ c o ∧ (H a = some o ∨ (lk = true ∧ (∃ ks, o = .dK ks) ∧ ∃ ob, H a = some (.frz ob o)))
/-- where others hold it: a locked dict is known to them -/
def FA (F : Hp) (a : Addr) : Cont → Bool → Prop
  | .dic _, true => ∃ ob u, F a = some (.frz ob u)
  | _, _ => F a = none
def LF (F : Hp) (a : Addr) : LO → Prop
  | .con c lk => FA F a c lk
  | _ => F a = none
def LR (B : Hp) (ρ : List Addr) (H : Hp) (a : Addr) : LO → Prop
  | .con c lk => CR Z B ρ H a c lk
  | .ins C fs => ∃ Ca dx vs, Z.CA C Ca ∧ H a = some (.ins Ca dx vs) ∧ VRf Z B ρ vs fs
  | .clo id ds => ∃ o vs, Z.CL id vs o ∧ H a = some o ∧ VRs Z B ρ vs ds
/-- the heap's part: B: what never changes again; F: what others own; ρ: the logical heap's addresses -/
structure RelH (F : Hp) (L : List LO) (H B : Hp) (ρ : List Addr) : Prop where
  bh : Same B H
  fh : Same F H
  fb : ∀ a o, F a = some o → B a = none
  rlen : ρ.length = L.length
  rnd : ρ.Nodup
  rb : ∀ a, a ∈ ρ → B a = none
  rf : ∀ (k : Nat) a o, ρ[k]? = some a → L[k]? = some o → LF F a o
  hp : ∀ (k : Nat) a o, ρ[k]? = some a → L[k]? = some o → LR Z B ρ H a o
def OwnAt (S : DS) (σ : St) (i : Nat) (a : Addr) : Prop := ∃ c lk, S.sl[i]? = some (some (.own c lk)) ∧ σ[i]? = some (some (.ref a))
structure Rel (F : Hp) (S : DS) (σ : St) (H B : Hp) (ρ : List Addr) : Prop extends RelH Z F S.L H B ρ where
  len : S.sl.length = σ.length
  vals : ∀ (i : Nat) d, S.sl[i]? = some (some (.val d)) → ∃ v, σ[i]? = some (some v) ∧ VR Z B ρ v d
  owns : ∀ (i : Nat) c lk, S.sl[i]? = some (some (.own c lk)) → ∃ a, σ[i]? = some (some (.ref a)) ∧ CR Z B ρ H a c lk ∧ B a = none ∧ FA F a c lk ∧ a ∉ ρ
  sep : ∀ i j a, OwnAt S σ i a → OwnAt S σ j a → i = j
  excs : ∀ (i : Nat) c, S.sl[i]? = some (some (.exc c)) → ∃ a, Z.cur = some (c, a) ∧ σ[i]? = some (some (.ref a))
/-- a new thing that nothing refers to yet -/
def Fresh (F : Hp) (S : DS) (σ : St) (B : Hp) (ρ : List Addr) (a : Addr) : Prop := B a = none ∧ F a = none ∧ a ∉ ρ ∧ ∀ i, ¬ OwnAt S σ i a
def RVR (F : Hp) (S : DS) (σ : St) (H B : Hp) (ρ : List Addr) (v : V) : RV → Prop
  | .val d => VR Z B ρ v d
  | .own c => ∃ a, v = .ref a ∧ CR Z B ρ H a c false ∧ Fresh F S σ B ρ a
  | .plc i => σ[i]? = some (some v)
end

section
variable {Z : SX} {F : Hp} {S : DS} {σ : St} {H B B' : Hp} {ρ ρ' : List Addr}
theorem FA.free {a : Addr} {c : Cont} (h : FA F a c false) : F a = none := by
  cases c <;> exact h
theorem FA.of {a : Addr} {c : Cont} (h : F a = none) : FA F a c false := by
  cases c <;> exact h
theorem FA.lst {a : Addr} {ds : List D} {lk : Bool} (h : FA F a (.lst ds) lk) : F a = none := h
theorem FA.ne {a b : Addr} {o : HO} {c : Cont} {lk : Bool} (h : FA F b c lk) (n : b ≠ a) : FA (upd F a o) b c lk := by
  cases c with
  | lst ds =>
    show upd F a o b = none
    rw [upd_ne n]
    exact h
  | dic kvs =>
    cases lk with
    | false =>
      show upd F a o b = none
      rw [upd_ne n]
      exact h
    | true =>
      obtain ⟨ob, u, h⟩ := h
      exact ⟨ob, u, by rw [upd_ne n]; exact h⟩
theorem FA.en {a b : Addr} {o : HO} {c : Cont} {lk : Bool} (h : FA (upd F a o) b c lk) (n : b ≠ a) : FA F b c lk := by
  cases c with
  | lst ds =>
    have h : upd F a o b = none := h
    rw [upd_ne n] at h
    exact h
  | dic kvs =>
    cases lk with
    | false =>
      have h : upd F a o b = none := h
      rw [upd_ne n] at h
      exact h
    | true =>
      obtain ⟨ob, u, h⟩ := h
      rw [upd_ne n] at h
      exact ⟨ob, u, h⟩
theorem LF.ne {a b : Addr} {o : HO} {l : LO} (h : LF F b l) (n : b ≠ a) : LF (upd F a o) b l := by
  cases l with
  | con c lk => exact FA.ne h n
  | ins C fs =>
    show upd F a o b = none
    rw [upd_ne n]
    exact h
  | clo id ds =>
    show upd F a o b = none
    rw [upd_ne n]
    exact h
theorem LF.en {a b : Addr} {o : HO} {l : LO} (h : LF (upd F a o) b l) (n : b ≠ a) : LF F b l := by
  cases l with
  | con c lk => exact FA.en h n
  | ins C fs =>
    have h : upd F a o b = none := h
    rw [upd_ne n] at h
    exact h
  | clo id ds =>
    have h : upd F a o b = none := h
    rw [upd_ne n] at h
    exact h
theorem CO.mono {c : Cont} {o : HO} (hB : Le B B') (hρ : Ex ρ ρ') (h : CO Z B ρ c o) : CO Z B' ρ' c o := by
  cases c with
  | lst ds =>
    obtain ⟨xs, e, h⟩ := h
    exact ⟨xs, e, h.mono hB hρ⟩
  | dic kvs =>
    obtain ⟨ks, e, h⟩ := h
    exact ⟨ks, e, h.mono hB hρ⟩
theorem CR.mono {c : Cont} {lk : Bool} {a : Addr} (hB : Le B B') (hρ : Ex ρ ρ') (h : CR Z B ρ H a c lk) : CR Z B' ρ' H a c lk := by
  obtain ⟨o, h1, h2⟩ := h
  exact ⟨o, h1.mono hB hρ, h2⟩
theorem CR.heap {c : Cont} {lk : Bool} {a : Addr} {H' : Hp} (e : ∀ o, H a = some o → H' a = some o) (h : CR Z B ρ H a c lk) : CR Z B ρ H' a c lk := by
  obtain ⟨o, h1, h2⟩ := h
  refine ⟨o, h1, ?_⟩
  rcases h2 with h2 | ⟨l, k, ob, h2⟩
  · exact .inl (e _ h2)
  · exact .inr ⟨l, k, ob, e _ h2⟩
theorem CR.at_ {c : Cont} {lk : Bool} {a : Addr} {H' : Hp} (e : H' a = H a) (h : CR Z B ρ H a c lk) : CR Z B ρ H' a c lk := h.heap fun o q => e.trans q
theorem CR.some {c : Cont} {lk : Bool} {a : Addr} (h : CR Z B ρ H a c lk) : ∃ o, H a = some o := by
  obtain ⟨o, _, h | ⟨_, _, ob, h⟩⟩ := h
  · exact ⟨_, h⟩
  · exact ⟨_, h⟩
theorem LR.mono {o : LO} {a : Addr} (hB : Le B B') (hρ : Ex ρ ρ') (h : LR Z B ρ H a o) : LR Z B' ρ' H a o := by
  cases o with
  | con c lk => exact CR.mono hB hρ h
  | ins C fs =>
    obtain ⟨Ca, dx, vs, h1, h2, h3⟩ := h
    exact ⟨Ca, dx, vs, h1, h2, h3.mono hB hρ⟩
  | clo id ds =>
    obtain ⟨o, vs, h1, h2, h3⟩ := h
    exact ⟨o, vs, h1, h2, h3.mono hB hρ⟩
theorem LR.heap {o : LO} {a : Addr} {H' : Hp} (e : ∀ o, H a = some o → H' a = some o) (h : LR Z B ρ H a o) : LR Z B ρ H' a o := by
  cases o with
  | con c lk => exact CR.heap e h
  | ins C fs =>
    obtain ⟨Ca, dx, vs, h1, h2, h3⟩ := h
    exact ⟨Ca, dx, vs, h1, e _ h2, h3⟩
  | clo id ds =>
    obtain ⟨o, vs, h1, h2, h3⟩ := h
    exact ⟨o, vs, h1, e _ h2, h3⟩
theorem LR.at_ {o : LO} {a : Addr} {H' : Hp} (e : H' a = H a) (h : LR Z B ρ H a o) : LR Z B ρ H' a o := h.heap fun o q => e.trans q
/-- an owned thing read as a value of the present heap -/
theorem CR.toVR {c : Cont} {lk : Bool} {a : Addr} (hb : Same B H) (h : CR Z B ρ H a c lk) : VR Z H ρ (.ref a) c.toD := by
  obtain ⟨o, h1, h2⟩ := h
  cases c with
  | lst ds =>
    obtain ⟨xs, rfl, h⟩ := h1
    rcases h2 with h2 | ⟨_, ⟨_, z⟩, _⟩
    · exact .lst h2 (h.mono (.of_same hb) (.refl ρ))
    · cases z
  | dic kvs =>
    obtain ⟨ks, rfl, h⟩ := h1
    refine .dic ?_ (h.mono (.of_same hb) (.refl ρ))
    rcases h2 with h2 | ⟨_, _, ob, h2⟩
    · exact .inl h2
    · exact .inr ⟨ob, h2⟩
theorem RelH.mem (R : RelH Z F S.L H B ρ) {k : Nat} {a : Addr} (h : ρ[k]? = some a) : a ∈ ρ := List.mem_of_getElem? h
theorem RelH.there (R : RelH Z F S.L H B ρ) {a : Addr} (h : a ∈ ρ) : ∃ o, H a = some o := by
  obtain ⟨k, hk⟩ := List.getElem?_of_mem h
  have hl : k < S.L.length := by
    rw [← R.rlen]
    exact (List.getElem?_eq_some_iff.mp hk).1
  have := R.hp k a _ hk (List.getElem?_eq_getElem hl)
  cases e : S.L[k] with
  | con c lk =>
    rw [e] at this
    exact CR.some this
  | ins C fs =>
    rw [e] at this
    obtain ⟨_, _, _, _, h2, _⟩ := this
    exact ⟨_, h2⟩
  | clo id ds =>
    rw [e] at this
    obtain ⟨_, _, _, h2, _⟩ := this
    exact ⟨_, h2⟩
/-- an address that is not tracked at all is fresh -/
theorem Rel.fresh (R : Rel Z F S σ H B ρ) {a : Addr} (h : H a = none) : Fresh F S σ B ρ a := by
  refine ⟨R.bh.free h, R.fh.free h, fun hm => ?_, fun i ⟨c, lk, h1, h2⟩ => ?_⟩
  · obtain ⟨o, e⟩ := R.toRelH.there hm
    rw [h] at e
    cases e
  · obtain ⟨b, e1, e2, _⟩ := R.owns i c lk h1
    rw [h2] at e1
    cases e1
    obtain ⟨o, e⟩ := e2.some
    rw [h] at e
    cases e
/-- more is frozen -/
theorem Rel.more (R : Rel Z F S σ H B ρ) {a : Addr} {o : HO} (f : Fresh F S σ B ρ a) (h : H a = some o) : Rel Z F S σ H (upd B a o) ρ ∧ Same B (upd B a o) := by
  obtain ⟨f1, f2, f3, f4⟩ := f
  have sb : Same B (upd B a o) := fun b u e => by
    rw [upd_ne (ne_of_none e f1)]
    exact e
  refine ⟨⟨⟨fun b u e => ?_, R.fh, fun b u e => ?_, R.rlen, R.rnd, fun b hb => ?_, R.rf, fun k b u h1 h2 => (R.hp k b u h1 h2).mono (.of_same sb) (.refl ρ)⟩, R.len, fun i d h1 => ?_, fun i c lk h1 => ?_, R.sep, R.excs⟩, sb⟩
  · by_cases q : b = a
    · subst q
      rw [upd_same] at e
      cases e
      exact h
    · rw [upd_ne q] at e
      exact R.bh _ _ e
  · have q : b ≠ a := fun q => by
      rw [q, f2] at e
      cases e
    rw [upd_ne q]
    exact R.fb _ _ e
  · have q : b ≠ a := fun q => f3 (q ▸ hb)
    rw [upd_ne q]
    exact R.rb _ hb
  · obtain ⟨v, h2, h3⟩ := R.vals i d h1
    exact ⟨v, h2, h3.mono (.of_same sb) (.refl ρ)⟩
  · obtain ⟨b, h2, h3, h4, h5, h6⟩ := R.owns i c lk h1
    have q : b ≠ a := fun q => f4 i ⟨c, lk, h1, by rw [h2, q]⟩
    exact ⟨b, h2, h3.mono (.of_same sb) (.refl ρ), by rw [upd_ne q]; exact h4, h5, h6⟩
/-- the heap grows by an object that nobody knows yet -/
theorem RelH.grow {L : List LO} (R : RelH Z F L H B ρ) {a : Addr} {o : HO} (h : H a = none) : RelH Z F L (upd H a o) B ρ := by
  have sh : Same H (upd H a o) := fun b u e => by
    rw [upd_ne (ne_of_none e h)]
    exact e
  exact ⟨R.bh.trans sh, R.fh.trans sh, R.fb, R.rlen, R.rnd, R.rb, R.rf, fun k b u h1 h2 => (R.hp k b u h1 h2).heap fun o e => sh _ _ e⟩
theorem Rel.grow (R : Rel Z F S σ H B ρ) {a : Addr} {o : HO} (h : H a = none) : Rel Z F S σ (upd H a o) B ρ := by
  have sh : Same H (upd H a o) := fun b u e => by
    rw [upd_ne (ne_of_none e h)]
    exact e
  refine ⟨R.toRelH.grow h, R.len, R.vals, fun i c lk h1 => ?_, R.sep, R.excs⟩
  obtain ⟨b, h2, h3, h4, h5, h6⟩ := R.owns i c lk h1
  exact ⟨b, h2, h3.heap fun o e => sh _ _ e, h4, h5, h6⟩
/-- a new owned thing -/
theorem Rel.newOwn (R : Rel Z F S σ H B ρ) {a : Addr} {o : HO} {c : Cont} (h : H a = none) (hc : CO Z B ρ c o) : Rel Z F S σ (upd H a o) B ρ ∧ RVR Z F S σ (upd H a o) B ρ (.ref a) (.own c) :=
  ⟨R.grow h, a, rfl, ⟨o, hc, .inl upd_same⟩, R.fresh h⟩
/-- a new tuple -/
theorem Rel.newTup (R : Rel Z F S σ H B ρ) {a : Addr} {xs : List V} {ds : List D} (h : H a = none) (hs : VRs Z B ρ xs ds) :
    Rel Z F S σ (upd H a (.tup xs)) (upd B a (.tup xs)) ρ ∧ Same B (upd B a (.tup xs)) ∧ VR Z (upd B a (.tup xs)) ρ (.ref a) (.tup ds) := by
  obtain ⟨R2, sb⟩ := (R.grow (o := .tup xs) h).more (o := .tup xs) (R.fresh h) upd_same
  exact ⟨R2, sb, .tup (.inl (.inl upd_same)) (hs.mono (.of_same sb) (.refl ρ))⟩
/-- an owned new thing is frozen -/
theorem Rel.frz (R : Rel Z F S σ H B ρ) {v : V} {c : Cont} (r : RVR Z F S σ H B ρ v (.own c)) : ∃ B', Rel Z F S σ H B' ρ ∧ Same B B' ∧ VR Z B' ρ v c.toD := by
  obtain ⟨a, rfl, ⟨o, h1, h2⟩, f⟩ := r
  have h2 : H a = some o := by
    rcases h2 with h2 | ⟨z, _⟩
    · exact h2
    · cases z
  obtain ⟨R2, sb⟩ := R.more f h2
  refine ⟨_, R2, sb, ?_⟩
  cases c with
  | lst ds =>
    obtain ⟨xs, rfl, h⟩ := h1
    exact .lst upd_same (h.mono (.of_same sb) (.refl ρ))
  | dic kvs =>
    obtain ⟨ks, rfl, h⟩ := h1
    exact .dic (.inl upd_same) (h.mono (.of_same sb) (.refl ρ))
theorem excs_set {i : Nat} {x : Option Sl} (hx : ∀ c, x ≠ some (.exc c)) {sl : List (Option Sl)} (h : ∀ (i : Nat) c, sl[i]? = some (some (.exc c)) → ∃ a, Z.cur = some (c, a) ∧ σ[i]? = some (some (.ref a))) :
    ∀ (j : Nat) c, (sl.set i x)[j]? = some (some (.exc c)) → ∃ a, Z.cur = some (c, a) ∧ σ[j]? = some (some (.ref a)) := fun j c q => by
  by_cases hj : i = j
  · subst hj
    have hi : i < sl.length := by
      have := (List.getElem?_eq_some_iff.mp q).1
      simpa using this
    rw [List.getElem?_set_self hi] at q
    exact absurd (Option.some.inj q) (hx c)
  · rw [List.getElem?_set_ne hj] at q
    exact h j c q
theorem excs_set2 {i : Nat} {x : Option Sl} {y : Option V} (hx : ∀ c, x ≠ some (.exc c)) {sl : List (Option Sl)} (h : ∀ (i : Nat) c, sl[i]? = some (some (.exc c)) → ∃ a, Z.cur = some (c, a) ∧ σ[i]? = some (some (.ref a))) :
    ∀ (j : Nat) c, (sl.set i x)[j]? = some (some (.exc c)) → ∃ a, Z.cur = some (c, a) ∧ (σ.set i y)[j]? = some (some (.ref a)) := fun j c q => by
  by_cases hj : i = j
  · subst hj
    have hi : i < sl.length := by
      have := (List.getElem?_eq_some_iff.mp q).1
      simpa using this
    rw [List.getElem?_set_self hi] at q
    exact absurd (Option.some.inj q) (hx c)
  · rw [List.getElem?_set_ne hj] at q
    rw [List.getElem?_set_ne hj]
    exact h j c q
/-- .. that stands in a slot -/
theorem Rel.frzSlot (R : Rel Z F S σ H B ρ) {i : Nat} {c : Cont} (h : S.sl[i]? = some (some (.own c false))) :
    ∃ B' v, Rel Z F { S with sl := S.sl.set i (some (.val c.toD)) } σ H B' ρ ∧ Same B B' ∧ σ[i]? = some (some v) ∧ VR Z B' ρ v c.toD := by
  obtain ⟨a, e1, ⟨o, h1, h2⟩, h3, h4, h5⟩ := R.owns i c false h
  have h4 := h4.free
  have h2 : H a = some o := by
    rcases h2 with h2 | ⟨z, _⟩
    · exact h2
    · cases z
  have hi : i < S.sl.length := (List.getElem?_eq_some_iff.mp h).1
  have R1 : Rel Z F { S with sl := S.sl.set i none } σ H B ρ := by
    refine ⟨R.toRelH, by simpa using R.len, fun j d q => ?_, fun j c lk q => ?_, fun j k b q1 q2 => ?_, fun j c q => excs_set (fun c => by simp) R.excs j c q⟩
    · have hj : i ≠ j := fun z => by
        subst z
        rw [List.getElem?_set_self hi] at q
        cases q
      rw [List.getElem?_set_ne hj] at q
      exact R.vals j d q
    · have hj : i ≠ j := fun z => by
        subst z
        rw [List.getElem?_set_self hi] at q
        cases q
      rw [List.getElem?_set_ne hj] at q
      exact R.owns j c lk q
    · have up : ∀ j, OwnAt { S with sl := S.sl.set i none } σ j b → OwnAt S σ j b := fun j ⟨c, lk, q, r⟩ => by
        have hj : i ≠ j := fun z => by
          subst z
          rw [List.getElem?_set_self hi] at q
          cases q
        rw [List.getElem?_set_ne hj] at q
        exact ⟨c, lk, q, r⟩
      exact R.sep j k b (up j q1) (up k q2)
  have f : Fresh F { S with sl := S.sl.set i none } σ B ρ a := by
    refine ⟨h3, h4, h5, fun j ⟨c', lk, q, r⟩ => ?_⟩
    have hj : i ≠ j := fun z => by
      subst z
      rw [List.getElem?_set_self hi] at q
      cases q
    rw [List.getElem?_set_ne hj] at q
    exact hj (R.sep i j a ⟨c, false, h, e1⟩ ⟨c', lk, q, r⟩)
  obtain ⟨R2, sb⟩ := R1.more f h2
  have vr : VR Z (upd B a o) ρ (.ref a) c.toD := by
    cases c with
    | lst ds =>
      obtain ⟨xs, rfl, h⟩ := h1
      exact .lst upd_same (h.mono (.of_same sb) (.refl ρ))
    | dic kvs =>
      obtain ⟨ks, rfl, h⟩ := h1
      exact .dic (.inl upd_same) (h.mono (.of_same sb) (.refl ρ))
  refine ⟨upd B a o, .ref a, ⟨R2.toRelH, by simpa using R.len, fun j d q => ?_, fun j c' lk q => ?_, fun j k b q1 q2 => ?_, fun j c q => excs_set (fun c => by simp) R.excs j c q⟩, sb, e1, vr⟩
  · by_cases hj : i = j
    · subst hj
      rw [List.getElem?_set_self hi] at q
      cases q
      exact ⟨.ref a, e1, vr⟩
    · rw [List.getElem?_set_ne hj] at q
      exact R2.vals j d (by rw [List.getElem?_set_ne hj]; exact q)
  · have hj : i ≠ j := fun z => by
      subst z
      rw [List.getElem?_set_self hi] at q
      cases q
    rw [List.getElem?_set_ne hj] at q
    exact R2.owns j c' lk (by rw [List.getElem?_set_ne hj]; exact q)
  · have up : ∀ j, OwnAt { S with sl := S.sl.set i (some (.val c.toD)) } σ j b → OwnAt S σ j b := fun j ⟨c, lk, q, r⟩ => by
      have hj : i ≠ j := fun z => by
        subst z
        rw [List.getElem?_set_self hi] at q
        cases q
      rw [List.getElem?_set_ne hj] at q
      exact ⟨c, lk, q, r⟩
    exact R.sep j k b (up j q1) (up k q2)
end
end TW
/-! TW2: pure operations by values and how the layer's rules serve them. -/
namespace TW
open PySem PySem.Spec L2

/-- what a pure operation tells -/
inductive R where
  | val (d : D) | own (c : Cont) | exc (c : Str) | stk
def R.lift (r : R) (S : DS) : Res RV := match r with
  | .val d => .ok (.val d) S
  | .own c => .ok (.own c) S
  | .exc c => .exc c S
  | .stk => .stk
section
variable (Z : SX)
/-- a thing that is looked at: its top may be owned -/
def PV (H B : Hp) (ρ : List Addr) (v : V) : D → Prop
  | .lst ds => ∃ a xs, v = .ref a ∧ H a = some (.lst xs) ∧ VRs Z B ρ xs ds
  | .scr ds => ∃ a xs, v = .ref a ∧ SqL Z.K H a xs ∧ VRs Z B ρ xs ds
  | .dic kvs => ∃ a ks, v = .ref a ∧ Rd H a (.dK ks) ∧ VRk Z B ρ ks kvs
  | d => VR Z B ρ v d
def PVs (H B : Hp) (ρ : List Addr) : List V → List D → Prop
  | [], [] => True
  | v :: vs, d :: ds => PV Z H B ρ v d ∧ PVs H B ρ vs ds
  | _, _ => False
/-- every state that a pure operation may leave, wanted -/
def Got (F : Hp) (S : DS) (σ : St) (H B : Hp) (ρ : List Addr) (r : R) (Q : VK) : Prop := match r with
  | .val d => ∀ v H' B', Rel Z F S σ H' B' ρ → Same B B' → VR Z B' ρ v d → Q v H'
  | .own c => ∀ v H' B', Rel Z F S σ H' B' ρ → Same B B' → RVR Z F S σ H' B' ρ v (.own c) → Q v H'
  | _ => False
def rD2 (g : D → D → R) : R2 := fun x y H Q => ∃ F S σ B ρ d e, Rel Z F S σ H B ρ ∧ PV Z H B ρ x d ∧ PV Z H B ρ y e ∧ Got Z F S σ H B ρ (g d e) Q
def rD1 (g : D → R) : V → Hp → VK → Prop := fun x H Q => ∃ F S σ B ρ d, Rel Z F S σ H B ρ ∧ PV Z H B ρ x d ∧ Got Z F S σ H B ρ (g d) Q
def rDs (g : List D → R) : List V → Hp → VK → Prop := fun vs H Q => ∃ F S σ B ρ ds, Rel Z F S σ H B ρ ∧ PVs Z H B ρ vs ds ∧ Got Z F S σ H B ρ (g ds) Q
def rDm (g : D → List D → R) : V → List V → Hp → VK → Prop := fun x vs H Q => ∃ F S σ B ρ d ds, Rel Z F S σ H B ρ ∧ PV Z H B ρ x d ∧ PVs Z H B ρ vs ds ∧ Got Z F S σ H B ρ (g d ds) Q
end
section
variable {Z : SX} {F : Hp} {S : DS} {σ : St} {H B : Hp} {ρ : List Addr} {v : V} {d : D} {Q : VK}
theorem PV.of (hb : Same B H) (h : VR Z B ρ v d) : PV Z H B ρ v d := by
  cases h with
  | lst h hs => exact ⟨_, _, rfl, hb _ _ h, hs⟩
  | scr h hs => exact ⟨_, _, rfl, (Le.of_same hb).seq h, hs⟩
  | dic h hs => exact ⟨_, _, rfl, (Le.of_same hb).rd _ _ h, hs⟩
  | non => exact .non
  | bl b => exact .bl b
  | int i => exact .int i
  | str x => exact .str x
  | tup h hs => exact VR.tup h hs
  | ins hc h hs => exact .ins hc h hs
  | ref h => exact .ref h
  | exn h e n1 n2 => exact .exn h e n1 n2
/-- .. as a value of the present heap -/
theorem PV.vr (hb : Same B H) (h : PV Z H B ρ v d) : VR Z H ρ v d := by
  cases d with
  | lst ds =>
    obtain ⟨a, xs, rfl, h1, h2⟩ := h
    exact .lst h1 (h2.mono (.of_same hb) (.refl ρ))
  | scr ds =>
    obtain ⟨a, xs, rfl, h1, h2⟩ := h
    exact .scr h1 (h2.mono (.of_same hb) (.refl ρ))
  | dic kvs =>
    obtain ⟨a, ks, rfl, h1, h2⟩ := h
    exact .dic h1 (h2.mono (.of_same hb) (.refl ρ))
  | _ => exact VR.mono (.of_same hb) (.refl ρ) (show VR Z B ρ v _ from h)
theorem PVs.vrs (hb : Same B H) : ∀ {vs : List V} {ds : List D}, PVs Z H B ρ vs ds → VRs Z H ρ vs ds
  | [], [], _ => .nil
  | _ :: _, _ :: _, h => .cons (h.1.vr hb) (PVs.vrs hb h.2)
  | [], _ :: _, h => h.elim
  | _ :: _, [], h => h.elim
theorem PVs.length : ∀ {vs : List V} {ds : List D}, PVs Z H B ρ vs ds → vs.length = ds.length
  | [], [], _ => rfl
  | _ :: _, _ :: _, h => by rw [List.length_cons, List.length_cons, PVs.length h.2]
  | [], _ :: _, h => h.elim
  | _ :: _, [], h => h.elim
/-! ### what an atom is -/
theorem PV.int {i : Int} (h : PV Z H B ρ v (.int i)) : v = .int i := by cases (show VR Z B ρ v (.int i) from h); rfl
theorem PV.bl {i : Bool} (h : PV Z H B ρ v (.bl i)) : v = .bl i := by cases (show VR Z B ρ v (.bl i) from h); rfl
theorem PV.str {i : Str} (h : PV Z H B ρ v (.str i)) : v = .str i := by cases (show VR Z B ρ v (.str i) from h); rfl
theorem PV.non (h : PV Z H B ρ v .non) : v = .non := by cases (show VR Z B ρ v .non from h); rfl
theorem PV.tup {ds : List D} (h : PV Z H B ρ v (.tup ds)) : ∃ a xs, v = .ref a ∧ SqT Z.K B a xs ∧ VRs Z B ρ xs ds := by
  have h' : VR Z B ρ v (.tup ds) := h
  cases h' with
  | tup h1 hs => exact ⟨_, _, rfl, h1, hs⟩
theorem PVs.one {vs : List V} {d : D} (h : PVs Z H B ρ vs [d]) : ∃ v, vs = [v] ∧ PV Z H B ρ v d := by
  match vs, h with
  | [v], h => exact ⟨v, rfl, h.1⟩
  | [], h => exact h.elim
  | _ :: _ :: _, h => exact h.2.elim
theorem PVs.two {vs : List V} {d e : D} (h : PVs Z H B ρ vs [d, e]) : ∃ v w, vs = [v, w] ∧ PV Z H B ρ v d ∧ PV Z H B ρ w e := by
  match vs, h with
  | [v, w], h => exact ⟨v, w, rfl, h.1, h.2.1⟩
  | [], h => exact h.elim
  | [_], h => exact h.2.elim
  | _ :: _ :: _ :: _, h => exact h.2.2.elim
theorem PVs.nil {vs : List V} (h : PVs Z H B ρ vs []) : vs = [] := by
  match vs, h with
  | [], h => rfl
  | _ :: _, h => exact h.elim
/-! ### ends -/
theorem Got.atom (R : Rel Z F S σ H B ρ) (g : Got Z F S σ H B ρ (.val d) Q) (h : ∀ B, VR Z B ρ v d) : Q v H := g v H B R (fun _ _ e => e) (h B)
theorem Got.int {i : Int} (R : Rel Z F S σ H B ρ) (g : Got Z F S σ H B ρ (.val (.int i)) Q) : Q (.int i) H := g.atom R fun _ => .int i
theorem Got.bl {i : Bool} (R : Rel Z F S σ H B ρ) (g : Got Z F S σ H B ρ (.val (.bl i)) Q) : Q (.bl i) H := g.atom R fun _ => .bl i
theorem Got.str {i : Str} (R : Rel Z F S σ H B ρ) (g : Got Z F S σ H B ρ (.val (.str i)) Q) : Q (.str i) H := g.atom R fun _ => .str i
theorem Got.non (R : Rel Z F S σ H B ρ) (g : Got Z F S σ H B ρ (.val .non) Q) : Q .non H := g.atom R fun _ => .non
theorem Got.old (R : Rel Z F S σ H B ρ) (g : Got Z F S σ H B ρ (.val d) Q) (h : VR Z B ρ v d) : Q v H := g v H B R (fun _ _ e => e) h
theorem Got.lst {xs : List V} {ds : List D} (R : Rel Z F S σ H B ρ) (g : Got Z F S σ H B ρ (.own (.lst ds)) Q) (h : VRs Z B ρ xs ds) : ∀ p, H p = none → Q (.ref p) (upd H p (.lst xs)) := fun p hp => by
  obtain ⟨R2, r⟩ := R.newOwn (o := .lst xs) (c := .lst ds) hp ⟨xs, rfl, h⟩
  exact g _ _ B R2 (fun _ _ e => e) r
theorem Got.dic {xs : List (Key × V)} {ds : List (Key × D)} (R : Rel Z F S σ H B ρ) (g : Got Z F S σ H B ρ (.own (.dic ds)) Q) (h : VRk Z B ρ xs ds) : ∀ p, H p = none → Q (.ref p) (upd H p (.dK xs)) := fun p hp => by
  obtain ⟨R2, r⟩ := R.newOwn (o := .dK xs) (c := .dic ds) hp ⟨xs, rfl, h⟩
  exact g _ _ B R2 (fun _ _ e => e) r
theorem Got.tup {xs : List V} {ds : List D} (R : Rel Z F S σ H B ρ) (g : Got Z F S σ H B ρ (.val (.tup ds)) Q) (h : VRs Z B ρ xs ds) : ∀ p, H p = none → Q (.ref p) (upd H p (.tup xs)) := fun p hp => by
  obtain ⟨R2, sb, r⟩ := R.newTup hp h
  exact g _ _ _ R2 sb r
end

/-! ### operators -/
instance (i j : Int) : Decidable (CMulX i j) := inferInstanceAs (Decidable ((Builtin.Int.intBits i : Int) + (Builtin.Int.intBits j : Int) ≤ 134217728))
instance (i j : Int) : Decidable (CDivW i j) := inferInstanceAs (Decidable (0 < j ∧ j.natAbs.log2 < 9000))
instance (i j : Int) : Decidable (CShl i j) := inferInstanceAs (Decidable (0 ≤ j ∧ (Builtin.Int.intBits i : Int) + j ≤ 2 ^ 27))
/-- a power that is small enough, by bits -/
def CPowX (i j : Int) : Prop := 0 ≤ j ∧ (Builtin.Int.intBits i : Int) * j ≤ 2 ^ 27
instance (i j : Int) : Decidable (CPowX i j) := inferInstanceAs (Decidable (0 ≤ j ∧ (Builtin.Int.intBits i : Int) * j ≤ 2 ^ 27))
theorem op_powX {X : Cx} : OpR X (binaryOp .Pow) (rI CPowX fun i j => .int (i ^ j.toNat)) := opI fun _ _ _ _ _ _ _ hc q => PyProof.Rows.pow_int hc.1 hc.2 q
def gI (f : Int → Int → R) : D → D → R
  | .int i, .int j => f i j
  | _, _ => .stk
def gAdd : D → D → R
  | .int i, .int j => .val (.int (i + j))
  | .str x, .str y => if x.length + y.length ≤ sizeLine then .val (.str (x ++ y)) else .stk
  | .lst a, .lst b => if a.length + b.length ≤ sizeLine then .own (.lst (a ++ b)) else .stk
  | .tup a, .tup b => if a.length + b.length ≤ sizeLine then .val (.tup (a ++ b)) else .stk
  | _, _ => .stk
def gMul : D → D → R
  | .int i, .int j => if CMulX i j then .val (.int (i * j)) else .stk
  | .lst a, .int k => if -(2 ^ 63) ≤ k ∧ k < 2 ^ 63 ∧ a.length * k.toNat ≤ sizeLine then .own (.lst (List.replicate k.toNat a).flatten) else .stk
  | _, _ => .stk
def gBin : Operator → D → D → R
  | .Add => gAdd
  | .Sub => gI fun i j => .val (.int (i - j))
  | .Mult => gMul
  | .FloorDiv => gI fun i j => if CDivW i j then .val (.int (i / j)) else .stk
  | .Mod => gI fun i j => if 0 < j then .val (.int (i % j)) else .stk
  | .Pow => gI fun i j => if CPowX i j then .val (.int (i ^ j.toNat)) else .stk
  | .LShift => gI fun i j => if CShl i j then .val (.int (i * 2 ^ j.toNat)) else .stk
  | .RShift => gI fun i j => if 0 ≤ j then .val (.int (i / 2 ^ j.toNat)) else .stk
  | .BitAnd => gI fun i j => .val (.int (Builtin.bitAnd i j))
  | .BitOr => gI fun i j => .val (.int (Builtin.bitOr i j))
  | .BitXor => gI fun i j => .val (.int (Builtin.bitXor i j))
  | _ => fun _ _ => .stk

section
variable {Z : SX} {X : Cx}
/-- any of several readings -/
theorem OpR.ex {ι : Type} {f : Value → Value → Sem Value} {r : ι → R2} (h : ∀ i, OpR X f (r i)) : OpR X f (fun x y H Q => ∃ i, r i x y H Q) := fun pins s σ H x y v u Q I rx ry ⟨i, q⟩ => h i pins s σ H x y v u Q I rx ry q
theorem OpR.imp {f : Value → Value → Sem Value} {r r' : R2} (h : OpR X f r) (i : ∀ x y H Q, r' x y H Q → r x y H Q) : OpR X f r' := fun pins s σ H x y v u Q I rx ry q => h pins s σ H x y v u Q I rx ry (i _ _ _ _ q)
/-- an operation of ints -/
theorem op_ints {f : Value → Value → Sem Value} {C : Int → Int → Prop} [∀ i j, Decidable (C i j)] {g : Int → Int → Int} (h : OpR X f (rI C fun i j => .int (g i j))) : OpR X f (rD2 Z (gI fun i j => if C i j then .val (.int (g i j)) else .stk)) := by
  refine OpR.imp h fun x y H Q q => ?_
  obtain ⟨F, S, σ, B, ρ, d, e, R, hx, hy, q⟩ := q
  unfold gI at q
  split at q
  · dsimp only at q
    split at q
    · rename_i hc
      exact ⟨_, _, hx.int, hy.int, hc, q.int R⟩
    · exact q.elim
  · exact q.elim
theorem op_ints0 {f : Value → Value → Sem Value} {g : Int → Int → Int} (h : OpR X f (rI0 fun i j => .int (g i j))) : OpR X f (rD2 Z (gI fun i j => .val (.int (g i j)))) := by
  refine OpR.imp h fun x y H Q q => ?_
  obtain ⟨F, S, σ, B, ρ, d, e, R, hx, hy, q⟩ := q
  unfold gI at q
  split at q
  · exact ⟨_, _, hx.int, hy.int, q.int R⟩
  · exact q.elim
theorem PV.seq {H B : Hp} {ρ : List Addr} {v : V} {ds : List D} (h : PV Z H B ρ v (.lst ds)) : ∃ a xs, v = .ref a ∧ H a = some (.lst xs) ∧ VRs Z B ρ xs ds := h
theorem op_addD (hK : X.K = Z.K) : OpR X (binaryOp .Add) (rD2 Z gAdd) := by
  refine OpR.imp (OpR.or op_add (OpR.or op_add_str (OpR.or op_cat op_catA))) fun x y H Q q => ?_
  obtain ⟨F, S, σ, B, ρ, d, e, R, hx, hy, q⟩ := q
  unfold gAdd at q
  split at q
  · exact .inl ⟨_, _, hx.int, hy.int, q.int R⟩
  · split at q
    · exact .inr (.inl ⟨_, _, hx.str, hy.str, by assumption, q.str R⟩)
    · exact q.elim
  · split at q
    · rename_i hl
      obtain ⟨a, xs, rfl, h1, h2⟩ := hx
      obtain ⟨b, ys, rfl, h3, h4⟩ := hy
      refine .inr (.inr (.inl ⟨a, b, xs, ys, rfl, rfl, h1, h3, by rw [h2.length, h4.length]; exact hl, q.lst R (h2.append h4)⟩))
    · exact q.elim
  · split at q
    · rename_i hl
      obtain ⟨a, xs, rfl, h1, h2⟩ := hx.tup
      obtain ⟨b, ys, rfl, h3, h4⟩ := hy.tup
      refine .inr (.inr (.inr ⟨a, b, xs, ys, rfl, rfl, ?_, ?_, by rw [h2.length, h4.length]; exact hl, fun z => ?_, fun z z' => ?_, fun _ _ => q.tup R (h2.append h4)⟩))
      · rw [hK]
        exact (Le.of_same R.bh).tup h1
      · rw [hK]
        exact (Le.of_same R.bh).tup h3
      · subst z
        cases h2
        exact q _ _ _ R (fun _ _ e => e) (.tup h3 h4)
      · subst z'
        cases h4
        rw [List.append_nil] at q
        exact q _ _ _ R (fun _ _ e => e) (.tup h1 h2)
    · exact q.elim
  · exact q.elim
theorem op_mulD : OpR X (binaryOp .Mult) (rD2 Z gMul) := by
  refine OpR.imp (OpR.or op_mulX op_rep) fun x y H Q q => ?_
  obtain ⟨F, S, σ, B, ρ, d, e, R, hx, hy, q⟩ := q
  unfold gMul at q
  split at q
  · split at q
    · exact .inl ⟨_, _, hx.int, hy.int, by assumption, q.int R⟩
    · exact q.elim
  · split at q
    · rename_i hl
      obtain ⟨a, xs, rfl, h1, h2⟩ := hx
      refine .inr ⟨a, _, xs, rfl, hy.int, h1, hl.1, hl.2.1, by rw [h2.length]; exact hl.2.2, q.lst R (h2.flatRep _)⟩
    · exact q.elim
  · exact q.elim
theorem op_never {f : Value → Value → Sem Value} : OpR X f (rD2 Z fun _ _ => .stk) := fun _ _ _ _ _ _ _ _ _ _ _ _ ⟨_, _, _, _, _, _, _, _, _, _, q⟩ => q.elim
theorem op_bin (hK : X.K = Z.K) (op : Operator) : OpR X (binaryOp op) (rD2 Z (gBin op)) := by
  cases op with
  | Add => exact op_addD hK
  | Sub => exact op_ints0 op_sub
  | Mult => exact op_mulD
  | FloorDiv => exact op_ints (C := CDivW) (g := fun i j => i / j) op_fdivW
  | Mod => exact op_ints (C := fun _ j => 0 < j) (g := fun i j => i % j) op_mod
  | Pow => exact op_ints (C := CPowX) (g := fun i j => i ^ j.toNat) op_powX
  | LShift => exact op_ints (C := CShl) (g := fun i j => i * 2 ^ j.toNat) op_shlW
  | RShift => exact op_ints (C := fun _ j => 0 ≤ j) (g := fun i j => i / 2 ^ j.toNat) op_shr
  | BitAnd => exact op_ints0 op_and
  | BitOr => exact op_ints0 op_or
  | BitXor => exact op_ints0 op_xor
  | _ => exact op_never
end
end TW
/-! TW3: comparisons, built-in functions, by values. -/
namespace TW
open PySem PySem.Spec L2

mutual
def D.py : D → PyData
  | .non => .none
  | .bl b => .bool b
  | .int i => .int i
  | .str x => .str x
  | .tup ds => .tuple (D.pys ds)
  | .lst ds => .list (D.pys ds)
  | .scr ds => .list (D.pys ds)
  | .dic _ => .dict []
  | .ins _ _ => .dict []
  | .ref _ => .dict []
  | .exn _ => .dict []
def D.pys : List D → List PyData
  | [] => []
  | d :: ds => D.py d :: D.pys ds
end
theorem D.pys_map (ds : List D) : D.pys ds = ds.map D.py := by
  induction ds with
  | nil => rfl
  | cons d ds ih =>
    rw [D.pys, ih]
    rfl
section
variable {Z : SX} {H : Hp} {ρ : List Addr}
mutual
theorem VR.dp : ∀ {v : V} {d : D}, VR Z H ρ v d → (D.py d).canLay0 = true → Dp Z.K H v (D.py d)
  | _, _, .non, _ => .non
  | _, _, .bl b, _ => .bl b
  | _, _, .int i, _ => .int i
  | _, _, .str x, _ => .str x
  | _, _, .tup h hs, c => .tup h (VRs.dp hs (by rw [D.py, PyData.canLay0] at c; exact c))
  | _, _, .lst h hs, c => .lst (.inl (.inl h)) (VRs.dp hs (by rw [D.py, PyData.canLay0] at c; exact c))
  | _, _, .scr h hs, c => .lst h (VRs.dp hs (by rw [D.py, PyData.canLay0] at c; exact c))
  | _, _, .dic h hs, c => by
    rw [D.py, PyData.canLay0] at c
    cases c
  | _, _, .ins h _ hs, c => by
    rw [D.py, PyData.canLay0] at c
    cases c
  | _, _, .ref h, c => by
    rw [D.py, PyData.canLay0] at c
    cases c
  | _, _, .exn _ _ _ _, c => by
    rw [D.py, PyData.canLay0] at c
    cases c
theorem VRs.dp : ∀ {v : List V} {d : List D}, VRs Z H ρ v d → PyData.canLayAll0 (D.pys d) = true → DpAll Z.K H v (D.pys d)
  | _, _, .nil, _ => .nil
  | _, _, .cons h hs, c => by
    rw [D.pys, PyData.canLayAll0, Bool.and_eq_true] at c
    exact .cons (VR.dp h c.1) (VRs.dp hs c.2)
end
end
/-- == of scalars -/
def scalD : D → D → Option Bool
  | .non, .non => some true
  | .non, .int _ => some false | .int _, .non => some false | .non, .bl _ => some false | .bl _, .non => some false | .non, .str _ => some false | .str _, .non => some false
  | .int i, .int j => some (decide (i = j))
  | .bl i, .bl j => some (decide (i = j))
  | .str i, .str j => some (decide (i = j))
  | .int _, .str _ => some false | .str _, .int _ => some false | .bl _, .str _ => some false | .str _, .bl _ => some false
  | _, _ => none
def eqD (d e : D) : Option Bool := match scalD d e with
  | some b => some b
  | none => if SeqAt.shaped d.py = true ∧ SeqAt.shaped e.py = true then some (PyData.eqv d.py e.py) else none
def oB (o : Option Bool) : R := match o with
  | some b => .val (.bl b)
  | none => .stk
def shD (d : D) : Bool := d.py.canLay0 && decide (d.py.depth ≤ 8)
def eqDic (ks ls : List (Key × D)) : Option Bool := if ((ks.all fun p => shD p.2) && (ls.all fun p => shD p.2)) = true then some (ks.length == ls.length && ks.all fun p => match dget ls p.1 with
  | some e => PyData.eqv p.2.py e.py
  | none => false) else none
/-- dicts in tuples: told where all are equal -/
def eqTD : List D → List D → Bool
  | [], [] => true
  | .dic a :: ds, .dic c :: es => decide (eqDic a c = some true) && eqTD ds es
  | _, _ => false
def eqX0 (d e : D) : Option Bool := match d, e with
  | .dic ks, .dic ls => eqDic ks ls
  | d, e => eqD d e
def eqX (d e : D) : Option Bool := match d, e with
  | .tup (.dic a :: ds), .tup es => if eqTD (.dic a :: ds) es = true then some true else none
  | d, e => eqX0 d e
def gEq (d e : D) : R := oB (eqX d e)
def gNe (d e : D) : R := oB ((eqX0 d e).map (! ·))
def gIB (f : Int → Int → Bool) : D → D → R
  | .int i, .int j => .val (.bl (f i j))
  | _, _ => .stk
def gLt : D → D → R
  | .int i, .int j => .val (.bl (decide (i < j)))
  | .str i, .str j => .val (.bl (decide (i.cps.toList < j.cps.toList)))
  | _, _ => .stk
/-- an item that in finds by its value alone -/
def flatD : D → Bool
  | .non => true | .bl _ => true | .int _ => true | .str _ => true
  | _ => false
def eqFlat : D → D → Bool
  | .non, .non => true
  | .bl a, .bl b => a == b
  | .bl a, .int b => (if a then 1 else 0) == b
  | .int a, .bl b => a == (if b then 1 else 0)
  | .int a, .int b => a == b
  | .str a, .str b => a == b
  | _, _ => false
def seqOf : D → Option (List D)
  | .lst ds => some ds
  | .scr ds => some ds
  | .tup ds => some ds
  | _ => none
def inS (x z : Str) : Bool := match x.cps.toList with
  | [c] => decide (c ∈ z.cps.toList)
  | _ => !(Builtin.Str.occurrences z x 0 z.length 1).isEmpty
def keyOf : D → Option Key
  | .int i => some (.inl i)
  | .str x => some (.inr x)
  | _ => none
def inD : D → D → Option Bool
  | .str x, .str z => some (inS x z)
  | d, .lst ds => if flatD d = true ∧ ds.all flatD = true then some (ds.any fun e => eqFlat e d) else none
  | d, .scr ds => if flatD d = true ∧ ds.all flatD = true then some (ds.any fun e => eqFlat e d) else none
  | d, .tup ds => if flatD d = true ∧ ds.all flatD = true then some (ds.any fun e => eqFlat e d) else none
  | d, .dic kvs => (keyOf d).map fun k => (dget kvs k).isSome
  | _, _ => none
def isN : D → D → Option Bool
  | .non, .non => some true
  | .bl a, .bl b => some (decide (a = b))
  | _, .non => some false
  | _, _ => none
def gCmp : CmpOp → D → D → R
  | .Eq => gEq
  | .NotEq => gNe
  | .Lt => gLt
  | .LtE => gIB fun i j => decide (i ≤ j)
  | .Gt => gIB fun i j => decide (j < i)
  | .GtE => gIB fun i j => decide (j ≤ i)
  | .In => fun d e => oB (inD d e)
  | .NotIn => fun d e => oB ((inD d e).map (! ·))
  | .Is => fun d e => oB (isN d e)
  | .IsNot => fun d e => oB ((isN d e).map (! ·))

section
variable {Z : SX} {X : Cx}
theorem PV.flat {H B : Hp} {ρ : List Addr} {v : V} {d : D} (h : PV Z H B ρ v d) (f : flatD d = true) : flatV v = true ∧ (v = .non ∧ d = .non ∨ (∃ b, v = .bl b ∧ d = .bl b) ∨ (∃ i, v = .int i ∧ d = .int i) ∨ ∃ x, v = .str x ∧ d = .str x) := by
  cases d with
  | non =>
    cases h.non
    exact ⟨rfl, .inl ⟨rfl, rfl⟩⟩
  | bl b =>
    cases h.bl
    exact ⟨rfl, .inr (.inl ⟨b, rfl, rfl⟩)⟩
  | int b =>
    cases h.int
    exact ⟨rfl, .inr (.inr (.inl ⟨b, rfl, rfl⟩))⟩
  | str b =>
    cases h.str
    exact ⟨rfl, .inr (.inr (.inr ⟨b, rfl, rfl⟩))⟩
  | _ => exact absurd (show false = true from f) Bool.false_ne_true
theorem eqV_of {B : Hp} {ρ : List Addr} {v u : V} {d e : D} (h : VR Z B ρ v d) (k : VR Z B ρ u e) (fd : flatD d = true) (fe : flatD e = true) : eqV v u = eqFlat d e := by
  obtain ⟨_, h⟩ := (PV.of (H := B) (fun _ _ z => z) h).flat fd
  obtain ⟨_, k⟩ := (PV.of (H := B) (fun _ _ z => z) k).flat fe
  rcases h with ⟨rfl, rfl⟩ | ⟨b, rfl, rfl⟩ | ⟨b, rfl, rfl⟩ | ⟨b, rfl, rfl⟩ <;> rcases k with ⟨rfl, rfl⟩ | ⟨c, rfl, rfl⟩ | ⟨c, rfl, rfl⟩ | ⟨c, rfl, rfl⟩ <;> rfl
theorem VRs.flat {B : Hp} {ρ : List Addr} : ∀ {vs : List V} {ds : List D}, VRs Z B ρ vs ds → ds.all flatD = true → vs.all flatV = true
  | _, _, .nil, _ => rfl
  | _, _, .cons h hs, f => by
    rw [List.all_cons, Bool.and_eq_true] at f ⊢
    exact ⟨((PV.of (H := B) (fun _ _ z => z) h).flat f.1).1, VRs.flat hs f.2⟩
theorem VRs.inV {B : Hp} {ρ : List Addr} {v : V} {d : D} (h : VR Z B ρ v d) (f : flatD d = true) : ∀ {vs : List V} {ds : List D}, VRs Z B ρ vs ds → ds.all flatD = true → L2.inV v vs = ds.any fun e => eqFlat e d
  | _, _, .nil, _ => rfl
  | _, _, .cons k ks, g => by
    rw [List.all_cons, Bool.and_eq_true] at g
    unfold L2.inV
    rw [List.any_cons, List.any_cons, eqV_of k h g.1 f]
    exact congrArg _ (VRs.inV h f ks g.2)
theorem scal_of {H B : Hp} {ρ : List Addr} {x y : V} {d e : D} {b : Bool} (hx : PV Z H B ρ x d) (hy : PV Z H B ρ y e) (h : scalD d e = some b) : scal x y = true ∧ decide (x = y) = b := by
  unfold scalD at h
  split at h <;> first
    | (cases h; cases hx.non; cases hy.non; exact ⟨rfl, by simp⟩)
    | (cases h; cases hx.non; cases hy.int; exact ⟨rfl, by simp⟩)
    | (cases h; cases hx.int; cases hy.non; exact ⟨rfl, by simp⟩)
    | (cases h; cases hx.non; cases hy.bl; exact ⟨rfl, by simp⟩)
    | (cases h; cases hx.bl; cases hy.non; exact ⟨rfl, by simp⟩)
    | (cases h; cases hx.non; cases hy.str; exact ⟨rfl, by simp⟩)
    | (cases h; cases hx.str; cases hy.non; exact ⟨rfl, by simp⟩)
    | (cases h; cases hx.int; cases hy.int; exact ⟨rfl, by simp⟩)
    | (cases h; cases hx.bl; cases hy.bl; exact ⟨rfl, by simp⟩)
    | (cases h; cases hx.str; cases hy.str; exact ⟨rfl, by simp⟩)
    | (cases h; cases hx.int; cases hy.str; exact ⟨rfl, by simp⟩)
    | (cases h; cases hx.str; cases hy.int; exact ⟨rfl, by simp⟩)
    | (cases h; cases hx.bl; cases hy.str; exact ⟨rfl, by simp⟩)
    | (cases h; cases hx.str; cases hy.bl; exact ⟨rfl, by simp⟩)
    | cases h
theorem Got.oB {F : Hp} {S : DS} {σ : St} {H B : Hp} {ρ : List Addr} {o : Option Bool} {Q : VK} (R : Rel Z F S σ H B ρ) (g : Got Z F S σ H B ρ (oB o) Q) : ∃ b, o = some b ∧ Q (.bl b) H := by
  cases o with
  | none => exact False.elim g
  | some b => exact ⟨b, rfl, g.bl R⟩
theorem shD_of {d : D} (h : shD d = true) : d.py.canLay0 = true ∧ d.py.depth ≤ 8 := by
  unfold shD at h
  rw [Bool.and_eq_true, decide_eq_true_eq] at h
  exact h
theorem hits_dic {A : Around} {s : Shared} {pins : List (Addr × Obj)} {σ0 : St} {H : Hp} {B : Hp} {ρ : List Addr} (I : Inv X pins σ0 H s) (hK : X.K = Z.K) (sb : Same B H) (hu : A.units + 8 < cLine) {lvs : List (Key × V)} {ls : List (Key × D)} {vb : List (Key × Value)} (rb : KV lvs vb) (vl : VRk Z B ρ lvs ls) (hl : (ls.all fun p => shD p.2) = true) :
    ∀ {kvs : List (Key × V)} {ks : List (Key × D)} {va : List (Key × Value)}, KV kvs va → VRk Z B ρ kvs ks → (ks.all fun p => shD p.2) = true → PySem.W.KeqHits A s vb va (ks.all fun p => match dget ls p.1 with
      | some e => PyData.eqv p.2.py e.py
      | none => false)
  | [], [], _, ra, .nil, _ => by
    unfold KV at ra
    cases ra
    exact .nil
  | (k, v) :: vs, (_, d) :: ds, _, ra, .cons h t, hk => by
    unfold KV at ra
    cases ra with
    | @cons p q ps qs hp ht =>
      obtain ⟨k', u⟩ := q
      obtain ⟨e1, e2⟩ := hp
      have e1 : k = k' := e1
      subst e1
      have e2 : RelV v u := e2
      rw [List.all_cons, Bool.and_eq_true] at hk
      have ih := hits_dic I hK sb hu rb vl hl (kvs := vs) (ks := ds) (va := qs) ht t hk.2
      rw [List.all_cons]
      have rv := rb.val k
      rcases VRk.get k vl with ⟨g1, g2⟩ | ⟨e, w, g1, g2, g3⟩
      · rw [g1]
        rw [g2] at rv
        refine .miss ?_
        cases hvb : valueAt vb k with
        | none => rfl
        | some z =>
          rw [hvb] at rv
          exact rv.elim
      · rw [g1]
        rw [g2] at rv
        obtain ⟨y, hy, ry⟩ := rv.some_of
        have he : shD e = true := by
          unfold dget at g1
          obtain ⟨kv, z1, z2⟩ := Option.map_eq_some_iff.mp g1
          subst z2
          exact List.all_eq_true.mp hl kv (List.mem_of_find?_eq_some z1)
        obtain ⟨c1, c2⟩ := shD_of hk.1
        obtain ⟨c3, c4⟩ := shD_of he
        have d1 : Dp X.K H v d.py := by rw [hK]; exact (h.mono (.of_same sb) (.refl ρ)).dp c1
        have d2 : Dp X.K H w e.py := by rw [hK]; exact (g3.mono (.of_same sb) (.refl ρ)).dp c3
        obtain ⟨as, r1⟩ := Dp.reads I _ v u d1 e2
        obtain ⟨bs, r2⟩ := Dp.reads I _ w y d2 ry
        refine .hit hy (SeqAt.eqAt_reads _ _ A s u y as bs r1 r2 c1 c3 ?_) ih
        have : min d.py.depth e.py.depth ≤ d.py.depth := Nat.min_le_left _ _
        omega
def rEqDic (Z : SX) : R2 := fun x y H Q => ∃ (B : Hp) (ρ : List Addr) (a b : Addr) (kvs lvs : List (Key × V)) (ks ls : List (Key × D)) (r : Bool), Same B H ∧ x = .ref a ∧ y = .ref b ∧ Rd H a (.dK kvs) ∧ Rd H b (.dK lvs) ∧ VRk Z B ρ kvs ks ∧ VRk Z B ρ lvs ls ∧ eqDic ks ls = some r ∧ Q (.bl r) H
def rNeDic (Z : SX) : R2 := fun x y H Q => ∃ (B : Hp) (ρ : List Addr) (a b : Addr) (kvs lvs : List (Key × V)) (ks ls : List (Key × D)) (r : Bool), Same B H ∧ x = .ref a ∧ y = .ref b ∧ Rd H a (.dK kvs) ∧ Rd H b (.dK lvs) ∧ VRk Z B ρ kvs ks ∧ VRk Z B ρ lvs ls ∧ eqDic ks ls = some r ∧ Q (.bl (!r)) H
theorem op_eqDic (hK : X.K = Z.K) (hu : X.A.units + 64 < cLine) : OpR X (compareOp .Eq) (rEqDic Z) := by
  intro pins s σ0 H x y v u Q I rx ry h
  obtain ⟨B, ρ, a, b, kvs, lvs, ks, ls, r, sb, rfl, rfl, ea, eb, vk, vl, hr, q⟩ := h
  obtain rfl : v = Value.ref a := rx
  obtain rfl : u = Value.ref b := ry
  obtain ⟨_, ya, va, ra, da⟩ := (show ObjOk X.prog X.w H s.heap a (.dK kvs) from ea.ok I.hok)
  obtain ⟨_, yb, vb, rb, db⟩ := (show ObjOk X.prog X.w H s.heap b (.dK lvs) from eb.ok I.hok)
  unfold eqDic at hr
  split at hr
  · rename_i hs
    rw [Bool.and_eq_true] at hs
    cases hr
    have hl : (va.length == vb.length) = (ks.length == ls.length) := by rw [← ra.length, ← rb.length, vk.length, vl.length]
    refine PySem.W.keq_eq (knd := mixKind X.prog X.w) ya yb da db (by omega) (fun _ => hits_dic (A := X.A.in1) I hK sb (by show X.A.units + 1 + 8 < cLine; omega) rb vl hs.2 ra vk hs.1) ?_
    rw [hl]
    exact fin_bl I q rfl
  · cases hr
theorem op_neDic (hK : X.K = Z.K) (hu : X.A.units + 64 < cLine) : OpR X (compareOp .NotEq) (rNeDic Z) := by
  intro pins s σ0 H x y v u Q I rx ry h
  obtain ⟨B, ρ, a, b, kvs, lvs, ks, ls, r, sb, rfl, rfl, ea, eb, vk, vl, hr, q⟩ := h
  obtain rfl : v = Value.ref a := rx
  obtain rfl : u = Value.ref b := ry
  obtain ⟨_, ya, va, ra, da⟩ := (show ObjOk X.prog X.w H s.heap a (.dK kvs) from ea.ok I.hok)
  obtain ⟨_, yb, vb, rb, db⟩ := (show ObjOk X.prog X.w H s.heap b (.dK lvs) from eb.ok I.hok)
  unfold eqDic at hr
  split at hr
  · rename_i hs
    rw [Bool.and_eq_true] at hs
    cases hr
    have hl : (va.length == vb.length) = (ks.length == ls.length) := by rw [← ra.length, ← rb.length, vk.length, vl.length]
    refine PySem.W.keq_ne (knd := mixKind X.prog X.w) ya yb da db (by omega) (fun _ => hits_dic (A := X.A.in1) I hK sb (by show X.A.units + 1 + 8 < cLine; omega) rb vl hs.2 ra vk hs.1) ?_
    rw [hl]
    exact fin_bl I q rfl
  · cases hr
theorem eqDic_true {ks ls : List (Key × D)} (h : eqDic ks ls = some true) : (∀ p ∈ ks, shD p.2 = true) ∧ (∀ p ∈ ls, shD p.2 = true) ∧ ks.length = ls.length ∧ ∀ p ∈ ks, ∃ e, dget ls p.1 = some e ∧ PyData.eqv p.2.py e.py = true := by
  unfold eqDic at h
  split at h
  · rename_i hs
    rw [Bool.and_eq_true, List.all_eq_true, List.all_eq_true] at hs
    have h := Option.some.inj h
    rw [Bool.and_eq_true, List.all_eq_true] at h
    refine ⟨hs.1, hs.2, eq_of_beq h.1, fun p hp => ?_⟩
    have := h.2 p hp
    split at this
    · exact ⟨_, by assumption, this⟩
    · cases this
  · cases h
theorem VRk.mem : ∀ {vs : List (Key × V)} {ds : List (Key × D)} {k : Key} {v : V}, VRk Z B ρ vs ds → (k, v) ∈ vs → ∃ d, (k, d) ∈ ds ∧ VR Z B ρ v d
  | _, _, _, _, .nil, h => by cases h
  | _, _, k, v, .cons h t, hm => by
    rcases List.mem_cons.mp hm with e | hm
    · cases e
      exact ⟨_, List.mem_cons_self, h⟩
    · obtain ⟨d, h1, h2⟩ := VRk.mem t hm
      exact ⟨d, List.mem_cons_of_mem _ h1, h2⟩
theorem KV.mem' : ∀ {kvs : List (Key × V)} {va : List (Key × Value)} {k : Key} {u : Value}, KV kvs va → (k, u) ∈ va → ∃ v, (k, v) ∈ kvs ∧ RelV v u := fun {kvs va k u} r hm => by
  unfold KV at r
  induction r with
  | nil => cases hm
  | @cons p q ps qs hp ht ih =>
    rcases List.mem_cons.mp hm with e | hm
    · subst e
      obtain ⟨e1, e2⟩ := hp
      have e1 : p.1 = k := e1
      exact ⟨p.2, by rw [← e1]; exact List.mem_cons_self, e2⟩
    · obtain ⟨v, h1, h2⟩ := ih hm
      exact ⟨v, List.mem_cons_of_mem _ h1, h2⟩
/-- equal dicts within something -/
theorem tree_dic {s : Shared} {pins : List (Addr × Obj)} {σ0 : St} {H B : Hp} {ρ : List Addr} (I : Inv X pins σ0 H s) (hK : X.K = Z.K) (sb : Same B H) {x y : V} {u w : Value} {ks ls : List (Key × D)} (hx : VR Z B ρ x (.dic ks)) (hy : VR Z B ρ y (.dic ls)) (rx : RelV x u) (ry : RelV y w) (h : eqDic ks ls = some true) : PySem.W.EqTree X.prog X.w s 10 u w true := by
  cases hx with
  | @dic a kvs _ ea vk =>
  cases hy with
  | @dic b lvs _ eb vl =>
  obtain rfl : u = Value.ref a := rx
  obtain rfl : w = Value.ref b := ry
  by_cases hab : a = b
  · subst hab
    exact .same
  have rdH : ∀ {a kvs}, Rd B a (.dK kvs) → Rd H a (.dK kvs) := fun {a kvs} r => by
    rcases r with r | ⟨o, r⟩
    · exact .inl (sb _ _ r)
    · exact .inr ⟨o, sb _ _ r⟩
  obtain ⟨_, ya, va, ra, da⟩ := (show ObjOk X.prog X.w H s.heap a (.dK kvs) from (rdH ea).ok I.hok)
  obtain ⟨_, yb, vb, rb, db⟩ := (show ObjOk X.prog X.w H s.heap b (.dK lvs) from (rdH eb).ok I.hok)
  obtain ⟨h1, h2, h3, h4⟩ := eqDic_true h
  have e := PySem.W.EqTree.dicts (prog := X.prog) (w := X.w) (s := s) (n := 9) (e := fun _ => true) hab ya yb da db (fun k v y hm hv => ?_)
  · have : (va.length == vb.length && va.all fun p => (valueAt vb p.1).isSome && true) = true := by
      rw [← ra.length, ← rb.length, vk.length, vl.length, h3, Bool.and_eq_true, List.all_eq_true]
      refine ⟨by simp, fun p hp => ?_⟩
      obtain ⟨v, g1, _⟩ := KV.mem' ra hp
      obtain ⟨d, g2, _⟩ := VRk.mem vk g1
      obtain ⟨e, g3, _⟩ := h4 _ g2
      have rv := rb.val p.1
      rcases VRk.get p.1 vl with ⟨q1, _⟩ | ⟨_, y, _, q2, _⟩
      · rw [g3] at q1; cases q1
      · rw [q2] at rv
        obtain ⟨z, hz, _⟩ := rv.some_of
        rw [hz]
        rfl
    rw [this] at e
    exact e
  · obtain ⟨x, g1, g1'⟩ := KV.mem' ra hm
    obtain ⟨d, g2, g2'⟩ := VRk.mem vk g1
    obtain ⟨e, g3, g4⟩ := h4 _ g2
    have rv := rb.val k
    rcases VRk.get k vl with ⟨q1, _⟩ | ⟨e', y', q1, q2, q3⟩
    · rw [g3] at q1; cases q1
    · rw [g3] at q1
      cases q1
      rw [q2] at rv
      obtain ⟨z, hz, rz⟩ := rv.some_of
      rw [hv] at hz
      cases hz
      have he : shD e = true := by
        unfold dget at g3
        obtain ⟨kv, z1, z2⟩ := Option.map_eq_some_iff.mp g3
        subst z2
        exact h2 kv (List.mem_of_find?_eq_some z1)
      obtain ⟨c1, c2⟩ := shD_of (h1 _ g2)
      obtain ⟨c3, c4⟩ := shD_of he
      have d1 : Dp X.K H x d.py := by rw [hK]; exact (g2'.mono (.of_same sb) (.refl ρ)).dp c1
      have d2 : Dp X.K H y' e.py := by rw [hK]; exact (q3.mono (.of_same sb) (.refl ρ)).dp c3
      obtain ⟨as, r1⟩ := Dp.reads I _ x v d1 g1'
      obtain ⟨bs, r2⟩ := Dp.reads I _ y' y d2 rz
      refine .leaf fun A hA => ?_
      have := SeqAt.eqAt_reads _ _ A s v y as bs r1 r2 c1 c3 (by have : min d.py.depth e.py.depth ≤ d.py.depth := Nat.min_le_left _ _; omega)
      rwa [g4] at this
theorem eqTD_items : ∀ {ds es : List D} {xs ys : List V} {us ws : List Value}, eqTD ds es = true → VRs Z B ρ xs ds → VRs Z B ρ ys es → Vals xs us → Vals ys ws → us.length = ws.length ∧ ∀ j (h1 : j < us.length) (h2 : j < ws.length), ∃ x y ks ls, VR Z B ρ x (.dic ks) ∧ VR Z B ρ y (.dic ls) ∧ RelV x us[j] ∧ RelV y ws[j] ∧ eqDic ks ls = some true
  | [], [], _, _, _, _, _, .nil, .nil, .nil, .nil => ⟨rfl, fun j h1 => absurd h1 (Nat.not_lt_zero j)⟩
  | .dic a :: ds, .dic c :: es, _, _, _, _, h, .cons h1 t1, .cons h2 t2, .cons r1 q1, .cons r2 q2 => by
    have h : (decide (eqDic a c = some true) && eqTD ds es) = true := h
    rw [Bool.and_eq_true, decide_eq_true_eq] at h
    obtain ⟨e1, e2⟩ := eqTD_items h.2 t1 t2 q1 q2
    refine ⟨by rw [List.length_cons, List.length_cons, e1], fun j g1 g2 => ?_⟩
    cases j with
    | zero => exact ⟨_, _, _, _, h1, h2, r1, r2, h.1⟩
    | succ j => exact e2 j (Nat.lt_of_succ_lt_succ g1) (Nat.lt_of_succ_lt_succ g2)
def rEqTD (Z : SX) (b : Bool) : R2 := fun x y H Q => ∃ (B : Hp) (ρ : List Addr) (ds es : List D), Same B H ∧ VR Z B ρ x (.tup ds) ∧ VR Z B ρ y (.tup es) ∧ eqTD ds es = true ∧ Q (.bl b) H
theorem op_eqTD (hK : X.K = Z.K) (hu : X.A.units + 64 < cLine) : OpR X (compareOp .Eq) (rEqTD Z true) := by
  intro pins s σ0 H x y v u Q I rx ry h
  obtain ⟨B, ρ, ds, es, sb, hx, hy, hd, q⟩ := h
  cases hx with
  | @tup a xs _ ta hxs =>
  cases hy with
  | @tup b ys _ tb hys =>
  obtain rfl : v = Value.ref a := rx
  obtain rfl : u = Value.ref b := ry
  obtain ⟨us, r1, p1, _⟩ := I.tuple (show SqT X.K H a xs by rw [hK]; exact (Le.of_same sb).tup ta)
  obtain ⟨ws, r2, p2, _⟩ := I.tuple (show SqT X.K H b ys by rw [hK]; exact (Le.of_same sb).tup tb)
  obtain ⟨e1, e2⟩ := eqTD_items hd hxs hys r1 r2
  refine PySem.W.eq_tuplesT (n := 10) (e := fun _ => true) p1 p2 (fun j h1 h2 => ?_) (by omega) ?_
  · obtain ⟨x, y, ks, ls, g1, g2, g3, g4, g5⟩ := e2 j (by simpa using h1) (by simpa using h2)
    have := tree_dic I hK sb g1 g2 g3 g4 g5
    simpa using this
  · have : ((List.range (min us.toArray.size ws.toArray.size)).all (fun _ => true) && us.toArray.size == ws.toArray.size) = true := by
      rw [Bool.and_eq_true, List.all_eq_true]
      exact ⟨fun _ _ => rfl, by simp [e1]⟩
    rw [this]
    exact fin_bl I q rfl
theorem op_eqA (hK : X.K = Z.K) (hu : X.A.units + 64 < cLine) : OpR X (compareOp .Eq) (rD2 Z gEq) := by
  refine OpR.imp (OpR.or (op_eqTD hK hu) (OpR.or (op_eqDic hK hu) (OpR.or op_eq (op_eqD hu)))) fun x y H Q q => ?_
  obtain ⟨F, S, σ, B, ρ, d, e, R, hx, hy, q⟩ := q
  obtain ⟨b, hb, q2⟩ := Got.oB R q
  unfold eqX at hb
  split at hb
  · split at hb
    · rename_i hc
      cases hb
      exact .inl ⟨H, ρ, _, _, fun _ _ z => z, hx.vr R.bh, hy.vr R.bh, hc, q2⟩
    · cases hb
  refine .inr ?_
  unfold eqX0 at hb
  split at hb
  · obtain ⟨a, ks, rfl, h1, h2⟩ := hx
    obtain ⟨b', ls, rfl, h3, h4⟩ := hy
    exact .inl ⟨B, ρ, a, b', ks, ls, _, _, b, R.bh, rfl, rfl, h1, h3, h2, h4, hb, q2⟩
  refine .inr ?_
  unfold eqD at hb
  split at hb
  · rename_i b' hs
    cases hb
    obtain ⟨h1, h2⟩ := scal_of hx hy hs
    exact .inl ⟨h1, by rw [h2]; exact q2⟩
  · split at hb
    · rename_i hs
      cases hb
      refine .inr ⟨_, _, ?_, ?_, hs.1, hs.2, q2⟩
      · rw [hK]
        exact (hx.vr R.bh).dp (SeqAt.canLay_of_shaped hs.1)
      · rw [hK]
        exact (hy.vr R.bh).dp (SeqAt.canLay_of_shaped hs.2)
    · cases hb
theorem op_neA (hK : X.K = Z.K) (hu : X.A.units + 64 < cLine) : OpR X (compareOp .NotEq) (rD2 Z gNe) := by
  refine OpR.imp (OpR.or (op_neDic hK hu) (OpR.or op_ne (op_neD hu))) fun x y H Q q => ?_
  obtain ⟨F, S, σ, B, ρ, d, e, R, hx, hy, q⟩ := q
  obtain ⟨b, hb, q2⟩ := Got.oB R q
  rw [Option.map_eq_some_iff] at hb
  obtain ⟨c, hb, rfl⟩ := hb
  unfold eqX0 at hb
  split at hb
  · obtain ⟨a, ks, rfl, h1, h2⟩ := hx
    obtain ⟨b', ls, rfl, h3, h4⟩ := hy
    exact .inl ⟨B, ρ, a, b', ks, ls, _, _, c, R.bh, rfl, rfl, h1, h3, h2, h4, hb, q2⟩
  refine .inr ?_
  unfold eqD at hb
  split at hb
  · rename_i b' hs
    cases hb
    obtain ⟨h1, h2⟩ := scal_of hx hy hs
    exact .inl ⟨h1, by rw [h2]; exact q2⟩
  · split at hb
    · rename_i hs
      cases hb
      refine .inr ⟨_, _, ?_, ?_, hs.1, hs.2, q2⟩
      · rw [hK]
        exact (hx.vr R.bh).dp (SeqAt.canLay_of_shaped hs.1)
      · rw [hK]
        exact (hy.vr R.bh).dp (SeqAt.canLay_of_shaped hs.2)
    · cases hb
theorem op_ltA : OpR X (compareOp .Lt) (rD2 Z gLt) := by
  refine OpR.imp (OpR.or op_lt op_lt_str) fun x y H Q q => ?_
  obtain ⟨F, S, σ, B, ρ, d, e, R, hx, hy, q⟩ := q
  unfold gLt at q
  split at q
  · exact .inl ⟨_, _, hx.int, hy.int, q.bl R⟩
  · exact .inr ⟨_, _, hx.str, hy.str, q.bl R⟩
  · exact q.elim
theorem op_gIB {f : Value → Value → Sem Value} {g : Int → Int → Bool} (h : OpR X f (rI0 fun i j => .bl (g i j))) : OpR X f (rD2 Z (gIB g)) := by
  refine OpR.imp h fun x y H Q q => ?_
  obtain ⟨F, S, σ, B, ρ, d, e, R, hx, hy, q⟩ := q
  unfold gIB at q
  split at q
  · exact ⟨_, _, hx.int, hy.int, q.bl R⟩
  · exact q.elim
/-- what in asks -/
theorem in_of {H B : Hp} {ρ : List Addr} {K : PySem.W.Frag} {x y : V} {d e : D} {b : Bool} (hK : K = Z.K) (hb : Same B H) (hx : PV Z H B ρ x d) (hy : PV Z H B ρ y e) (h : inD d e = some b) :
    (∃ (c : Nat) (z : Str), x = .str ⟨#[c]⟩ ∧ y = .str z ∧ b = decide (c ∈ z.cps.toList)) ∨ (∃ i j, x = .str i ∧ y = .str j ∧ b = !(Builtin.Str.occurrences j i 0 j.length 1).isEmpty) ∨
      (∃ p xs, y = .ref p ∧ (SqL K H p xs ∨ SqT K H p xs) ∧ flatV x = true ∧ xs.all flatV = true ∧ b = L2.inV x xs) ∨ ∃ p ks k, y = .ref p ∧ Rd H p (.dK ks) ∧ x = kV k ∧ b = (valV ks k).isSome := by
  subst hK
  have go : ∀ {ds : List D} {xs : List V}, VRs Z B ρ xs ds → (if flatD d = true ∧ ds.all flatD = true then some (ds.any fun e => eqFlat e d) else none) = some b → flatV x = true ∧ xs.all flatV = true ∧ b = L2.inV x xs := fun {ds xs} hs h => by
    split at h
    · rename_i f
      cases h
      obtain ⟨fx, _⟩ := hx.flat f.1
      exact ⟨fx, hs.flat f.2, (VRs.inV (hx.vr hb) f.1 (hs.mono (.of_same hb) (.refl ρ)) f.2).symm⟩
    · cases h
  unfold inD at h
  split at h
  · rename_i a z
    cases h
    cases hx.str
    cases hy.str
    unfold inS
    split
    · rename_i c hc
      refine .inl ⟨c, z, ?_, rfl, rfl⟩
      obtain ⟨l⟩ := a
      have e : l = #[c] := by
        have := congrArg List.toArray hc
        simpa using this
      rw [e]
    · exact .inr (.inl ⟨a, z, rfl, rfl, rfl⟩)
  · obtain ⟨p, xs, rfl, h1, h2⟩ := hy
    obtain ⟨g1, g2, g3⟩ := go h2 h
    exact .inr (.inr (.inl ⟨p, xs, rfl, .inl (.inl (.inl h1)), g1, g2, g3⟩))
  · obtain ⟨p, xs, rfl, h1, h2⟩ := hy
    obtain ⟨g1, g2, g3⟩ := go h2 h
    exact .inr (.inr (.inl ⟨p, xs, rfl, .inl h1, g1, g2, g3⟩))
  · obtain ⟨p, xs, rfl, h1, h2⟩ := hy.tup
    obtain ⟨g1, g2, g3⟩ := go h2 h
    exact .inr (.inr (.inl ⟨p, xs, rfl, .inr ((Le.of_same hb).tup h1), g1, g2, g3⟩))
  · obtain ⟨k, hk, rfl⟩ := Option.map_eq_some_iff.mp h
    obtain ⟨p, ks, rfl, h1, h2⟩ := hy
    refine .inr (.inr (.inr ⟨p, ks, k, rfl, h1, ?_, ?_⟩))
    · cases d with
      | int i =>
        cases hk
        exact hx.int
      | str i =>
        cases hk
        exact hx.str
      | _ => cases hk
    · rcases VRk.get k h2 with ⟨e1, e2⟩ | ⟨d', v', e1, e2, _⟩
      · rw [e1, e2]
        rfl
      · rw [e1, e2]
        rfl
  · cases h
/-- in a dict -/
def rInD : R2 := fun x y H Q => ∃ a ov, y = .ref a ∧ DGet H a x ov ∧ Q (.bl ov.isSome) H
def rNotInD : R2 := fun x y H Q => ∃ a ov, y = .ref a ∧ DGet H a x ov ∧ Q (.bl (!ov.isSome)) H
theorem op_inDic (hu : X.A.units + 1 < cLine) : OpR X (compareOp .In) rInD := fun pins s σ H x y v u Q I rx ry q => by
  obtain ⟨a, ov, rfl, g, q⟩ := q
  obtain rfl : u = Value.ref a := ry
  exact d_in hu I g rx fun s' I' => ⟨.bl ov.isSome, H, I', rfl, q⟩
theorem op_notInDic (hu : X.A.units + 1 < cLine) : OpR X (compareOp .NotIn) rNotInD := fun pins s σ H x y v u Q I rx ry q => by
  obtain ⟨a, ov, rfl, g, q⟩ := q
  obtain rfl : u = Value.ref a := ry
  exact d_notIn hu I g rx fun s' I' => ⟨.bl (!ov.isSome), H, I', rfl, q⟩
theorem op_inA (hK : X.K = Z.K) (hu : X.A.units + 64 < cLine) : OpR X (compareOp .In) (rD2 Z fun d e => oB (inD d e)) := by
  refine OpR.imp (OpR.or op_in_sign (OpR.or op_in_str (OpR.or op_in_seq (op_inDic (by omega))))) fun x y H Q q => ?_
  obtain ⟨F, S, σ, B, ρ, d, e, R, hx, hy, q⟩ := q
  obtain ⟨b, hb, q2⟩ := Got.oB R q
  rcases in_of hK R.bh hx hy hb with ⟨c, z, rfl, rfl, rfl⟩ | ⟨i, j, rfl, rfl, rfl⟩ | ⟨p, xs, rfl, h1, h2, h3, rfl⟩ | ⟨p, ks, k, rfl, h1, rfl, rfl⟩
  · exact .inl ⟨c, z, rfl, rfl, q2⟩
  · exact .inr (.inl ⟨i, j, rfl, rfl, q2⟩)
  · exact .inr (.inr (.inl ⟨p, xs, rfl, h1, h2, h3, by rw [if_neg Bool.false_ne_true]; exact q2⟩))
  · exact .inr (.inr (.inr ⟨p, _, rfl, .inl ⟨ks, k, h1, rfl, rfl⟩, q2⟩))
theorem op_notInA (hK : X.K = Z.K) (hu : X.A.units + 64 < cLine) : OpR X (compareOp .NotIn) (rD2 Z fun d e => oB ((inD d e).map (! ·))) := by
  refine OpR.imp (OpR.or op_notIn_sign (OpR.or op_notin_str (OpR.or op_notIn_seq (op_notInDic (by omega))))) fun x y H Q q => ?_
  obtain ⟨F, S, σ, B, ρ, d, e, R, hx, hy, q⟩ := q
  obtain ⟨b, hb, q2⟩ := Got.oB R q
  rw [Option.map_eq_some_iff] at hb
  obtain ⟨c, hb, rfl⟩ := hb
  rcases in_of hK R.bh hx hy hb with ⟨c, z, rfl, rfl, rfl⟩ | ⟨i, j, rfl, rfl, rfl⟩ | ⟨p, xs, rfl, h1, h2, h3, rfl⟩ | ⟨p, ks, k, rfl, h1, rfl, rfl⟩
  · exact .inl ⟨c, z, rfl, rfl, q2⟩
  · exact .inr (.inl ⟨i, j, rfl, rfl, q2⟩)
  · exact .inr (.inr (.inl ⟨p, xs, rfl, h1, h2, h3, by rw [if_pos rfl]; exact q2⟩))
  · exact .inr (.inr (.inr ⟨p, _, rfl, .inl ⟨ks, k, h1, rfl, rfl⟩, q2⟩))
theorem PV.isNon {H B : Hp} {ρ : List Addr} {v : V} {d : D} {b : Bool} (h : PV Z H B ρ v d) (e : isN d .non = some b) : decide (v = .non) = b := by
  cases d with
  | non =>
    cases h.non
    cases e
    rfl
  | bl i =>
    cases h.bl
    cases e
    rfl
  | int i =>
    cases h.int
    cases e
    rfl
  | str i =>
    cases h.str
    cases e
    rfl
  | tup ds =>
    obtain ⟨a, _, rfl, _⟩ := h.tup
    cases e
    rfl
  | lst ds =>
    obtain ⟨a, _, rfl, _⟩ := h
    cases e
    rfl
  | scr ds =>
    obtain ⟨a, _, rfl, _⟩ := h
    cases e
    rfl
  | dic ds =>
    obtain ⟨a, _, rfl, _⟩ := h
    cases e
    rfl
  | ins c fs =>
    have h' : VR Z B ρ v (.ins c fs) := h
    cases h'
    cases e
    rfl
  | ref k =>
    have h' : VR Z B ρ v (.ref k) := h
    cases h'
    cases e
    rfl
  | exn k =>
    have h' : VR Z B ρ v (.exn k) := h
    cases h'
    cases e
    rfl
theorem isN_of {d e : D} {b : Bool} (h : isN d e = some b) : e = .non ∨ ∃ x y, d = .bl x ∧ e = .bl y ∧ b = decide (x = y) := by
  cases d <;> cases e <;> first | exact .inl rfl | (cases h; done) | (cases h; exact .inr ⟨_, _, rfl, rfl, rfl⟩)
theorem op_isA : OpR X (compareOp .Is) (rD2 Z fun d e => oB (isN d e)) := by
  refine OpR.imp (OpR.or op_isN op_is_bl) fun x y H Q q => ?_
  obtain ⟨F, S, σ, B, ρ, d, e, R, hx, hy, q⟩ := q
  obtain ⟨b, hb, q2⟩ := Got.oB R q
  rcases isN_of hb with rfl | ⟨u, v, rfl, rfl, rfl⟩
  · exact .inl ⟨hy.non, by rw [hx.isNon hb]; exact q2⟩
  · exact .inr ⟨u, v, hx.bl, hy.bl, q2⟩
theorem op_isNotA : OpR X (compareOp .IsNot) (rD2 Z fun d e => oB ((isN d e).map (! ·))) := by
  refine OpR.imp (OpR.or op_notN op_isnot_bl) fun x y H Q q => ?_
  obtain ⟨F, S, σ, B, ρ, d, e, R, hx, hy, q⟩ := q
  obtain ⟨b, hb, q2⟩ := Got.oB R q
  rw [Option.map_eq_some_iff] at hb
  obtain ⟨c, hb, rfl⟩ := hb
  rcases isN_of hb with rfl | ⟨u, v, rfl, rfl, rfl⟩
  · exact .inl ⟨hy.non, by rw [hx.isNon hb]; exact q2⟩
  · exact .inr ⟨u, v, hx.bl, hy.bl, q2⟩
theorem op_cmp (hK : X.K = Z.K) (hu : X.A.units + 64 < cLine) (op : CmpOp) : OpR X (compareOp op) (rD2 Z (gCmp op)) := by
  cases op with
  | Eq => exact op_eqA hK hu
  | NotEq => exact op_neA hK hu
  | Lt => exact op_ltA
  | LtE => exact op_gIB op_le
  | Gt => exact op_gIB op_gt
  | GtE => exact op_gIB op_ge
  | In => exact op_inA hK hu
  | NotIn => exact op_notInA hK hu
  | Is => exact op_isA
  | IsNot => exact op_isNotA

/-! ### built-in functions -/
def gNeg : D → R
  | .int i => .val (.int (-i))
  | _ => .stk
theorem un_negA : UnR X (unaryOp .USub) (rD1 Z gNeg) := fun pins s σ' H x v Q I rx h => by
  obtain ⟨F, S, σ, B, ρ, d, R, hx, q⟩ := h
  unfold gNeg at q
  split at q
  · exact un_neg pins s σ' H x v Q I rx ⟨_, hx.int, q.int R⟩
  · exact q.elim
theorem CallR.imp {f : Value} {r r' : List V → Hp → VK → Prop} (h : CallR X f r) (i : ∀ vs H Q, r' vs H Q → r vs H Q) : CallR X f r' := fun pins s σ H xs us Q I rx q => h pins s σ H xs us Q I rx (i _ _ _ q)
def gLen : List D → R
  | [.str x] => if x.length ≤ sizeLine then .val (.int x.length) else .stk
  | [.lst ds] => .val (.int ds.length)
  | [.scr ds] => .val (.int ds.length)
  | [.tup ds] => .val (.int ds.length)
  | [.dic kvs] => .val (.int kvs.length)
  | _ => .stk
theorem cr_lenD : CallR X (.builtin "len") (fun xs H Q => ∃ a kvs, xs = [V.ref a] ∧ Rd H a (.dK kvs) ∧ Q (.int kvs.length) H) := by
  intro pins s σ H xs us Q I r h
  obtain ⟨a, kvs, rfl, ha, q⟩ := h
  obtain ⟨u, rfl, ru⟩ := vals1 r
  cases ru
  exact d_len I ha fun t s' I' => ⟨.int kvs.length, H, I', ⟨t, rfl⟩, q⟩
theorem call_lenA (hK : X.K = Z.K) : CallR X (.builtin "len") (rDs Z gLen) := by
  refine CallR.imp (CallR.or cr_lenD call_len) fun vs H Q q => ?_
  obtain ⟨F, S, σ, B, ρ, ds, R, hx, q⟩ := q
  rw [hK]
  unfold gLen at q
  split at q
  · split at q
    · obtain ⟨v, rfl, h⟩ := hx.one
      cases h.str
      exact .inr ⟨_, _, rfl, ⟨by assumption, rfl⟩, q.int R⟩
    · exact q.elim
  · obtain ⟨v, rfl, h⟩ := hx.one
    obtain ⟨a, xs, rfl, h1, h2⟩ := h
    exact .inr ⟨_, xs.length, rfl, .inl ⟨xs, .inl (.inl h1), rfl⟩, by rw [h2.length]; exact q.int R⟩
  · obtain ⟨v, rfl, h⟩ := hx.one
    obtain ⟨a, xs, rfl, h1, h2⟩ := h
    exact .inr ⟨_, xs.length, rfl, .inl ⟨xs, h1, rfl⟩, by rw [h2.length]; exact q.int R⟩
  · obtain ⟨v, rfl, h⟩ := hx.one
    obtain ⟨a, xs, rfl, h1, h2⟩ := h.tup
    exact .inr ⟨_, xs.length, rfl, .inr ⟨xs, (Le.of_same R.bh).tup h1, rfl⟩, by rw [h2.length]; exact q.int R⟩
  · obtain ⟨v, rfl, h⟩ := hx.one
    obtain ⟨a, ks, rfl, h1, h2⟩ := h
    exact .inl ⟨a, ks, rfl, h1, by rw [h2.length]; exact q.int R⟩
  · exact q.elim
def gList : List D → R
  | [.lst ds] => .own (.lst ds)
  | [.scr ds] => .own (.lst ds)
  | [.tup ds] => .own (.lst ds)
  | _ => .stk
theorem call_listA (hK : X.K = Z.K) : CallR X (.type "list") (rDs Z gList) := by
  refine CallR.imp call_list_of fun vs H Q q => ?_
  obtain ⟨F, S, σ, B, ρ, ds, R, hx, q⟩ := q
  rw [hK]
  unfold gList at q
  split at q
  · obtain ⟨v, rfl, h⟩ := hx.one
    obtain ⟨a, xs, rfl, h1, h2⟩ := h
    exact ⟨_, xs, rfl, .inl (.inl (.inl h1)), q.lst R h2⟩
  · obtain ⟨v, rfl, h⟩ := hx.one
    obtain ⟨a, xs, rfl, h1, h2⟩ := h
    exact ⟨_, xs, rfl, .inl h1, q.lst R h2⟩
  · obtain ⟨v, rfl, h⟩ := hx.one
    obtain ⟨a, xs, rfl, h1, h2⟩ := h.tup
    exact ⟨_, xs, rfl, .inr ((Le.of_same R.bh).tup h1), q.lst R h2⟩
  · exact q.elim
def gTuple : List D → R
  | [.lst ds] => .val (.tup ds)
  | [.scr ds] => .val (.tup ds)
  | [.tup ds] => .val (.tup ds)
  | _ => .stk
theorem call_tupleA (hK : X.K = Z.K) : CallR X (.type "tuple") (rDs Z gTuple) := by
  refine CallR.imp call_tuple_of fun vs H Q q => ?_
  obtain ⟨F, S, σ, B, ρ, ds, R, hx, q⟩ := q
  rw [hK]
  unfold gTuple at q
  split at q
  · obtain ⟨v, rfl, h⟩ := hx.one
    obtain ⟨a, xs, rfl, h1, h2⟩ := h
    exact ⟨_, xs, rfl, .inl ⟨.inl (.inl h1), q.tup R h2⟩⟩
  · obtain ⟨v, rfl, h⟩ := hx.one
    obtain ⟨a, xs, rfl, h1, h2⟩ := h
    exact ⟨_, xs, rfl, .inl ⟨h1, q.tup R h2⟩⟩
  · obtain ⟨v, rfl, h⟩ := hx.one
    obtain ⟨a, xs, rfl, h1, h2⟩ := h.tup
    exact ⟨_, xs, rfl, .inr ⟨(Le.of_same R.bh).tup h1, q.old R (.tup h1 h2)⟩⟩
  · exact q.elim
def intsOf : List D → Option (List Int)
  | [] => some []
  | .int i :: ds => (intsOf ds).map (i :: ·)
  | _ :: _ => none
theorem intsOf_eq : ∀ {ds : List D} {ns : List Int}, intsOf ds = some ns → ds = ns.map D.int
  | [], ns, h => by cases h; rfl
  | .int i :: ds, ns, h => by
    unfold intsOf at h
    rw [Option.map_eq_some_iff] at h
    obtain ⟨ms, h, rfl⟩ := h
    rw [intsOf_eq h]
    rfl
  | .non :: _, _, h => by cases h
  | .bl _ :: _, _, h => by cases h
  | .str _ :: _, _, h => by cases h
  | .tup _ :: _, _, h => by cases h
  | .lst _ :: _, _, h => by cases h
  | .scr _ :: _, _, h => by cases h
  | .dic _ :: _, _, h => by cases h
  | .ins _ _ :: _, _, h => by cases h
  | .ref _ :: _, _, h => by cases h
  | .exn _ :: _, _, h => by cases h
theorem intsOf_map (ns : List Int) : intsOf (ns.map D.int) = some ns := by
  induction ns with
  | nil => rfl
  | cons n ns ih =>
    rw [List.map_cons, intsOf, ih]
    rfl
def blsOf : List D → Option (List Bool)
  | [] => some []
  | .bl i :: ds => (blsOf ds).map (i :: ·)
  | _ :: _ => none
theorem blsOf_eq : ∀ {ds : List D} {ns : List Bool}, blsOf ds = some ns → ds = ns.map D.bl
  | [], ns, h => by cases h; rfl
  | .bl i :: ds, ns, h => by
    unfold blsOf at h
    rw [Option.map_eq_some_iff] at h
    obtain ⟨ms, h, rfl⟩ := h
    rw [blsOf_eq h]
    rfl
  | .non :: _, _, h => by cases h
  | .int _ :: _, _, h => by cases h
  | .str _ :: _, _, h => by cases h
  | .tup _ :: _, _, h => by cases h
  | .lst _ :: _, _, h => by cases h
  | .scr _ :: _, _, h => by cases h
  | .dic _ :: _, _, h => by cases h
  | .ins _ _ :: _, _, h => by cases h
  | .ref _ :: _, _, h => by cases h
  | .exn _ :: _, _, h => by cases h
theorem blsOf_map (ns : List Bool) : blsOf (ns.map D.bl) = some ns := by
  induction ns with
  | nil => rfl
  | cons n ns ih =>
    rw [List.map_cons, blsOf, ih]
    rfl
/-- one list of ints, of truths -/
def gOne {α : Type} (f : List D → Option α) (g : α → R) : List D → R
  | [.lst ds] => match f ds with
    | some a => g a
    | none => .stk
  | _ => .stk
def gSum : List D → R := gOne intsOf fun ns => .val (.int ns.sum)
def gAll : List D → R := gOne blsOf fun ns => .val (.bl (ns.all id))
def gAny : List D → R := gOne blsOf fun ns => .val (.bl (ns.any id))
def maxL : List Int → Int
  | [] => 0
  | [n] => n
  | n :: ns => max n (maxL ns)
def minL : List Int → Int
  | [] => 0
  | [n] => n
  | n :: ns => min n (minL ns)
theorem maxL_mem : ∀ {ns : List Int}, ns ≠ [] → maxL ns ∈ ns ∧ ∀ y, y ∈ ns → y ≤ maxL ns
  | [], h => absurd rfl h
  | [n], _ => ⟨by simp [maxL], fun y hy => by simp at hy; simp [maxL, hy]⟩
  | n :: m :: ns, _ => by
    obtain ⟨h1, h2⟩ := maxL_mem (ns := m :: ns) (by simp)
    have e : maxL (n :: m :: ns) = max n (maxL (m :: ns)) := rfl
    rw [e]
    refine ⟨?_, fun y hy => ?_⟩
    · by_cases q : n ≤ maxL (m :: ns)
      · rw [Int.max_eq_right q]
        exact List.mem_cons_of_mem _ h1
      · rw [Int.max_eq_left (by omega)]
        exact List.mem_cons_self
    · rcases List.mem_cons.mp hy with rfl | hy
      · exact Int.le_max_left ..
      · have := h2 y hy
        exact Int.le_trans this (Int.le_max_right ..)
theorem minL_mem : ∀ {ns : List Int}, ns ≠ [] → minL ns ∈ ns ∧ ∀ y, y ∈ ns → minL ns ≤ y
  | [], h => absurd rfl h
  | [n], _ => ⟨by simp [minL], fun y hy => by simp at hy; simp [minL, hy]⟩
  | n :: m :: ns, _ => by
    obtain ⟨h1, h2⟩ := minL_mem (ns := m :: ns) (by simp)
    have e : minL (n :: m :: ns) = min n (minL (m :: ns)) := rfl
    rw [e]
    refine ⟨?_, fun y hy => ?_⟩
    · by_cases q : n ≤ minL (m :: ns)
      · rw [Int.min_eq_left q]
        exact List.mem_cons_self
      · rw [Int.min_eq_right (by omega)]
        exact List.mem_cons_of_mem _ h1
    · rcases List.mem_cons.mp hy with rfl | hy
      · exact Int.min_le_left ..
      · have := h2 y hy
        exact Int.le_trans (Int.min_le_right ..) this
def gMax : List D → R
  | [.int i, .int j] => .val (.int (if j > i then j else i))
  | [.tup es] => (match intsOf es with
    | some ns => if ns = [] then .stk else .val (.int (maxL ns))
    | none => .stk)
  | ds => gOne intsOf (fun ns => if ns = [] then .stk else .val (.int (maxL ns))) ds
def gMin : List D → R
  | [.int i, .int j] => .val (.int (if j < i then j else i))
  | [.tup es] => (match intsOf es with
    | some ns => if ns = [] then .stk else .val (.int (minL ns))
    | none => .stk)
  | ds => gOne intsOf (fun ns => if ns = [] then .stk else .val (.int (minL ns))) ds
theorem gOne_of {α : Type} {f : List D → Option α} {g : α → R} {ds : List D} {F : Hp} {S : DS} {σ : St} {H B : Hp} {ρ : List Addr} {Q : VK} (q : Got Z F S σ H B ρ (gOne f g ds) Q) : ∃ es a, ds = [.lst es] ∧ f es = some a ∧ Got Z F S σ H B ρ (g a) Q := by
  unfold gOne at q
  split at q
  · split at q
    · exact ⟨_, _, rfl, by assumption, q⟩
    · exact q.elim
  · exact q.elim
theorem call_sumA (hc : X.calm = true) : CallR X (.builtin "sum") (rDs Z gSum) := by
  refine CallR.imp (cr_sum hc) fun vs H Q q => ?_
  obtain ⟨F, S, σ, B, ρ, ds, R, hx, q⟩ := q
  obtain ⟨es, ns, rfl, he, q2⟩ := gOne_of q
  cases intsOf_eq he
  obtain ⟨v, rfl, a, xs, rfl, h1, h2⟩ := hx.one
  cases h2.ints
  exact ⟨a, ns, rfl, .inl (.inl h1), q2.int R⟩
theorem call_allA (hc : X.calm = true) : CallR X (.builtin "all") (rDs Z gAll) := by
  refine CallR.imp (cr_all hc) fun vs H Q q => ?_
  obtain ⟨F, S, σ, B, ρ, ds, R, hx, q⟩ := q
  obtain ⟨es, ns, rfl, he, q2⟩ := gOne_of q
  cases blsOf_eq he
  obtain ⟨v, rfl, a, xs, rfl, h1, h2⟩ := hx.one
  cases h2.bls
  exact ⟨a, ns, rfl, .inl (.inl h1), q2.bl R⟩
theorem call_anyA (hc : X.calm = true) : CallR X (.builtin "any") (rDs Z gAny) := by
  refine CallR.imp (cr_any hc) fun vs H Q q => ?_
  obtain ⟨F, S, σ, B, ρ, ds, R, hx, q⟩ := q
  obtain ⟨es, ns, rfl, he, q2⟩ := gOne_of q
  cases blsOf_eq he
  obtain ⟨v, rfl, a, xs, rfl, h1, h2⟩ := hx.one
  cases h2.bls
  exact ⟨a, ns, rfl, .inl (.inl h1), q2.bl R⟩
theorem iter_intTup {prog : Program} {w : World} {A : Around} {E : Value → Shared → Prop} {s : Shared} {l : Addr} {xs : Array (Int × Tok)} {Q : Value → Shared → Prop} (hl : s.heap.IsTuple l (intItems xs))
    (h : ∀ s₂ : Shared, s₂ = { s with heap := s.heap.push { cls := .type "tuple_iterator", data := .fields #[.ref l, .int 0 0] } } →
      (s₂.heap.IsTupleIter s.heap.objs.size l 0 ∧ s₂.heap.IsTuple l (intItems xs)) → (∀ b ∈ [s.heap.objs.size, l], b < s₂.heap.objs.size) → l ≠ s.heap.objs.size → Q (.ref s.heap.objs.size) s₂) :
    wpAny (model prog w) A (pyIter (.ref l)) Q E s := by
  have hlt : l < s.heap.objs.size := by obtain ⟨_, e, _⟩ := hl; exact Heap.lt_size e
  refine wpAny_pyIter_tuple hl (h _ rfl ⟨⟨_, Heap.get?_push_size _ rfl, rfl, rfl⟩, hl.push _⟩ (fun b hb => ?_) (Nat.ne_of_lt hlt))
  show b < (s.heap.push _).objs.size
  rw [Heap.size_push]
  rcases List.mem_cons.mp hb with rfl | hb
  · exact Nat.lt_succ_self _
  · rcases List.mem_cons.mp hb with rfl | hb
    · exact Nat.lt_succ_of_lt hlt
    · cases hb
theorem old_keptT {s : Shared} {l : Addr} {h' : Heap} (hk : ∀ b o, b ∉ [s.heap.objs.size] → (s.heap.push { cls := .type "tuple_iterator", data := .fields #[.ref l, .int 0 0] }).get? b = some o → h'.get? b = some o) :
    ∀ b o, s.heap.get? b = some o → h'.get? b = some o := fun b o e => by
  refine hk b o (fun hm => ?_) (Heap.get?_push_of_some _ e)
  rcases List.mem_cons.mp hm with e1 | hm
  · exact absurd (e1 ▸ Heap.lt_size e) (Nat.lt_irrefl _)
  · cases hm
theorem cr_maxT {X : Cx} (hc : X.calm = true) : CallR X (.builtin "max") (fun vs H Q => ∃ (a : Addr) (ns : List Int), vs = [V.ref a] ∧ SqT X.K H a (ns.map V.int) ∧ 0 < ns.length ∧ ∀ m, m ∈ ns → (∀ y, y ∈ ns → y ≤ m) → Q (.int m) H) := by
  intro pins s σ H vs us Q I r h
  obtain ⟨a, ns, rfl, hs, hne, q⟩ := h
  obtain ⟨its, rv, hl, _⟩ := I.tuple hs
  rw [Vals.ref1 r]
  have hi := rv.ints
  obtain ⟨xs, e⟩ := hi.allInts.items
  have hn : numsOf (intItems xs).toList = ns := by rw [← e]; exact hi.numsOf
  rw [nums_intItems] at hn
  subst hn
  rw [e] at hl
  have hsz : 0 < xs.size := by simpa using hne
  refine call_max_walk (iter_intTup hl fun s₂ e st hfp hlI => ?_)
  subst e
  refine ⟨_, _, _, _, _, _, _, rfl, PySem.Walks.tuple (A := X.A.in1) (I.ok.hd hc) _ a hlI (intItems xs), st, hfp, by simpa [intItems] using hsz, CmpOf.ints_gt (numAt xs) (fun _ _ => intItems_at), fun v h' tk hP hk => ?_⟩
  have hv : (intItems xs)[argBest (fun i j => decide (numAt xs i > numAt xs j)) (xs.size - 1)]? = some v := by simpa [intItems] using hP
  obtain ⟨t, rfl⟩ := intItems_at hv
  obtain ⟨h1, h2⟩ := argBest_gt (numAt xs) (xs.size - 1)
  refine ⟨.int _, H, I.kept (old_keptT hk), ⟨_, rfl⟩, q _ ?_ fun a ha => ?_⟩
  · rw [numAt_eq]; exact PySem.getD_mem (by rw [List.length_map, Array.length_toList]; omega)
  · obtain ⟨j, hj, rfl⟩ := mem_getD ha
    rw [List.length_map, Array.length_toList] at hj
    rw [← numAt_eq]; exact h2 j (by omega)
theorem cr_minT {X : Cx} (hc : X.calm = true) : CallR X (.builtin "min") (fun vs H Q => ∃ (a : Addr) (ns : List Int), vs = [V.ref a] ∧ SqT X.K H a (ns.map V.int) ∧ 0 < ns.length ∧ ∀ m, m ∈ ns → (∀ y, y ∈ ns → m ≤ y) → Q (.int m) H) := by
  intro pins s σ H vs us Q I r h
  obtain ⟨a, ns, rfl, hs, hne, q⟩ := h
  obtain ⟨its, rv, hl, _⟩ := I.tuple hs
  rw [Vals.ref1 r]
  have hi := rv.ints
  obtain ⟨xs, e⟩ := hi.allInts.items
  have hn : numsOf (intItems xs).toList = ns := by rw [← e]; exact hi.numsOf
  rw [nums_intItems] at hn
  subst hn
  rw [e] at hl
  have hsz : 0 < xs.size := by simpa using hne
  refine call_min_walk (iter_intTup hl fun s₂ e st hfp hlI => ?_)
  subst e
  refine ⟨_, _, _, _, _, _, _, rfl, PySem.Walks.tuple (A := X.A.in1) (I.ok.hd hc) _ a hlI (intItems xs), st, hfp, by simpa [intItems] using hsz, CmpOf.ints_lt (numAt xs) (fun _ _ => intItems_at), fun v h' tk hP hk => ?_⟩
  have hv : (intItems xs)[argBest (fun i j => decide (numAt xs i < numAt xs j)) (xs.size - 1)]? = some v := by simpa [intItems] using hP
  obtain ⟨t, rfl⟩ := intItems_at hv
  obtain ⟨h1, h2⟩ := argBest_lt (numAt xs) (xs.size - 1)
  refine ⟨.int _, H, I.kept (old_keptT hk), ⟨_, rfl⟩, q _ ?_ fun a ha => ?_⟩
  · rw [numAt_eq]; exact PySem.getD_mem (by rw [List.length_map, Array.length_toList]; omega)
  · obtain ⟨j, hj, rfl⟩ := mem_getD ha
    rw [List.length_map, Array.length_toList] at hj
    rw [← numAt_eq]; exact h2 j (by omega)
theorem call_maxA (hK : X.K = Z.K) (hc : X.calm = true) : CallR X (.builtin "max") (rDs Z gMax) := by
  refine CallR.imp (CallR.or (CallR.or (call_max2 hc) (cr_maxT hc)) (cr_max hc)) fun vs H Q q => ?_
  obtain ⟨F, S, σ, B, ρ, ds, R, hx, q⟩ := q
  unfold gMax at q
  split at q
  · obtain ⟨v, w, rfl, h1, h2⟩ := hx.two
    cases h1.int
    cases h2.int
    exact .inl (.inl ⟨_, _, rfl, q.int R⟩)
  · split at q
    · split at q
      · exact q.elim
      · rename_i ns he hne
        cases intsOf_eq he
        obtain ⟨v, rfl, h1⟩ := hx.one
        obtain ⟨a, xs, rfl, h1, h2⟩ := h1.tup
        cases h2.ints
        refine .inl (.inr ⟨a, ns, rfl, hK ▸ (Le.of_same R.bh).tup h1, List.length_pos_iff.mpr hne, fun m hm hle => ?_⟩)
        obtain ⟨m1, m2⟩ := maxL_mem hne
        have e : m = maxL ns := Int.le_antisymm (m2 m hm) (hle _ m1)
        rw [e]
        exact q.int R
    · exact q.elim
  · obtain ⟨es, ns, rfl, he, q2⟩ := gOne_of q
    split at q2
    · exact q2.elim
    · rename_i hne
      cases intsOf_eq he
      obtain ⟨v, rfl, a, xs, rfl, h1, h2⟩ := hx.one
      cases h2.ints
      refine .inr ⟨a, ns, rfl, .inl (.inl h1), List.length_pos_iff.mpr hne, fun m hm hle => ?_⟩
      obtain ⟨m1, m2⟩ := maxL_mem hne
      have e : m = maxL ns := Int.le_antisymm (m2 m hm) (hle _ m1)
      rw [e]
      exact q2.int R
theorem call_minA (hK : X.K = Z.K) (hc : X.calm = true) : CallR X (.builtin "min") (rDs Z gMin) := by
  refine CallR.imp (CallR.or (CallR.or (call_min2 hc) (cr_minT hc)) (cr_min hc)) fun vs H Q q => ?_
  obtain ⟨F, S, σ, B, ρ, ds, R, hx, q⟩ := q
  unfold gMin at q
  split at q
  · obtain ⟨v, w, rfl, h1, h2⟩ := hx.two
    cases h1.int
    cases h2.int
    exact .inl (.inl ⟨_, _, rfl, q.int R⟩)
  · split at q
    · split at q
      · exact q.elim
      · rename_i ns he hne
        cases intsOf_eq he
        obtain ⟨v, rfl, h1⟩ := hx.one
        obtain ⟨a, xs, rfl, h1, h2⟩ := h1.tup
        cases h2.ints
        refine .inl (.inr ⟨a, ns, rfl, hK ▸ (Le.of_same R.bh).tup h1, List.length_pos_iff.mpr hne, fun m hm hle => ?_⟩)
        obtain ⟨m1, m2⟩ := minL_mem hne
        have e : m = minL ns := Int.le_antisymm (hle _ m1) (m2 m hm)
        rw [e]
        exact q.int R
    · exact q.elim
  · obtain ⟨es, ns, rfl, he, q2⟩ := gOne_of q
    split at q2
    · exact q2.elim
    · rename_i hne
      cases intsOf_eq he
      obtain ⟨v, rfl, a, xs, rfl, h1, h2⟩ := hx.one
      cases h2.ints
      refine .inr ⟨a, ns, rfl, .inl (.inl h1), List.length_pos_iff.mpr hne, fun m hm hle => ?_⟩
      obtain ⟨m1, m2⟩ := minL_mem hne
      have e : m = minL ns := Int.le_antisymm (hle _ m1) (m2 m hm)
      rw [e]
      exact q2.int R
def gStr : List D → R
  | [.int i] => if i.natAbs.log2 < 1920 then .val (.str (toString i)) else .stk
  | _ => .stk
theorem call_strA : CallR X (.type "str") (rDs Z gStr) := by
  refine CallR.imp call_str_int fun vs H Q q => ?_
  obtain ⟨F, S, σ, B, ρ, ds, R, hx, q⟩ := q
  unfold gStr at q
  split at q
  · split at q
    · obtain ⟨v, rfl, h1⟩ := hx.one
      cases h1.int
      exact ⟨_, rfl, by assumption, q.str R⟩
    · exact q.elim
  · exact q.elim
def gInt : List D → R
  | [.int i] => .val (.int i)
  | [.bl b] => .val (.int (if b then 1 else 0))
  | [.str x] => if x.length ≤ 640 then (match intText? x with
    | some n => .val (.int n)
    | none => .stk) else .stk
  | _ => .stk
theorem call_intA : CallR X (.type "int") (rDs Z gInt) := by
  refine CallR.imp (CallR.or call_int1 call_int_str) fun vs H Q q => ?_
  obtain ⟨F, S, σ, B, ρ, ds, R, hx, q⟩ := q
  unfold gInt at q
  split at q
  · obtain ⟨v, rfl, h1⟩ := hx.one
    cases h1.int
    exact .inl (.inl ⟨_, rfl, q.int R⟩)
  · obtain ⟨v, rfl, h1⟩ := hx.one
    cases h1.bl
    exact .inl (.inr ⟨_, rfl, q.int R⟩)
  · split at q
    · split at q
      · obtain ⟨v, rfl, h1⟩ := hx.one
        cases h1.str
        exact .inr ⟨_, _, rfl, by assumption, by assumption, q.int R⟩
      · exact q.elim
    · exact q.elim
  · exact q.elim
end
end TW
/-! TW4: expressions as functions of the state. -/
namespace TW
open PySem PySem.Spec L2

def RV.frz : RV → RV
  | .own c => .val c.toD
  | r => r
def deref (S : DS) (d : D) : D := match d with
  | .ref k => (match S.L[k]? with
    | some (.con c _) => c.toD
    | _ => .ref k)
  | d => d
def peek (S : DS) : RV → Option D
  | .val d => some (deref S d)
  | .own c => some c.toD
  | .plc i => match S.sl[i]? with
    | some (some (.val d)) => some d
    | some (some (.own c _)) => some c.toD
    | _ => none
def peekAll (S : DS) : List RV → Option (List D)
  | [] => some []
  | r :: rs => match peek S r, peekAll S rs with
    | some d, some ds => some (d :: ds)
    | _, _ => none
def settle (r : RV) (S : DS) : Res D := match r with
  | .val d => .ok d S
  | .own c => .ok c.toD S
  | .plc i => match S.sl[i]? with
    | some (some (.val d)) => .ok d S
    | some (some (.own c false)) => .ok c.toD { S with sl := S.sl.set i (some (.val c.toD)) }
    | _ => .stk
mutual
def D.flat : D → Bool
  | .non => true | .bl _ => true | .int _ => true | .str _ => true
  | .tup ds => D.flats ds
  | .lst _ => false | .scr _ => false | .dic _ => false | .ins _ _ => false | .ref _ => false | .exn _ => false
def D.flats : List D → Bool
  | [] => true
  | d :: ds => D.flat d && D.flats ds
end
def flatK : List (Key × D) → Bool
  | [] => true
  | (_, d) :: ds => d.flat && flatK ds
def Cont.flat : Cont → Bool
  | .lst ds => D.flats ds
  | .dic kvs => flatK kvs
mutual
def D.noRef : D → Bool
  | .ref _ => false
  | .tup ds => D.noRefs ds
  | .lst ds => D.noRefs ds
  | .scr ds => D.noRefs ds
  | .dic kvs => D.noRefK kvs
  | .ins _ fs => D.noRefF fs
  | _ => true
def D.noRefs : List D → Bool
  | [] => true
  | d :: ds => D.noRef d && D.noRefs ds
def D.noRefK : List (Key × D) → Bool
  | [] => true
  | (_, d) :: ds => D.noRef d && D.noRefK ds
def D.noRefF : List (Str × D) → Bool
  | [] => true
  | (_, d) :: ds => D.noRef d && D.noRefF ds
end
section
variable {Z : SX} {B B' : Hp} {ρ ρ' : List Addr}
mutual
theorem VR.flat (h : ∀ a xs, SqT Z.K B a xs → SqT Z.K B' a xs) : ∀ {v : V} {d : D}, VR Z B ρ v d → d.flat = true → VR Z B' ρ' v d
  | _, _, .non, _ => .non
  | _, _, .bl b, _ => .bl b
  | _, _, .int i, _ => .int i
  | _, _, .str x, _ => .str x
  | _, _, .tup k hs, f => .tup (h _ _ k) (VRs.flatM h hs (by rw [D.flat] at f; exact f))
  | _, _, .lst _ _, f => by
    rw [D.flat] at f
    cases f
  | _, _, .scr _ _, f => by
    rw [D.flat] at f
    cases f
  | _, _, .dic _ _, f => by
    rw [D.flat] at f
    cases f
  | _, _, .ins _ _ _, f => by
    rw [D.flat] at f
    cases f
  | _, _, .ref _, f => by
    rw [D.flat] at f
    cases f
  | _, _, .exn _ _ _ _, f => by
    rw [D.flat] at f
    cases f
theorem VRs.flatM (h : ∀ a xs, SqT Z.K B a xs → SqT Z.K B' a xs) : ∀ {v : List V} {d : List D}, VRs Z B ρ v d → D.flats d = true → VRs Z B' ρ' v d
  | _, _, .nil, _ => .nil
  | _, _, .cons k hs, f => by
    rw [D.flats, Bool.and_eq_true] at f
    exact .cons (VR.flat h k f.1) (VRs.flatM h hs f.2)
end
theorem VRk.flatM (h : ∀ a xs, SqT Z.K B a xs → SqT Z.K B' a xs) : ∀ {v : List (Key × V)} {d : List (Key × D)}, VRk Z B ρ v d → flatK d = true → VRk Z B' ρ' v d
  | _, _, .nil, _ => .nil
  | _, _, .cons k hs, f => by
    rw [flatK, Bool.and_eq_true] at f
    exact .cons (VR.flat h k f.1) (VRk.flatM h hs f.2)
theorem CO.flat (h : ∀ a xs, SqT Z.K B a xs → SqT Z.K B' a xs) {c : Cont} {o : HO} (k : CO Z B ρ c o) (f : c.flat = true) : CO Z B' ρ' c o := by
  cases c with
  | lst ds =>
    obtain ⟨xs, e, k⟩ := k
    exact ⟨xs, e, k.flatM h f⟩
  | dic kvs =>
    obtain ⟨ks, e, k⟩ := k
    exact ⟨ks, e, k.flatM h f⟩
mutual
theorem VR.noRef : ∀ {v : V} {d : D}, VR Z B ρ v d → d.noRef = true → VR Z B ρ' v d
  | _, _, .non, _ => .non
  | _, _, .bl b, _ => .bl b
  | _, _, .int i, _ => .int i
  | _, _, .str x, _ => .str x
  | _, _, .tup k hs, f => .tup k (VRs.noRef hs (by rw [D.noRef] at f; exact f))
  | _, _, .lst k hs, f => .lst k (VRs.noRef hs (by rw [D.noRef] at f; exact f))
  | _, _, .scr k hs, f => .scr k (VRs.noRef hs (by rw [D.noRef] at f; exact f))
  | _, _, .dic k hs, f => .dic k (VRk.noRef hs (by rw [D.noRef] at f; exact f))
  | _, _, .ins c k hs, f => .ins c k (VRf.noRef hs (by rw [D.noRef] at f; exact f))
  | _, _, .ref _, f => by
    rw [D.noRef] at f
    cases f
  | _, _, .exn h e n1 n2, f => .exn h e n1 n2
theorem VRs.noRef : ∀ {v : List V} {d : List D}, VRs Z B ρ v d → D.noRefs d = true → VRs Z B ρ' v d
  | _, _, .nil, _ => .nil
  | _, _, .cons k hs, f => by
    rw [D.noRefs, Bool.and_eq_true] at f
    exact .cons (VR.noRef k f.1) (VRs.noRef hs f.2)
theorem VRk.noRef : ∀ {v : List (Key × V)} {d : List (Key × D)}, VRk Z B ρ v d → D.noRefK d = true → VRk Z B ρ' v d
  | _, _, .nil, _ => .nil
  | _, _, .cons k hs, f => by
    rw [D.noRefK, Bool.and_eq_true] at f
    exact .cons (VR.noRef k f.1) (VRk.noRef hs f.2)
theorem VRf.noRef : ∀ {v : List (Str × V)} {d : List (Str × D)}, VRf Z B ρ v d → D.noRefF d = true → VRf Z B ρ' v d
  | _, _, .nil, _ => .nil
  | _, _, .cons k hs, f => by
    rw [D.noRefF, Bool.and_eq_true] at f
    exact .cons (VR.noRef k f.1) (VRf.noRef hs f.2)
end
end

section
variable {Z : SX} {F : Hp} {S : DS} {σ : St} {H B : Hp} {ρ : List Addr} {v : V} {r : RV} {d : D}
theorem RVR.slot (R : Rel Z F S σ H B ρ) {i : Nat} {s : Sl} (h : S.sl[i]? = some (some s)) : ∃ v, σ[i]? = some (some v) := by
  cases s with
  | val d =>
    obtain ⟨v, e, _⟩ := R.vals i d h
    exact ⟨v, e⟩
  | own c lk =>
    obtain ⟨a, e, _⟩ := R.owns i c lk h
    exact ⟨_, e⟩
  | exc c =>
    obtain ⟨a, _, e⟩ := R.excs i c h
    exact ⟨_, e⟩
theorem CR.pv {c : Cont} {lk : Bool} {a : Addr} (h : CR Z B ρ H a c lk) : PV Z H B ρ (.ref a) c.toD := by
  obtain ⟨o, h1, h2⟩ := h
  cases c with
  | lst ds =>
    obtain ⟨xs, rfl, h⟩ := h1
    rcases h2 with h2 | ⟨_, ⟨_, z⟩, _⟩
    · exact ⟨a, xs, rfl, h2, h⟩
    · cases z
  | dic kvs =>
    obtain ⟨ks, rfl, h⟩ := h1
    refine ⟨a, ks, rfl, ?_, h⟩
    rcases h2 with h2 | ⟨_, _, ob, h2⟩
    · exact .inl h2
    · exact .inr ⟨ob, h2⟩
theorem peek_pv (R : Rel Z F S σ H B ρ) (h : RVR Z F S σ H B ρ v r) (p : peek S r = some d) : PV Z H B ρ v d := by
  cases r with
  | val e =>
    cases p
    change VR Z B ρ v e at h
    revert h
    unfold deref
    split
    · rename_i k
      intro h
      split
      · rename_i c lk hk
        cases h with
        | ref hρ => exact CR.pv (R.hp k _ _ hρ hk)
      · exact PV.of R.bh h
    · exact fun h => PV.of R.bh h
  | own c =>
    cases p
    obtain ⟨a, rfl, h, _⟩ := h
    exact h.pv
  | plc i =>
    unfold peek at p
    dsimp only at p
    split at p
    · rename_i e he
      cases p
      obtain ⟨w, e1, e2⟩ := R.vals i _ he
      rw [h] at e1
      cases e1
      exact PV.of R.bh e2
    · rename_i c lk he
      cases p
      obtain ⟨a, e1, e2, _⟩ := R.owns i _ _ he
      rw [h] at e1
      cases e1
      exact e2.pv
    · cases p
def RVRs (Z : SX) (F : Hp) (S : DS) (σ : St) (H B : Hp) (ρ : List Addr) : List V → List RV → Prop
  | [], [] => True
  | v :: vs, r :: rs => RVR Z F S σ H B ρ v r ∧ RVRs Z F S σ H B ρ vs rs
  | _, _ => False
theorem peekAll_pvs (R : Rel Z F S σ H B ρ) : ∀ {vs : List V} {rs : List RV} {ds : List D}, RVRs Z F S σ H B ρ vs rs → peekAll S rs = some ds → PVs Z H B ρ vs ds
  | [], [], _, _, p => by
    cases p
    trivial
  | v :: vs, r :: rs, ds, h, p => by
    unfold peekAll at p
    split at p
    · rename_i d es e1 e2
      cases p
      exact ⟨peek_pv R h.1 e1, peekAll_pvs R h.2 e2⟩
    · cases p
  | [], _ :: _, _, h, _ => h.elim
  | _ :: _, [], _, h, _ => h.elim
/-- an owned new thing is frozen, whatever it was -/
theorem frz_ok (R : Rel Z F S σ H B ρ) (h : RVR Z F S σ H B ρ v r) : ∃ B', Rel Z F S σ H B' ρ ∧ Same B B' ∧ RVR Z F S σ H B' ρ v r.frz := by
  cases r with
  | val d => exact ⟨B, R, fun _ _ e => e, h⟩
  | plc i => exact ⟨B, R, fun _ _ e => e, h⟩
  | own c =>
    obtain ⟨B', R', sb, q⟩ := R.frz h
    exact ⟨B', R', sb, q⟩
theorem settle_ok (R : Rel Z F S σ H B ρ) (h : RVR Z F S σ H B ρ v r) {S' : DS} (p : settle r S = .ok d S') : ∃ B', Rel Z F S' σ H B' ρ ∧ Same B B' ∧ VR Z B' ρ v d := by
  cases r with
  | val e =>
    cases p
    exact ⟨B, R, fun _ _ e => e, h⟩
  | own c =>
    cases p
    exact R.frz h
  | plc i =>
    unfold settle at p
    dsimp only at p
    split at p
    · rename_i e he
      cases p
      obtain ⟨w, e1, e2⟩ := R.vals i _ he
      rw [h] at e1
      cases e1
      exact ⟨B, R, fun _ _ e => e, e2⟩
    · rename_i c he
      cases p
      obtain ⟨B', w, R', sb, e1, e2⟩ := R.frzSlot he
      rw [h] at e1
      cases e1
      exact ⟨B', R', sb, e2⟩
    · cases p
theorem settle_exc {c : Str} {S' : DS} (p : settle r S = .exc c S') : False := by
  cases r with
  | val e => cases p
  | own c => cases p
  | plc i =>
    unfold settle at p
    dsimp only at p
    split at p <;> cases p
/-- a reading that stays while the state goes on -/
def RV.still : RV → Bool
  | .own _ => false
  | _ => true
theorem frz_still (r : RV) : r.frz.still = true := by cases r <;> rfl
theorem RVR.mono {S' : DS} {H' B' : Hp} {ρ' : List Addr} (h : RVR Z F S σ H B ρ v r) (hs : r.still = true) (sb : Same B B') (ex : Ex ρ ρ') : RVR Z F S' σ H' B' ρ' v r := by
  cases r with
  | val d => exact VR.mono (.of_same sb) ex h
  | own c => cases hs
  | plc i => exact h
end

/-! ### readings -/
section
variable (Z : SX)
def PQ (F B : Hp) (ρ : List Addr) (σ : St) (Q : VK) : RV → DS → Prop := fun r S' => ∀ v H' B' ρ', Rel Z F S' σ H' B' ρ' → Same B B' → Ex ρ ρ' → RVR Z F S' σ H' B' ρ' v r → Q v H'
def PQs (F B : Hp) (ρ : List Addr) (σ : St) (Q : List V → Hp → Prop) : List RV → DS → Prop := fun rs S' => ∀ vs H' B' ρ', Rel Z F S' σ H' B' ρ' → Same B B' → Ex ρ ρ' → RVRs Z F S' σ H' B' ρ' vs rs → Q vs H'
def PQv (F B : Hp) (ρ : List Addr) (σ : St) (Q : List V → Hp → Prop) : List D → DS → Prop := fun ds S' => ∀ vs H' B' ρ', Rel Z F S' σ H' B' ρ' → Same B B' → Ex ρ ρ' → VRs Z B' ρ' vs ds → Q vs H'
def PQt (F B : Hp) (ρ : List Addr) (σ : St) (Q : Bool → Hp → Prop) : Bool → DS → Prop := fun b S' => ∀ H' B' ρ', Rel Z F S' σ H' B' ρ' → Same B B' → Ex ρ ρ' → Q b H'
def EQ (F B : Hp) (ρ : List Addr) (σ : St) (W : WX) : Str → DS → Prop := fun c S' => ∀ cls H' B' ρ', Rel Z F S' σ H' B' ρ' → Same B B' → Ex ρ ρ' → Z.EX c cls → W cls none σ H'
def dTE (f : DS → Res RV) (W : WX) : TE := fun σ H Q => ∃ F S B ρ, Rel Z F S σ H B ρ ∧ Wp (f S) (PQ Z F B ρ σ Q) (EQ Z F B ρ σ W)
def dTA (f : DS → Res (List RV)) (W : WX) : TA := fun σ H Q => ∃ F S B ρ, Rel Z F S σ H B ρ ∧ Wp (f S) (PQs Z F B ρ σ Q) (EQ Z F B ρ σ W)
def dTV (f : DS → Res (List D)) (W : WX) : TA := fun σ H Q => ∃ F S B ρ, Rel Z F S σ H B ρ ∧ Wp (f S) (PQv Z F B ρ σ Q) (EQ Z F B ρ σ W)
def dTT (f : DS → Res Bool) (W : WX) : TT := fun σ H Q => ∃ F S B ρ, Rel Z F S σ H B ρ ∧ Wp (f S) (PQt Z F B ρ σ Q) (EQ Z F B ρ σ W)
structure DE (X : Cx) (e : Expr) (f : DS → Res RV) : Prop where
  run : ∀ W, Takes X W → PE X e (dTE Z f W)
structure DA (X : Cx) (es : List Expr) (f : DS → Res (List RV)) : Prop where
  run : ∀ W, Takes X W → PA X es (dTA Z f W)
structure DV (X : Cx) (es : List Expr) (f : DS → Res (List D)) : Prop where
  run : ∀ W, Takes X W → PA X es (dTV Z f W)
structure DT (X : Cx) (e : Expr) (f : DS → Res Bool) : Prop where
  run : ∀ W, Takes X W → PT X e (dTT Z f W)
structure DW (X : Cx) (e : Expr) (f : DS → Res Bool) : Prop where
  run : ∀ W, Takes X W → PW X e (dTT Z f W)
end
theorem PE.imp {X : Cx} {e : Expr} {t t' : TE} (h : PE X e t) (i : ∀ σ H Q, t' σ H Q → t σ H Q) : PE X e t' := ⟨fun pins s σ H Q I q => h.run pins s σ H Q I (i _ _ _ q)⟩
theorem PE.or {X : Cx} {e : Expr} {t u : TE} (h : PE X e t) (k : PE X e u) : PE X e (fun σ H Q => t σ H Q ∨ u σ H Q) := ⟨fun pins s σ H Q I q => q.elim (h.run pins s σ H Q I) (k.run pins s σ H Q I)⟩
theorem PA.imp {X : Cx} {e : List Expr} {t t' : TA} (h : PA X e t) (i : ∀ σ H Q, t' σ H Q → t σ H Q) : PA X e t' := ⟨fun p pins s σ H Q I q => h.run p pins s σ H Q I (i _ _ _ q)⟩
theorem PT.imp {X : Cx} {e : Expr} {t t' : TT} (h : PT X e t) (i : ∀ σ H Q, t' σ H Q → t σ H Q) : PT X e t' := ⟨fun pins s σ H Q I q => h.run pins s σ H Q I (i _ _ _ q)⟩
theorem PW.imp {X : Cx} {e : Expr} {t t' : TT} (h : PW X e t) (i : ∀ σ H Q, t' σ H Q → t σ H Q) : PW X e t' := ⟨fun w pins s σ H Q I q => h.run w pins s σ H Q I (i _ _ _ q)⟩
section
variable {Z : SX} {F : Hp} {S : DS} {σ : St} {H B B1 : Hp} {ρ ρ1 : List Addr} {W : WX}
theorem PQ.mono {Q : VK} {r : RV} {S' : DS} (sb : Same B B1) (ex : Ex ρ ρ1) (h : PQ Z F B ρ σ Q r S') : PQ Z F B1 ρ1 σ Q r S' := fun v H' B' ρ' R s e rv => h v H' B' ρ' R (sb.trans s) (ex.trans e) rv
theorem PQs.mono {Q : List V → Hp → Prop} {r : List RV} {S' : DS} (sb : Same B B1) (ex : Ex ρ ρ1) (h : PQs Z F B ρ σ Q r S') : PQs Z F B1 ρ1 σ Q r S' := fun v H' B' ρ' R s e rv => h v H' B' ρ' R (sb.trans s) (ex.trans e) rv
theorem PQv.mono {Q : List V → Hp → Prop} {r : List D} {S' : DS} (sb : Same B B1) (ex : Ex ρ ρ1) (h : PQv Z F B ρ σ Q r S') : PQv Z F B1 ρ1 σ Q r S' := fun v H' B' ρ' R s e rv => h v H' B' ρ' R (sb.trans s) (ex.trans e) rv
theorem PQt.mono {Q : Bool → Hp → Prop} {r : Bool} {S' : DS} (sb : Same B B1) (ex : Ex ρ ρ1) (h : PQt Z F B ρ σ Q r S') : PQt Z F B1 ρ1 σ Q r S' := fun H' B' ρ' R s e => h H' B' ρ' R (sb.trans s) (ex.trans e)
theorem EQ.mono {c : Str} {S' : DS} (sb : Same B B1) (ex : Ex ρ ρ1) (h : EQ Z F B ρ σ W c S') : EQ Z F B1 ρ1 σ W c S' := fun v H' B' ρ' R s e rv => h v H' B' ρ' R (sb.trans s) (ex.trans e) rv
/-- the first part of a composed expression -/
theorem dTE.firstE {β : Type} {f : DS → Res RV} {k : RV → DS → Res β} {P : β → DS → Prop} {G : VK} (R : Rel Z F S σ H B ρ) (h : Wp ((f S).bind k) P (EQ Z F B ρ σ W))
    (hk : ∀ r S1 x H1 B1 ρ1, f S = .ok r S1 → Rel Z F S1 σ H1 B1 ρ1 → Same B B1 → Ex ρ ρ1 → RVR Z F S1 σ H1 B1 ρ1 x r → Wp (k r S1) P (EQ Z F B1 ρ1 σ W) → G x H1) : dTE Z f W σ H G :=
  ⟨F, S, B, ρ, R, h.bind.monoE (fun r S1 e hw x H1 B1 ρ1 R1 sb ex rv => hk r S1 x H1 B1 ρ1 e R1 sb ex rv (hw.mono (fun _ _ z => z) fun _ _ z => z.mono sb ex)) fun _ _ z => z⟩
theorem dTA.firstE {β : Type} {f : DS → Res (List RV)} {k : List RV → DS → Res β} {P : β → DS → Prop} {G : List V → Hp → Prop} (R : Rel Z F S σ H B ρ) (h : Wp ((f S).bind k) P (EQ Z F B ρ σ W))
    (hk : ∀ r S1 x H1 B1 ρ1, f S = .ok r S1 → Rel Z F S1 σ H1 B1 ρ1 → Same B B1 → Ex ρ ρ1 → RVRs Z F S1 σ H1 B1 ρ1 x r → Wp (k r S1) P (EQ Z F B1 ρ1 σ W) → G x H1) : dTA Z f W σ H G :=
  ⟨F, S, B, ρ, R, h.bind.monoE (fun r S1 e hw x H1 B1 ρ1 R1 sb ex rv => hk r S1 x H1 B1 ρ1 e R1 sb ex rv (hw.mono (fun _ _ z => z) fun _ _ z => z.mono sb ex)) fun _ _ z => z⟩
theorem dTV.firstE {β : Type} {f : DS → Res (List D)} {k : List D → DS → Res β} {P : β → DS → Prop} {G : List V → Hp → Prop} (R : Rel Z F S σ H B ρ) (h : Wp ((f S).bind k) P (EQ Z F B ρ σ W))
    (hk : ∀ r S1 x H1 B1 ρ1, f S = .ok r S1 → Rel Z F S1 σ H1 B1 ρ1 → Same B B1 → Ex ρ ρ1 → VRs Z B1 ρ1 x r → Wp (k r S1) P (EQ Z F B1 ρ1 σ W) → G x H1) : dTV Z f W σ H G :=
  ⟨F, S, B, ρ, R, h.bind.monoE (fun r S1 e hw x H1 B1 ρ1 R1 sb ex rv => hk r S1 x H1 B1 ρ1 e R1 sb ex rv (hw.mono (fun _ _ z => z) fun _ _ z => z.mono sb ex)) fun _ _ z => z⟩
theorem dTT.firstE {β : Type} {f : DS → Res Bool} {k : Bool → DS → Res β} {P : β → DS → Prop} {G : Bool → Hp → Prop} (R : Rel Z F S σ H B ρ) (h : Wp ((f S).bind k) P (EQ Z F B ρ σ W))
    (hk : ∀ r S1 H1 B1 ρ1, f S = .ok r S1 → Rel Z F S1 σ H1 B1 ρ1 → Same B B1 → Ex ρ ρ1 → Wp (k r S1) P (EQ Z F B1 ρ1 σ W) → G r H1) : dTT Z f W σ H G :=
  ⟨F, S, B, ρ, R, h.bind.monoE (fun r S1 e hw H1 B1 ρ1 R1 sb ex => hk r S1 H1 B1 ρ1 e R1 sb ex (hw.mono (fun _ _ z => z) fun _ _ z => z.mono sb ex)) fun _ _ z => z⟩
theorem dTE.first {β : Type} {f : DS → Res RV} {k : RV → DS → Res β} {P : β → DS → Prop} {G : VK} (R : Rel Z F S σ H B ρ) (h : Wp ((f S).bind k) P (EQ Z F B ρ σ W))
    (hk : ∀ r S1 x H1 B1 ρ1, Rel Z F S1 σ H1 B1 ρ1 → Same B B1 → Ex ρ ρ1 → RVR Z F S1 σ H1 B1 ρ1 x r → Wp (k r S1) P (EQ Z F B1 ρ1 σ W) → G x H1) : dTE Z f W σ H G :=
  dTE.firstE R h fun r S1 x H1 B1 ρ1 _ => hk r S1 x H1 B1 ρ1
theorem dTA.first {β : Type} {f : DS → Res (List RV)} {k : List RV → DS → Res β} {P : β → DS → Prop} {G : List V → Hp → Prop} (R : Rel Z F S σ H B ρ) (h : Wp ((f S).bind k) P (EQ Z F B ρ σ W))
    (hk : ∀ r S1 x H1 B1 ρ1, Rel Z F S1 σ H1 B1 ρ1 → Same B B1 → Ex ρ ρ1 → RVRs Z F S1 σ H1 B1 ρ1 x r → Wp (k r S1) P (EQ Z F B1 ρ1 σ W) → G x H1) : dTA Z f W σ H G :=
  dTA.firstE R h fun r S1 x H1 B1 ρ1 _ => hk r S1 x H1 B1 ρ1
theorem dTV.first {β : Type} {f : DS → Res (List D)} {k : List D → DS → Res β} {P : β → DS → Prop} {G : List V → Hp → Prop} (R : Rel Z F S σ H B ρ) (h : Wp ((f S).bind k) P (EQ Z F B ρ σ W))
    (hk : ∀ r S1 x H1 B1 ρ1, Rel Z F S1 σ H1 B1 ρ1 → Same B B1 → Ex ρ ρ1 → VRs Z B1 ρ1 x r → Wp (k r S1) P (EQ Z F B1 ρ1 σ W) → G x H1) : dTV Z f W σ H G :=
  dTV.firstE R h fun r S1 x H1 B1 ρ1 _ => hk r S1 x H1 B1 ρ1
theorem dTT.first {β : Type} {f : DS → Res Bool} {k : Bool → DS → Res β} {P : β → DS → Prop} {G : Bool → Hp → Prop} (R : Rel Z F S σ H B ρ) (h : Wp ((f S).bind k) P (EQ Z F B ρ σ W))
    (hk : ∀ r S1 H1 B1 ρ1, Rel Z F S1 σ H1 B1 ρ1 → Same B B1 → Ex ρ ρ1 → Wp (k r S1) P (EQ Z F B1 ρ1 σ W) → G r H1) : dTT Z f W σ H G :=
  dTT.firstE R h fun r S1 H1 B1 ρ1 _ => hk r S1 H1 B1 ρ1
end

/-! ### the parts -/
def dStk {α : Type} : DS → Res α := fun _ => .stk
def dConst (d : D) : DS → Res RV := fun S => .ok (.val d) S
def dVar (i : Nat) : DS → Res RV := fun S => match S.sl[i]? with
  | some (some (.val d)) => .ok (.val d) S
  | some (some (.own _ _)) => .ok (.plc i) S
  | _ => .stk
def dPure1 (g : D → R) (f : DS → Res RV) : DS → Res RV := fun S => (f S).bind fun r S1 => match peek S1 r with
  | some d => (g d).lift S1
  | none => .stk
def dPure2 (g : D → D → R) (f f' : DS → Res RV) : DS → Res RV := fun S => (f S).bind fun r S1 => (f' S1).bind fun r' S2 => match peek S2 r.frz, peek S2 r' with
  | some d, some e => (g d e).lift S2
  | _, _ => .stk
def dArgs : List (DS → Res RV) → DS → Res (List RV)
  | [], S => .ok [] S
  | f :: fs, S => (f S).bind fun r S1 => (dArgs fs S1).bind fun rs S2 => .ok (r.frz :: rs) S2
def dVals : List (DS → Res RV) → DS → Res (List D)
  | [], S => .ok [] S
  | f :: fs, S => (f S).bind fun r S1 => (settle r S1).bind fun d S2 => (dVals fs S2).bind fun ds S3 => .ok (d :: ds) S3
def dPureN (g : List D → R) (f : DS → Res (List RV)) : DS → Res RV := fun S => (f S).bind fun rs S1 => match peekAll S1 rs with
  | some ds => (g ds).lift S1
  | none => .stk
def dTup (f : DS → Res (List D)) : DS → Res RV := fun S => (f S).bind fun ds S1 => if ds.length ≤ sizeLine then .ok (.val (.tup ds)) S1 else .stk
def dLst (f : DS → Res (List D)) : DS → Res RV := fun S => (f S).bind fun ds S1 => if ds.length ≤ sizeLine then .ok (.own (.lst ds)) S1 else .stk
def dIf {α : Type} (t : DS → Res Bool) (f g : DS → Res α) : DS → Res α := fun S => (t S).bind fun b S1 => if b = true then f S1 else g S1
def truthD : D → Option Bool
  | .non => some false
  | .bl b => some b
  | .int i => some (i != 0)
  | .str x => if x.length ≤ sizeLine then some ((x.length : Int) != 0) else none
  | .lst ds => some (!ds.isEmpty)
  | .scr ds => some (!ds.isEmpty)
  | .tup ds => some (!ds.isEmpty)
  | _ => none
def dTruth (f : DS → Res RV) : DS → Res Bool := fun S => (f S).bind fun r S1 => match (peek S1 r).bind truthD with
  | some b => .ok b S1
  | none => .stk
def dNot (f : DS → Res Bool) : DS → Res Bool := fun S => (f S).bind fun b S1 => .ok (!b) S1
def dAnd (f g : DS → Res Bool) : DS → Res Bool := fun S => (f S).bind fun b S1 => if b = true then g S1 else .ok false S1
def dOr (f g : DS → Res Bool) : DS → Res Bool := fun S => (f S).bind fun b S1 => if b = true then .ok true S1 else g S1
/-- a truth as a value -/
def dBool (f : DS → Res Bool) : DS → Res RV := fun S => (f S).bind fun b S1 => .ok (.val (.bl b)) S1
/-- a value that is a truth -/
def asB (f : DS → Res RV) : DS → Res Bool := fun S => (f S).bind fun r S1 => match r with
  | .val (.bl b) => .ok b S1
  | _ => .stk

section
variable {Z : SX} {X : Cx} {e a b c : Expr} {es : List Expr} {f fa fb fc : DS → Res RV} {W : WX}
theorem de_stk : DE Z X e dStk := ⟨fun W tk => ⟨fun _ _ _ _ _ _ ⟨_, _, _, _, _, h⟩ => h.elim⟩⟩
theorem dt_stk : DT Z X e dStk := ⟨fun W tk => ⟨fun _ _ _ _ _ _ ⟨_, _, _, _, _, h⟩ => h.elim⟩⟩
theorem dw_stk : DW Z X e dStk := ⟨fun W tk => ⟨fun _ _ _ _ _ _ _ ⟨_, _, _, _, _, h⟩ => h.elim⟩⟩
theorem da_stk : DA Z X es dStk := ⟨fun W tk => ⟨fun _ _ _ _ _ _ _ ⟨_, _, _, _, _, h⟩ => h.elim⟩⟩
theorem dv_stk : DV Z X es dStk := ⟨fun W tk => ⟨fun _ _ _ _ _ _ _ ⟨_, _, _, _, _, h⟩ => h.elim⟩⟩
theorem de_const {v : V} {d : D} (h : PE X e (tC v)) (hd : ∀ B ρ, VR Z B ρ v d) : DE Z X e (dConst d) := ⟨fun W tk => PE.imp h fun σ H Q ⟨F, S, B, ρ, R, q⟩ => q v H B ρ R (fun _ _ z => z) (.refl ρ) (hd B ρ)⟩
theorem de_var {i : Nat} (h : PE X e (tVar i)) : DE Z X e (dVar i) := ⟨fun W tk => PE.imp h fun σ H Q ⟨F, S, B, ρ, R, q⟩ => by
  unfold dVar at q
  split at q
  · rename_i d hs
    obtain ⟨v, e1, e2⟩ := R.vals i d hs
    exact ⟨v, e1, q v H B ρ R (fun _ _ z => z) (.refl ρ) e2⟩
  · rename_i c lk hs
    obtain ⟨a, e1, _⟩ := R.owns i c lk hs
    exact ⟨_, e1, q _ H B ρ R (fun _ _ z => z) (.refl ρ) e1⟩
  · exact q.elim⟩
/-- the end of a pure operation -/
theorem lift_got {F : Hp} {S : DS} {σ : St} {H B : Hp} {ρ : List Addr} {r : R} {Q : VK} (h : Wp (r.lift S) (PQ Z F B ρ σ Q) (EQ Z F B ρ σ W)) (he : ∀ c, r ≠ .exc c) : Got Z F S σ H B ρ r Q := by
  cases r with
  | val d => exact fun v H' B' R' sb rv => h v H' B' ρ R' sb (.refl ρ) rv
  | own c => exact fun v H' B' R' sb rv => h v H' B' ρ R' sb (.refl ρ) rv
  | exc c => exact absurd rfl (he c)
  | stk => exact h
theorem de_pure1 {g : D → R} (he : ∀ d c, g d ≠ .exc c) (mk : ∀ t, PE X a t → PE X e (tUn (rD1 Z g) t)) (ha : DE Z X a fa) : DE Z X e (dPure1 g fa) := ⟨fun W tk => PE.imp (mk _ (ha.run W tk)) fun σ H Q ⟨F, S, B, ρ, R, q⟩ => by
  refine dTE.first R q fun r S1 x H1 B1 ρ1 R1 sb ex rv hw => ?_
  split at hw
  · rename_i d hd
    exact ⟨F, S1, σ, B1, ρ1, d, R1, peek_pv R1 rv hd, lift_got (hw.mono (fun _ _ z => PQ.mono sb ex z) fun _ _ z => z) (he d)⟩
  · exact hw.elim⟩
theorem de_pure2 {g : D → D → R} (he : ∀ d d' c, g d d' ≠ .exc c) (mk : ∀ t u, PE X a t → PE X b u → PE X e (tOp (rD2 Z g) t u)) (ha : DE Z X a fa) (hb : DE Z X b fb) : DE Z X e (dPure2 g fa fb) := ⟨fun W tk => PE.imp (mk _ _ (ha.run W tk) (hb.run W tk)) fun σ H Q ⟨F, S, B, ρ, R, q⟩ => by
  refine dTE.first R q fun r S1 x H1 B1 ρ1 R1 sb ex rv hw => ?_
  obtain ⟨B1', R1', sb', rv'⟩ := frz_ok R1 rv
  refine dTE.first R1' (hw.mono (fun _ _ z => z) fun _ _ z => z.mono sb' (.refl ρ1)) fun r2 S2 y H2 B2 ρ2 R2 sb2 ex2 rv2 hw2 => ?_
  split at hw2
  · rename_i d d' hd hd'
    exact ⟨F, S2, σ, B2, ρ2, d, d', R2, peek_pv R2 (rv'.mono (frz_still r) sb2 ex2) hd, peek_pv R2 rv2 hd', lift_got (hw2.mono (fun _ _ z => PQ.mono ((sb.trans sb').trans sb2) (ex.trans ex2) z) fun _ _ z => z) (he d d')⟩
  · exact hw2.elim⟩
/-! ### argument lists -/
def noStar : Expr → Bool
  | .Starred _ _ => false
  | _ => true
theorem star_of {env : Env} (h : noStar e = true) : starEach (e :: es) env = (false, eval e env) :: starEach es env := by
  cases e <;> first | rfl | cases h
theorem da_nil : DA Z X [] (dArgs []) := ⟨fun W tk => PA.imp pa_nil fun σ H Q ⟨F, S, B, ρ, R, q⟩ => q [] H B ρ R (fun _ _ z => z) (.refl ρ) trivial⟩
theorem dv_nil : DV Z X [] (dVals []) := ⟨fun W tk => PA.imp pa_nil fun σ H Q ⟨F, S, B, ρ, R, q⟩ => q [] H B ρ R (fun _ _ z => z) (.refl ρ) .nil⟩
theorem da_cons {fs : List (DS → Res RV)} (h : noStar e = true) (ha : DE Z X e f) (hr : DA Z X es (dArgs fs)) : DA Z X (e :: es) (dArgs (f :: fs)) := ⟨fun W tk => PA.imp (pa_cons (ha.run W tk) (hr.run W tk) (star_of h)) fun σ H Q ⟨F, S, B, ρ, R, q⟩ => by
  refine dTE.first R q fun r S1 x H1 B1 ρ1 R1 sb ex rv hw => ?_
  obtain ⟨B1', R1', sb', rv'⟩ := frz_ok R1 rv
  refine dTA.first R1' (hw.mono (fun _ _ z => z) fun _ _ z => z.mono sb' (.refl ρ1)) fun rs S2 xs H2 B2 ρ2 R2 sb2 ex2 rvs hw2 => ?_
  exact hw2 (x :: xs) H2 B2 ρ2 R2 ((sb.trans sb').trans sb2) (ex.trans ex2) ⟨rv'.mono (frz_still r) sb2 ex2, rvs⟩⟩
theorem dv_cons {fs : List (DS → Res RV)} (h : noStar e = true) (ha : DE Z X e f) (hr : DV Z X es (dVals fs)) : DV Z X (e :: es) (dVals (f :: fs)) := ⟨fun W tk => PA.imp (pa_cons (ha.run W tk) (hr.run W tk) (star_of h)) fun σ H Q ⟨F, S, B, ρ, R, q⟩ => by
  refine dTE.first R q fun r S1 x H1 B1 ρ1 R1 sb ex rv hw => ?_
  cases hs : settle r S1 with
  | ok d S1' =>
    rw [hs] at hw
    obtain ⟨B1', R1', sb', rv'⟩ := settle_ok R1 rv hs
    refine dTV.first R1' (Wp.mono (show Wp ((dVals fs S1').bind _) _ _ from hw) (fun _ _ z => z) fun _ _ z => z.mono sb' (.refl ρ1)) fun ds S2 xs H2 B2 ρ2 R2 sb2 ex2 rvs hw2 => ?_
    exact hw2 (x :: xs) H2 B2 ρ2 R2 ((sb.trans sb').trans sb2) (ex.trans ex2) (.cons (rv'.mono (.of_same sb2) ex2) rvs)
  | exc c S' => exact (settle_exc hs).elim
  | stk =>
    rw [hs] at hw
    exact hw.elim⟩
theorem de_pureN {g : List D → R} {h : DS → Res (List RV)} (he : ∀ d c, g d ≠ .exc c) (mk : ∀ t, PA X es t → PE X e (tCB (rDs Z g) t)) (ha : DA Z X es h) : DE Z X e (dPureN g h) := ⟨fun W tk => PE.imp (mk _ (ha.run W tk)) fun σ H Q ⟨F, S, B, ρ, R, q⟩ => by
  refine dTA.first R q fun r S1 x H1 B1 ρ1 R1 sb ex rv hw => ?_
  split at hw
  · rename_i ds hd
    exact ⟨F, S1, σ, B1, ρ1, ds, R1, peekAll_pvs R1 rv hd, lift_got (hw.mono (fun _ _ z => PQ.mono sb ex z) fun _ _ z => z) (he ds)⟩
  · exact hw.elim⟩
theorem de_tup {h : DS → Res (List D)} (mk : ∀ t, PA X es t → PE X e (tTup t)) (ha : DV Z X es h) : DE Z X e (dTup h) := ⟨fun W tk => PE.imp (mk _ (ha.run W tk)) fun σ H Q ⟨F, S, B, ρ, R, q⟩ => by
  refine dTV.first R q fun ds S1 x H1 B1 ρ1 R1 sb ex rv hw => ?_
  split at hw
  · rename_i hl
    refine ⟨by rw [rv.length]; exact hl, fun p hp => ?_⟩
    obtain ⟨R2, sb2, r2⟩ := R1.newTup hp rv
    exact hw _ _ _ ρ1 R2 (sb.trans sb2) ex r2
  · exact hw.elim⟩
theorem de_lst {h : DS → Res (List D)} (mk : ∀ t, PA X es t → PE X e (tLst t)) (ha : DV Z X es h) : DE Z X e (dLst h) := ⟨fun W tk => PE.imp (mk _ (ha.run W tk)) fun σ H Q ⟨F, S, B, ρ, R, q⟩ => by
  refine dTV.first R q fun ds S1 x H1 B1 ρ1 R1 sb ex rv hw => ?_
  split at hw
  · rename_i hl
    refine ⟨by rw [rv.length]; exact hl, fun p hp => ?_⟩
    obtain ⟨R2, r2⟩ := R1.newOwn (o := .lst x) (c := .lst ds) hp ⟨x, rfl, rv⟩
    exact hw _ _ _ ρ1 R2 sb ex r2
  · exact hw.elim⟩
/-! ### tests -/
theorem de_if {t : DS → Res Bool} {pos : Pos} (hc : DT Z X c t) (ha : DE Z X a fa) (hb : DE Z X b fb) : DE Z X (.IfExp c a b pos) (dIf t fa fb) := ⟨fun W tk => PE.imp (pe_ifExp (hc.run W tk) (ha.run W tk) (hb.run W tk)) fun σ H Q ⟨F, S, B, ρ, R, q⟩ => by
  refine dTT.first R q fun r S1 H1 B1 ρ1 R1 sb ex hw => ?_
  cases r with
  | true =>
    rw [if_pos rfl] at hw ⊢
    exact ⟨F, S1, B1, ρ1, R1, hw.mono (fun _ _ z => PQ.mono sb ex z) fun _ _ z => z⟩
  | false =>
    rw [if_neg Bool.false_ne_true] at hw ⊢
    exact ⟨F, S1, B1, ρ1, R1, hw.mono (fun _ _ z => PQ.mono sb ex z) fun _ _ z => z⟩⟩
theorem truth_of {H B : Hp} {ρ : List Addr} {K : PySem.W.Frag} {v : V} {d : D} {k : Bool} (hK : K = Z.K) (hb : Same B H) (h : PV Z H B ρ v d) (t : truthD d = some k) : TruV K v H k := by
  subst hK
  unfold truthD at t
  split at t
  · cases t
    cases h.non
    exact rfl
  · cases t
    cases h.bl
    exact rfl
  · cases t
    cases h.int
    exact rfl
  · split at t
    · cases t
      cases h.str
      exact ⟨by assumption, rfl⟩
    · cases t
  · cases t
    obtain ⟨a, xs, rfl, h1, h2⟩ := h
    refine .inl ⟨xs, .inl (.inl h1), ?_⟩
    cases h2 <;> rfl
  · cases t
    obtain ⟨a, xs, rfl, h1, h2⟩ := h
    refine .inl ⟨xs, h1, ?_⟩
    cases h2 <;> rfl
  · cases t
    obtain ⟨a, xs, rfl, h1, h2⟩ := h.tup
    refine .inr (.inl ⟨xs, (Le.of_same hb).tup h1, ?_⟩)
    cases h2 <;> rfl
  · cases t
theorem dt_truth (hK : X.K = Z.K) (ha : DE Z X a fa) (he : ∀ whole, isTrue a X.env whole = (do let v ← whole; standAt a.pos; holding [v] (truthy v))) : DT Z X a (dTruth fa) := ⟨fun W tk => PT.imp (pt_truth (ha.run W tk) he) fun σ H Q ⟨F, S, B, ρ, R, q⟩ => by
  refine dTE.first R q fun r S1 x H1 B1 ρ1 R1 sb ex rv hw => ?_
  split at hw
  · rename_i k hk
    rw [Option.bind_eq_some_iff] at hk
    obtain ⟨d, hd, hk⟩ := hk
    exact ⟨k, truth_of hK R1.bh (peek_pv R1 rv hd) hk, hw H1 B1 ρ1 R1 sb ex⟩
  · exact hw.elim⟩
/-- a value that is a truth, as a test; a test as a value -/
theorem asB_of {F : Hp} {σ : St} {H B : Hp} {ρ : List Addr} {x : V} {r : RV} {S1 : DS} {P : Bool → DS → Prop} {E : Str → DS → Prop} (rv : RVR Z F S1 σ H B ρ x r)
    (h : Wp (match r with | .val (.bl b) => Res.ok b S1 | _ => .stk) P E) : ∃ k, x = .bl k ∧ P k S1 := by
  split at h
  · rename_i k
    have rv' : VR Z B ρ x (.bl k) := rv
    cases rv'
    exact ⟨k, rfl, h⟩
  · exact h.elim
theorem dt_cmp {op : CmpOp} {g : D → D → R} {pos : Pos} (he : ∀ d d' c, g d d' ≠ .exc c) (ho : OpR X (compareOp op) (rD2 Z g)) (hm : behindInMarks op b = false) (ha : DE Z X a fa) (hb : DE Z X b fb) : DT Z X (.Compare a [op] [b] pos) (asB (dPure2 g fa fb)) := ⟨fun W tk => PT.imp (pt_cmpR ho (ha.run W tk) (hb.run W tk) hm) fun σ H Q ⟨F, S, B, ρ, R, q⟩ => by
  have q1 : Wp (dPure2 g fa fb S) (fun r S1 => Wp (match r with | .val (.bl b) => Res.ok b S1 | _ => .stk) (PQt Z F B ρ σ Q) (EQ Z F B ρ σ W)) (EQ Z F B ρ σ W) := q.bind
  refine dTE.first R q1 fun r S1 x H1 B1 ρ1 R1 sb ex rv hw => ?_
  obtain ⟨B1', R1', sb', rv'⟩ := frz_ok R1 rv
  refine dTE.first R1' (hw.mono (fun _ _ z => z) fun _ _ z => z.mono sb' (.refl ρ1)) fun r2 S2 y H2 B2 ρ2 R2 sb2 ex2 rv2 hw2 => ?_
  split at hw2
  · rename_i d d' hd hd'
    refine ⟨F, S2, σ, B2, ρ2, d, d', R2, peek_pv R2 (rv'.mono (frz_still r) sb2 ex2) hd, peek_pv R2 rv2 hd', ?_⟩
    have key : Wp ((g d d').lift S2) (PQ Z F B2 ρ2 σ fun x H' => ∃ k, x = .bl k ∧ Q k H') (EQ Z F B2 ρ2 σ W) := hw2.mono (fun r3 S3 z v H' B' ρ' R' s' e' rv3 => by
      obtain ⟨k, e1, p⟩ := asB_of rv3 z
      exact ⟨k, e1, p H' B' ρ' R' (((sb.trans sb').trans sb2).trans s') ((ex.trans ex2).trans e')⟩) fun _ _ z => z
    exact lift_got key (he d d')
  · exact hw2.elim⟩
theorem dt_not {t : DS → Res Bool} {pos : Pos} (ha : DT Z X a t) : DT Z X (.UnaryOp .Not a pos) (dNot t) := ⟨fun W tk => PT.imp (pt_not (ha.run W tk)) fun σ H Q ⟨F, S, B, ρ, R, q⟩ => by
  refine dTT.first R q fun r S1 H1 B1 ρ1 R1 sb ex hw => ?_
  exact hw H1 B1 ρ1 R1 sb ex⟩
theorem dw_and1 {t : DS → Res Bool} {pos : Pos} (ha : DT Z X a t) : DW Z X (.BoolOp .And [a] pos) t := ⟨fun W tk => pw_and1 (ha.run W tk)⟩
theorem dw_or1 {t : DS → Res Bool} {pos : Pos} (ha : DT Z X a t) : DW Z X (.BoolOp .Or [a] pos) t := ⟨fun W tk => pw_or1 (ha.run W tk)⟩
theorem dw_and {t u : DS → Res Bool} {pos : Pos} (ha : DT Z X a t) (hb : DW Z X (.BoolOp .And (b :: es) pos) u) : DW Z X (.BoolOp .And (a :: b :: es) pos) (dAnd t u) := ⟨fun W tk => PW.imp (pw_and (ha.run W tk) (hb.run W tk)) fun σ H Q ⟨F, S, B, ρ, R, q⟩ => by
  refine dTT.first R q fun r S1 H1 B1 ρ1 R1 sb ex hw => ?_
  cases r with
  | true =>
    rw [if_pos rfl] at hw ⊢
    exact ⟨F, S1, B1, ρ1, R1, hw.mono (fun _ _ z => PQt.mono sb ex z) fun _ _ z => z⟩
  | false =>
    rw [if_neg Bool.false_ne_true] at hw ⊢
    exact hw H1 B1 ρ1 R1 sb ex⟩
theorem dw_or {t u : DS → Res Bool} {pos : Pos} (ha : DT Z X a t) (hb : DW Z X (.BoolOp .Or (b :: es) pos) u) : DW Z X (.BoolOp .Or (a :: b :: es) pos) (dOr t u) := ⟨fun W tk => PW.imp (pw_or (ha.run W tk) (hb.run W tk)) fun σ H Q ⟨F, S, B, ρ, R, q⟩ => by
  refine dTT.first R q fun r S1 H1 B1 ρ1 R1 sb ex hw => ?_
  cases r with
  | true =>
    rw [if_pos rfl] at hw ⊢
    exact hw H1 B1 ρ1 R1 sb ex
  | false =>
    rw [if_neg Bool.false_ne_true] at hw ⊢
    exact ⟨F, S1, B1, ρ1, R1, hw.mono (fun _ _ z => PQt.mono sb ex z) fun _ _ z => z⟩⟩
theorem DW.dt {t : DS → Res Bool} (h : DW Z X e t) : DT Z X e t := ⟨fun W tk => (h.run W tk).pt⟩
/-! ### truths as values -/
theorem de_not {pos : Pos} (ha : DE Z X a fa) : DE Z X (.UnaryOp .Not a pos) (dBool (dNot (asB fa))) := ⟨fun W tk => PE.imp (pe_not (ha.run W tk)) fun σ H Q ⟨F, S, B, ρ, R, q⟩ => by
  have q1 := q.bind.bind.bind
  refine ⟨F, S, B, ρ, R, q1.mono (fun r S1 hw x H1 B1 ρ1 R1 sb ex rv => ?_) fun _ _ z => z⟩
  obtain ⟨k, e1, p⟩ := asB_of rv hw
  exact ⟨k, e1, p _ H1 B1 ρ1 R1 sb ex (.bl _)⟩⟩
theorem de_one {op : BoolOp} {pos : Pos} (ha : DE Z X a fa) : DE Z X (.BoolOp op [a] pos) fa := ⟨fun W tk => pe_one (ha.run W tk)⟩
def dAndV (f g : DS → Res RV) : DS → Res RV := fun S => (asB f S).bind fun b S1 => if b = true then g S1 else .ok (.val (.bl false)) S1
def dOrV (f g : DS → Res RV) : DS → Res RV := fun S => (asB f S).bind fun b S1 => if b = true then .ok (.val (.bl true)) S1 else g S1
theorem de_and {pos : Pos} (ha : DE Z X a fa) (hb : DE Z X (.BoolOp .And (b :: es) pos) fb) : DE Z X (.BoolOp .And (a :: b :: es) pos) (dAndV fa fb) := ⟨fun W tk => PE.imp (pe_and (ha.run W tk) (hb.run W tk)) fun σ H Q ⟨F, S, B, ρ, R, q⟩ => by
  have q1 := q.bind.bind
  refine ⟨F, S, B, ρ, R, q1.mono (fun r S1 hw x H1 B1 ρ1 R1 sb ex rv => ?_) fun _ _ z => z⟩
  obtain ⟨k, e1, p⟩ := asB_of rv hw
  refine ⟨k, e1, ?_⟩
  cases k with
  | true =>
    rw [if_pos rfl] at p ⊢
    exact ⟨F, S1, B1, ρ1, R1, Wp.mono p (fun _ _ z => PQ.mono sb ex z) fun _ _ z => EQ.mono sb ex z⟩
  | false =>
    rw [if_neg Bool.false_ne_true] at p ⊢
    exact p _ H1 B1 ρ1 R1 sb ex (.bl _)⟩
theorem de_or {pos : Pos} (ha : DE Z X a fa) (hb : DE Z X (.BoolOp .Or (b :: es) pos) fb) : DE Z X (.BoolOp .Or (a :: b :: es) pos) (dOrV fa fb) := ⟨fun W tk => PE.imp (pe_or (ha.run W tk) (hb.run W tk)) fun σ H Q ⟨F, S, B, ρ, R, q⟩ => by
  have q1 := q.bind.bind
  refine ⟨F, S, B, ρ, R, q1.mono (fun r S1 hw x H1 B1 ρ1 R1 sb ex rv => ?_) fun _ _ z => z⟩
  obtain ⟨k, e1, p⟩ := asB_of rv hw
  refine ⟨k, e1, ?_⟩
  cases k with
  | true =>
    rw [if_pos rfl] at p ⊢
    exact p _ H1 B1 ρ1 R1 sb ex (.bl _)
  | false =>
    rw [if_neg Bool.false_ne_true] at p ⊢
    exact ⟨F, S1, B1, ρ1, R1, Wp.mono p (fun _ _ z => PQ.mono sb ex z) fun _ _ z => EQ.mono sb ex z⟩⟩
end
end TW
/-! TW5: calls, subscripts, slices, fields, methods of built-in types. -/
namespace TW
open PySem PySem.Spec L2

/-! ### a def's promise, by values -/
def Back (Z : SX) (H B : Hp) (r : R) (Q : VK) (E : XK) : Prop := match r with
  | .val d => ∀ v H' B', Same H H' → Same B' H' → Same B B' → (∀ a, H a ≠ none → B' a = B a) → VR Z B' [] v d → Q v H'
  | .own c => ∀ a H' B', Same H H' → Same B' H' → Same B B' → (∀ a, H a ≠ none → B' a = B a) → CR Z B' [] H' a c false → H a = none → B' a = none → Q (.ref a) H'
  | .exc c => ∀ cls H', Same H H' → Z.EX c cls → E cls none H'
  | .stk => False
def spP (Z : SX) (n : Nat) (φ : List D → R) : Sp := fun vs H Q E => vs.length = n ∧ ∃ B ds, Same B H ∧ VRs Z B [] vs ds ∧ Back Z H B (φ ds) Q E
/-- a def of the module -/
structure FnE where
  φ : List D → R
  np : Nat
  dfl : List D := []
structure FnEOk (X : Cx) (Z : SX) (x : Str) (e : FnE) : Prop where
  ex : ∃ (f : Addr) (fd : FuncData) (ps : List Str) (k : Nat), X.mg x = some (.ref f) ∧ PySem.W.keepIn X.K (.ref f) = true ∧ FnOk X.prog X.w X.K X.mg X.base (L2.CX X.prog X.w) k f fd ps (spP Z e.np e.φ) ∧ Room k X.A ∧
    Binds X.K fd ps [] ∧ ∀ d, e.dfl = [d] → ∃ v u, RelV v u ∧ (∀ B ρ, VR Z B ρ v d) ∧ Binds X.K fd ps [u]
/-- what is clean refers to no list -/
def R.clean : R → Bool
  | .val d => d.flat
  | .own c => c.flat
  | _ => true
def settleAll : List RV → DS → Res (List D)
  | [], S => .ok [] S
  | r :: rs, S => (settle r S).bind fun d S1 => (settleAll rs S1).bind fun ds S2 => .ok (d :: ds) S2
def dCall (φ : List D → R) (dfl : List D) (f : DS → Res (List RV)) : DS → Res RV := fun S => (f S).bind fun rs S1 => match peekAll S1 rs with
  | some ds => if D.noRefs (ds ++ dfl) = true then (if (φ (ds ++ dfl)).clean = true then (φ (ds ++ dfl)).lift S1 else (settleAll rs S1).bind fun es S2 => if D.noRefs (es ++ dfl) = true then (φ (es ++ dfl)).lift S2 else .stk) else .stk
  | none => .stk

section
variable {Z : SX} {F : Hp} {S : DS} {σ : St} {H B : Hp} {ρ : List Addr}
/-- behind a call that changed nothing old: the state stands, the new frozen things beside -/
theorem Rel.behind (R : Rel Z F S σ H B ρ) {H' B' : Hp} (sh : Same H H') (sb : Same B' H') (bb : Same B B') (old : ∀ a, H a ≠ none → B' a = B a) : Rel Z F S σ H' B' ρ := by
  have le := Le.of_same bb
  refine ⟨⟨sb, R.fh.trans sh, fun a o e => ?_, R.rlen, R.rnd, fun a ha => ?_, R.rf, fun k a o h1 h2 => ((R.hp k a o h1 h2).mono le (.refl ρ)).heap fun o e => sh _ _ e⟩, R.len, fun i d h => ?_, fun i c lk h => ?_, R.sep, R.excs⟩
  · rw [old a (by rw [R.fh _ _ e]; simp)]
    exact R.fb _ _ e
  · obtain ⟨o, e⟩ := R.toRelH.there ha
    rw [old a (by rw [e]; simp)]
    exact R.rb _ ha
  · obtain ⟨v, e, h⟩ := R.vals i d h
    exact ⟨v, e, h.mono le (.refl ρ)⟩
  · obtain ⟨a, e, h, h1, h2, h3⟩ := R.owns i c lk h
    obtain ⟨o, e2⟩ := h.some
    exact ⟨a, e, (h.mono le (.refl ρ)).heap fun o e => sh _ _ e, by rw [old a (by rw [e2]; simp)]; exact h1, h2, h3⟩
open Classical in
/-- the frozen part with what is lent -/
noncomputable def lend (S : DS) (σ : St) (H B : Hp) (ρ : List Addr) : Hp := fun a => if (∃ i, OwnAt S σ i a) ∨ (∃ (k : Nat) (c : Cont) (lk : Bool), S.L[k]? = some (.con c lk) ∧ ρ[k]? = some a) then H a else B a
open Classical in
/-- the frozen part behind a clean call: the old as it was, the new beside -/
noncomputable def backB (H B B' : Hp) : Hp := fun a => if H a = none then B' a else B a
theorem lend_same (R : Rel Z F S σ H B ρ) : Same B (lend S σ H B ρ) ∧ Same (lend S σ H B ρ) H := by
  constructor
  · intro a o e
    unfold lend
    rw [if_neg]
    · exact e
    · rintro (⟨i, c, lk, h1, h2⟩ | ⟨k, c, lk, h1, h2⟩)
      · obtain ⟨b, e1, _, e3, _⟩ := R.owns i c lk h1
        rw [h2] at e1
        cases e1
        rw [e3] at e
        cases e
      · rw [R.rb a (List.mem_of_getElem? h2)] at e
        cases e
  · intro a o e
    unfold lend at e
    split at e
    · exact e
    · exact R.bh _ _ e
theorem back_same (R : Rel Z F S σ H B ρ) {H' B' : Hp} (sh : Same H H') (sb : Same B' H') : Same B (backB H B B') ∧ Same (backB H B B') H' ∧ ∀ a, H a ≠ none → backB H B B' a = B a := by
  refine ⟨fun a o e => ?_, fun a o e => ?_, fun a h => ?_⟩
  · unfold backB
    rw [if_neg (by rw [R.bh _ _ e]; simp)]
    exact e
  · unfold backB at e
    split at e
    · exact sb _ _ e
    · exact sh _ _ (R.bh _ _ e)
  · unfold backB
    rw [if_neg h]
/-- a peeked value is one of the lent part -/
theorem peek_lent (R : Rel Z F S σ H B ρ) {v : V} {r : RV} {d : D} (st : r.still = true) (h : RVR Z F S σ H B ρ v r) (p : peek S r = some d) : VR Z (lend S σ H B ρ) ρ v d := by
  obtain ⟨s1, s2⟩ := lend_same R
  have le := Le.of_same s1
  have cv : ∀ {a : Addr} {c : Cont} {lk : Bool}, CR Z B ρ H a c lk → lend S σ H B ρ a = H a → VR Z (lend S σ H B ρ) ρ (.ref a) c.toD := fun {a c lk} e2 at_ => by
    obtain ⟨o, h1, h2⟩ := e2
    have h2' : lend S σ H B ρ a = some o ∨ (lk = true ∧ (∃ ks, o = .dK ks) ∧ ∃ ob, lend S σ H B ρ a = some (.frz ob o)) := by
      rw [at_]
      exact h2
    cases c with
    | lst ds =>
      obtain ⟨xs, rfl, h⟩ := h1
      rcases h2' with h2 | ⟨_, ⟨_, z⟩, _⟩
      · exact .lst h2 (h.mono le (.refl ρ))
      · cases z
    | dic kvs =>
      obtain ⟨ks, rfl, h⟩ := h1
      refine .dic ?_ (h.mono le (.refl ρ))
      rcases h2' with h2 | ⟨_, _, ob, h2⟩
      · exact .inl h2
      · exact .inr ⟨ob, h2⟩
  cases r with
  | val e =>
    cases p
    change VR Z B ρ v e at h
    revert h
    unfold deref
    split
    · rename_i k
      intro h
      split
      · rename_i c lk hk
        cases h with
        | ref hρ =>
          refine cv (R.hp k _ _ hρ hk) ?_
          unfold lend
          rw [if_pos (.inr ⟨k, c, lk, hk, hρ⟩)]
      · exact VR.mono le (.refl ρ) h
    · exact fun h => VR.mono le (.refl ρ) h
  | own c => cases st
  | plc i =>
    unfold peek at p
    dsimp only at p
    split at p
    · rename_i e he
      cases p
      obtain ⟨w, e1, e2⟩ := R.vals i _ he
      rw [h] at e1
      cases e1
      exact e2.mono le (.refl ρ)
    · rename_i c lk he
      cases p
      obtain ⟨a, e1, e2, _⟩ := R.owns i _ _ he
      rw [h] at e1
      cases e1
      refine cv e2 ?_
      unfold lend
      rw [if_pos (.inl ⟨i, c, lk, he, h⟩)]
    · cases p
theorem peekAll_lent (R : Rel Z F S σ H B ρ) : ∀ {vs : List V} {rs : List RV} {ds : List D}, (∀ r ∈ rs, r.still = true) → RVRs Z F S σ H B ρ vs rs → peekAll S rs = some ds → VRs Z (lend S σ H B ρ) ρ vs ds
  | [], [], _, _, _, p => by
    cases p
    exact .nil
  | v :: vs, r :: rs, ds, st, h, p => by
    unfold peekAll at p
    split at p
    · rename_i d es e1 e2
      cases p
      exact .cons (peek_lent R (st r List.mem_cons_self) h.1 e1) (peekAll_lent R (fun r hr => st r (List.mem_cons_of_mem _ hr)) h.2 e2)
    · cases p
  | [], _ :: _, _, _, h, _ => h.elim
  | _ :: _, [], _, _, h, _ => h.elim
theorem peekAll_length : ∀ {rs : List RV} {ds : List D}, peekAll S rs = some ds → rs.length = ds.length
  | [], _, p => by cases p; rfl
  | r :: rs, ds, p => by
    unfold peekAll at p
    split at p
    · rename_i d es e1 e2
      cases p
      rw [List.length_cons, List.length_cons, peekAll_length e2]
    · cases p
theorem settleAll_ok : ∀ {vs : List V} {rs : List RV} {S : DS} {B : Hp} {ds : List D} {S' : DS}, Rel Z F S σ H B ρ → (∀ r ∈ rs, r.still = true) → RVRs Z F S σ H B ρ vs rs → settleAll rs S = .ok ds S' → ∃ B', Rel Z F S' σ H B' ρ ∧ Same B B' ∧ VRs Z B' ρ vs ds
  | [], [], S, B, _, _, R, _, _, p => by
    cases p
    exact ⟨B, R, fun _ _ e => e, .nil⟩
  | v :: vs, r :: rs, S, B, ds, S', R, st, h, p => by
    unfold settleAll at p
    cases hs : settle r S with
    | ok d S1 =>
      rw [hs] at p
      change (settleAll rs S1).bind _ = _ at p
      obtain ⟨B1, R1, sb, q⟩ := settle_ok R h.1 hs
      cases hs2 : settleAll rs S1 with
      | ok es S2 =>
        rw [hs2] at p
        cases p
        have rr : ∀ {vs : List V} {rs : List RV}, (∀ r ∈ rs, r.still = true) → RVRs Z F S σ H B ρ vs rs → RVRs Z F S1 σ H B1 ρ vs rs := fun {vs rs} => by
          induction vs generalizing rs with
          | nil =>
            intro _ h
            cases rs with
            | nil => trivial
            | cons _ _ => exact h.elim
          | cons v vs ih =>
            intro st h
            cases rs with
            | nil => exact h.elim
            | cons r rs => exact ⟨h.1.mono (st r List.mem_cons_self) sb (.refl ρ), ih (fun r hr => st r (List.mem_cons_of_mem _ hr)) h.2⟩
        obtain ⟨B2, R2, sb2, q2⟩ := settleAll_ok R1 (fun r hr => st r (List.mem_cons_of_mem _ hr)) (rr (fun r hr => st r (List.mem_cons_of_mem _ hr)) h.2) hs2
        exact ⟨B2, R2, sb.trans sb2, .cons (q.mono (.of_same sb2) (.refl ρ)) q2⟩
      | exc c S2 =>
        rw [hs2] at p
        cases p
      | stk =>
        rw [hs2] at p
        cases p
    | exc c S1 =>
      rw [hs] at p
      cases p
    | stk =>
      rw [hs] at p
      cases p
  | [], _ :: _, _, _, _, _, _, _, h, _ => h.elim
  | _ :: _, [], _, _, _, _, _, _, h, _ => h.elim
theorem settleAll_exc : ∀ {rs : List RV} {S : DS} {c : Str} {S' : DS}, settleAll rs S = .exc c S' → False
  | [], _, _, _, p => by cases p
  | r :: rs, S, c, S', p => by
    unfold settleAll at p
    cases hs : settle r S with
    | ok d S1 =>
      rw [hs] at p
      change (settleAll rs S1).bind _ = _ at p
      cases hs2 : settleAll rs S1 with
      | ok es S2 =>
        rw [hs2] at p
        cases p
      | exc c S2 => exact settleAll_exc hs2
      | stk =>
        rw [hs2] at p
        cases p
    | exc c S1 => exact settle_exc hs
    | stk =>
      rw [hs] at p
      cases p
theorem sqT_lent {a : Addr} {xs : List V} {B' : Hp} (R : Rel Z F S σ H B ρ) (old : ∀ a, H a ≠ none → B' a = lend S σ H B ρ a) (h : SqT Z.K B' a xs) : SqT Z.K (backB H B B') a xs := by
  have at_ : ∀ u, B' a = some u → (∀ l, u ≠ .lst l) → (∀ k, u ≠ .dK k) → (∀ ob k, u ≠ .frz ob (.dK k)) → backB H B B' a = some u := fun u e n1 n2 n3 => by
    unfold backB
    split
    · exact e
    · rename_i hne
      rw [old a hne] at e
      unfold lend at e
      have no : ∀ {c : Cont} {lk : Bool}, CR Z B ρ H a c lk → H a = some u → False := fun {c lk} ⟨o, e2, e3⟩ e => by
        cases c with
        | lst ds =>
          obtain ⟨xs, rfl, _⟩ := e2
          rcases e3 with e3 | ⟨_, ⟨_, z⟩, _⟩
          · rw [e] at e3
            cases e3
            exact absurd rfl (n1 _)
          · cases z
        | dic kvs =>
          obtain ⟨ks, rfl, _⟩ := e2
          rcases e3 with e3 | ⟨_, _, ob, e3⟩
          · rw [e] at e3
            cases e3
            exact absurd rfl (n2 _)
          · rw [e] at e3
            cases e3
            exact absurd rfl (n3 _ _)
      split at e
      · rename_i hx
        exfalso
        rcases hx with ⟨i, c, lk, h1, h2⟩ | ⟨k, c, lk, h1, h2⟩
        · obtain ⟨b, e1, e3, _⟩ := R.owns i c lk h1
          rw [h2] at e1
          cases e1
          exact no e3 e
        · exact no (R.hp k _ _ h2 h1) e
      · exact e
  rcases h with (h | ⟨o, h⟩) | h
  · exact .inl (.inl (at_ _ h (fun _ => by simp) (fun _ => by simp) fun _ _ => by simp))
  · exact .inl (.inr ⟨o, at_ _ h (fun _ => by simp) (fun _ => by simp) fun _ _ => by simp⟩)
  · exact .inr h
end
theorem dArgs_still : ∀ {fs : List (DS → Res RV)} {S S' : DS} {rs : List RV}, dArgs fs S = .ok rs S' → ∀ r ∈ rs, r.still = true
  | [], _, _, _, h => by
    cases h
    intro r hr
    cases hr
  | f :: fs, S, S', rs, h => by
    unfold dArgs at h
    cases hf : f S with
    | ok r S1 =>
      rw [hf] at h
      change (dArgs fs S1).bind _ = _ at h
      cases hs : dArgs fs S1 with
      | ok rs' S2 =>
        rw [hs] at h
        cases h
        intro q hq
        rcases List.mem_cons.mp hq with rfl | hq
        · exact frz_still r
        · exact dArgs_still hs q hq
      | exc c S2 =>
        rw [hs] at h
        cases h
      | stk =>
        rw [hs] at h
        cases h
    | exc c S1 =>
      rw [hf] at h
      cases h
    | stk =>
      rw [hf] at h
      cases h
section
variable {Z : SX} {X : Cx} {W : WX} {F : Hp} {S : DS} {σ : St} {H B : Hp} {ρ : List Addr}
theorem VRs.of_refs : ∀ {vs : List V} {ds : List D} {B : Hp} {ρ : List Addr}, VRs Z B ρ vs ds → vs.length = ds.length := fun h => h.length
/-- the argument values, the defaults behind -/
theorem sp_of {φ : List D → R} {n : Nat} {vs dvs : List V} {rs : List RV} {ds dfl : List D} {Q : VK} (R0 : Rel Z F S σ H B ρ) (st : ∀ r ∈ rs, r.still = true) (rv : RVRs Z F S σ H B ρ vs rs) (pk : peekAll S rs = some ds)
    (hl : (vs ++ dvs).length = n) (hd : ∀ B ρ, VRs Z B ρ dvs dfl)
    (h : Wp (if D.noRefs (ds ++ dfl) = true then (if (φ (ds ++ dfl)).clean = true then (φ (ds ++ dfl)).lift S else (settleAll rs S).bind fun es S2 => if D.noRefs (es ++ dfl) = true then (φ (es ++ dfl)).lift S2 else .stk) else .stk) (PQ Z F B ρ σ Q) (EQ Z F B ρ σ W)) :
    spP Z n φ (vs ++ dvs) H Q (WE W σ) := by
  refine ⟨hl, ?_⟩
  split at h
  · rename_i hn
    split at h
    · rename_i hc
      obtain ⟨s1, s2⟩ := lend_same R0
      have v1 : VRs Z (lend S σ H B ρ) [] (vs ++ dvs) (ds ++ dfl) := ((peekAll_lent R0 st rv pk).append (hd _ _)).noRef hn
      refine ⟨lend S σ H B ρ, ds ++ dfl, s2, v1, ?_⟩
      cases hr : φ (ds ++ dfl) with
      | val d =>
        rw [hr] at h hc
        intro v H' B' sh sb bb old rv'
        obtain ⟨t1, t2, t3⟩ := back_same R0 (B' := B') sh sb
        exact h v H' (backB H B B') ρ (R0.behind sh t2 t1 t3) t1 (.refl ρ) (VR.flat (fun a xs q => sqT_lent R0 old q) rv' hc)
      | own c =>
        rw [hr] at h hc
        intro a H' B' sh sb bb old rv' na nb
        obtain ⟨t1, t2, t3⟩ := back_same R0 (B' := B') sh sb
        have R2 := R0.behind sh t2 t1 t3
        refine h (.ref a) H' (backB H B B') ρ R2 t1 (.refl ρ) ⟨a, rfl, ?_, ?_⟩
        · obtain ⟨o, e1, e2⟩ := rv'
          exact ⟨o, e1.flat (fun a xs q => sqT_lent R0 old q) hc, e2⟩
        · obtain ⟨f1, f2, f3, f4⟩ := R0.fresh na
          exact ⟨by unfold backB; rw [if_pos na]; exact nb, f2, f3, f4⟩
      | exc c =>
        rw [hr] at h
        intro cls H' sh he
        exact h cls H' B ρ (R0.behind sh (R0.bh.trans sh) (fun _ _ z => z) fun _ _ => rfl) (fun _ _ z => z) (.refl ρ) he
      | stk =>
        rw [hr] at h
        exact h.elim
    · rename_i hc
      cases hs : settleAll rs S with
      | ok es S2 =>
        rw [hs] at h
        change Wp (if _ then _ else _) _ _ at h
        obtain ⟨B2, R2, sb2, v2⟩ := settleAll_ok R0 st rv hs
        split at h
        · rename_i hn2
          have v3 : VRs Z B2 [] (vs ++ dvs) (es ++ dfl) := (v2.append (hd _ _)).noRef hn2
          refine ⟨B2, es ++ dfl, R2.bh, v3, ?_⟩
          cases hr : φ (es ++ dfl) with
          | val d =>
            rw [hr] at h
            intro v H' B' sh sb bb old rv'
            exact h v H' B' ρ (R2.behind sh sb bb old) (sb2.trans bb) (.refl ρ) (rv'.mono (.refl _) (.nil ρ))
          | own c =>
            rw [hr] at h
            intro a H' B' sh sb bb old rv' na nb
            have R3 := R2.behind sh sb bb old
            refine h (.ref a) H' B' ρ R3 (sb2.trans bb) (.refl ρ) ⟨a, rfl, rv'.mono (.refl _) (.nil ρ), ?_⟩
            obtain ⟨f1, f2, f3, f4⟩ := R2.fresh na
            exact ⟨nb, f2, f3, f4⟩
          | exc c =>
            rw [hr] at h
            intro cls H' sh he
            exact h cls H' B2 ρ (R2.behind sh (R2.bh.trans sh) (fun _ _ z => z) fun _ _ => rfl) sb2 (.refl ρ) he
          | stk =>
            rw [hr] at h
            exact h.elim
        · exact h.elim
      | exc c S2 => exact (settleAll_exc hs).elim
      | stk =>
        rw [hs] at h
        exact h.elim
  · exact h.elim
theorem RVRs.length : ∀ {vs : List V} {rs : List RV}, RVRs Z F S σ H B ρ vs rs → vs.length = rs.length
  | [], [], _ => rfl
  | _ :: _, _ :: _, h => by rw [List.length_cons, List.length_cons, RVRs.length h.2]
  | [], _ :: _, h => h.elim
  | _ :: _, [], h => h.elim
theorem plain_args {env : Env} {pos : Pos} : ∀ es : List Expr, es.all noStar = true → (backTo pos (starEach es env)).any (·.1) = false := by
  intro es
  have : ∀ es : List Expr, es.all noStar = true → ∀ b, (b, ()) ∈ (starEach es env).map (fun x => (x.1, ())) → b = false := by
    intro es
    induction es with
    | nil =>
      intro _ b hb
      simp [starEach] at hb
    | cons e es ih =>
      intro h b hb
      rw [List.all_cons, Bool.and_eq_true] at h
      rw [star_of h.1, List.map_cons, List.mem_cons] at hb
      rcases hb with hb | hb
      · cases hb
        rfl
      · exact ih h.2 b hb
  intro h
  have h0 := this es h
  clear this
  have e : ∀ l : List (Bool × Sem Value), (backTo pos l).any (·.1) = l.any (·.1) := fun l => by
    induction l with
    | nil => rfl
    | cons x l ih =>
      obtain ⟨s, t⟩ := x
      show (s || (backTo pos l).any (·.1)) = (s || l.any (·.1))
      rw [ih]
  rw [e, List.any_eq_false]
  intro y hy
  have := h0 y.1 (List.mem_map.mpr ⟨y, hy, rfl⟩)
  simp [this]
/-- f(e, ..), a def of the module -/
theorem de_call {x : Str} {p pos : Pos} {e : Expr} {es : List Expr} {fs : List (DS → Res RV)} {en : FnE} (hg : Gl X x) (hE : FnEOk X Z x en) (hdb : (x == ("__debug__" : Str)) = false) (ns : (e :: es).all noStar = true) (ha : DA Z X (e :: es) (dArgs fs)) (hfs : fs.length = (e :: es).length)
    (dfl : List D) (hd : dfl = [] ∨ dfl = en.dfl) (h1 : dfl.length ≤ 1) (hn : (e :: es).length + dfl.length = en.np) : DE Z X (.Call (.Name x p) (e :: es) [] pos) (dCall en.φ dfl (dArgs fs)) := by
  obtain ⟨f, fd, ps, k, hm, hk, hF, hr, hb, hbd⟩ := hE.ex
  have ns' := ns
  rw [List.all_cons, Bool.and_eq_true] at ns'
  have fin : ∀ (ds : List Value) (dvs : List V), Vals dvs ds → Binds X.K fd ps ds → (∀ B ρ, VRs Z B ρ dvs dfl) → DE Z X (.Call (.Name x p) (e :: es) [] pos) (dCall en.φ dfl (dArgs fs)) := fun ds dvs hv hb hdv => ⟨fun W tk => PE.imp (pe_callSD hF hr hg hm hk hb hv (fun σ => passAt tk σ) (ha.run W tk) hdb (star_of ns'.1) (plain_args es ns'.2)) fun σ H Q ⟨F, S, B, ρ, R, q⟩ => by
    refine dTA.firstE R q fun rs S1 xs H1 B1 ρ1 he R1 sb ex rv hw => ?_
    split at hw
    · rename_i ds' hpk
      have hlen : rs.length = fs.length := by
        have go : ∀ {fs : List (DS → Res RV)} {S S' : DS} {rs : List RV}, dArgs fs S = .ok rs S' → rs.length = fs.length := by
          intro fs
          induction fs with
          | nil =>
            intro S S' rs h
            cases h
            rfl
          | cons f fs ih =>
            intro S S' rs h
            unfold dArgs at h
            cases hf : f S with
            | ok r S1 =>
              rw [hf] at h
              change (dArgs fs S1).bind _ = _ at h
              cases hs : dArgs fs S1 with
              | ok rs' S2 =>
                rw [hs] at h
                cases h
                rw [List.length_cons, List.length_cons, ih hs]
              | exc c S2 =>
                rw [hs] at h
                cases h
              | stk =>
                rw [hs] at h
                cases h
            | exc c S1 =>
              rw [hf] at h
              cases h
            | stk =>
              rw [hf] at h
              cases h
        exact go he
      refine sp_of R1 (dArgs_still he) rv hpk ?_ hdv (Wp.mono hw (fun _ _ z => PQ.mono sb ex z) fun _ _ z => z)
      rw [List.length_append, rv.length, hlen, hfs, (hdv B1 ρ1).length]
      exact hn
    · exact hw.elim⟩
  rcases hd with rfl | rfl
  · exact fin [] [] .nil hb fun _ _ => .nil
  · cases hq : en.dfl with
    | nil =>
      rw [hq] at fin
      exact fin [] [] .nil hb fun _ _ => .nil
    | cons d l =>
      rw [hq] at h1 fin
      have : l = [] := by
        cases l with
        | nil => rfl
        | cons _ _ => simp at h1
      subst this
      obtain ⟨v, u, r, h2, h3⟩ := hbd d hq
      exact fin [u] [v] (.cons r .nil) h3 fun B ρ => .cons (h2 B ρ) .nil
end
end TW
/-! TW6: subscripts, slices, isinstance, fields, methods of built-in types. -/
namespace TW
open PySem PySem.Spec L2

section
variable {Z : SX} {X : Cx} {W : WX} {F : Hp} {S : DS} {σ : St} {H B : Hp} {ρ : List Addr} {e a b : Expr} {fa fb fc : DS → Res RV}

/-- a reading that wants less where less is wanted -/
def MonoE (t : TE) : Prop := ∀ σ H (Q Q' : VK), (∀ v H', Q v H' → Q' v H') → t σ H Q → t σ H Q'
theorem dTE.mono {f : DS → Res RV} : MonoE (dTE Z f W) := fun σ H Q Q' i ⟨F, S, B, ρ, R, q⟩ => ⟨F, S, B, ρ, R, q.mono (fun _ _ z v H' B' ρ' R' sb ex rv => i _ _ (z v H' B' ρ' R' sb ex rv)) fun _ _ z => z⟩
/-- the same operation by two rules, as the first value is -/
theorem de_pure2s (sel : D → Bool) {g1 g2 g : D → D → R} (h1 : ∀ d e, sel d = true → g d e = g1 d e) (h2 : ∀ d e, sel d = false → g d e = g2 d e) (he : ∀ d d' c, g d d' ≠ .exc c)
    (m1 : ∀ t u, MonoE t → MonoE u → PE X a t → PE X b u → PE X e (tOp (rD2 Z g1) t u)) (m2 : ∀ t u, MonoE t → MonoE u → PE X a t → PE X b u → PE X e (tOp (rD2 Z g2) t u)) (ha : DE Z X a fa) (hb : DE Z X b fb) : DE Z X e (dPure2 g fa fb) := ⟨fun W tk =>
  PE.imp (PE.or (m1 _ _ dTE.mono dTE.mono (ha.run W tk) (hb.run W tk)) (m2 _ _ dTE.mono dTE.mono (ha.run W tk) (hb.run W tk))) fun σ H Q ⟨F, S, B, ρ, R, q⟩ => by
  by_cases hs : ∃ r S1 r' S2 d, fa S = .ok r S1 ∧ fb S1 = .ok r' S2 ∧ peek S2 r.frz = some d ∧ sel d = true
  · refine .inl (dTE.firstE R q fun r S1 x H1 B1 ρ1 e1 R1 sb ex rv hw => ?_)
    obtain ⟨B1', R1', sb', rv'⟩ := frz_ok R1 rv
    refine dTE.firstE R1' (hw.mono (fun _ _ z => z) fun _ _ z => z.mono sb' (.refl ρ1)) fun r2 S2 y H2 B2 ρ2 e2 R2 sb2 ex2 rv2 hw2 => ?_
    obtain ⟨r0, S0, r0', S0', d0, q1, q2, q3, q4⟩ := hs
    rw [e1] at q1
    cases q1
    rw [e2] at q2
    cases q2
    split at hw2
    · rename_i d d' hd hd'
      rw [hd] at q3
      have q5 := Option.some.inj q3
      subst q5
      rw [h1 _ _ q4] at hw2
      exact ⟨F, S2, σ, B2, ρ2, d, d', R2, peek_pv R2 (rv'.mono (frz_still r) sb2 ex2) hd, peek_pv R2 rv2 hd', lift_got (hw2.mono (fun _ _ z => PQ.mono ((sb.trans sb').trans sb2) (ex.trans ex2) z) fun _ _ z => z) (by rw [← h1 _ _ q4]; exact he d d')⟩
    · exact hw2.elim
  · refine .inr (dTE.firstE R q fun r S1 x H1 B1 ρ1 e1 R1 sb ex rv hw => ?_)
    obtain ⟨B1', R1', sb', rv'⟩ := frz_ok R1 rv
    refine dTE.firstE R1' (hw.mono (fun _ _ z => z) fun _ _ z => z.mono sb' (.refl ρ1)) fun r2 S2 y H2 B2 ρ2 e2 R2 sb2 ex2 rv2 hw2 => ?_
    split at hw2
    · rename_i d d' hd hd'
      have q4 : sel d = false := by
        cases q : sel d with
        | false => rfl
        | true => exact absurd ⟨r, S1, r2, S2, d, e1, e2, hd, q⟩ hs
      rw [h2 _ _ q4] at hw2
      exact ⟨F, S2, σ, B2, ρ2, d, d', R2, peek_pv R2 (rv'.mono (frz_still r) sb2 ex2) hd, peek_pv R2 rv2 hd', lift_got (hw2.mono (fun _ _ z => PQ.mono ((sb.trans sb').trans sb2) (ex.trans ex2) z) fun _ _ z => z) (by rw [← h2 _ _ q4]; exact he d d')⟩
    · exact hw2.elim⟩

/-! ### o[i] -/
def gIxS : D → D → R
  | .lst ds, .int i => match atI ds i with
    | some d => .val d
    | none => .stk
  | .scr ds, .int i => match atI ds i with
    | some d => .val d
    | none => .stk
  | .tup ds, .int i => match atI ds i with
    | some d => .val d
    | none => .stk
  | .str z, .int i => if z.length ≤ sizeLine then (match atI z.cps.toList i with
    | some c => .val (.str ⟨#[c]⟩)
    | none => .stk) else .stk
  | _, _ => .stk
def gIxD : D → D → R
  | .dic kvs, d => match keyOf d with
    | some k => (match dget kvs k with
      | some x => .val x
      | none => .stk)
    | none => .stk
  | _, _ => .stk
def isDic : D → Bool
  | .dic _ => true
  | _ => false
def gIx (d e : D) : R := if isDic d = true then gIxD d e else gIxS d e
theorem VRs.atI {vs : List V} {ds : List D} (h : VRs Z B ρ vs ds) {i : Int} {d : D} (e : L2.atI ds i = some d) : ∃ v, L2.atI vs i = some v ∧ VR Z B ρ v d := by
  unfold L2.atI at e ⊢
  rw [Option.bind_eq_some_iff] at e
  obtain ⟨j, h1, h2⟩ := e
  obtain ⟨v, h3, h4⟩ := h.get h2
  exact ⟨v, by rw [h.length, h1]; exact h3, h4⟩
theorem ix_seqA (hK : X.K = Z.K) : IxR X (rD2 Z gIxS) := fun value slice pins s σ' H x y v u Q I rx ry h hs => by
  refine ix_seq value slice pins s σ' H x y v u Q I rx ry ?_ hs
  obtain ⟨F, S, σ, B, ρ, d, e, R, hx, hy, q⟩ := h
  rw [hK]
  unfold gIxS at q
  split at q
  · split at q
    · rename_i d hd
      obtain ⟨p, xs, rfl, h1, h2⟩ := hx
      obtain ⟨w, h3, h4⟩ := h2.atI hd
      exact .inl ⟨p, xs, _, w, rfl, hy.int, .inl (.inl h1), h3, q.old R h4⟩
    · exact q.elim
  · split at q
    · rename_i d hd
      obtain ⟨p, xs, rfl, h1, h2⟩ := hx
      obtain ⟨w, h3, h4⟩ := h2.atI hd
      exact .inl ⟨p, xs, _, w, rfl, hy.int, h1, h3, q.old R h4⟩
    · exact q.elim
  · split at q
    · rename_i d hd
      obtain ⟨p, xs, rfl, h1, h2⟩ := hx.tup
      obtain ⟨w, h3, h4⟩ := h2.atI hd
      exact .inr (.inl ⟨p, xs, _, w, rfl, hy.int, (Le.of_same R.bh).tup h1, h3, q.old R h4⟩)
    · exact q.elim
  · split at q
    · rename_i hl
      split at q
      · rename_i c hc
        exact .inr (.inr ⟨_, _, c, hx.str, hy.int, hl, hc, q.str R⟩)
      · exact q.elim
    · exact q.elim
  · exact q.elim
theorem PV.key {v : V} {d : D} {k : Key} (h : PV Z H B ρ v d) (e : keyOf d = some k) : v = kV k := by
  cases d with
  | int i =>
    cases e
    exact h.int
  | str i =>
    cases e
    exact h.str
  | _ => cases e
theorem PV.dget {v w : V} {kvs : List (Key × D)} {d : D} {k : Key} (h : PV Z H B ρ v (.dic kvs)) (hy : PV Z H B ρ w d) (e : keyOf d = some k) :
    ∃ a, v = .ref a ∧ ((dget kvs k = none ∧ DGet H a w none) ∨ ∃ x u, dget kvs k = some x ∧ DGet H a w (some u) ∧ VR Z B ρ u x) := by
  obtain ⟨a, ks, rfl, h1, h2⟩ := h
  cases hy.key e
  refine ⟨a, rfl, ?_⟩
  rcases h2.get k with ⟨e1, e2⟩ | ⟨x, u, e1, e2, e3⟩
  · exact .inl ⟨e1, .inl ⟨ks, k, h1, rfl, e2.symm⟩⟩
  · exact .inr ⟨x, u, e1, .inl ⟨ks, k, h1, rfl, e2.symm⟩, e3⟩
theorem gIx_exc (d e : D) (c : Str) : gIx d e ≠ .exc c := by
  unfold gIx gIxD gIxS
  split
  · split
    · split
      · split <;> simp
      · simp
    · simp
  · split <;> first | (split <;> first | (split <;> simp) | simp) | simp
theorem de_sub {pos : Pos} (hK : X.K = Z.K) (hu : X.A.units + 1 < cLine) (hs : NoSl b) (ha : DE Z X a fa) (hb : DE Z X b fb) : DE Z X (.Subscript a b pos) (dPure2 gIx fa fb) := by
  refine de_pure2s (g1 := gIxD) (g2 := gIxS) isDic (fun d e h => by unfold gIx; rw [if_pos h]) (fun d e h => by unfold gIx; rw [if_neg (by rw [h]; exact Bool.false_ne_true)]) gIx_exc
    (fun t u mt mu p q => PE.imp (pe_dget hu p q hs) fun σ H Q h => mt _ _ _ _ (fun v H1 h => mu _ _ _ _ (fun w H2 h => ?_) h) h) (fun t u _ _ p q => pe_ix (ix_seqA hK) p q hs) ha hb
  obtain ⟨F, S, σ', B, ρ, d, e, R, hx, hy, q⟩ := h
  unfold gIxD at q
  split at q
  · split at q
    · rename_i k hk
      split at q
      · rename_i x hx'
        obtain ⟨a, rfl, z | ⟨x', u', e1, e2, e3⟩⟩ := hx.dget hy hk
        · rw [z.1] at hx'
          cases hx'
        · rw [e1] at hx'
          cases hx'
          exact ⟨a, u', rfl, e2, q.old R e3⟩
      · exact q.elim
    · exact q.elim
  · exact q.elim

/-! ### slices -/
def cutD (ds : List D) (lo hi : Option Int) : List D := (ds.drop (HT.sIx ds.length 0 lo)).take (HT.sIx ds.length ds.length hi - HT.sIx ds.length 0 lo)
theorem VRs.cut {vs : List V} {ds : List D} (h : VRs Z B ρ vs ds) (lo hi : Option Int) : VRs Z B ρ (cutV vs lo hi) (cutD ds lo hi) := by
  unfold cutV cutD
  rw [h.length]
  exact (h.drop _).take _
def gSl (d : D) (lo hi : Option Int) : R := match d with
  | .lst ds => .own (.lst (cutD ds lo hi))
  | .scr ds => .own (.lst (cutD ds lo hi))
  | .tup ds => .val (.tup (cutD ds lo hi))
  | .str z => if z.length ≤ sizeLine then .val (.str (cutS z lo hi)) else .stk
  | _ => .stk
theorem gSl_exc (d : D) (lo hi : Option Int) (c : Str) : gSl d lo hi ≠ .exc c := by
  unfold gSl
  split <;> first | (split <;> simp) | simp
def rSlD (Z : SX) : V → Option Int → Option Int → Hp → VK → Prop := fun x lo hi H Q => ∃ F S σ B ρ d, Rel Z F S σ H B ρ ∧ PV Z H B ρ x d ∧ Got Z F S σ H B ρ (gSl d lo hi) Q
theorem sl_A (hK : X.K = Z.K) : SlR X (rSlD Z) := fun pins s σ' H x v vl vu lo hi sl Q I rx hs pl pu h => by
  refine (SlR.or sl_list (SlR.or sl_tupA sl_str)) pins s σ' H x v vl vu lo hi sl Q I rx hs pl pu ?_
  obtain ⟨F, S, σ, B, ρ, d, R, hx, q⟩ := h
  rw [hK]
  unfold gSl at q
  split at q
  · obtain ⟨p, xs, rfl, h1, h2⟩ := hx
    exact .inl ⟨p, xs, rfl, .inl (.inl h1), q.lst R (h2.cut lo hi)⟩
  · obtain ⟨p, xs, rfl, h1, h2⟩ := hx
    exact .inl ⟨p, xs, rfl, h1, q.lst R (h2.cut lo hi)⟩
  · obtain ⟨p, xs, rfl, h1, h2⟩ := hx.tup
    refine .inr (.inl ⟨p, xs, rfl, (Le.of_same R.bh).tup h1, fun hw => ?_, fun _ => q.tup R (h2.cut lo hi)⟩)
    rw [h2.length] at hw
    refine q _ _ _ R (fun _ _ e => e) ?_
    unfold cutD
    rw [hw.1, hw.2, List.drop_zero, Nat.sub_zero, List.take_length]
    exact .tup h1 h2
  · split at q
    · exact .inr (.inr ⟨_, hx.str, by assumption, q.str R⟩)
    · exact q.elim
  · exact q.elim
def dOpt : Option (DS → Res RV) → DS → Res (Option Int)
  | none, S => .ok none S
  | some f, S => (f S).bind fun r S1 => match r with
    | .val (.int i) => .ok (some i) S1
    | _ => .stk
def dSl (f : DS → Res RV) (lo hi : Option (DS → Res RV)) : DS → Res RV := fun S => (f S).bind fun r S1 => (dOpt lo S1).bind fun l S2 => (dOpt hi S2).bind fun u S3 => match peek S3 r.frz with
  | some d => (gSl d l u).lift S3
  | none => .stk
/-- an optional part -/
def dTO (Z : SX) (f : DS → Res (Option Int)) (W : WX) : TO := fun σ H Q => ∃ F S B ρ, Rel Z F S σ H B ρ ∧ Wp (f S) (fun o S' => ∀ H' B' ρ', Rel Z F S' σ H' B' ρ' → Same B B' → Ex ρ ρ' → Q o H') (EQ Z F B ρ σ W)
structure DO (Z : SX) (X : Cx) (e : Option Expr) (f : DS → Res (Option Int)) : Prop where
  run : ∀ W, Takes X W → PO X e (dTO Z f W)
theorem PO.imp {e : Option Expr} {t t' : TO} (h : PO X e t) (i : ∀ σ H Q, t' σ H Q → t σ H Q) : PO X e t' := ⟨fun pins s σ H Q I q => h.run pins s σ H Q I (i _ _ _ q)⟩
theorem do_none : DO Z X none (dOpt none) := ⟨fun W tk => PO.imp po_none fun σ H Q ⟨F, S, B, ρ, R, q⟩ => q H B ρ R (fun _ _ z => z) (.refl ρ)⟩
theorem do_some (ha : DE Z X a fa) : DO Z X (some a) (dOpt (some fa)) := ⟨fun W tk => PO.imp (po_some (ha.run W tk)) fun σ H Q ⟨F, S, B, ρ, R, q⟩ => by
  refine dTE.first R q fun r S1 x H1 B1 ρ1 R1 sb ex rv hw => ?_
  split at hw
  · rename_i i
    have rv' : VR Z B1 ρ1 x (.int i) := rv
    cases rv'
    exact ⟨i, rfl, hw H1 B1 ρ1 R1 sb ex⟩
  · exact hw.elim⟩
theorem dTO.first {β : Type} {f : DS → Res (Option Int)} {k : Option Int → DS → Res β} {P : β → DS → Prop} {G : Option Int → Hp → Prop} (R : Rel Z F S σ H B ρ) (h : Wp ((f S).bind k) P (EQ Z F B ρ σ W))
    (hk : ∀ r S1 H1 B1 ρ1, Rel Z F S1 σ H1 B1 ρ1 → Same B B1 → Ex ρ ρ1 → Wp (k r S1) P (EQ Z F B1 ρ1 σ W) → G r H1) : dTO Z f W σ H G :=
  ⟨F, S, B, ρ, R, h.bind.mono (fun r S1 hw H1 B1 ρ1 R1 sb ex => hk r S1 H1 B1 ρ1 R1 sb ex (hw.mono (fun _ _ z => z) fun _ _ z => z.mono sb ex)) fun _ _ z => z⟩
theorem de_slice {lo hi : Option Expr} {flo fhi : Option (DS → Res RV)} {p2 pos : Pos} (hK : X.K = Z.K) (ha : DE Z X a fa) (hl : DO Z X lo (dOpt flo)) (hu : DO Z X hi (dOpt fhi)) : DE Z X (.Subscript a (.Slice lo hi none p2) pos) (dSl fa flo fhi) := ⟨fun W tk =>
  PE.imp (pe_slice (sl_A hK) (ha.run W tk) (hl.run W tk) (hu.run W tk)) fun σ H Q ⟨F, S, B, ρ, R, q⟩ => by
  refine dTE.first R q fun r S1 x H1 B1 ρ1 R1 sb ex rv hw => ?_
  obtain ⟨B1', R1', sb', rv'⟩ := frz_ok R1 rv
  refine dTO.first R1' (hw.mono (fun _ _ z => z) fun _ _ z => z.mono sb' (.refl ρ1)) fun l S2 H2 B2 ρ2 R2 sb2 ex2 hw2 => ?_
  refine dTO.first R2 hw2 fun u S3 H3 B3 ρ3 R3 sb3 ex3 hw3 => ?_
  split at hw3
  · rename_i d hd
    exact ⟨F, S3, σ, B3, ρ3, d, R3, peek_pv R3 (rv'.mono (frz_still r) (sb2.trans sb3) (ex2.trans ex3)) hd, lift_got (hw3.mono (fun _ _ z => PQ.mono (((sb.trans sb').trans sb2).trans sb3) ((ex.trans ex2).trans ex3) z) fun _ _ z => z) (gSl_exc d l u)⟩
  · exact hw3.elim⟩

/-! ### isinstance of built-in types -/
def tyD : D → Option String
  | .non => some "NoneType" | .bl _ => some "bool" | .int _ => some "int" | .str _ => some "str"
  | .tup _ => some "tuple" | .lst _ => some "list" | .scr _ => some "list" | .dic _ => some "dict"
  | _ => none
def tyIs (t T : String) : Bool := t == T || (t == "bool" && T == "int")
def kinds : List String := ["int", "bool", "str", "tuple", "list", "dict"]
def gIsi (T : String) : D → R := fun d => match tyD d with
  | some t => if kinds.contains T = true then .val (.bl (tyIs t T)) else .stk
  | none => .stk
theorem kit_all : (["NoneType", "bool", "int", "str", "tuple", "list", "dict"].all fun t => kinds.all fun T => kitB t T == some (tyIs t T)) = true := by decide +kernel
theorem tyD_mem {d : D} {t : String} (h : tyD d = some t) : t ∈ ["NoneType", "bool", "int", "str", "tuple", "list", "dict"] := by
  cases d <;> simp [tyD] at h <;> subst h <;> simp
theorem kit_of' {K : PySem.W.Frag} {d : D} {t T : String} (h : tyD d = some t) (hT : kinds.contains T = true) : PySem.W.kitOne K (.type t) (.type T) = some (tyIs t T) := by
  have h1 := List.all_eq_true.mp kit_all t (tyD_mem h)
  have h2 := List.all_eq_true.mp h1 T (List.contains_iff_mem.mp hT)
  exact kit_ty (beq_iff_eq.mp h2)
theorem PV.ty {v : V} {d : D} {t : String} (hb : Same B H) (h : PV Z H B ρ v d) (e : tyD d = some t) : TyX Z.K H v (.type t) := by
  cases d with
  | non => cases h.non; cases e; exact .base .non
  | bl b => cases h.bl; cases e; exact .base (.bl b)
  | int b => cases h.int; cases e; exact .base (.int b)
  | str b => cases h.str; cases e; exact .base (.str b)
  | tup ds =>
    obtain ⟨a, xs, rfl, h1, _⟩ := h.tup
    cases e
    rcases (Le.of_same hb).tup h1 with (h | ⟨o, h⟩) | ⟨o, _, _, h, hc, _⟩
    · exact .base (.tup h)
    · exact .fTuple h
    · exact .kTuple h hc
  | lst ds =>
    obtain ⟨a, xs, rfl, h1, _⟩ := h
    cases e
    exact .base (.lst h1)
  | scr ds =>
    obtain ⟨a, xs, rfl, h1, _⟩ := h
    cases e
    rcases h1 with (h | ⟨o, h⟩) | ⟨o, _, _, h, hc, _⟩
    · exact .base (.lst h)
    · exact .base (.frz h)
    · exact .kList h hc
  | dic ds =>
    obtain ⟨a, xs, rfl, h1, _⟩ := h
    cases e
    rcases h1 with h | ⟨o, h⟩
    · exact .base (.dK h)
    · exact .fDict h
  | ins _ _ => cases e
  | ref _ => cases e
  | exn _ => cases e
theorem de_isi {T : Str} {T' : String} {p p2 pos : Pos} (hK : X.K = Z.K) (hg : Gl X "isinstance") (hm : X.mg "isinstance" = none) (hv : bootBuiltins "isinstance" = some (.builtin "isinstance")) (hT : PE X (.Name T p2) (tC (.ty T'))) (ns : noStar a = true) (ha : DE Z X a fa) :
    DE Z X (.Call (.Name "isinstance" p) [a, .Name T p2] [] pos) (dPure1 (gIsi T') fa) := ⟨fun W tk =>
  PE.imp (pe_callB (call_isi) hg hm hv (pa_cons (ha.run W tk) (pa_cons hT pa_nil (star_of rfl)) (star_of ns)) (by decide) (by decide) (star_of ns) (plain_args [.Name T p2] rfl)) fun σ H Q ⟨F, S, B, ρ, R, q⟩ => by
  refine dTE.first R q fun r S1 x H1 B1 ρ1 R1 sb ex rv hw => ?_
  split at hw
  · rename_i d hd
    have pv := peek_pv R1 rv hd
    unfold gIsi at hw
    split at hw
    · rename_i t ht
      split at hw
      · rename_i hk
        show ∃ (x' c : V) (t u : Value) (b : Bool), _
        rw [hK]
        exact ⟨x, .ty T', .type t, .type T', tyIs t T', rfl, .ty T', pv.ty R1.bh ht, kit_of' ht hk, hw _ H1 B1 ρ1 R1 sb ex (.bl _)⟩
      · exact hw.elim
    · exact hw.elim
  · exact hw.elim⟩

/-! ### built-in functions of n things -/
theorem de_blt {x : Str} {id : String} {es : List Expr} {g : List D → R} {fs : DS → Res (List RV)} {p pos : Pos} (hg : Gl X x) (hm : X.mg x = none) (hv : bootBuiltins x = some (.builtin id)) (hn : x ≠ "__name__") (hdb : (x == ("__debug__" : Str)) = false) (ns : (a :: es).all noStar = true) (hc : CallR X (.builtin id) (rDs Z g))
    (he : ∀ d c, g d ≠ .exc c) (ha : DA Z X (a :: es) fs) : DE Z X (.Call (.Name x p) (a :: es) [] pos) (dPureN g fs) := by
  have ns' := ns
  rw [List.all_cons, Bool.and_eq_true] at ns'
  exact de_pureN he (fun t h => pe_callB hc hg hm hv h hn hdb (star_of ns'.1) (plain_args es ns'.2)) ha
theorem de_bty {x : Str} {id : String} {es : List Expr} {g : List D → R} {fs : DS → Res (List RV)} {p pos : Pos} (hg : Gl X x) (hm : X.mg x = none) (hv : bootBuiltins x = some (.type id)) (hn : x ≠ "__name__") (hdb : (x == ("__debug__" : Str)) = false) (ns : (a :: es).all noStar = true) (hc : CallR X (.type id) (rDs Z g))
    (he : ∀ d c, g d ≠ .exc c) (ha : DA Z X (a :: es) fs) : DE Z X (.Call (.Name x p) (a :: es) [] pos) (dPureN g fs) := by
  have ns' := ns
  rw [List.all_cons, Bool.and_eq_true] at ns'
  exact de_pureN he (fun t h => pe_callTy hc hg hm hv h hn hdb (star_of ns'.1) (plain_args es ns'.2)) ha

/-! ### fields of instances -/
def dFld (f : Str) (fa : DS → Res RV) : DS → Res RV := fun S => (fa S).bind fun r S1 => match r with
  | .val (.ins _ fs) => (match fs.lookup f with
    | some d => .ok (.val d) S1
    | none => .stk)
  | .val (.ref k) => (match S1.L[k]? with
    | some (.ins _ fs) => (match fs.lookup f with
      | some d => .ok (.val d) S1
      | none => .stk)
    | _ => .stk)
  | _ => .stk
theorem de_fld {f : Str} {pos : Pos} (hb : attributeBase a f X.env (eval a X.env) = eval a X.env) (hc : ∀ c C, Z.CA c C → Cls X.K C ∧ NoAttr X.K C f) (ha : DE Z X a fa) : DE Z X (.Attribute a f pos) (dFld f fa) := ⟨fun W tk =>
  PE.imp (pe_fld (ha.run W tk) hb) fun σ H Q ⟨F, S, B, ρ, R, q⟩ => by
  refine dTE.first R q fun r S1 x H1 B1 ρ1 R1 sb ex rv hw => ?_
  split at hw
  · rename_i c fs
    split at hw
    · rename_i d hd
      have rv' : VR Z B1 ρ1 x (.ins c fs) := rv
      cases rv' with
      | ins h1 h2 h3 =>
        obtain ⟨v, e1, e2⟩ := h3.lookup hd
        exact ⟨_, _, _, _, v, rfl, R1.bh _ _ h2, (hc _ _ h1).1, (hc _ _ h1).2, e1, hw v H1 B1 ρ1 R1 sb ex e2⟩
    · exact hw.elim
  · rename_i k
    split at hw
    · rename_i c fs hk
      split at hw
      · rename_i d hd
        have rv' : VR Z B1 ρ1 x (.ref k) := rv
        cases rv' with
        | ref h1 =>
          obtain ⟨Ca, dx, vs, c1, c2, c3⟩ := R1.hp k _ _ h1 hk
          obtain ⟨v, e1, e2⟩ := c3.lookup hd
          exact ⟨_, _, _, _, v, rfl, c2, (hc _ _ c1).1, (hc _ _ c1).2, e1, hw v H1 B1 ρ1 R1 sb ex e2⟩
      · exact hw.elim
    · exact hw.elim
  · exact hw.elim⟩

/-! ### methods of built-in types that change nothing -/
def gBits : D → R
  | .int i => .val (.int (Builtin.Int.intBits i : Nat))
  | _ => .stk
theorem de_bits {apos pos : Pos} (hbase : attributeBase a "bit_length" X.env (eval a X.env) = eval a X.env) (hline : (apos.endLine == pos.line) = true) (ha : DE Z X a fa) : DE Z X (.Call (.Attribute a "bit_length" apos) [] [] pos) (dPure1 gBits fa) := ⟨fun W tk =>
  PE.imp (pe_bits (ha.run W tk) hbase hline) fun σ H Q ⟨F, S, B, ρ, R, q⟩ => by
  refine dTE.first R q fun r S1 x H1 B1 ρ1 R1 sb ex rv hw => ?_
  split at hw
  · rename_i d hd
    have pv := peek_pv R1 rv hd
    unfold gBits at hw
    split at hw
    · cases pv.int
      exact ⟨_, rfl, hw _ H1 B1 ρ1 R1 sb ex (.int _)⟩
    · exact hw.elim
  · exact hw.elim⟩
end
end TW
/-! TW7: what is walked, targets, list comprehensions. -/
namespace TW
open PySem PySem.Spec L2

/-- what is locked while it is walked: nothing; a slot's thing, a thing of the logical heap (with the lock it had) -/
inductive Lk where
  | no | slot (j : Nat) (ds : List D) (lk : Bool) | heap (k : Nat) (ds : List D) (lk : Bool)
structure Src where
  items : List D
  lk : Lk
/-- what is walked still stands -/
def Alive (s : Src) (S : DS) : Prop := match s.lk with
  | .no => True
  | .slot j ds _ => S.sl[j]? = some (some (.own (.lst ds) true))
  | .heap k ds _ => S.L[k]? = some (.con (.lst ds) true)
/-- the slot that is locked -/
def Src.at_ (s : Src) : Option Nat := match s.lk with
  | .slot j _ _ => some j
  | _ => none
structure Walks (Z : SX) (J : It) (s : Src) (F0 : Hp) (σ0 : St) (B0 : Hp) (ρ0 : List Addr) : Prop where
  go : ∀ F S σ H B ρ (i : Nat) d, Rel Z F S σ H B ρ → Same F0 F → Same B0 B → Ex ρ0 ρ → Alive s S → (∀ j, s.at_ = some j → σ[j]? = σ0[j]?) → s.items[i]? = some d →
    J.go i H ∧ ∀ x H', J.yld i H x H' → ∃ B', Rel Z F S σ H' B' ρ ∧ Same B B' ∧ VR Z B' ρ x d
  stop : ∀ F S σ H B ρ (i : Nat), Rel Z F S σ H B ρ → Same F0 F → Same B0 B → Ex ρ0 ρ → Alive s S → (∀ j, s.at_ = some j → σ[j]? = σ0[j]?) → s.items.length ≤ i → J.stop i H
def dTI (Z : SX) (f : DS → Res Src) (W : WX) : TI := fun σ H R => ∃ F S B ρ, Rel Z F S σ H B ρ ∧ Wp (f S) (fun s S' => ∀ J H' B' ρ', Rel Z F S' σ H' B' ρ' → Same B B' → Ex ρ ρ' → Walks Z J s F σ B' ρ' → R J H') (EQ Z F B ρ σ W)
structure DI (Z : SX) (X : Cx) (tg iter : Expr) (f : DS → Res Src) : Prop where
  run : ∀ W, Takes X W → PI X tg iter (dTI Z f W)
theorem PI.imp {X : Cx} {tg e : Expr} {t t' : TI} (h : PI X tg e t) (i : ∀ σ H Q, t' σ H Q → t σ H Q) : PI X tg e t' := ⟨fun pins s σ H Q I q => h.run pins s σ H Q I (i _ _ _ q)⟩
theorem PI.or {X : Cx} {tg e : Expr} {t u : TI} (h : PI X tg e t) (k : PI X tg e u) : PI X tg e (fun σ H Q => t σ H Q ∨ u σ H Q) := ⟨fun pins s σ H Q I q => q.elim (h.run pins s σ H Q I) (k.run pins s σ H Q I)⟩

/-- a sequence, walked: a list of a slot, of the logical heap is locked -/
def dSeq (f : DS → Res RV) : DS → Res Src := fun S => (f S).bind fun r S1 => match r with
  | .val (.lst ds) => .ok ⟨ds, .no⟩ S1
  | .val (.scr ds) => .ok ⟨ds, .no⟩ S1
  | .val (.tup ds) => .ok ⟨ds, .no⟩ S1
  | .own (.lst ds) => .ok ⟨ds, .no⟩ S1
  | .plc j => (match S1.sl[j]? with
    | some (some (.own (.lst ds) lk)) => .ok ⟨ds, .slot j ds lk⟩ { S1 with sl := S1.sl.set j (some (.own (.lst ds) true)) }
    | _ => .stk)
  | .val (.ref k) => (match S1.L[k]? with
    | some (.con (.lst ds) lk) => .ok ⟨ds, .heap k ds lk⟩ { S1 with L := S1.L.set k (.con (.lst ds) true) }
    | _ => .stk)
  | _ => .stk
section
variable {Z : SX} {X : Cx} {W : WX} {F : Hp} {S : DS} {σ : St} {H B : Hp} {ρ : List Addr} {e a b : Expr} {fa fb fc : DS → Res RV}
theorem Rel.lockSlot (R : Rel Z F S σ H B ρ) {j : Nat} {ds : List D} {lk : Bool} (h : S.sl[j]? = some (some (.own (.lst ds) lk))) (lk' : Bool) : Rel Z F { S with sl := S.sl.set j (some (.own (.lst ds) lk')) } σ H B ρ := by
  have hj : j < S.sl.length := (List.getElem?_eq_some_iff.mp h).1
  have up : ∀ k a, OwnAt { S with sl := S.sl.set j (some (.own (.lst ds) lk')) } σ k a → OwnAt S σ k a := fun k a ⟨c', l', q1, q2⟩ => by
    by_cases e : j = k
    · subst e
      exact ⟨_, lk, h, q2⟩
    · rw [List.getElem?_set_ne e] at q1
      exact ⟨c', l', q1, q2⟩
  refine ⟨R.toRelH, by simpa using R.len, fun k d q => ?_, fun k c' l' q => ?_, fun i k a q1 q2 => R.sep i k a (up i a q1) (up k a q2), excs_set (fun c => by simp) R.excs⟩
  · by_cases e : j = k
    · subst e
      rw [List.getElem?_set_self hj] at q
      cases q
    · rw [List.getElem?_set_ne e] at q
      exact R.vals k d q
  · by_cases e : j = k
    · subst e
      rw [List.getElem?_set_self hj] at q
      cases q
      obtain ⟨a, e1, ⟨o, e2, e3⟩, e4, e5, e6⟩ := R.owns j _ lk h
      refine ⟨a, e1, ⟨o, e2, ?_⟩, e4, e5.lst, e6⟩
      rcases e3 with e3 | ⟨_, ⟨ks, e5⟩, e6⟩
      · exact .inl e3
      · obtain ⟨xs, e7, _⟩ := e2
        rw [e7] at e5
        cases e5
    · rw [List.getElem?_set_ne e] at q
      exact R.owns k c' l' q
theorem Rel.lockHeap (R : Rel Z F S σ H B ρ) {k : Nat} {ds : List D} {lk : Bool} (h : S.L[k]? = some (.con (.lst ds) lk)) (lk' : Bool) : Rel Z F { S with L := S.L.set k (.con (.lst ds) lk') } σ H B ρ := by
  have hk : k < S.L.length := (List.getElem?_eq_some_iff.mp h).1
  have at_ : ∀ (j : Nat) (o : LO), (S.L.set k (.con (.lst ds) lk'))[j]? = some o → (k = j ∧ o = .con (.lst ds) lk') ∨ S.L[j]? = some o := fun j o q => by
    by_cases e : k = j
    · subst e
      rw [List.getElem?_set_self hk] at q
      cases q
      exact .inl ⟨rfl, rfl⟩
    · rw [List.getElem?_set_ne e] at q
      exact .inr q
  refine ⟨⟨R.bh, R.fh, R.fb, by simpa using R.rlen, R.rnd, R.rb, fun j a o h1 h2 => ?_, fun j a o h1 h2 => ?_⟩, R.len, R.vals, R.owns, R.sep, R.excs⟩
  · rcases at_ j o h2 with ⟨rfl, rfl⟩ | h2
    · exact FA.lst (ds := ds) (lk := lk) (R.rf _ a _ h1 h)
    · exact R.rf j a o h1 h2
  · rcases at_ j o h2 with ⟨rfl, rfl⟩ | h2
    · obtain ⟨o, e2, e3⟩ := R.hp _ a _ h1 h
      refine ⟨o, e2, ?_⟩
      rcases e3 with e3 | ⟨_, ⟨ks, e5⟩, e6⟩
      · exact .inl e3
      · obtain ⟨xs, e7, _⟩ := e2
        rw [e7] at e5
        cases e5
    · exact R.hp j a o h1 h2
theorem walks_lst {a0 : Addr} {xs : List V} {ds : List D} {σ0 : St} (h : SqL Z.K B a0 xs) (hs : VRs Z B ρ xs ds) : Walks Z (Itl Z.K a0) ⟨ds, .no⟩ F σ0 B ρ where
  go := fun F S σ H B1 ρ1 i d R _ sb ex _ _ hd => by
    obtain ⟨v, e1, e2⟩ := hs.get hd
    have q : SqL Z.K H a0 xs := (Le.of_same (sb.trans R.bh)).seq h
    refine ⟨⟨xs, v, q, e1⟩, fun x H' y => ?_⟩
    obtain ⟨rfl, y⟩ := y
    have := y xs q
    rw [e1] at this
    cases this
    exact ⟨B1, R, fun _ _ z => z, e2.mono (.of_same sb) ex⟩
  stop := fun F S σ H B1 ρ1 i R _ sb ex _ _ hl => ⟨xs, (Le.of_same (sb.trans R.bh)).seq h, by rw [hs.length]; exact hl⟩
/-- one tuple at an address stands for one list of values -/
theorem walks_tup {a0 : Addr} {xs : List V} {ds : List D} {σ0 : St} (h : SqT Z.K B a0 xs) (hs : VRs Z B ρ xs ds) : Walks Z (Itt Z.K a0) ⟨ds, .no⟩ F σ0 B ρ where
  go := fun F S σ H B1 ρ1 i d R _ sb ex _ _ hd => by
    obtain ⟨v, e1, e2⟩ := hs.get hd
    have q : SqT Z.K H a0 xs := (Le.of_same (sb.trans R.bh)).tup h
    refine ⟨⟨xs, v, q, e1⟩, fun x H' y => ?_⟩
    obtain ⟨rfl, y⟩ := y
    have := y xs q
    rw [e1] at this
    cases this
    exact ⟨B1, R, fun _ _ z => z, e2.mono (.of_same sb) ex⟩
  stop := fun F S σ H B1 ρ1 i R _ sb ex _ _ hl => ⟨xs, (Le.of_same (sb.trans R.bh)).tup h, by rw [hs.length]; exact hl⟩
/-- an owned list at its address -/
theorem cr_atL {a : Addr} {ds : List D} {lk : Bool} (h : TW.CR Z B ρ H a (Cont.lst ds) lk) : ∃ xs, H a = some (.lst xs) ∧ VRs Z B ρ xs ds := by
  obtain ⟨o, ⟨xs, rfl, e2⟩, e3⟩ := h
  rcases e3 with e3 | ⟨_, ⟨_, z⟩, _⟩
  · exact ⟨xs, e3, e2⟩
  · cases z
theorem walks_own {a0 : Addr} {ds : List D} {s : Src} {σ0 : St} (hi : s.items = ds) (h : ∀ F1 S σ H B1 ρ1, Rel Z F1 S σ H B1 ρ1 → Ex ρ ρ1 → Alive s S → (∀ j, s.at_ = some j → σ[j]? = σ0[j]?) → ∃ xs, H a0 = some (.lst xs) ∧ VRs Z B1 ρ1 xs ds) : Walks Z (Itl Z.K a0) s F σ0 B ρ where
  go := fun F S σ H B1 ρ1 i d R _ sb ex al hs hd => by
    obtain ⟨xs, e3, e2⟩ := h F S σ H B1 ρ1 R ex al hs
    rw [hi] at hd
    obtain ⟨v, e4, e5⟩ := e2.get hd
    refine ⟨⟨xs, v, .inl (.inl e3), e4⟩, fun x H' y => ?_⟩
    obtain ⟨rfl, y⟩ := y
    have := y xs (.inl (.inl e3))
    rw [e4] at this
    cases this
    exact ⟨B1, R, fun _ _ z => z, e5⟩
  stop := fun F S σ H B1 ρ1 i R _ sb ex al hs hl => by
    obtain ⟨xs, e3, e2⟩ := h F S σ H B1 ρ1 R ex al hs
    rw [hi] at hl
    exact ⟨xs, .inl (.inl e3), by rw [e2.length]; exact hl⟩
theorem walks_slot {a0 : Addr} {ds : List D} {j : Nat} {lk : Bool} {σ0 : St} (hσ : σ0[j]? = some (some (.ref a0))) : Walks Z (Itl Z.K a0) ⟨ds, .slot j ds lk⟩ F σ0 B ρ :=
  walks_own rfl fun F1 S σ H B1 ρ1 R ex al hs => by
    obtain ⟨a, e1, e2, _⟩ := R.owns j _ _ al
    rw [hs j rfl, hσ] at e1
    cases e1
    exact cr_atL e2
theorem walks_heap {a0 : Addr} {ds : List D} {k : Nat} {lk : Bool} {σ0 : St} (hρ : ρ[k]? = some a0) : Walks Z (Itl Z.K a0) ⟨ds, .heap k ds lk⟩ F σ0 B ρ :=
  walks_own rfl fun F1 S σ H B1 ρ1 R ex al hs => cr_atL (show CR Z B1 ρ1 H a0 (Cont.lst ds) true from R.hp k _ _ (ex k _ hρ) al)
theorem di_seq {tg : Expr} (hK : X.K = Z.K) (ha : DE Z X a fa) : DI Z X tg a (dSeq fa) := ⟨fun W tk => PI.imp (PI.or (pi_list (ha.run W tk)) (pi_tup (ha.run W tk))) fun σ H Q ⟨F, S, B, ρ, R, q⟩ => by
  by_cases ht : ∃ ds S1, fa S = .ok (.val (.tup ds)) S1
  · obtain ⟨ds, S1, ht⟩ := ht
    refine .inr (dTE.firstE R q fun r S1' x H1 B1 ρ1 e1 R1 sb ex rv hw => ?_)
    rw [ht] at e1
    cases e1
    have rv' : VR Z B1 ρ1 x (.tup ds) := rv
    cases rv' with
    | tup h hs =>
      refine ⟨_, rfl, ⟨_, by rw [hK]; exact (Le.of_same R1.bh).tup h⟩, ?_⟩
      rw [hK]
      exact hw _ H1 B1 ρ1 R1 sb ex (walks_tup h hs)
  · refine .inl (dTE.firstE R q fun r S1' x H1 B1 ρ1 e1 R1 sb ex rv hw => ?_)
    split at hw
    · rename_i ds
      have rv' : VR Z B1 ρ1 x (.lst ds) := rv
      cases rv' with
      | lst h hs =>
        refine ⟨_, rfl, ⟨_, .inl (.inl (R1.bh _ _ h))⟩, ?_⟩
        rw [hK]
        exact hw _ H1 B1 ρ1 R1 sb ex (walks_lst (.inl (.inl h)) hs)
    · rename_i ds
      have rv' : VR Z B1 ρ1 x (.scr ds) := rv
      cases rv' with
      | scr h hs =>
        refine ⟨_, rfl, ⟨_, by rw [hK]; exact (Le.of_same R1.bh).seq h⟩, ?_⟩
        rw [hK]
        exact hw _ H1 B1 ρ1 R1 sb ex (walks_lst h hs)
    · exact absurd ⟨_, _, e1⟩ ht
    · rename_i ds
      obtain ⟨B2, R2, sb2, rv2⟩ := R1.frz rv
      have rv' : VR Z B2 ρ1 x (.lst ds) := rv2
      cases rv' with
      | lst h hs =>
        refine ⟨_, rfl, ⟨_, .inl (.inl (R2.bh _ _ h))⟩, ?_⟩
        rw [hK]
        exact hw _ H1 B2 ρ1 R2 (sb.trans sb2) ex (walks_lst (.inl (.inl h)) hs)
    · rename_i j
      split at hw
      · rename_i ds lk hj
        obtain ⟨a0, e2, e3, _⟩ := R1.owns j _ _ hj
        have e5 : σ[j]? = some (some x) := rv
        rw [e2] at e5
        cases e5
        obtain ⟨xs, e4, _⟩ := cr_atL e3
        refine ⟨a0, rfl, ⟨xs, .inl (.inl e4)⟩, ?_⟩
        rw [hK]
        exact hw _ H1 B1 ρ1 (R1.lockSlot hj true) sb ex (walks_slot e2)
      · exact hw.elim
    · rename_i k
      split at hw
      · rename_i ds lk hk
        have rv' : VR Z B1 ρ1 x (.ref k) := rv
        cases rv' with
        | ref hρ =>
          obtain ⟨xs, e4, _⟩ := cr_atL (show CR Z B1 ρ1 H1 _ (Cont.lst ds) lk from R1.hp k _ _ hρ hk)
          refine ⟨_, rfl, ⟨xs, .inl (.inl e4)⟩, ?_⟩
          rw [hK]
          exact hw _ H1 B1 ρ1 (R1.lockHeap hk true) sb ex (walks_heap hρ)
      · exact hw.elim
    · exact hw.elim⟩
/-! ### ranges -/
def rgD (lo c : Int) (n : Nat) : List D := (List.range n).map fun (k : Nat) => D.int (lo + (k : Int) * c)
theorem rgD_get {lo c : Int} {n i : Nat} {d : D} (h : (rgD lo c n)[i]? = some d) : i < n ∧ d = .int (lo + (i : Int) * c) := by
  unfold rgD at h
  rw [List.getElem?_map, Option.map_eq_some_iff] at h
  obtain ⟨k, h1, h2⟩ := h
  obtain ⟨h3, h4⟩ := List.getElem?_eq_some_iff.mp h1
  rw [List.length_range] at h3
  rw [List.getElem_range] at h4
  subst h4
  exact ⟨h3, h2.symm⟩
theorem rgD_length (lo c : Int) (n : Nat) : (rgD lo c n).length = n := by unfold rgD; rw [List.length_map, List.length_range]
theorem walks_rng {lo : Int} {n : Nat} {σ0 : St} : Walks Z (Itr lo n) ⟨rgD lo 1 n, .no⟩ F σ0 B ρ where
  go := fun F S σ H B1 ρ1 i d R _ sb ex _ _ hd => by
    obtain ⟨h1, rfl⟩ := rgD_get hd
    refine ⟨h1, fun x H' y => ?_⟩
    obtain ⟨rfl, rfl⟩ := y
    rw [Int.mul_one]
    exact ⟨B1, R, fun _ _ z => z, .int _⟩
  stop := fun F S σ H B1 ρ1 i R _ sb ex _ _ hl => by
    have hl : (rgD lo 1 n).length ≤ i := hl
    rw [rgD_length] at hl
    exact hl
theorem walks_rngC {lo c : Int} {n : Nat} {σ0 : St} : Walks Z (Itc lo c n) ⟨rgD lo c n, .no⟩ F σ0 B ρ where
  go := fun F S σ H B1 ρ1 i d R _ sb ex _ _ hd => by
    obtain ⟨h1, rfl⟩ := rgD_get hd
    refine ⟨h1, fun x H' y => ?_⟩
    obtain ⟨rfl, rfl⟩ := y
    exact ⟨B1, R, fun _ _ z => z, .int _⟩
  stop := fun F S σ H B1 ρ1 i R _ sb ex _ _ hl => by
    have hl : (rgD lo c n).length ≤ i := hl
    rw [rgD_length] at hl
    exact hl
def inB62 (i : Int) : Bool := decide (-(2 ^ 62) ≤ i ∧ i < 2 ^ 62)
def rg1 : List D → Option (List D)
  | [.int j] => if inB62 j = true then some (rgD 0 1 j.toNat) else none
  | _ => none
def rg2 : List D → Option (List D)
  | [.int i, .int j] => if inB62 i = true ∧ inB62 j = true then some (rgD i 1 (j - i).toNat) else none
  | _ => none
def rg3 : List D → Option (List D)
  | [.int i, .int j, .int c] => if c = -1 ∧ inB62 i = true ∧ inB62 j = true then some (rgD i (-1) (i - j).toNat) else none
  | _ => none
def dRange (g : List D → Option (List D)) (f : DS → Res (List RV)) : DS → Res Src := fun S => (f S).bind fun rs S1 => match (peekAll S1 rs).bind g with
  | some ds => .ok ⟨ds, .no⟩ S1
  | none => .stk
theorem inB62_of {i : Int} (h : inB62 i = true) : -(2 ^ 62) ≤ i ∧ i < 2 ^ 62 := of_decide_eq_true h
theorem st1 {env : Env} (h : noStar a = true) : starEach [a] env = [(false, eval a env)] := by
  rw [star_of h]
  rfl
theorem st2 {env : Env} (h : noStar a = true) (h' : noStar b = true) : starEach [a, b] env = [(false, eval a env), (false, eval b env)] := by
  rw [star_of h, star_of h']
  rfl
theorem di_range1 {tg : Expr} {p pos : Pos} {fs : DS → Res (List RV)} (hg : Gl X "range") (hm : X.mg "range" = none) (na : noStar a = true) (ha : DA Z X [a] fs) : DI Z X tg (.Call (.Name "range" p) [a] [] pos) (dRange rg1 fs) := ⟨fun W tk =>
  PI.imp (pi_range1 hg hm (ha.run W tk) (st1 na)) fun σ H Q ⟨F, S, B, ρ, R, q⟩ => by
  refine dTA.first R q fun rs S1 xs H1 B1 ρ1 R1 sb ex rv hw => ?_
  split at hw
  · rename_i ds hds
    rw [Option.bind_eq_some_iff] at hds
    obtain ⟨es, h1, h2⟩ := hds
    have pv := peekAll_pvs R1 rv h1
    unfold rg1 at h2
    split at h2
    · split at h2
      · rename_i j hj
        cases h2
        obtain ⟨v, rfl, h3⟩ := pv.one
        cases h3.int
        exact ⟨j, rfl, (inB62_of hj).1, (inB62_of hj).2, hw _ H1 B1 ρ1 R1 sb ex walks_rng⟩
      · cases h2
    · cases h2
  · exact hw.elim⟩
theorem di_range2 {tg : Expr} {p pos : Pos} {fs : DS → Res (List RV)} (hg : Gl X "range") (hm : X.mg "range" = none) (na : noStar a = true) (nb : noStar b = true) (ha : DA Z X [a, b] fs) : DI Z X tg (.Call (.Name "range" p) [a, b] [] pos) (dRange rg2 fs) := ⟨fun W tk =>
  PI.imp (pi_range2 hg hm (ha.run W tk) (st2 na nb) (st1 nb)) fun σ H Q ⟨F, S, B, ρ, R, q⟩ => by
  refine dTA.first R q fun rs S1 xs H1 B1 ρ1 R1 sb ex rv hw => ?_
  split at hw
  · rename_i ds hds
    rw [Option.bind_eq_some_iff] at hds
    obtain ⟨es, h1, h2⟩ := hds
    have pv := peekAll_pvs R1 rv h1
    unfold rg2 at h2
    split at h2
    · split at h2
      · rename_i i j hj
        cases h2
        obtain ⟨v, w, rfl, h3, h4⟩ := pv.two
        cases h3.int
        cases h4.int
        have hi := inB62_of hj.1
        have hj := inB62_of hj.2
        exact ⟨i, j, rfl, ⟨hi.1, hi.2, hj.1, hj.2⟩, hw _ H1 B1 ρ1 R1 sb ex walks_rng⟩
      · cases h2
    · cases h2
  · exact hw.elim⟩
theorem PVs.three {vs : List V} {d e f : D} (h : PVs Z H B ρ vs [d, e, f]) : ∃ v w x, vs = [v, w, x] ∧ PV Z H B ρ v d ∧ PV Z H B ρ w e ∧ PV Z H B ρ x f := by
  match vs, h with
  | [v, w, x], h => exact ⟨v, w, x, rfl, h.1, h.2.1, h.2.2.1⟩
  | [], h => exact h.elim
  | [_], h => exact h.2.elim
  | [_, _], h => exact h.2.2.elim
  | _ :: _ :: _ :: _ :: _, h => exact h.2.2.2.elim
theorem st3 {env : Env} {c : Expr} (h : noStar a = true) (h' : noStar b = true) (h'' : noStar c = true) : starEach [a, b, c] env = [(false, eval a env), (false, eval b env), (false, eval c env)] := by
  rw [star_of h, star_of h', star_of h'']
  rfl

/-! ### enumerate, reversed -/
def enumD : Nat → List D → List D
  | _, [] => []
  | k, d :: ds => .tup [.int k, d] :: enumD (k + 1) ds
theorem enumD_get : ∀ {k i : Nat} {ds : List D} {d : D}, (enumD k ds)[i]? = some d → ∃ e, ds[i]? = some e ∧ d = .tup [.int ((k + i : Nat) : Int), e]
  | _, _, [], _, h => by simp [enumD] at h
  | k, 0, e :: ds, d, h => by
    simp [enumD] at h
    exact ⟨e, rfl, by rw [← h]; simp⟩
  | k, i + 1, e :: ds, d, h => by
    have h' : (enumD (k + 1) ds)[i]? = some d := by simpa [enumD] using h
    obtain ⟨e', h1, h2⟩ := enumD_get h'
    refine ⟨e', by simpa using h1, ?_⟩
    rw [h2]
    congr 4
    omega
theorem enumD_length : ∀ (k : Nat) (ds : List D), (enumD k ds).length = ds.length
  | _, [] => rfl
  | k, _ :: ds => by rw [enumD, List.length_cons, List.length_cons, enumD_length (k + 1) ds]
def seqL : D → Option (List D)
  | .lst ds => some ds
  | .scr ds => some ds
  | _ => none
/-- enumerate, reversed of one list that stands still (a list of a slot is frozen) -/
def dOver (g : List D → List D) (f : DS → Res (List D)) : DS → Res Src := fun S => (f S).bind fun rs S1 => match rs with
  | [d] => (match seqL d with
    | some ds => .ok ⟨g ds, .no⟩ S1
    | none => .stk)
  | _ => .stk
theorem seqL_of {v : V} {d : D} {ds : List D} (h : VR Z B ρ v d) (e : seqL d = some ds) : ∃ a xs, v = .ref a ∧ SqL Z.K B a xs ∧ VRs Z B ρ xs ds := by
  cases h with
  | lst h hs =>
    cases e
    exact ⟨_, _, rfl, .inl (.inl h), hs⟩
  | scr h hs =>
    cases e
    exact ⟨_, _, rfl, h, hs⟩
  | _ => cases e
theorem walks_enum {a0 : Addr} {xs : List V} {ds : List D} {σ0 : St} (h : SqL Z.K B a0 xs) (hs : VRs Z B ρ xs ds) : Walks Z (Ite Z.K a0) ⟨enumD 0 ds, .no⟩ F σ0 B ρ where
  go := fun F S σ H B1 ρ1 i d R _ sb ex _ _ hd => by
    obtain ⟨e, h1, rfl⟩ := enumD_get hd
    obtain ⟨v, e1, e2⟩ := hs.get h1
    have q : SqL Z.K H a0 xs := (Le.of_same (sb.trans R.bh)).seq h
    refine ⟨⟨xs, v, q, e1⟩, fun x H' y => ?_⟩
    obtain ⟨t, w, y2, y1, y3, y5⟩ := y
    subst y3
    have y6 := y5 xs q
    rw [e1] at y6
    cases y6
    subst y2
    obtain ⟨R2, sb2, r2⟩ := R.newTup (xs := [.int ((i : Nat) : Int), v]) (ds := [.int ((i : Nat) : Int), e]) y1 (.cons (.int _) (.cons (e2.mono (.of_same sb) ex) .nil))
    rw [Nat.zero_add]
    exact ⟨_, R2, sb2, r2⟩
  stop := fun F S σ H B1 ρ1 i R _ sb ex _ _ hl => by
    have hl : (enumD 0 ds).length ≤ i := hl
    rw [enumD_length] at hl
    exact ⟨xs, (Le.of_same (sb.trans R.bh)).seq h, by rw [hs.length]; exact hl⟩
theorem walks_rev {a0 : Addr} {xs : List V} {ds : List D} {σ0 : St} (h : SqL Z.K B a0 xs) (hs : VRs Z B ρ xs ds) : Walks Z (Itv Z.K a0 xs.length) ⟨ds.reverse, .no⟩ F σ0 B ρ where
  go := fun F S σ H B1 ρ1 i d R _ sb ex _ _ hd => by
    have hd : ds.reverse[i]? = some d := hd
    have hi : i < ds.length := by
      have := (List.getElem?_eq_some_iff.mp hd).1
      rw [List.length_reverse] at this
      exact this
    rw [List.getElem?_reverse hi] at hd
    obtain ⟨v, e1, e2⟩ := hs.get hd
    rw [← hs.length] at e1
    have q : SqL Z.K H a0 xs := (Le.of_same (sb.trans R.bh)).seq h
    refine ⟨⟨by rw [hs.length]; exact hi, xs, v, q, e1⟩, fun x H' y => ?_⟩
    obtain ⟨rfl, y⟩ := y
    have := y xs q
    rw [e1] at this
    cases this
    exact ⟨B1, R, fun _ _ z => z, e2.mono (.of_same sb) ex⟩
  stop := fun F S σ H B1 ρ1 i R _ sb ex _ _ hl => by
    have hl : ds.reverse.length ≤ i := hl
    rw [List.length_reverse] at hl
    show xs.length ≤ i
    rw [hs.length]
    exact hl
theorem di_enum {elts : List Expr} {kk : Nat} {tpos p pos : Pos} {fs : DS → Res (List D)} (hK : X.K = Z.K) (hg : Gl X "enumerate") (hm : X.mg "enumerate" = none) (na : noStar a = true) (ha : DV Z X [a] fs) : DI Z X (.Tuple elts kk tpos) (.Call (.Name "enumerate" p) [a] [] pos) (dOver (enumD 0) fs) := ⟨fun W tk =>
  PI.imp (pi_enum hg hm (ha.run W tk) (st1 na)) fun σ H Q ⟨F, S, B, ρ, R, q⟩ => by
  refine dTV.first R q fun rs S1 xs H1 B1 ρ1 R1 sb ex rv hw => ?_
  split at hw
  · rename_i d
    split at hw
    · rename_i ds hd
      cases rv with
      | cons h t =>
        cases t
        obtain ⟨a0, ys, rfl, h1, h2⟩ := seqL_of h hd
        refine ⟨a0, ys, rfl, by rw [hK]; exact (Le.of_same R1.bh).seq h1, ?_⟩
        rw [hK]
        exact hw _ H1 B1 ρ1 R1 sb ex (walks_enum h1 h2)
    · exact hw.elim
  · exact hw.elim⟩
theorem di_rev {tg : Expr} {p pos : Pos} {fs : DS → Res (List D)} (hK : X.K = Z.K) (hg : Gl X "reversed") (hm : X.mg "reversed" = none) (na : noStar a = true) (ha : DV Z X [a] fs) : DI Z X tg (.Call (.Name "reversed" p) [a] [] pos) (dOver List.reverse fs) := ⟨fun W tk =>
  PI.imp (pi_reversed hg hm (ha.run W tk) (st1 na)) fun σ H Q ⟨F, S, B, ρ, R, q⟩ => by
  refine dTV.first R q fun rs S1 xs H1 B1 ρ1 R1 sb ex rv hw => ?_
  split at hw
  · rename_i d
    split at hw
    · rename_i ds hd
      cases rv with
      | cons h t =>
        cases t
        obtain ⟨a0, ys, rfl, h1, h2⟩ := seqL_of h hd
        refine ⟨a0, ys, rfl, by rw [hK]; exact (Le.of_same R1.bh).seq h1, ?_⟩
        rw [hK]
        exact hw _ H1 B1 ρ1 R1 sb ex (walks_rev h1 h2)
    · exact hw.elim
  · exact hw.elim⟩
theorem di_range3 {c tg : Expr} {p pos : Pos} {fs : DS → Res (List RV)} (hg : Gl X "range") (hm : X.mg "range" = none) (na : noStar a = true) (nb : noStar b = true) (nc : noStar c = true) (ha : DA Z X [a, b, c] fs) : DI Z X tg (.Call (.Name "range" p) [a, b, c] [] pos) (dRange rg3 fs) := ⟨fun W tk =>
  PI.imp (pi_range3 hg hm (ha.run W tk) (star_of na) (plain_args [b, c] (by rw [List.all_cons, nb, List.all_cons, nc]; rfl))) fun σ H Q ⟨F, S, B, ρ, R, q⟩ => by
  refine dTA.first R q fun rs S1 xs H1 B1 ρ1 R1 sb ex rv hw => ?_
  split at hw
  · rename_i ds hds
    rw [Option.bind_eq_some_iff] at hds
    obtain ⟨es, h1, h2⟩ := hds
    have pv := peekAll_pvs R1 rv h1
    unfold rg3 at h2
    split at h2
    · split at h2
      · rename_i i j c hj
        cases h2
        obtain ⟨v, w, x, rfl, h3, h4, h5⟩ := pv.three
        cases h3.int
        cases h4.int
        cases h5.int
        obtain ⟨rfl, hi, hj⟩ := hj
        have hi := inB62_of hi
        have hj := inB62_of hj
        exact ⟨i, j, -1, _, rfl, RgC.neg hi.1 hi.2 hj.1 hj.2, hw _ H1 B1 ρ1 R1 sb ex walks_rngC⟩
      · cases h2
    · cases h2
  · exact hw.elim⟩

/-! ### targets: names, tuples of names -/
def Keeps (A : List Nat) (σ σ' : St) : Prop := σ'.length = σ.length ∧ ∀ j, j ∉ A → σ'[j]? = σ[j]?
theorem Keeps.refl (A : List Nat) (σ : St) : Keeps A σ σ := ⟨rfl, fun _ _ => rfl⟩
theorem Keeps.trans {A A' : List Nat} {σ σ' σ'' : St} (h : Keeps A σ σ') (k : Keeps A' σ' σ'') : Keeps (A ++ A') σ σ'' := ⟨k.1.trans h.1, fun j hj => by
  rw [List.mem_append, not_or] at hj
  rw [k.2 j hj.2, h.2 j hj.1]⟩
theorem Keeps.mono {A A' : List Nat} {σ σ' : St} (h : Keeps A σ σ') (i : ∀ j, j ∈ A → j ∈ A') : Keeps A' σ σ' := ⟨h.1, fun j hj => h.2 j fun z => hj (i j z)⟩
theorem Keeps.set (σ : St) (i : Nat) (x : Option V) : Keeps [i] σ (σ.set i x) := ⟨List.length_set, fun j hj => by
  rw [List.getElem?_set_ne (fun e => hj (by rw [e]; exact List.mem_singleton.mpr rfl))]⟩
def tgName (i : Nat) : D → DS → Res Unit := fun d S => .ok () { S with sl := S.sl.set i (some (.val d)) }
def tgs : List Nat → List D → DS → Res Unit
  | [], [], S => .ok () S
  | i :: is, d :: ds, S => tgs is ds { S with sl := S.sl.set i (some (.val d)) }
  | _, _, _ => .stk
def tgTup (is : List Nat) : D → DS → Res Unit := fun d S => match d with
  | .tup ds => tgs is ds S
  | _ => .stk
def dTG (Z : SX) (g : D → DS → Res Unit) (A : List Nat) : TG := fun v σ H Q => ∃ F S B ρ d, Rel Z F S σ H B ρ ∧ VR Z B ρ v d ∧ Wp (g d S) (fun _ S' => ∀ σ', Rel Z F S' σ' H B ρ → Keeps A σ σ' → Q σ' H) (fun _ _ => False)
structure DG (Z : SX) (X : Cx) (tg : Expr) (g : D → DS → Res Unit) (A : List Nat) : Prop where
  run : PG X tg (dTG Z g A)
theorem PG.imp {X : Cx} {tg : Expr} {t t' : TG} (h : PG X tg t) (i : ∀ v σ H Q, t' v σ H Q → t v σ H Q) : PG X tg t' := ⟨fun pins s σ H v u Q I r q => h.run pins s σ H v u Q I r (i _ _ _ _ q)⟩
theorem PGs.imp {X : Cx} {tg : List Expr} {t t' : TGs} (h : PGs X tg t) (i : ∀ v σ H Q, t' v σ H Q → t v σ H Q) : PGs X tg t' := ⟨fun pins s σ H v u Q I r q => h.run pins s σ H v u Q I r (i _ _ _ _ q)⟩
/-- a slot is given a value -/
theorem Rel.setVal (R : Rel Z F S σ H B ρ) {v : V} {d : D} (h : VR Z B ρ v d) (i : Nat) : Rel Z F { S with sl := S.sl.set i (some (.val d)) } (σ.set i (some v)) H B ρ := by
  refine ⟨R.toRelH, by simpa using R.len, fun k d' q => ?_, fun k c' l' q => ?_, fun j k a q1 q2 => ?_, excs_set2 (fun c => by simp) R.excs⟩
  · by_cases e : i = k
    · subst e
      have hi : i < S.sl.length := by
        have := (List.getElem?_eq_some_iff.mp q).1
        simpa using this
      rw [List.getElem?_set_self hi] at q
      cases q
      exact ⟨v, List.getElem?_set_self (by rw [← R.len]; exact hi), h⟩
    · rw [List.getElem?_set_ne e] at q
      rw [List.getElem?_set_ne e]
      exact R.vals k d' q
  · have e : i ≠ k := fun e => by
      subst e
      have hi : i < S.sl.length := by
        have := (List.getElem?_eq_some_iff.mp q).1
        simpa using this
      rw [List.getElem?_set_self hi] at q
      cases q
    rw [List.getElem?_set_ne e] at q
    rw [List.getElem?_set_ne e]
    exact R.owns k c' l' q
  · have up : ∀ k a, OwnAt { S with sl := S.sl.set i (some (.val d)) } (σ.set i (some v)) k a → OwnAt S σ k a := fun k a ⟨c', l', q1, q2⟩ => by
      have e : i ≠ k := fun e => by
        subst e
        have hi : i < S.sl.length := by
          have := (List.getElem?_eq_some_iff.mp q1).1
          simpa using this
        rw [List.getElem?_set_self hi] at q1
        cases q1
      rw [List.getElem?_set_ne e] at q1 q2
      exact ⟨c', l', q1, q2⟩
    exact R.sep j k a (up j a q1) (up k a q2)
/-- .. an owned thing -/
theorem Rel.setOwn (R : Rel Z F S σ H B ρ) {v : V} {c : Cont} (h : RVR Z F S σ H B ρ v (.own c)) (i : Nat) : Rel Z F { S with sl := S.sl.set i (some (.own c false)) } (σ.set i (some v)) H B ρ := by
  obtain ⟨a, rfl, h1, f1, f2, f3, f4⟩ := h
  have up : ∀ k b, i ≠ k → OwnAt { S with sl := S.sl.set i (some (.own c false)) } (σ.set i (some (.ref a))) k b → OwnAt S σ k b := fun k b e ⟨c', l', q1, q2⟩ => by
    rw [List.getElem?_set_ne e] at q1 q2
    exact ⟨c', l', q1, q2⟩
  have at_ : ∀ b, OwnAt { S with sl := S.sl.set i (some (.own c false)) } (σ.set i (some (.ref a))) i b → b = a := fun b ⟨c', l', q1, q2⟩ => by
    have hi : i < S.sl.length := by
      have := (List.getElem?_eq_some_iff.mp q1).1
      simpa using this
    rw [List.getElem?_set_self (by rw [← R.len]; exact hi)] at q2
    cases q2
    rfl
  refine ⟨R.toRelH, by simpa using R.len, fun k d' q => ?_, fun k c' l' q => ?_, fun j k b q1 q2 => ?_, excs_set2 (fun c => by simp) R.excs⟩
  · have e : i ≠ k := fun e => by
      subst e
      have hi : i < S.sl.length := by
        have := (List.getElem?_eq_some_iff.mp q).1
        simpa using this
      rw [List.getElem?_set_self hi] at q
      cases q
    rw [List.getElem?_set_ne e] at q
    rw [List.getElem?_set_ne e]
    exact R.vals k d' q
  · by_cases e : i = k
    · subst e
      have hi : i < S.sl.length := by
        have := (List.getElem?_eq_some_iff.mp q).1
        simpa using this
      rw [List.getElem?_set_self hi] at q
      cases q
      exact ⟨a, List.getElem?_set_self (by rw [← R.len]; exact hi), h1, f1, FA.of f2, f3⟩
    · rw [List.getElem?_set_ne e] at q
      rw [List.getElem?_set_ne e]
      exact R.owns k c' l' q
  · by_cases ej : i = j
    · by_cases ek : i = k
      · rw [← ej, ← ek]
      · exfalso
        subst ej
        have := at_ b q1
        subst this
        exact f4 k (up k b ek q2)
    · by_cases ek : i = k
      · exfalso
        subst ek
        have := at_ b q2
        subst this
        exact f4 j (up j b ej q1)
      · exact R.sep j k b (up j b ej q1) (up k b ek q2)
theorem dg_name {i : Nat} {x : Str} {pos : Pos} (h : PG X (.Name x pos) (gName i)) : DG Z X (.Name x pos) (tgName i) [i] := ⟨PG.imp h fun v σ H Q ⟨F, S, B, ρ, d, R, hv, q⟩ => q _ (R.setVal hv i) (.set σ i _)⟩
/-- several names -/
def dTGs (Z : SX) (is : List Nat) : TGs := fun vs σ H Q => ∃ F S B ρ ds, Rel Z F S σ H B ρ ∧ VRs Z B ρ vs ds ∧ Wp (tgs is ds S) (fun _ S' => ∀ σ', Rel Z F S' σ' H B ρ → Keeps is σ σ' → Q σ' H) (fun _ _ => False)
theorem pgs_nilA : PGs X [] (dTGs Z []) := PGs.imp pgs_nil fun vs σ H Q ⟨F, S, B, ρ, ds, R, hv, q⟩ => by
  cases hv with
  | nil => exact ⟨rfl, q σ R (.refl _ _)⟩
  | cons _ _ => exact q.elim
theorem pgs_consA {i : Nat} {is : List Nat} {e : Expr} {es : List Expr} (h : PG X e (gName i)) (hr : PGs X es (dTGs Z is)) (hs : (assignEach (e :: es) X.env).map (·.2) = assign e X.env :: (assignEach es X.env).map (·.2)) : PGs X (e :: es) (dTGs Z (i :: is)) := PGs.imp (pgs_cons h hr hs) fun vs σ H Q ⟨F, S, B, ρ, ds, R, hv, q⟩ => by
  cases hv with
  | nil => exact q.elim
  | cons h1 h2 =>
    refine ⟨_, _, rfl, F, _, B, ρ, _, R.setVal h1 i, h2, Wp.mono q (fun _ S' z σ' R' k => z σ' R' ((Keeps.set σ i _).trans k)) fun _ _ z => z⟩
theorem dg_tup {is : List Nat} {es : List Expr} {k : Nat} {pos : Pos} (hc : X.calm = true) (hK : X.K = Z.K) (h : PGs X es (dTGs Z is)) (hl : es.length = is.length) (hn : (assignEach es X.env).length = es.length) (hst : (assignEach es X.env).findIdx? (·.1) = none) : DG Z X (.Tuple es k pos) (tgTup is) is := ⟨PG.imp (pg_tup hc h (n := es.length) hn hst) fun v σ H Q ⟨F, S, B, ρ, d, R, hv, q⟩ => by
  unfold tgTup at q
  split at q
  · rename_i ds
    cases hv with
    | tup h1 h2 =>
      refine ⟨_, _, rfl, by rw [hK]; exact (Le.of_same R.bh).tup h1, ?_, F, S, B, ρ, ds, R, h2, q⟩
      rw [h2.length, hl]
      have go : ∀ (is : List Nat) (ds : List D) (S : DS), Wp (tgs is ds S) (fun _ S' => ∀ σ', Rel Z F S' σ' H B ρ → Keeps is σ σ' → Q σ' H) (fun _ _ => False) → ds.length = is.length ∨ True := fun _ _ _ _ => .inr trivial
      clear go
      have go : ∀ (is : List Nat) (ds : List D) (S : DS) (P : Unit → DS → Prop), Wp (tgs is ds S) P (fun _ _ => False) → ds.length = is.length := by
        intro is
        induction is with
        | nil =>
          intro ds S P q
          cases ds with
          | nil => rfl
          | cons _ _ => exact q.elim
        | cons i is ih =>
          intro ds S P q
          cases ds with
          | nil => exact q.elim
          | cons d ds => rw [List.length_cons, List.length_cons, ih ds _ P q]
      exact go is ds S _ q
  · exact q.elim⟩
end

/-! ### list comprehensions -/
def wipeS : List Nat → List (Option Sl) → List (Option Sl)
  | [], sl => sl
  | v :: vs, sl => (wipeS vs sl).set v none
/-- the slots of a block's own names, as they were ahead of it -/
def backS (old : List (Option Sl)) : List Nat → List (Option Sl) → List (Option Sl)
  | [], sl => sl
  | v :: vs, sl => (backS old vs sl).set v (old[v]?.join)
def notOwn : Option Sl → Bool
  | some (.own _ _) => false
  | _ => true
def Res.quiet {α : Type} : Res α → Res α
  | .exc _ _ => .stk
  | r => r
open Classical in
noncomputable def lcLoop (s : Src) (tg : D → DS → Res Unit) (tt : DS → Res Bool) (te : DS → Res RV) (vs : List Nat) : List D → List D → DS → Res (List D)
  | [], acc, S => if Alive s S then .ok acc S else .stk
  | x :: xs, acc, S => if Alive s S then (tg x S).bind fun _ S1 => (tt S1).bind fun b S2 => if b = true then
      ((te S2).bind fun r S3 => (settle r S3).bind fun d S4 => if acc.length < sizeLine then lcLoop s tg tt te vs xs (acc ++ [d]) { S4 with sl := wipeS vs S4.sl } else .stk)
      else lcLoop s tg tt te vs xs acc { S2 with sl := wipeS vs S2.sl }
    else .stk
def unlock (s : Src) (S : DS) : DS := match s.lk with
  | .slot j ds lk => { S with sl := S.sl.set j (some (.own (.lst ds) lk)) }
  | .heap k ds lk => { S with L := S.L.set k (.con (.lst ds) lk) }
  | .no => S
noncomputable def dLc (src : DS → Res Src) (tg : D → DS → Res Unit) (tt : DS → Res Bool) (te : DS → Res RV) (vs : List Nat) : DS → Res RV := fun S => (src S).bind fun s S1 =>
  if (vs.all fun v => notOwn (S1.sl[v]?.join)) = true ∧ (∀ j, s.at_ = some j → j ∉ vs) then
    (lcLoop s tg tt te vs s.items [] { S1 with sl := wipeS vs S1.sl }).quiet.bind fun ds S2 => .ok (.own (.lst ds)) (unlock s { S2 with sl := backS S1.sl vs S2.sl })
  else .stk
section
variable {Z : SX} {X : Cx} {W : WX} {F : Hp} {S : DS} {σ : St} {H B : Hp} {ρ : List Addr}
theorem Wp.quiet {α : Type} {m : Res α} {P : α → DS → Prop} {E E' : Str → DS → Prop} (h : Wp m.quiet P E) : Wp m P E' := by
  cases m with
  | ok a S => exact h
  | exc c S => exact h.elim
  | stk => exact h.elim
theorem FA.nea {a b : Addr} {xs : List V} {c : Cont} {lk : Bool} (h : FA (upd F a (.lst xs)) b c lk) : b ≠ a := fun e => by
  subst e
  cases c with
  | lst ds =>
    have h : upd F b (.lst xs) b = none := h
    rw [upd_same] at h
    cases h
  | dic kvs =>
    cases lk with
    | false =>
      have h : upd F b (.lst xs) b = none := h
      rw [upd_same] at h
      cases h
    | true =>
      obtain ⟨ob, u, h⟩ := h
      rw [upd_same] at h
      cases h
theorem LF.nea {a b : Addr} {xs : List V} {l : LO} (h : LF (upd F a (.lst xs)) b l) : b ≠ a := by
  cases l with
  | con c lk => exact FA.nea h
  | _ =>
    intro e
    subst e
    have h : upd F b (.lst xs) b = none := h
    rw [upd_same] at h
    cases h
/-- a new list is hidden from all that goes on -/
theorem Rel.hide (R : Rel Z F S σ H B ρ) {a : Addr} {xs : List V} (f : Fresh F S σ B ρ a) (h : H a = some (.lst xs)) : Rel Z (upd F a (.lst xs)) S σ H B ρ := by
  obtain ⟨f1, f2, f3, f4⟩ := f
  refine ⟨⟨R.bh, fun b u e => ?_, fun b u e => ?_, R.rlen, R.rnd, R.rb, fun k b o h1 h2 => ?_, R.hp⟩, R.len, R.vals, fun i c lk q => ?_, R.sep, R.excs⟩
  · by_cases e1 : b = a
    · subst e1
      rw [upd_same] at e
      cases e
      exact h
    · rw [upd_ne e1] at e
      exact R.fh _ _ e
  · by_cases e1 : b = a
    · subst e1
      exact f1
    · rw [upd_ne e1] at e
      exact R.fb _ _ e
  · have nb : b ≠ a := fun e => f3 (by rw [← e]; exact List.mem_of_getElem? h1)
    exact (R.rf k b o h1 h2).ne nb
  · obtain ⟨b, q1, q2, q3, q4, q5⟩ := R.owns i c lk q
    exact ⟨b, q1, q2, q3, q4.ne (fun e => f4 i ⟨c, lk, q, by rw [q1, e]⟩), q5⟩
theorem Rel.unhide {a : Addr} {xs : List V} (R : Rel Z (upd F a (.lst xs)) S σ H B ρ) (hF : F a = none) : Rel Z F S σ H B ρ ∧ Fresh F S σ B ρ a ∧ H a = some (.lst xs) := by
  have ha : H a = some (.lst xs) := R.fh _ _ upd_same
  have ne : ∀ b u, F b = some u → b ≠ a := fun b u e z => by
    rw [z, hF] at e
    cases e
  refine ⟨⟨⟨R.bh, fun b u e => R.fh _ _ (by rw [upd_ne (ne b u e)]; exact e), fun b u e => R.fb b u (by rw [upd_ne (ne b u e)]; exact e), R.rlen, R.rnd, R.rb, fun k b o h1 h2 => ?_, R.hp⟩, R.len, R.vals, fun i c lk q => ?_, R.sep, R.excs⟩, ⟨R.fb _ _ upd_same, hF, fun hm => ?_, fun i ⟨c, lk, q1, q2⟩ => ?_⟩, ha⟩
  · have h := R.rf k b o h1 h2
    exact h.en h.nea
  · obtain ⟨b, q1, q2, q3, q4, q5⟩ := R.owns i c lk q
    exact ⟨b, q1, q2, q3, q4.en q4.nea, q5⟩
  · obtain ⟨k, hk⟩ := List.getElem?_of_mem hm
    have hl : k < S.L.length := by
      rw [← R.rlen]
      exact (List.getElem?_eq_some_iff.mp hk).1
    exact (R.rf k a _ hk (List.getElem?_eq_getElem hl)).nea rfl
  · obtain ⟨b, q3, _, _, q4, _⟩ := R.owns i c lk q1
    rw [q2] at q3
    cases q3
    exact q4.nea rfl
/-- the hidden list is changed -/
theorem Rel.rehide {a : Addr} {xs xs' : List V} (R : Rel Z (upd F a (.lst xs)) S σ H B ρ) : Rel Z (upd F a (.lst xs')) S σ (upd H a (.lst xs')) B ρ := by
  have nB : B a = none := R.fb _ _ upd_same
  have up : ∀ b u, b ≠ a → H b = some u → upd H a (.lst xs') b = some u := fun b u z e => by
    rw [upd_ne z]
    exact e
  have cr : ∀ {b : Addr} {c : Cont} {lk : Bool}, b ≠ a → CR Z B ρ H b c lk → CR Z B ρ (upd H a (.lst xs')) b c lk := fun {b c lk} nb ⟨o1, l1, l2⟩ => by
    refine ⟨o1, l1, ?_⟩
    rcases l2 with l2 | ⟨z, z2, ob, l2⟩
    · exact .inl (up _ _ nb l2)
    · exact .inr ⟨z, z2, ob, up _ _ nb l2⟩
  refine ⟨⟨fun b u e => up b u (fun z => by rw [z, nB] at e; cases e) (R.bh _ _ e), fun b u e => ?_, fun b u e => ?_, R.rlen, R.rnd, R.rb, fun k b o h1 h2 => ?_, fun k b u h1 h2 => ?_⟩, R.len, R.vals, fun i c lk q => ?_, R.sep, R.excs⟩
  · by_cases e1 : b = a
    · subst e1
      rw [upd_same] at e ⊢
      exact e
    · rw [upd_ne e1] at e
      exact up b u e1 (R.fh _ _ (by rw [upd_ne e1]; exact e))
  · by_cases e1 : b = a
    · subst e1
      exact nB
    · rw [upd_ne e1] at e
      exact R.fb b u (by rw [upd_ne e1]; exact e)
  · have h := R.rf k b o h1 h2
    have nb := h.nea
    exact (h.en nb).ne nb
  · have nb := (R.rf k b u h1 h2).nea
    have l := R.hp k b u h1 h2
    cases u with
    | con c lk => exact cr nb l
    | ins C fs =>
      obtain ⟨Ca, dx, vs, l1, l2, l3⟩ := l
      exact ⟨Ca, dx, vs, l1, up _ _ nb l2, l3⟩
    | clo id ds =>
      obtain ⟨o, vs, l1, l2, l3⟩ := l
      exact ⟨o, vs, l1, up _ _ nb l2, l3⟩
  · obtain ⟨b, q1, q2, q4, q5, q6⟩ := R.owns i c lk q
    have nb := q5.nea
    exact ⟨b, q1, cr nb q2, q4, (q5.en nb).ne nb, q6⟩
theorem wipe_get {vs : List Nat} {j : Nat} (h : j ∉ vs) : (wipe σ vs)[j]? = σ[j]? := by
  induction vs with
  | nil => rfl
  | cons v vs ih =>
    rw [List.mem_cons, not_or] at h
    unfold wipe
    rw [List.getElem?_set_ne (fun e => h.1 e.symm), ih h.2]
theorem wipeS_get {vs : List Nat} {sl : List (Option Sl)} {j : Nat} (h : j ∉ vs) : (wipeS vs sl)[j]? = sl[j]? := by
  induction vs with
  | nil => rfl
  | cons v vs ih =>
    rw [List.mem_cons, not_or] at h
    unfold wipeS
    rw [List.getElem?_set_ne (fun e => h.1 e.symm), ih h.2]
theorem wipeS_length {vs : List Nat} {sl : List (Option Sl)} : (wipeS vs sl).length = sl.length := by
  induction vs with
  | nil => rfl
  | cons v vs ih =>
    unfold wipeS
    rw [List.length_set, ih]
theorem backS_length {vs : List Nat} {old sl : List (Option Sl)} : (backS old vs sl).length = sl.length := by
  induction vs with
  | nil => rfl
  | cons v vs ih =>
    unfold backS
    rw [List.length_set, ih]
theorem wipeS_some {vs : List Nat} {sl : List (Option Sl)} {j : Nat} {s : Sl} (h : (wipeS vs sl)[j]? = some (some s)) : j ∉ vs ∧ sl[j]? = some (some s) := by
  induction vs with
  | nil => exact ⟨by simp, h⟩
  | cons v vs ih =>
    unfold wipeS at h
    by_cases e : v = j
    · subst e
      have hv := (List.getElem?_eq_some_iff.mp h).1
      rw [List.length_set] at hv
      rw [List.getElem?_set_self hv] at h
      cases h
    · rw [List.getElem?_set_ne e] at h
      obtain ⟨h1, h2⟩ := ih h
      exact ⟨by rw [List.mem_cons, not_or]; exact ⟨fun z => e z.symm, h1⟩, h2⟩
theorem backS_some {vs : List Nat} {old sl : List (Option Sl)} {j : Nat} {s : Sl} (h : (backS old vs sl)[j]? = some (some s)) : (j ∈ vs ∧ old[j]? = some (some s)) ∨ (j ∉ vs ∧ sl[j]? = some (some s)) := by
  induction vs with
  | nil => exact .inr ⟨by simp, h⟩
  | cons v vs ih =>
    unfold backS at h
    by_cases e : v = j
    · subst e
      have hv := (List.getElem?_eq_some_iff.mp h).1
      rw [List.length_set] at hv
      rw [List.getElem?_set_self hv] at h
      refine .inl ⟨List.mem_cons_self, ?_⟩
      have h2 : old[v]?.join = some s := Option.some.inj h
      rw [Option.join_eq_some_iff] at h2
      exact h2
    · rw [List.getElem?_set_ne e] at h
      rcases ih h with ⟨h1, h2⟩ | ⟨h1, h2⟩
      · exact .inl ⟨List.mem_cons_of_mem _ h1, h2⟩
      · exact .inr ⟨by rw [List.mem_cons, not_or]; exact ⟨fun z => e z.symm, h1⟩, h2⟩
/-- the block's state -/
theorem Rel.wipe (R : Rel Z F S σ H B ρ) (vs : List Nat) : Rel Z F { S with sl := wipeS vs S.sl } (L2.wipe σ vs) H B ρ := by
  refine ⟨R.toRelH, by rw [wipeS_length, wipe_length]; exact R.len, fun i d h => ?_, fun i c lk h => ?_, fun i j a h1 h2 => ?_, fun i c h => ?_⟩
  · obtain ⟨h1, h2⟩ := wipeS_some h
    rw [wipe_get h1]
    exact R.vals i d h2
  · obtain ⟨h1, h2⟩ := wipeS_some h
    rw [wipe_get h1]
    exact R.owns i c lk h2
  · obtain ⟨c, lk, q1, q2⟩ := h1
    obtain ⟨c', lk', q3, q4⟩ := h2
    obtain ⟨n1, q1⟩ := wipeS_some q1
    obtain ⟨n2, q3⟩ := wipeS_some q3
    rw [wipe_get n1] at q2
    rw [wipe_get n2] at q4
    exact R.sep i j a ⟨c, lk, q1, q2⟩ ⟨c', lk', q3, q4⟩
  · obtain ⟨h1, h2⟩ := wipeS_some h
    rw [wipe_get h1]
    exact R.excs i c h2
/-- back to the frame -/
theorem Rel.unwipe {S1 : DS} {H1 B1 : Hp} {ρ1 : List Addr} (R0 : Rel Z F S1 σ H1 B1 ρ1) {vs : List Nat} (no : (vs.all fun v => notOwn (S1.sl[v]?.join)) = true) (R : Rel Z F S (L2.wipe σ vs) H B ρ) (sb : Same B1 B) (ex : Ex ρ1 ρ) : Rel Z F { S with sl := backS S1.sl vs S.sl } σ H B ρ := by
  have own_no : ∀ i c lk, i ∈ vs → S1.sl[i]? = some (some (.own c lk)) → False := fun i c lk h1 h2 => by
    have := List.all_eq_true.mp no i h1
    rw [h2] at this
    cases this
  refine ⟨R.toRelH, by rw [backS_length, R.len, wipe_length], fun i d h => ?_, fun i c lk h => ?_, fun i j a h1 h2 => ?_, fun i c h => ?_⟩
  · rcases backS_some h with ⟨h1, h2⟩ | ⟨h1, h2⟩
    · obtain ⟨v, e1, e2⟩ := R0.vals i d h2
      exact ⟨v, e1, e2.mono (.of_same sb) ex⟩
    · have := R.vals i d h2
      rw [wipe_get h1] at this
      exact this
  · rcases backS_some h with ⟨h1, h2⟩ | ⟨h1, h2⟩
    · exact (own_no i c lk h1 h2).elim
    · have := R.owns i c lk h2
      rw [wipe_get h1] at this
      exact this
  · obtain ⟨c, lk, q1, q2⟩ := h1
    obtain ⟨c', lk', q3, q4⟩ := h2
    rcases backS_some q1 with ⟨n1, q1⟩ | ⟨n1, q1⟩
    · exact (own_no i c lk n1 q1).elim
    · rcases backS_some q3 with ⟨n2, q3⟩ | ⟨n2, q3⟩
      · exact (own_no j c' lk' n2 q3).elim
      · exact R.sep i j a ⟨c, lk, q1, by rw [wipe_get n1]; exact q2⟩ ⟨c', lk', q3, by rw [wipe_get n2]; exact q4⟩
  · rcases backS_some h with ⟨h1, h2⟩ | ⟨h1, h2⟩
    · exact R0.excs i c h2
    · have := R.excs i c h2
      rw [wipe_get h1] at this
      exact this
/-- the comprehension's tests -/
structure DTs (Z : SX) (X : Cx) (ifs : List Expr) (f : DS → Res Bool) : Prop where
  run : ∀ W, Takes X W → PTs X ifs (dTT Z f W)
theorem dts_nil : DTs Z X [] (fun S => .ok true S) := ⟨fun W tk => ⟨fun pins s σ H Q I ⟨F, S, B, ρ, R, q⟩ => pts_nil.run pins s σ H Q I (q H B ρ R (fun _ _ z => z) (.refl ρ))⟩⟩
theorem dts_one {c : Expr} {f : DS → Res Bool} (h : DT Z X c f) : DTs Z X [c] f := ⟨fun W tk => pts_one (h.run W tk)⟩
theorem wipe_in : ∀ (vs : List Nat) (τ : St) {j : Nat}, j ∈ vs → (L2.wipe τ vs)[j]? = if j < τ.length then some none else none := by
  intro vs τ j
  induction vs with
  | nil => intro h; cases h
  | cons v vs ih =>
    intro h
    unfold L2.wipe
    by_cases e : v = j
    · subst e
      rw [List.getElem?_set]
      simp [wipe_length]
    · rw [List.getElem?_set_ne e]
      exact ih ((List.mem_cons.mp h).resolve_left fun z => e z.symm)
theorem wipe_eq {vs A : List Nat} {τ : St} (hA : ∀ i, i ∈ A → i ∈ vs) (k : Keeps A (L2.wipe σ vs) τ) : L2.wipe τ vs = L2.wipe σ vs := by
  refine List.ext_getElem? fun j => ?_
  by_cases hj : j ∈ vs
  · rw [wipe_in vs τ hj, wipe_in vs σ hj, k.1, wipe_length]
  · rw [wipe_get hj, wipe_get hj, k.2 j (fun z => hj (hA j z)), wipe_get hj]
/-- the first part, with any wish about exceptions -/
theorem dTT.firstG {β : Type} {f : DS → Res Bool} {k : Bool → DS → Res β} {P : β → DS → Prop} {E : Str → DS → Prop} {G : Bool → Hp → Prop} (R : Rel Z F S σ H B ρ) (h : Wp ((f S).bind k) P E) (hE : ∀ c S', E c S' → EQ Z F B ρ σ W c S')
    (hk : ∀ r S1 H1 B1 ρ1, Rel Z F S1 σ H1 B1 ρ1 → Same B B1 → Ex ρ ρ1 → Wp (k r S1) P E → G r H1) : dTT Z f W σ H G :=
  ⟨F, S, B, ρ, R, h.bind.mono (fun r S1 hw H1 B1 ρ1 R1 sb ex => hk r S1 H1 B1 ρ1 R1 sb ex hw) hE⟩
theorem dTE.firstG {β : Type} {f : DS → Res RV} {k : RV → DS → Res β} {P : β → DS → Prop} {E : Str → DS → Prop} {G : VK} (R : Rel Z F S σ H B ρ) (h : Wp ((f S).bind k) P E) (hE : ∀ c S', E c S' → EQ Z F B ρ σ W c S')
    (hk : ∀ r S1 x H1 B1 ρ1, Rel Z F S1 σ H1 B1 ρ1 → Same B B1 → Ex ρ ρ1 → RVR Z F S1 σ H1 B1 ρ1 x r → Wp (k r S1) P E → G x H1) : dTE Z f W σ H G :=
  ⟨F, S, B, ρ, R, h.bind.mono (fun r S1 hw x H1 B1 ρ1 R1 sb ex rv => hk r S1 x H1 B1 ρ1 R1 sb ex rv hw) hE⟩
theorem Rel.unlock {s : Src} (R : Rel Z F S σ H B ρ) (al : Alive s S) : Rel Z F (unlock s S) σ H B ρ := by
  unfold TW.unlock
  unfold Alive at al
  cases hs : s.lk with
  | no => exact R
  | slot j ds lk =>
    rw [hs] at al
    exact R.lockSlot al lk
  | heap k ds lk =>
    rw [hs] at al
    exact R.lockHeap al lk
theorem own_unlock {s : Src} {k : Nat} {c : Cont} {lk : Bool} (h : (TW.unlock s S).sl[k]? = some (some (.own c lk))) : ∃ c' lk', Alive s S → S.sl[k]? = some (some (.own c' lk')) := by
  unfold TW.unlock at h
  unfold Alive
  cases hs : s.lk with
  | no =>
    rw [hs] at h
    exact ⟨c, lk, fun _ => h⟩
  | heap j ds l =>
    rw [hs] at h
    exact ⟨c, lk, fun _ => h⟩
  | slot j ds l =>
    rw [hs] at h
    by_cases ek : j = k
    · subst ek
      exact ⟨_, _, fun al => al⟩
    · have h : (S.sl.set j _)[k]? = _ := h
      rw [List.getElem?_set_ne ek] at h
      exact ⟨c, lk, fun _ => h⟩
/-- what the comprehension's reading asks -/
theorem lc_of {src : DS → Res Src} {tg : D → DS → Res Unit} {A vs : List Nat} {tt : DS → Res Bool} {te : DS → Res RV} {Q : VK} (hA : ∀ i, i ∈ A → i ∈ vs) (R0 : Rel Z F S σ H B ρ) (q : Wp (dLc src tg tt te vs S) (PQ Z F B ρ σ Q) (EQ Z F B ρ σ W)) :
    tLc (dTI Z src W) (dTG Z tg A) (dTT Z tt fun _ _ _ _ => False) (dTE Z te fun _ _ _ _ => False) vs σ H Q := by
  refine ⟨F, S, B, ρ, R0, q.bind.mono (fun s S1 hw J H1 B1 ρ1 R1 sb ex wk dl hD => ?_) fun _ _ z => z⟩
  split at hw
  · rename_i hno
    obtain ⟨no, nj⟩ := hno
    have hw := hw.bind
    have sF : ∀ {xs : List V}, F dl = none → Same F (upd F dl (.lst xs)) := fun {xs} hF b u e => by
      rw [upd_ne (ne_of_none e hF)]
      exact e
    have wσ : ∀ j, s.at_ = some j → (L2.wipe σ vs)[j]? = σ[j]? := fun j e => wipe_get (nj j e)
    -- the invariant
    refine ⟨fun i m H2 => m = s.items.length - i ∧ i ≤ s.items.length ∧ ∃ acc xs S2 B2 ρ2, F dl = none ∧ VRs Z B2 ρ2 xs acc ∧ Rel Z (upd F dl (.lst xs)) S2 (L2.wipe σ vs) H2 B2 ρ2 ∧ Same B1 B2 ∧ Ex ρ1 ρ2 ∧
      Wp (lcLoop s tg tt te vs (s.items.drop i) acc S2) (fun ds S3 => Wp (Res.ok (RV.own (.lst ds)) (unlock s { S3 with sl := backS S1.sl vs S3.sl })) (PQ Z F B ρ σ Q) (EQ Z F B ρ σ W)) (fun _ _ => False), ⟨_, rfl, Nat.zero_le _, [], [], { S1 with sl := wipeS vs S1.sl }, B1, ρ1, ?_, .nil, ?_, fun _ _ z => z, .refl ρ1, ?_⟩, ?_⟩
    · exact R1.fh.free hD
    · have R2 := (R1.wipe vs).grow (o := .lst []) hD
      exact R2.hide ((R1.wipe vs).fresh hD) upd_same
    · rw [List.drop_zero]
      exact Wp.quiet hw
    · rintro i m H2 ⟨rfl, hi, acc, xs, S2, B2, ρ2, hF, h2, R2, sb2, ex2, hl⟩
      by_cases hlt : i < s.items.length
      · have ed : s.items.drop i = s.items[i] :: s.items.drop (i + 1) := List.drop_eq_getElem_cons hlt
        rw [ed] at hl
        unfold lcLoop at hl
        split at hl
        · rename_i al
          obtain ⟨g1, g2⟩ := wk.go _ S2 _ H2 B2 ρ2 i s.items[i] R2 (sF hF) sb2 ex2 al wσ (List.getElem?_eq_getElem hlt)
          refine .inr ⟨g1, _, fun H' hN => ⟨s.items.length - (i + 1), by omega, hN⟩, fun x H' y => ?_⟩
          obtain ⟨B3, R3, sb3, rx⟩ := g2 x H' y
          refine ⟨upd F dl (.lst xs), S2, B3, ρ2, s.items[i], R3, rx, hl.bind.mono (fun _ S4 hw4 σ4 R4 k4 => ?_) fun _ _ z => z.elim⟩
          have ew : L2.wipe σ4 vs = L2.wipe σ vs := wipe_eq hA k4
          refine ⟨ew, dTT.firstG R4 hw4 (fun _ _ z => z.elim) fun b S5 H5 B5 ρ5 R5 sb5 ex5 hw5 => ?_⟩
          have tonext : ∀ {S6 : DS} {H6 B6 : Hp} {ρ6 : List Addr} {xs' : List V} {acc' : List D}, Rel Z (upd F dl (.lst xs')) S6 σ4 H6 B6 ρ6 → VRs Z B6 ρ6 xs' acc' → Same B5 B6 → Ex ρ5 ρ6 →
              Wp (lcLoop s tg tt te vs (s.items.drop (i + 1)) acc' { S6 with sl := wipeS vs S6.sl }) (fun ds S3 => Wp (Res.ok (RV.own (.lst ds)) (unlock s { S3 with sl := backS S1.sl vs S3.sl })) (PQ Z F B ρ σ Q) (EQ Z F B ρ σ W)) (fun _ _ => False) →
              (s.items.length - (i + 1) = s.items.length - (i + 1) ∧ i + 1 ≤ s.items.length ∧ ∃ acc xs S2 B2 ρ2, F dl = none ∧ VRs Z B2 ρ2 xs acc ∧ Rel Z (upd F dl (.lst xs)) S2 (L2.wipe σ vs) H6 B2 ρ2 ∧ Same B1 B2 ∧ Ex ρ1 ρ2 ∧
                Wp (lcLoop s tg tt te vs (s.items.drop (i + 1)) acc S2) (fun ds S3 => Wp (Res.ok (RV.own (.lst ds)) (unlock s { S3 with sl := backS S1.sl vs S3.sl })) (PQ Z F B ρ σ Q) (EQ Z F B ρ σ W)) (fun _ _ => False)) := fun {S6 H6 B6 ρ6 xs' acc'} R6 v6 sb6 ex6 hl6 => by
            have R7 := R6.wipe vs
            rw [ew] at R7
            exact ⟨rfl, hlt, acc', xs', _, B6, ρ6, hF, v6, R7, ((sb2.trans sb3).trans sb5).trans sb6, (ex2.trans ex5).trans ex6, hl6⟩
          cases b with
          | true =>
            rw [if_pos rfl] at hw5 ⊢
            refine dTE.firstG R5 hw5 (fun _ _ z => z.elim) fun r S6 y' H6 B6 ρ6 R6 sb6 ex6 rv6 hw6 => ?_
            cases hs : settle r S6 with
            | ok d S7 =>
              rw [hs] at hw6
              dsimp only [Res.bind] at hw6
              obtain ⟨B7, R7, sb7, rv7⟩ := settle_ok R6 rv6 hs
              split at hw6
              · rename_i hlen
                refine ⟨xs, R7.fh _ _ upd_same, by rw [h2.length]; exact hlen, ?_⟩
                exact tonext R7.rehide (((h2.mono (.of_same (((sb3.trans sb5).trans sb6).trans sb7)) (ex5.trans ex6))).append (.cons rv7 .nil)) (sb6.trans sb7) ex6 hw6
              · exact hw6.elim
            | exc c S7 => exact (settle_exc hs).elim
            | stk =>
              rw [hs] at hw6
              exact hw6.elim
          | false =>
            rw [if_neg Bool.false_ne_true] at hw5 ⊢
            exact tonext R5 (h2.mono (.of_same (sb3.trans sb5)) ex5) (fun _ _ z => z) (.refl ρ5) hw5
        · exact hl.elim
      · have e : i = s.items.length := by omega
        subst e
        rw [List.drop_length] at hl
        unfold lcLoop at hl
        split at hl
        · rename_i al
          refine .inl ⟨wk.stop _ S2 _ H2 B2 ρ2 _ R2 (sF hF) sb2 ex2 al wσ (Nat.le_refl _), ?_⟩
          obtain ⟨R3, f3, h3⟩ := R2.unhide hF
          have R4 := R1.unwipe no R3 sb2 ex2
          have f4 : Fresh F { S2 with sl := backS S1.sl vs S2.sl } σ B2 ρ2 dl := by
            refine ⟨f3.1, f3.2.1, f3.2.2.1, fun j ⟨c, lk, q1, q2⟩ => ?_⟩
            rcases backS_some q1 with ⟨n1, q1⟩ | ⟨n1, q1⟩
            · have := List.all_eq_true.mp no j n1
              rw [q1] at this
              cases this
            · exact f3.2.2.2 j ⟨c, lk, q1, by rw [wipe_get n1]; exact q2⟩
          have hq : ∀ S', Rel Z F S' σ H2 B2 ρ2 → (∀ j, ¬ OwnAt S' σ j dl) → PQ Z F B ρ σ Q (.own (.lst acc)) S' → Q (.ref dl) H2 := fun S' R' n' hp => hp (.ref dl) H2 B2 ρ2 R' (sb.trans sb2) (ex.trans ex2) ⟨dl, rfl, ⟨_, ⟨xs, rfl, h2⟩, .inl h3⟩, f4.1, f4.2.1, f4.2.2.1, n'⟩
          have hl' : PQ Z F B ρ σ Q (.own (.lst acc)) (unlock s { S2 with sl := backS S1.sl vs S2.sl }) := hl
          have al2 : Alive s { S2 with sl := backS S1.sl vs S2.sl } := by
            unfold Alive at al ⊢
            cases hs : s.lk with
            | no => trivial
            | heap k ds lk =>
              rw [hs] at al
              exact al
            | slot j ds lk =>
              rw [hs] at al
              have nn := nj j (by unfold Src.at_; rw [hs])
              have : ∀ ws : List Nat, j ∉ ws → (backS S1.sl ws S2.sl)[j]? = S2.sl[j]? := by
                intro ws
                induction ws with
                | nil => intro _; rfl
                | cons v ws ih =>
                  intro h
                  rw [List.mem_cons, not_or] at h
                  unfold backS
                  rw [List.getElem?_set_ne (fun e => h.1 e.symm), ih h.2]
              exact (this vs nn).trans al
          refine hq _ (R4.unlock al2) (fun k ⟨c, lk, q1, q2⟩ => ?_) hl'
          rcases own_unlock q1 with ⟨c', lk', q3⟩
          exact f4.2.2.2 k ⟨c', lk', q3 al2, q2⟩
        · exact hl.elim
  · exact hw.elim
theorem de_lc {elt tg iter : Expr} {ifs : List Expr} {scope : Scope} {own : List (Str × Nat)} {pos : Pos} {src : DS → Res Src} {g : D → DS → Res Unit} {A : List Nat} {tt : DS → Res Bool} {te : DS → Res RV} (hc : X.calm = true) (hN : X.N.Nodup) (hi : DI Z X tg iter src) (ok : BlkOk X.N X.env.scope scope own)
    (hA : ∀ i, i ∈ A → i ∈ own.map (·.2))
    (hg : ∀ (s : Shared) (H : Hp) (C : Addr) (cl : List (Str × Addr)) (fp : List Addr), DG Z (X.blk s H scope (compEnvC scope cl C X.env) fp) tg g A) (ht : ∀ (s : Shared) (H : Hp) (C : Addr) (cl : List (Str × Addr)) (fp : List Addr), DTs Z (X.blk s H scope (compEnvC scope cl C X.env) fp) ifs tt)
    (he : ∀ (s : Shared) (H : Hp) (C : Addr) (cl : List (Str × Addr)) (fp : List Addr), DE Z (X.blk s H scope (compEnvC scope cl C X.env) fp) elt te) (hs : ∀ x, foldedSetIterable iter X.env x = pure x) :
    DE Z X (.ListComp elt [⟨tg, iter, ifs, 0⟩] scope pos) (dLc src g tt te (own.map (·.2))) := ⟨fun W tk =>
  PE.imp (pe_lc hc hN (hi.run W tk) ok (fun s H C cl fp => (hg s H C cl fp).run) (fun s H C cl fp => (ht s H C cl fp).run _ takes0) (fun s H C cl fp => (he s H C cl fp).run _ takes0) hs) fun σ H Q ⟨F, S, B, ρ, R, q⟩ => lc_of hA R q⟩
end
end TW
/-! TW8: statements as functions of the state. -/
namespace TW
open PySem PySem.Spec L2

inductive Out where
  | next (S : DS) | brk (S : DS) | cont (S : DS) | ret (r : RV) (S : DS) | exc (c : Str) (S : DS) | stk
section
variable (Z : SX)
def NX (F B : Hp) (ρ : List Addr) (σ : St) (A : List Nat) (P : St → Hp → Prop) (S' : DS) : Prop := ∀ σ' H' B' ρ', Rel Z F S' σ' H' B' ρ' → Same B B' → Ex ρ ρ' → Keeps A σ σ' → P σ' H'
/-- what a def hands back -/
def RetR (F H B : Hp) (ρ : List Addr) (v : V) : RV → Prop
  | .val d => VR Z B ρ v d
  | .own c => ∃ a, v = .ref a ∧ CR Z B ρ H a c false ∧ B a = none ∧ F a = none ∧ a ∉ ρ
  | .plc _ => False
def RX (F B : Hp) (ρ : List Addr) (P : VK) (r : RV) (S' : DS) : Prop := ∀ v H' B' ρ', RelH Z F S'.L H' B' ρ' → Same B B' → Ex ρ ρ' → RetR Z F H' B' ρ' v r → P v H'
def EX (F B : Hp) (ρ : List Addr) (σ : St) (A : List Nat) (W : WX) (c : Str) (S' : DS) : Prop := ∀ cls σ' H' B' ρ', Rel Z F S' σ' H' B' ρ' → Same B B' → Ex ρ ρ' → Keeps A σ σ' → Z.EX c cls → W cls none σ' H'
def WpS (F B : Hp) (ρ : List Addr) (σ : St) (A : List Nat) (W : WX) (D : Ends) : Out → Prop
  | .next S' => NX Z F B ρ σ A D.nx S'
  | .brk S' => NX Z F B ρ σ A D.bk S'
  | .cont S' => NX Z F B ρ σ A D.ct S'
  | .ret r S' => RX Z F B ρ D.rt r S'
  | .exc c S' => EX Z F B ρ σ A W c S'
  | .stk => False
def dTS (f : DS → Out) (W : WX) (A : List Nat) : TS := fun D σ H => ∃ F S B ρ, Rel Z F S σ H B ρ ∧ WpS Z F B ρ σ A W D (f S)
structure DSt (X : Cx) (st : Stmt) (f : DS → Out) (A : List Nat) : Prop where
  run : ∀ W, Takes X W → PS X st (dTS Z f W A)
structure DSs (X : Cx) (st : List Stmt) (f : DS → Out) (A : List Nat) : Prop where
  run : ∀ W, Takes X W → PSs X st (dTS Z f W A)
end
theorem PS.imp {X : Cx} {e : Stmt} {t t' : TS} (h : PS X e t) (i : ∀ D σ H, t' D σ H → t D σ H) : PS X e t' := ⟨fun pins s σ H D I q => h.run pins s σ H D I (i _ _ _ q)⟩
theorem PSs.imp {X : Cx} {e : List Stmt} {t t' : TS} (h : PSs X e t) (i : ∀ D σ H, t' D σ H → t D σ H) : PSs X e t' := ⟨fun pins s σ H D I q => h.run pins s σ H D I (i _ _ _ q)⟩
theorem PS.or {X : Cx} {e : Stmt} {t u : TS} (h : PS X e t) (k : PS X e u) : PS X e (fun D σ H => t D σ H ∨ u D σ H) := ⟨fun pins s σ H D I q => q.elim (h.run pins s σ H D I) (k.run pins s σ H D I)⟩
section
variable {Z : SX} {F : Hp} {S : DS} {σ σ1 : St} {H B B1 : Hp} {ρ ρ1 : List Addr} {W : WX} {A A' : List Nat} {D : Ends} {o : Out}
theorem NX.shift {P : St → Hp → Prop} {S' : DS} (sb : Same B B1) (ex : Ex ρ ρ1) (k : Keeps A σ σ1) (h : NX Z F B ρ σ (A ++ A') P S') : NX Z F B1 ρ1 σ1 A' P S' := fun σ' H' B' ρ' R s e k' => h σ' H' B' ρ' R (sb.trans s) (ex.trans e) (k.trans k')
theorem WpS.shift (sb : Same B B1) (ex : Ex ρ ρ1) (k : Keeps A σ σ1) (h : WpS Z F B ρ σ (A ++ A') W D o) : WpS Z F B1 ρ1 σ1 A' W D o := by
  cases o with
  | next S' => exact NX.shift sb ex k h
  | brk S' => exact NX.shift sb ex k h
  | cont S' => exact NX.shift sb ex k h
  | ret r S' => exact fun v H' B' ρ' R s e rv => h v H' B' ρ' R (sb.trans s) (ex.trans e) rv
  | exc c S' => exact fun cls σ' H' B' ρ' R s e k' hc => h cls σ' H' B' ρ' R (sb.trans s) (ex.trans e) (k.trans k') hc
  | stk => exact h
theorem NX.mono {P : St → Hp → Prop} {S' : DS} (i : ∀ j, j ∈ A → j ∈ A') (h : NX Z F B ρ σ A' P S') : NX Z F B ρ σ A P S' := fun σ' H' B' ρ' R s e k => h σ' H' B' ρ' R s e (k.mono i)
theorem WpS.mono (i : ∀ j, j ∈ A → j ∈ A') (h : WpS Z F B ρ σ A' W D o) : WpS Z F B ρ σ A W D o := by
  cases o with
  | next S' => exact NX.mono i h
  | brk S' => exact NX.mono i h
  | cont S' => exact NX.mono i h
  | ret r S' => exact h
  | exc c S' => exact fun cls σ' H' B' ρ' R s e k hc => h cls σ' H' B' ρ' R s e (k.mono i) hc
  | stk => exact h
/-- the state goes on without a slot's change -/
theorem WpS.later (sb : Same B B1) (ex : Ex ρ ρ1) (h : WpS Z F B ρ σ A W D o) : WpS Z F B1 ρ1 σ A W D o := WpS.shift (A := []) sb ex (.refl _ _) h
end

/-! ### combinators -/
def Res.toOut {α : Type} (m : Res α) (k : α → DS → Out) : Out := match m with
  | .ok a S => k a S
  | .exc c S => .exc c S
  | .stk => .stk
def oStk : DS → Out := fun _ => .stk
def oNext : DS → Out := fun S => .next S
def oSeq (f g : DS → Out) : DS → Out := fun S => match f S with
  | .next S1 => g S1
  | o => o
def oExpr (f : DS → Res RV) : DS → Out := fun S => (f S).toOut fun _ S1 => .next S1
def setOut (i : Nat) (r : RV) (S1 : DS) : Out := match r with
  | .val d => .next { S1 with sl := S1.sl.set i (some (.val d)) }
  | .own c => .next { S1 with sl := S1.sl.set i (some (.own c false)) }
  | .plc _ => (settle r S1).toOut fun d S2 => .next { S2 with sl := S2.sl.set i (some (.val d)) }
def oSet (i : Nat) (f : DS → Res RV) : DS → Out := fun S => (f S).toOut (setOut i)
def oRet (f : DS → Res RV) : DS → Out := fun S => (f S).toOut fun r S1 => match r with
  | .val d => .ret (.val d) S1
  | .own c => .ret (.own c) S1
  | .plc i => (match S1.sl[i]? with
    | some (some (.val d)) => .ret (.val d) S1
    | some (some (.own c false)) => .ret (.own c) S1
    | _ => .stk)
def oIf (t : DS → Res Bool) (f g : DS → Out) : DS → Out := fun S => (t S).toOut fun b S1 => if b = true then f S1 else g S1
def forLoop (tg : D → DS → Res Unit) (body : DS → Out) : List D → DS → Out
  | [], S => .next S
  | x :: xs, S => match tg x S with
    | .ok _ S1 => (match body S1 with
      | .next S2 => forLoop tg body xs S2
      | .cont S2 => forLoop tg body xs S2
      | .brk S2 => .next S2
      | o => o)
    | _ => .stk
open Classical in
/-- .. over a list of a slot, which is locked meanwhile -/
noncomputable def forLoopA (s : Src) (tg : D → DS → Res Unit) (body : DS → Out) : List D → DS → Out
  | [], S => if Alive s S then .next (unlock s S) else .stk
  | x :: xs, S => if Alive s S then (match tg x S with
    | .ok _ S1 => (match body S1 with
      | .next S2 => forLoopA s tg body xs S2
      | .cont S2 => forLoopA s tg body xs S2
      | .brk S2 => if Alive s S2 then .next (unlock s S2) else .stk
      | o => o)
    | _ => .stk) else .stk
noncomputable def oFor (A : List Nat) (src : DS → Res Src) (tg : D → DS → Res Unit) (body : DS → Out) : DS → Out := fun S => (src S).toOut fun s S1 => match s.lk with
  | .no => forLoop tg body s.items S1
  | .heap _ _ _ => forLoopA s tg body s.items S1
  | .slot j _ _ => if A.contains j = true then .stk else forLoopA s tg body s.items S1
def whileLoop (t : DS → Res Bool) (body : DS → Out) : Nat → DS → Out
  | 0, _ => .stk
  | n + 1, S => (t S).toOut fun b S1 => if b = true then (match body S1 with
    | .next S2 => whileLoop t body n S2
    | .cont S2 => whileLoop t body n S2
    | .brk S2 => .next S2
    | o => o) else .next S1
def oWhile (n : Nat) (t : DS → Res Bool) (body : DS → Out) : DS → Out := whileLoop t body n
def oAug (i : Nat) (g : D → D → R) (f : DS → Res RV) : DS → Out := fun S => match S.sl[i]? with
  | some (some (.val d)) => (f S).toOut fun r S1 => (match peek S1 r with
    | some e => (match g d e with
      | .val x => .next { S1 with sl := S1.sl.set i (some (.val x)) }
      | _ => .stk)
    | none => .stk)
  | _ => .stk
def oRaise (c : Str) : DS → Out := fun S => .exc c S
/-- a, b = e -/
def oUnp (is : List Nat) (f : DS → Res RV) : DS → Out := fun S => (f S).toOut fun r S1 => match r with
  | .val d => (tgTup is d S1).toOut fun _ S2 => .next S2
  | _ => .stk
/-- a, b = x, y -/
def oPar (i j : Nat) (f : DS → Res (List D)) : DS → Out := fun S => (f S).toOut fun ds S1 => match ds with
  | [d, e] => .next { S1 with sl := (S1.sl.set i (some (.val d))).set j (some (.val e)) }
  | _ => .stk

section
variable {Z : SX} {X : Cx} {st : Stmt} {sts : List Stmt} {f g : DS → Out} {A A' : List Nat} {e c tg iter : Expr} {fe : DS → Res RV} {pos : Pos}
theorem dst_stk : DSt Z X st oStk A := ⟨fun W tk => ⟨fun _ _ _ _ _ _ ⟨_, _, _, _, _, h⟩ => h.elim⟩⟩
theorem dss_stk : DSs Z X sts oStk A := ⟨fun W tk => ⟨fun _ _ _ _ _ _ ⟨_, _, _, _, _, h⟩ => h.elim⟩⟩
theorem dss_nil : DSs Z X [] oNext [] := ⟨fun W tk => PSs.imp pss_nil fun D σ H ⟨F, S, B, ρ, R, q⟩ => q σ H B ρ R (fun _ _ z => z) (.refl ρ) (.refl _ σ)⟩
theorem dss_cons (h : DSt Z X st f A) (k : DSs Z X sts g A') : DSs Z X (st :: sts) (oSeq f g) (A ++ A') := ⟨fun W tk => PSs.imp (pss_cons (h.run W tk) (k.run W tk)) fun D σ H ⟨F, S, B, ρ, R, q⟩ => by
  refine ⟨F, S, B, ρ, R, ?_⟩
  unfold oSeq at q
  have up : ∀ o, WpS Z F B ρ σ (A ++ A') W D o → WpS Z F B ρ σ A W D o := fun o h => WpS.mono (fun j hj => List.mem_append_left _ hj) h
  cases hf : f S with
  | next S1 =>
    rw [hf] at q
    exact fun σ' H' B' ρ' R' sb ex k => ⟨F, S1, B', ρ', R', WpS.shift sb ex k q⟩
  | brk S1 =>
    rw [hf] at q
    exact up (.brk S1) q
  | cont S1 =>
    rw [hf] at q
    exact up (.cont S1) q
  | ret r S1 =>
    rw [hf] at q
    exact q
  | exc c S1 =>
    rw [hf] at q
    exact up (.exc c S1) q
  | stk =>
    rw [hf] at q
    exact q⟩
/-- an expression ahead of the rest -/
theorem dTE.toS {W : WX} {F : Hp} {S : DS} {σ : St} {H B : Hp} {ρ : List Addr} {D : Ends} {k : RV → DS → Out} {G : VK} (R : Rel Z F S σ H B ρ) (q : WpS Z F B ρ σ A W D ((fe S).toOut k))
    (hk : ∀ r S1 x H1 B1 ρ1, Rel Z F S1 σ H1 B1 ρ1 → Same B B1 → Ex ρ ρ1 → RVR Z F S1 σ H1 B1 ρ1 x r → WpS Z F B1 ρ1 σ A W D (k r S1) → G x H1) : dTE Z fe W σ H G := by
  refine ⟨F, S, B, ρ, R, ?_⟩
  cases hf : fe S with
  | ok r S1 =>
    rw [hf] at q
    exact fun x H1 B1 ρ1 R1 sb ex rv => hk r S1 x H1 B1 ρ1 R1 sb ex rv (WpS.later sb ex q)
  | exc c S1 =>
    rw [hf] at q
    exact fun cls H1 B1 ρ1 R1 sb ex hc => q cls σ H1 B1 ρ1 R1 sb ex (.refl _ _) hc
  | stk =>
    rw [hf] at q
    exact q
theorem dTT.toS {W : WX} {F : Hp} {S : DS} {σ : St} {H B : Hp} {ρ : List Addr} {D : Ends} {t : DS → Res Bool} {k : Bool → DS → Out} {G : Bool → Hp → Prop} (R : Rel Z F S σ H B ρ) (q : WpS Z F B ρ σ A W D ((t S).toOut k))
    (hk : ∀ r S1 H1 B1 ρ1, Rel Z F S1 σ H1 B1 ρ1 → Same B B1 → Ex ρ ρ1 → WpS Z F B1 ρ1 σ A W D (k r S1) → G r H1) : dTT Z t W σ H G := by
  refine ⟨F, S, B, ρ, R, ?_⟩
  cases hf : t S with
  | ok r S1 =>
    rw [hf] at q
    exact fun H1 B1 ρ1 R1 sb ex => hk r S1 H1 B1 ρ1 R1 sb ex (WpS.later sb ex q)
  | exc c S1 =>
    rw [hf] at q
    exact fun cls H1 B1 ρ1 R1 sb ex hc => q cls σ H1 B1 ρ1 R1 sb ex (.refl _ _) hc
  | stk =>
    rw [hf] at q
    exact q
theorem dTV.toS {W : WX} {F : Hp} {S : DS} {σ : St} {H B : Hp} {ρ : List Addr} {D : Ends} {t : DS → Res (List TW.D)} {k : List TW.D → DS → Out} {G : List V → Hp → Prop} (R : Rel Z F S σ H B ρ) (q : WpS Z F B ρ σ A W D ((t S).toOut k))
    (hk : ∀ r S1 x H1 B1 ρ1, Rel Z F S1 σ H1 B1 ρ1 → Same B B1 → Ex ρ ρ1 → VRs Z B1 ρ1 x r → WpS Z F B1 ρ1 σ A W D (k r S1) → G x H1) : dTV Z t W σ H G := by
  refine ⟨F, S, B, ρ, R, ?_⟩
  cases hf : t S with
  | ok r S1 =>
    rw [hf] at q
    exact fun x H1 B1 ρ1 R1 sb ex rv => hk r S1 x H1 B1 ρ1 R1 sb ex rv (WpS.later sb ex q)
  | exc c S1 =>
    rw [hf] at q
    exact fun cls H1 B1 ρ1 R1 sb ex hc => q cls σ H1 B1 ρ1 R1 sb ex (.refl _ _) hc
  | stk =>
    rw [hf] at q
    exact q
theorem dst_expr (he : DE Z X e fe) (hs : swapsWith e none pos.line X.env = pure false) : DSt Z X (.Expr e pos) (oExpr fe) [] := ⟨fun W tk => PS.imp (ps_expr (he.run W tk) hs) fun D σ H ⟨F, S, B, ρ, R, q⟩ =>
  dTE.toS R q fun r S1 x H1 B1 ρ1 R1 sb ex rv hw => hw σ H1 B1 ρ1 R1 (fun _ _ z => z) (.refl ρ1) (.refl _ σ)⟩
/-- what a name is given -/
theorem set_of {W : WX} {F : Hp} {S1 : DS} {σ : St} {H1 B1 : Hp} {ρ1 : List Addr} {D : Ends} {i : Nat} {r : RV} {x : V} (R1 : Rel Z F S1 σ H1 B1 ρ1) (rv : RVR Z F S1 σ H1 B1 ρ1 x r)
    (hw : WpS Z F B1 ρ1 σ [i] W D (setOut i r S1)) : D.nx (σ.set i (some x)) H1 := by
  cases r with
  | val d => exact hw _ H1 B1 ρ1 (R1.setVal rv i) (fun _ _ z => z) (.refl ρ1) (.set σ i _)
  | own c => exact hw _ H1 B1 ρ1 (R1.setOwn rv i) (fun _ _ z => z) (.refl ρ1) (.set σ i _)
  | plc k =>
    unfold setOut at hw
    dsimp only at hw
    cases hs : settle (.plc k) S1 with
    | ok d S2 =>
      rw [hs] at hw
      obtain ⟨B2, R2, sb2, rv2⟩ := settle_ok R1 rv hs
      exact hw _ H1 B2 ρ1 (R2.setVal rv2 i) sb2 (.refl ρ1) (.set σ i _)
    | exc c S2 => exact (settle_exc hs).elim
    | stk =>
      rw [hs] at hw
      exact hw.elim
theorem dst_set {i : Nat} {x : Str} {pos' : Pos} (hN : X.N.Nodup) (hi : X.N[i]? = some x) (hx : Loc X.env.scope x) (hf : X.fn x = true ∨ X.env.scope.names.lookup x = some .local) (he : DE Z X e fe) (hs : swapsWith e (some (.Name x pos')) pos.line X.env = pure false) :
    DSt Z X (.Assign [.Name x pos'] e pos) (oSet i fe) [i] := ⟨fun W tk => PS.imp (ps_set hN hi hx (he.run W tk) hs hf) fun D σ H ⟨F, S, B, ρ, R, q⟩ => dTE.toS R q fun r S1 x H1 B1 ρ1 R1 sb ex rv hw => set_of R1 rv hw⟩
theorem dst_setLc {i : Nat} {y : Str} {py : Pos} {elt tg iter : Expr} {ifs : List Expr} {scope : Scope} {own : List (Str × Nat)} {pos spos : Pos} {src : DS → Res Src} {g : D → DS → Res Unit} {A : List Nat} {tt : DS → Res Bool} {te : DS → Res RV} (hc : X.calm = true) (hN : X.N.Nodup) (hy : X.N[i]? = some y) (hyl : X.env.scope.names.lookup y = some .local)
    (hsw : swapsWith (.ListComp elt [⟨tg, iter, ifs, 0⟩] scope pos) (some (.Name y py)) spos.line X.env = pure true) (hi : DI Z X tg iter src) (ok : BlkOk X.N X.env.scope scope own)
    (hA : ∀ i, i ∈ A → i ∈ own.map (·.2))
    (hg : ∀ (s : Shared) (H : Hp) (C : Addr) (cl : List (Str × Addr)) (fp : List Addr), DG Z (X.blk s H scope (compEnvC scope cl C X.env) fp) tg g A) (ht : ∀ (s : Shared) (H : Hp) (C : Addr) (cl : List (Str × Addr)) (fp : List Addr), DTs Z (X.blk s H scope (compEnvC scope cl C X.env) fp) ifs tt)
    (he : ∀ (s : Shared) (H : Hp) (C : Addr) (cl : List (Str × Addr)) (fp : List Addr), DE Z (X.blk s H scope (compEnvC scope cl C X.env) fp) elt te) (hs : ∀ x, foldedSetIterable iter X.env x = pure x) :
    DSt Z X (.Assign [.Name y py] (.ListComp elt [⟨tg, iter, ifs, 0⟩] scope pos) spos) (oSet i (dLc src g tt te (own.map (·.2)))) [i] := ⟨fun W tk =>
  PS.imp (ps_setLc hc hN hy hyl hsw (hi.run W tk) ok (fun s H C cl fp => (hg s H C cl fp).run) (fun s H C cl fp => (ht s H C cl fp).run _ takes0) (fun s H C cl fp => (he s H C cl fp).run _ takes0) hs) fun D σ H ⟨F, S, B, ρ, R, q⟩ => by
  show tLc _ _ _ _ _ σ H fun x H1 => gName i x σ H1 D.nx
  have key : dTE Z (dLc src g tt te (own.map (·.2))) W σ H fun x H1 => D.nx (σ.set i (some x)) H1 := dTE.toS R q fun r S1 x H1 B1 ρ1 R1 sb ex rv hw => set_of R1 rv hw
  obtain ⟨F', S', B', ρ', R', q'⟩ := key
  exact lc_of hA R' q'⟩
theorem dst_ret (he : DE Z X e fe) : DSt Z X (.Return (some e) pos) (oRet fe) [] := ⟨fun W tk => PS.imp (ps_ret (he.run W tk)) fun D σ H ⟨F, S, B, ρ, R, q⟩ =>
  dTE.toS R q fun r S1 x H1 B1 ρ1 R1 sb ex rv hw => by
    cases r with
    | val d => exact hw x H1 B1 ρ1 R1.toRelH (fun _ _ z => z) (.refl ρ1) rv
    | own c =>
      obtain ⟨a, rfl, h1, f1, f2, f3, f4⟩ := rv
      exact hw _ H1 B1 ρ1 R1.toRelH (fun _ _ z => z) (.refl ρ1) ⟨a, rfl, h1, f1, f2, f3⟩
    | plc i =>
      dsimp only at hw
      split at hw
      · rename_i d hd
        obtain ⟨v, e1, e2⟩ := R1.vals i d hd
        have e3 : σ[i]? = some (some x) := rv
        rw [e1] at e3
        cases e3
        exact hw x H1 B1 ρ1 R1.toRelH (fun _ _ z => z) (.refl ρ1) e2
      · rename_i c hd
        obtain ⟨a, e1, e2, e4, e5, e6⟩ := R1.owns i c _ hd
        have e5 := e5.free
        have e3 : σ[i]? = some (some x) := rv
        rw [e1] at e3
        cases e3
        exact hw _ H1 B1 ρ1 R1.toRelH (fun _ _ z => z) (.refl ρ1) ⟨a, rfl, e2, e4, e5, e6⟩
      · exact hw.elim⟩
theorem dst_retN : DSt Z X (.Return none pos) (fun S => .ret (.val .non) S) [] := ⟨fun W tk => PS.imp ps_retN fun D σ H ⟨F, S, B, ρ, R, q⟩ => q .non H B ρ R.toRelH (fun _ _ z => z) (.refl ρ) .non⟩
theorem dst_pass : DSt Z X (.Pass pos) oNext [] := ⟨fun W tk => PS.imp ps_pass fun D σ H ⟨F, S, B, ρ, R, q⟩ => q σ H B ρ R (fun _ _ z => z) (.refl ρ) (.refl _ σ)⟩
theorem dst_break : DSt Z X (.Break pos) (fun S => .brk S) [] := ⟨fun W tk => PS.imp ps_break fun D σ H ⟨F, S, B, ρ, R, q⟩ => q σ H B ρ R (fun _ _ z => z) (.refl ρ) (.refl _ σ)⟩
theorem dst_cont : DSt Z X (.Continue pos) (fun S => .cont S) [] := ⟨fun W tk => PS.imp ps_continue fun D σ H ⟨F, S, B, ρ, R, q⟩ => q σ H B ρ R (fun _ _ z => z) (.refl ρ) (.refl _ σ)⟩
theorem dst_if {t : DS → Res Bool} {a b : List Stmt} (hc : DT Z X c t) (ha : DSs Z X a f A) (hb : DSs Z X b g A') : DSt Z X (.If c a b pos) (oIf t f g) (A ++ A') := ⟨fun W tk => PS.imp (ps_if (hc.run W tk) (ha.run W tk) (hb.run W tk)) fun D σ H ⟨F, S, B, ρ, R, q⟩ =>
  dTT.toS R q fun r S1 H1 B1 ρ1 R1 sb ex hw => by
    cases r with
    | true =>
      rw [if_pos rfl] at hw ⊢
      exact ⟨F, S1, B1, ρ1, R1, WpS.mono (fun j hj => List.mem_append_left _ hj) hw⟩
    | false =>
      rw [if_neg Bool.false_ne_true] at hw ⊢
      exact ⟨F, S1, B1, ρ1, R1, WpS.mono (fun j hj => List.mem_append_right _ hj) hw⟩⟩
theorem alive_none {s : Src} {S : DS} (h : s.lk = .no) : Alive s S := by
  unfold Alive
  rw [h]
  trivial
theorem forLoopA_none {s : Src} {tg : TW.D → DS → Res Unit} {body : DS → Out} (h : s.lk = .no) : ∀ (xs : List TW.D) (S : DS), forLoopA s tg body xs S = forLoop tg body xs S
  | [], S => by
    unfold forLoopA forLoop
    rw [if_pos (alive_none h)]
    unfold unlock
    rw [h]
  | x :: xs, S => by
    unfold forLoopA forLoop
    rw [if_pos (alive_none h)]
    cases htg : tg x S with
    | ok u S1 =>
      dsimp only
      cases hb : body S1 with
      | next S2 => exact forLoopA_none h xs S2
      | cont S2 => exact forLoopA_none h xs S2
      | brk S2 =>
        dsimp only
        rw [if_pos (alive_none h)]
        unfold unlock
        rw [h]
      | _ => rfl
    | _ => rfl
theorem dst_for {src : DS → Res Src} {g : TW.D → DS → Res Unit} {body : List Stmt} (hp : PassesOwn (model X.prog X.w) X.A X.env X.xe) (hc : X.calm = true) (hi : DI Z X tg iter src) (hg : DG Z X tg g A) (hb : DSs Z X body f A')
    (hs : ∀ x, foldedSetIterable iter X.env x = pure x) : DSt Z X (.For tg iter body [] pos) (oFor (A ++ A') src g f) (A ++ A') := ⟨fun W tk => PS.imp (ps_for hp hc (hi.run W tk) hg.run (hb.run W tk) hs) fun D σ H ⟨F, S, B, ρ, R, q⟩ => by
  refine ⟨F, S, B, ρ, R, ?_⟩
  unfold oFor at q
  cases hsrc : src S with
  | exc c S1 =>
    rw [hsrc] at q
    exact fun cls H1 B1 ρ1 R1 sb ex hc => q cls σ H1 B1 ρ1 R1 sb ex (.refl _ _) hc
  | stk =>
    rw [hsrc] at q
    exact q
  | ok s S1 =>
    rw [hsrc] at q
    dsimp only [Res.toOut] at q
    intro J H1 B1 ρ1 R1 sb ex wk
    have q2 : (∀ j, s.at_ = some j → j ∉ A ++ A') ∧ WpS Z F B ρ σ (A ++ A') W D (forLoopA s g f s.items S1) := by
      split at q
      · rename_i hl
        exact ⟨(fun j e => by unfold Src.at_ at e; rw [hl] at e; cases e), by rw [forLoopA_none hl]; exact q⟩
      · rename_i hl
        exact ⟨(fun j e => by unfold Src.at_ at e; rw [hl] at e; cases e), q⟩
      · rename_i j _ _ hl
        split at q
        · exact q.elim
        · rename_i hn
          refine ⟨fun k e hk => ?_, q⟩
          unfold Src.at_ at e
          rw [hl] at e
          cases e
          exact hn (List.contains_iff_mem.mpr hk)
    obtain ⟨nj, q⟩ := q2
    have wσ : ∀ {σ2 : St}, Keeps (A ++ A') σ σ2 → ∀ j, s.at_ = some j → σ2[j]? = σ[j]? := fun k j h => k.2 j (nj j h)
    refine ⟨fun i m σ2 H2 => m = s.items.length - i ∧ i ≤ s.items.length ∧ ∃ S2 B2 ρ2, Rel Z F S2 σ2 H2 B2 ρ2 ∧ Same B1 B2 ∧ Ex ρ1 ρ2 ∧ Keeps (A ++ A') σ σ2 ∧ WpS Z F B ρ σ (A ++ A') W D (forLoopA s g f (s.items.drop i) S2), ⟨_, rfl, Nat.zero_le _, S1, B1, ρ1, R1, fun _ _ z => z, .refl ρ1, .refl _ σ, by rw [List.drop_zero]; exact q⟩, ?_⟩
    rintro i m σ2 H2 ⟨rfl, hi, S2, B2, ρ2, R2, sb2, ex2, k2, hw⟩
    by_cases hlt : i < s.items.length
    · have ed : s.items.drop i = s.items[i] :: s.items.drop (i + 1) := List.drop_eq_getElem_cons hlt
      rw [ed] at hw
      unfold forLoopA at hw
      split at hw
      · rename_i al
        obtain ⟨g1, g2⟩ := wk.go _ S2 _ H2 B2 ρ2 i s.items[i] R2 (fun _ _ z => z) sb2 ex2 al (wσ k2) (List.getElem?_eq_getElem hlt)
        refine .inr ⟨g1, _, fun σ' H' hN => ⟨s.items.length - (i + 1), by omega, hN⟩, fun x H' y => ?_⟩
        obtain ⟨B3, R3, sb3, rx⟩ := g2 x H' y
        refine ⟨F, S2, B3, ρ2, s.items[i], R3, rx, ?_⟩
        cases htg : g s.items[i] S2 with
        | exc c S4 =>
          rw [htg] at hw
          exact hw.elim
        | stk =>
          rw [htg] at hw
          exact hw.elim
        | ok u S4 =>
          rw [htg] at hw
          dsimp only at hw
          intro σ4 R4 k4
          refine ⟨F, S4, B3, ρ2, R4, ?_⟩
          have again : ∀ S5, WpS Z F B ρ σ (A ++ A') W D (forLoopA s g f (s.items.drop (i + 1)) S5) → NX Z F B3 ρ2 σ4 A' (fun σ' H' => s.items.length - (i + 1) = s.items.length - (i + 1) ∧ i + 1 ≤ s.items.length ∧ ∃ S2 B2 ρ2, Rel Z F S2 σ' H' B2 ρ2 ∧ Same B1 B2 ∧ Ex ρ1 ρ2 ∧ Keeps (A ++ A') σ σ' ∧ WpS Z F B ρ σ (A ++ A') W D (forLoopA s g f (s.items.drop (i + 1)) S2)) S5 := fun S5 h5 σ5 H5 B5 ρ5 R5 sb5 ex5 k5 =>
            ⟨rfl, hlt, S5, B5, ρ5, R5, (sb2.trans sb3).trans sb5, ex2.trans ex5, (k2.trans (k4.trans k5)).mono (fun j hj => by simp only [List.mem_append] at hj ⊢; rcases hj with (h | h) | h | h <;> simp [h]), h5⟩
          have up : ∀ {P : St → Hp → Prop} {S5 : DS}, NX Z F B ρ σ (A ++ A') P S5 → NX Z F B3 ρ2 σ4 A' P S5 := fun h σ5 H5 B5 ρ5 R5 sb5 ex5 k5 => h σ5 H5 B5 ρ5 R5 (((sb.trans sb2).trans sb3).trans sb5) ((ex.trans ex2).trans ex5) ((k2.trans (k4.trans k5)).mono (fun j hj => by simp only [List.mem_append] at hj ⊢; rcases hj with (h | h) | h | h <;> simp [h]))
          cases hf : f S4 with
          | next S5 =>
            rw [hf] at hw
            exact again S5 hw
          | cont S5 =>
            rw [hf] at hw
            exact again S5 hw
          | brk S5 =>
            rw [hf] at hw
            dsimp only at hw
            split at hw
            · rename_i al5
              exact fun σ5 H5 B5 ρ5 R5 sb5 ex5 k5 => up hw σ5 H5 B5 ρ5 (R5.unlock al5) sb5 ex5 k5
            · exact hw.elim
          | ret r S5 =>
            rw [hf] at hw
            exact fun v H5 B5 ρ5 R5 sb5 ex5 rv => hw v H5 B5 ρ5 R5 (((sb.trans sb2).trans sb3).trans sb5) ((ex.trans ex2).trans ex5) rv
          | exc c S5 =>
            rw [hf] at hw
            exact fun cls σ5 H5 B5 ρ5 R5 sb5 ex5 k5 hc => hw cls σ5 H5 B5 ρ5 R5 (((sb.trans sb2).trans sb3).trans sb5) ((ex.trans ex2).trans ex5) ((k2.trans (k4.trans k5)).mono (fun j hj => by simp only [List.mem_append] at hj ⊢; rcases hj with (h | h) | h | h <;> simp [h])) hc
          | stk =>
            rw [hf] at hw
            exact hw
      · exact hw.elim
    · have e : i = s.items.length := by omega
      subst e
      rw [List.drop_length] at hw
      unfold forLoopA at hw
      split at hw
      · rename_i al
        exact .inl ⟨wk.stop _ S2 _ H2 B2 ρ2 _ R2 (fun _ _ z => z) sb2 ex2 al (wσ k2) (Nat.le_refl _), hw σ2 H2 B2 ρ2 (R2.unlock al) (sb.trans sb2) (ex.trans ex2) k2⟩
      · exact hw.elim⟩
theorem WpS.shift1 {W : WX} {F : Hp} {σ σ1 : St} {B B1 : Hp} {ρ ρ1 : List Addr} {D : Ends} {o : Out} (sb : Same B B1) (ex : Ex ρ ρ1) (k : Keeps A σ σ1) (h : WpS Z F B ρ σ A W D o) : WpS Z F B1 ρ1 σ1 A W D o :=
  WpS.shift (A := A) sb ex k (WpS.mono (fun j hj => by simpa using hj) h)
theorem dst_while {t : DS → Res Bool} {body : List Stmt} (n : Nat) (hp : PassesOwn (model X.prog X.w) X.A X.env X.xe) (hc : DT Z X c t) (hb : DSs Z X body f A) : DSt Z X (.While c body [] pos) (oWhile n t f) A := ⟨fun W tk => PS.imp (ps_while hp (hc.run W tk) (hb.run W tk)) fun D σ H ⟨F, S, B, ρ, R, q⟩ => by
  refine ⟨fun m σ2 H2 => ∃ S2 B2 ρ2, Rel Z F S2 σ2 H2 B2 ρ2 ∧ WpS Z F B2 ρ2 σ2 A W D (whileLoop t f m S2), ⟨n, S, B, ρ, R, q⟩, ?_⟩
  rintro m σ2 H2 ⟨S2, B2, ρ2, R2, hw⟩
  cases m with
  | zero => exact hw.elim
  | succ m =>
    unfold whileLoop at hw
    refine dTT.toS R2 hw fun r S3 H3 B3 ρ3 R3 sb3 ex3 hw3 => ?_
    cases r with
    | false =>
      rw [if_neg Bool.false_ne_true] at hw3 ⊢
      exact hw3 σ2 H3 B3 ρ3 R3 (fun _ _ z => z) (.refl ρ3) (.refl _ σ2)
    | true =>
      rw [if_pos rfl] at hw3 ⊢
      refine ⟨fun σ' H' => ∃ S2 B2 ρ2, Rel Z F S2 σ' H' B2 ρ2 ∧ WpS Z F B2 ρ2 σ' A W D (whileLoop t f m S2), fun σ' H' h => ⟨m, Nat.lt_succ_self m, h⟩, F, S3, B3, ρ3, R3, ?_⟩
      cases hf : f S3 with
      | next S5 =>
        rw [hf] at hw3
        exact fun σ5 H5 B5 ρ5 R5 sb5 ex5 k5 => ⟨S5, B5, ρ5, R5, WpS.shift1 sb5 ex5 k5 hw3⟩
      | cont S5 =>
        rw [hf] at hw3
        exact fun σ5 H5 B5 ρ5 R5 sb5 ex5 k5 => ⟨S5, B5, ρ5, R5, WpS.shift1 sb5 ex5 k5 hw3⟩
      | brk S5 =>
        rw [hf] at hw3
        exact hw3
      | ret r S5 =>
        rw [hf] at hw3
        exact hw3
      | exc c S5 =>
        rw [hf] at hw3
        exact hw3
      | stk =>
        rw [hf] at hw3
        exact hw3⟩
/-! ### name op= e -/
theorem dst_aug {i : Nat} {x : Str} {op : Operator} {pos' : Pos} {gg : TW.D → TW.D → R} (hN : X.N.Nodup) (hi : X.N[i]? = some x) (hx : Loc X.env.scope x) (hf : X.fn x = true ∨ X.env.scope.names.lookup x = some .local) (ho : OpR X (inplaceOp op) (rD2 Z gg)) (hg : ∀ d d' c, gg d d' ≠ .own c) (he : DE Z X e fe) :
    DSt Z X (.AugAssign (.Name x pos') op e pos) (oAug i gg fe) [i] := ⟨fun W tk => PS.imp (ps_aug hN hi hx (he.run W tk) (show PIp X op (rD2 Z gg) from ho) hf) fun D σ H ⟨F, S, B, ρ, R, q⟩ => by
  unfold oAug at q
  split at q
  · rename_i d hd
    obtain ⟨v, e1, e2⟩ := R.vals i d hd
    refine ⟨v, e1, dTE.toS R q fun r S1 y H1 B1 ρ1 R1 sb ex rv hw => ?_⟩
    split at hw
    · rename_i d' hd'
      refine ⟨F, S1, σ, B1, ρ1, d, d', R1, PV.of R1.bh (e2.mono (.of_same sb) ex), peek_pv R1 rv hd', ?_⟩
      cases hr : gg d d' with
      | val z =>
        rw [hr] at hw
        exact fun w H2 B2 R2 sb2 rv2 => hw _ H2 B2 ρ1 (R2.setVal rv2 i) sb2 (.refl ρ1) (.set σ i _)
      | own c => exact absurd hr (hg d d' c)
      | exc c =>
        rw [hr] at hw
        exact hw.elim
      | stk =>
        rw [hr] at hw
        exact hw.elim
    · exact hw.elim
  · exact q.elim⟩
def gIop : Operator → TW.D → TW.D → R
  | .Add => fun d e => match d, e with
    | .int i, .int j => .val (.int (i + j))
    | .str x, .str y => if x.length + y.length ≤ sizeLine then .val (.str (x ++ y)) else .stk
    | _, _ => .stk
  | .Sub => gI fun i j => .val (.int (i - j))
  | .BitAnd => gI fun i j => .val (.int (Builtin.bitAnd i j))
  | .BitOr => gI fun i j => .val (.int (Builtin.bitOr i j))
  | .BitXor => gI fun i j => .val (.int (Builtin.bitXor i j))
  | _ => fun _ _ => .stk
theorem gI_own {f : Int → Int → R} {c : Cont} (h : ∀ i j, f i j ≠ .own c) (d d' : TW.D) : gI f d d' ≠ .own c := by
  cases d <;> cases d' <;> first | exact h _ _ | (intro z; cases z)
theorem gIop_own (op : Operator) (d d' : TW.D) (c : Cont) : gIop op d d' ≠ .own c := by
  cases op with
  | Add =>
    cases d <;> cases d' <;> first
      | (intro z; cases z; done)
      | (intro z
         change (if _ then _ else _) = _ at z
         split at z <;> cases z)
  | Sub => exact gI_own (fun _ _ z => by cases z) d d'
  | BitAnd => exact gI_own (fun _ _ z => by cases z) d d'
  | BitOr => exact gI_own (fun _ _ z => by cases z) d d'
  | BitXor => exact gI_own (fun _ _ z => by cases z) d d'
  | _ => intro z; cases z
theorem op_iop (op : Operator) : OpR X (inplaceOp op) (rD2 Z (gIop op)) := by
  cases op with
  | Add =>
    refine OpR.imp (OpR.or iop_add iop_add_str) fun x y H Q q => ?_
    obtain ⟨F, S, σ, B, ρ, d, e, R, hx, hy, q⟩ := q
    unfold gIop at q
    dsimp only at q
    split at q
    · exact .inl ⟨_, _, hx.int, hy.int, q.int R⟩
    · split at q
      · exact .inr ⟨_, _, hx.str, hy.str, by assumption, q.str R⟩
      · exact q.elim
    · exact q.elim
  | Sub => exact op_ints0 iop_sub
  | BitAnd => exact op_ints0 iop_and
  | BitOr => exact op_ints0 iop_or
  | BitXor => exact op_ints0 iop_xor
  | _ => exact op_never
/-! ### several names at once -/
theorem dst_unp {is : List Nat} {es : List Expr} {k : Nat} {pos' : Pos} (hg : DG Z X (.Tuple es k pos') (tgTup is) is) (he : DE Z X e fe) (hs : swapsWithSole [.Tuple es k pos'] e pos.line X.env = pure false) (hw : swappedStores [.Tuple es k pos'] e X.env = pure none) (h1 : (assignEach [.Tuple es k pos'] X.env).map (·.2) = [assign (.Tuple es k pos') X.env]) :
    DSt Z X (.Assign [.Tuple es k pos'] e pos) (oUnp is fe) is := ⟨fun W tk => PS.imp (ps_asg (he.run W tk) hg.run hs hw h1) fun D σ H ⟨F, S, B, ρ, R, q⟩ => dTE.toS R q fun r S1 x H1 B1 ρ1 R1 sb ex rv hw => by
  cases r with
  | val d =>
    refine ⟨F, S1, B1, ρ1, d, R1, rv, ?_⟩
    dsimp only at hw
    cases ht : tgTup is d S1 with
    | ok u S2 =>
      rw [ht] at hw
      exact fun σ' R' k' => hw σ' H1 B1 ρ1 R' (fun _ _ z => z) (.refl ρ1) k'
    | exc c S2 =>
      exfalso
      have go : ∀ (is : List Nat) (ds : List TW.D) (S S2 : DS) (c : Str), tgs is ds S ≠ .exc c S2 := by
        intro is
        induction is with
        | nil =>
          intro ds S S2 c h
          cases ds <;> cases h
        | cons i is ih =>
          intro ds S S2 c h
          cases ds with
          | nil => cases h
          | cons d ds => exact ih ds _ S2 c h
      unfold tgTup at ht
      split at ht
      · exact go _ _ _ _ _ ht
      · cases ht
    | stk =>
      rw [ht] at hw
      exact hw.elim
  | own c => exact hw.elim
  | plc i => exact hw.elim⟩
theorem dst_par {i j : Nat} {x y : Str} {a b : Expr} {px py pt : Pos} {kt k2 : Nat} {pt2 : Pos} {fs : DS → Res (List TW.D)} (hc : X.calm = true) (hN : X.N.Nodup) (hi : X.N[i]? = some x) (hj : X.N[j]? = some y) (hij : i ≠ j)
    (hx : X.env.scope.names.lookup x = some .local) (hy : X.env.scope.names.lookup y = some .local) (ha : DV Z X [a, b] fs)
    (hw : swappedStores [.Tuple [.Name x px, .Name y py] kt pt] (.Tuple [a, b] k2 pt2) X.env = pure (some [x, y])) (hs : swapsWithSole [.Tuple [.Name x px, .Name y py] kt pt] (.Tuple [a, b] k2 pt2) pos.line X.env = pure false) :
    DSt Z X (.Assign [.Tuple [.Name x px, .Name y py] kt pt] (.Tuple [a, b] k2 pt2) pos) (oPar i j fs) [i, j] := ⟨fun W tk => PS.imp (ps_par hc hN hi hj hij hx hy (ha.run W tk) hw hs) fun D σ H ⟨F, S, B, ρ, R, q⟩ => dTV.toS R q fun ds S1 xs H1 B1 ρ1 R1 sb ex rv hw => by
  split at hw
  · rename_i d d'
    cases rv with
    | cons h1 t =>
      cases t with
      | cons h2 t =>
        cases t
        exact ⟨_, _, rfl, hw _ H1 B1 ρ1 ((R1.setVal h1 i).setVal h2 j) (fun _ _ z => z) (.refl ρ1) ((Keeps.set σ i _).trans (Keeps.set _ j _))⟩
  · exact hw.elim⟩
/-! ### raise -/
theorem dst_raise {x m : Str} {C : Addr} {j : Nat} {p p2 pos' : Pos} {B0 newId initId : String} {bmB : List Value} (hc : X.calm = true) (F : ExcBaseFacts B0 newId initId bmB) (q : PySem.W.excIn X.K C bmB newId = true) (gC : X.mg x = some (.ref C)) (kC : PySem.W.keepIn X.K (.ref C) = true) (r : Raises X (.ref C)) (hg : Gl X x) (hdb : (x == ("__debug__" : Str)) = false) (hZ : Z.EX x (.ref C)) :
    DSt Z X (.Raise (some (.Call (.Name x p) [.Constant (.str m) j p2] [] pos')) none pos) (oRaise x) [] := ⟨fun W tk => PS.imp (ps_raise hc tk (pmk_own F q gC kC r hg hdb)) fun D σ H ⟨F, S, B, ρ, R, q⟩ => q (.ref C) σ H B ρ R (fun _ _ z => z) (.refl ρ) (.refl _ σ) hZ⟩
end
end TW
/-! TW9: methods that change an owned list. -/
namespace TW
open PySem PySem.Spec L2

def contAt (r : RV) (S : DS) : Option Cont := match r with
  | .plc i => (match S.sl[i]? with
    | some (some (.own c _)) => some c
    | _ => none)
  | .val (.ref k) => (match S.L[k]? with
    | some (.con c _) => some c
    | _ => none)
  | _ => none
def isLst : Cont → Bool
  | .lst _ => true
  | _ => false
def isDct : Cont → Bool
  | .dic _ => true
  | _ => false
def putAt (r : RV) (c : Cont) (S : DS) : DS := match r with
  | .plc i => { S with sl := S.sl.set i (some (.own c false)) }
  | .val (.ref k) => { S with L := S.L.set k (.con c false) }
  | _ => S
/-- free to be changed -/
def freeAt (r : RV) (S : DS) : Bool := match r with
  | .plc i => (match S.sl[i]? with
    | some (some (.own _ false)) => true
    | _ => false)
  | .val (.ref k) => (match S.L[k]? with
    | some (.con _ false) => true
    | _ => false)
  | _ => false
abbrev MutF := Cont → List D → Option (Cont × D)
def dMut (sel : Cont → Bool) (g : MutF) (fr : DS → Res RV) (fa : DS → Res (List D)) : DS → Res RV := fun S => (fr S).bind fun r S1 => match contAt r S1 with
  | some c0 => if sel c0 = true then (fa S1).bind fun ds S2 => (match contAt r S2 with
    | some c => if freeAt r S2 = true then (match g c ds with
      | some (c', d) => .ok (.val d) (putAt r c' S2)
      | none => .stk) else .stk
    | none => .stk) else .stk
  | none => .stk
def rMut (Z : SX) (g : MutF) : V → List V → Hp → VK → Prop := fun x vs H Q => ∃ (a : Addr) (c : Cont) (ds : List D) (c' : Cont) (d : D) (o : HO) (B : Hp) (ρ : List Addr), x = .ref a ∧ H a = some o ∧ CO Z B ρ c o ∧ Same B H ∧ VRs Z B ρ vs ds ∧ g c ds = some (c', d) ∧
  ∀ v o', CO Z B ρ c' o' → VR Z B ρ v d → Q v (upd H a o')
section
variable {Z : SX} {X : Cx} {W : WX} {F : Hp} {S : DS} {σ : St} {H B : Hp} {ρ : List Addr} {e a : Expr} {es : List Expr} {fe fa : DS → Res RV}
theorem Rel.putSlot (R : Rel Z F S σ H B ρ) {i : Nat} {c c' : Cont} {a : Addr} {o' : HO} (h : S.sl[i]? = some (some (.own c false))) (hσ : σ[i]? = some (some (.ref a))) (hc : CO Z B ρ c' o') : Rel Z F { S with sl := S.sl.set i (some (.own c' false)) } σ (upd H a o') B ρ := by
  have hi : i < S.sl.length := (List.getElem?_eq_some_iff.mp h).1
  obtain ⟨a', e1, e2, e3, e4, e5⟩ := R.owns i c false h
  rw [hσ] at e1
  cases e1
  have e4 := e4.free
  have up : ∀ b u, b ≠ a → H b = some u → upd H a o' b = some u := fun b u z q => by
    rw [upd_ne z]
    exact q
  have ow : ∀ k b, OwnAt { S with sl := S.sl.set i (some (.own c' false)) } σ k b → OwnAt S σ k b := fun k b ⟨c1, l1, q1, q2⟩ => by
    by_cases ek : i = k
    · subst ek
      exact ⟨c, false, h, q2⟩
    · rw [List.getElem?_set_ne ek] at q1
      exact ⟨c1, l1, q1, q2⟩
  refine ⟨⟨fun b u q => up b u (fun z => by rw [z, e3] at q; cases q) (R.bh _ _ q), fun b u q => up b u (fun z => by rw [z, e4] at q; cases q) (R.fh _ _ q), R.fb, R.rlen, R.rnd, R.rb, R.rf, fun k b u h1 h2 => ?_⟩, by simpa using R.len, fun k d q => ?_, fun k c1 l1 q => ?_, fun j k b q1 q2 => R.sep j k b (ow j b q1) (ow k b q2), excs_set (fun c => by simp) R.excs⟩
  · have nb : b ≠ a := fun z => e5 (by rw [← z]; exact List.mem_of_getElem? h1)
    exact LR.at_ (upd_ne nb) (R.hp k b u h1 h2)
  · by_cases ek : i = k
    · subst ek
      rw [List.getElem?_set_self hi] at q
      cases q
    · rw [List.getElem?_set_ne ek] at q
      exact R.vals k d q
  · by_cases ek : i = k
    · subst ek
      rw [List.getElem?_set_self hi] at q
      cases q
      exact ⟨a, hσ, ⟨o', hc, .inl upd_same⟩, e3, FA.of e4, e5⟩
    · rw [List.getElem?_set_ne ek] at q
      obtain ⟨b, q1, q2, q4⟩ := R.owns k c1 l1 q
      have nb : b ≠ a := fun z => ek (R.sep i k a ⟨c, false, h, hσ⟩ ⟨c1, l1, q, by rw [q1, z]⟩)
      exact ⟨b, q1, CR.at_ (upd_ne nb) q2, q4⟩
theorem Rel.putHeap (R : Rel Z F S σ H B ρ) {k : Nat} {l0 l' : LO} {a : Addr} {o' : HO} (h : S.L[k]? = some l0) (hρ : ρ[k]? = some a) (hf : F a = none) (hf' : LF F a l') (hl : LR Z B ρ (upd H a o') a l') : Rel Z F { S with L := S.L.set k l' } σ (upd H a o') B ρ := by
  have hk : k < S.L.length := (List.getElem?_eq_some_iff.mp h).1
  have hm : a ∈ ρ := List.mem_of_getElem? hρ
  have e3 := R.rb a hm
  have up : ∀ b u, b ≠ a → H b = some u → upd H a o' b = some u := fun b u z q => by
    rw [upd_ne z]
    exact q
  refine ⟨⟨fun b u q => up b u (fun z => by rw [z, e3] at q; cases q) (R.bh _ _ q), fun b u q => up b u (fun z => by rw [z, hf] at q; cases q) (R.fh _ _ q), R.fb, by simpa using R.rlen, R.rnd, R.rb, fun j b u h1 h2 => ?_, fun j b u h1 h2 => ?_⟩, R.len, R.vals, fun i c1 l1 q => ?_, R.sep, R.excs⟩
  · by_cases ej : k = j
    · subst ej
      have h2 : (S.L.set k l')[k]? = some u := h2
      rw [List.getElem?_set_self hk] at h2
      cases h2
      rw [hρ] at h1
      cases h1
      exact hf'
    · have h2 : (S.L.set k l')[j]? = some u := h2
      rw [List.getElem?_set_ne ej] at h2
      exact R.rf j b u h1 h2
  · by_cases ej : k = j
    · subst ej
      have h2 : (S.L.set k l')[k]? = some u := h2
      rw [List.getElem?_set_self hk] at h2
      cases h2
      rw [hρ] at h1
      cases h1
      exact hl
    · have h2 : (S.L.set k l')[j]? = some u := h2
      rw [List.getElem?_set_ne ej] at h2
      have nb : b ≠ a := fun z => by
        rw [z] at h1
        obtain ⟨q1, q2⟩ := List.getElem?_eq_some_iff.mp hρ
        obtain ⟨q3, q4⟩ := List.getElem?_eq_some_iff.mp h1
        exact ej ((List.getElem_inj R.rnd).mp (q2.trans q4.symm))
      exact LR.at_ (upd_ne nb) (R.hp j b u h1 h2)
  · obtain ⟨b, q1, q2, q4, q5, q6⟩ := R.owns i c1 l1 q
    have nb : b ≠ a := fun z => q6 (by rw [z]; exact hm)
    exact ⟨b, q1, CR.at_ (upd_ne nb) q2, q4, q5, q6⟩
/-- where an owned thing stands -/
theorem cont_at (R : Rel Z F S σ H B ρ) {r : RV} {x : V} {c : Cont} (rv : RVR Z F S σ H B ρ x r) (h : contAt r S = some c) : ∃ a lk, x = .ref a ∧ CR Z B ρ H a c lk ∧ (freeAt r S = true → lk = false ∧ ∀ c' o', CO Z B ρ c' o' → Rel Z F (putAt r c' S) σ (upd H a o') B ρ) := by
  unfold contAt at h
  split at h
  · rename_i i
    split at h
    · rename_i c1 lk hc
      cases h
      obtain ⟨a, e1, e2, e3, e4, e5⟩ := R.owns i _ _ hc
      have e6 : σ[i]? = some (some x) := rv
      rw [e1] at e6
      cases e6
      refine ⟨a, lk, rfl, e2, fun hf => ?_⟩
      unfold freeAt at hf
      dsimp only at hf
      split at hf
      · rename_i hq
        rw [hc] at hq
        cases hq
        exact ⟨rfl, fun c' o' ho => R.putSlot hc e1 ho⟩
      · cases hf
    · cases h
  · rename_i k
    split at h
    · rename_i c1 lk hc
      cases h
      have rv' : VR Z B ρ x (.ref k) := rv
      cases rv' with
      | ref hρ =>
        refine ⟨_, lk, rfl, R.hp k _ _ hρ hc, fun hf => ?_⟩
        unfold freeAt at hf
        dsimp only at hf
        split at hf
        · rename_i hq
          rw [hc] at hq
          cases hq
          have f0 : F _ = none := FA.free (R.rf k _ _ hρ hc)
          exact ⟨rfl, fun c' o' ho => R.putHeap hc hρ f0 (FA.of f0) ⟨o', ho, .inl upd_same⟩⟩
        · cases hf
    · cases h
  · cases h
def tyC : Cont → String
  | .lst _ => "list"
  | .dic _ => "dict"
theorem CR.tyV {a : Addr} {c : Cont} {K : PySem.W.Frag} (h : CR Z B ρ H a c false) : L2.tyV K (tyC c) (.ref a) H := by
  obtain ⟨o, h1, h2⟩ := h
  rcases h2 with h2 | ⟨z, _⟩
  · cases c with
    | lst ds =>
      obtain ⟨xs, rfl, _⟩ := h1
      exact .inl ⟨rfl, xs, .inl (.inl h2)⟩
    | dic kvs =>
      obtain ⟨ks, rfl, _⟩ := h1
      exact .inr (.inr (.inl ⟨rfl, .inl ⟨ks, h2⟩⟩))
  · cases z
theorem CR.tyL {a : Addr} {ds : List D} {lk : Bool} {K : PySem.W.Frag} (h : CR Z B ρ H a (.lst ds) lk) : L2.tyV K "list" (.ref a) H := by
  obtain ⟨o, ⟨xs, rfl, _⟩, h2⟩ := h
  rcases h2 with h2 | ⟨_, ⟨_, z⟩, _⟩
  · exact .inl ⟨rfl, xs, .inl (.inl h2)⟩
  · cases z
/-- the end of such a method -/
theorem mut_end {g : MutF} {r : RV} {x : V} {xs : List V} {ds : List D} {Q : VK} (R : Rel Z F S σ H B ρ) (rv : RVR Z F S σ H B ρ x r) (rs : VRs Z B ρ xs ds)
    (hw : Wp (match contAt r S with
      | some c => if freeAt r S = true then (match g c ds with
        | some (c', d) => Res.ok (RV.val d) (putAt r c' S)
        | none => .stk) else .stk
      | none => .stk) (PQ Z F B ρ σ Q) (EQ Z F B ρ σ W)) : rMut Z g x xs H Q := by
  split at hw
  · rename_i c hc
    obtain ⟨a, lk, rfl, hcr, hfr⟩ := cont_at R rv hc
    split at hw
    · rename_i hf
      obtain ⟨rfl, hput⟩ := hfr hf
      split at hw
      · rename_i c' d hg
        obtain ⟨o, h1, h2⟩ := hcr
        rcases h2 with h2 | ⟨z, _⟩
        · exact ⟨a, c, ds, c', d, o, B, ρ, rfl, h2, h1, R.bh, rs, hg, fun v o' ho hv => hw v (upd H a o') B ρ (hput c' o' ho) (fun _ _ z => z) (.refl ρ) hv⟩
        · cases z
      · exact hw.elim
    · exact hw.elim
  · exact hw.elim
/-- what stands ahead of a method's name is evaluated as it is -/
def baseOk : Expr → Bool
  | .Call (.Attribute _ _ _) [] [] _ => true
  | .Call _ [] [] _ => false
  | _ => true
theorem base_of {m : Str} {env : Env} {w : Sem Value} (h : baseOk e = true) : attributeBase e m env w = w := by
  cases e with
  | Call f as ks p =>
    cases as with
    | nil =>
      cases ks with
      | nil => cases f <;> first | rfl | cases h
      | cons _ _ => first | rfl | (cases f <;> rfl)
    | cons _ _ => first | rfl | (cases f <;> rfl)
  | _ => rfl
theorem few1 {env : Env} {pos : Pos} (h : noStar a = true) : ((backTo pos (starEach [a] env)).all (fun x => !x.1) && (backToKw pos (keywordEach [] env)).all (fun x => x.1.isSome)
    && decide (([a] : List Expr).length + ([] : List Keyword).length + (if ([] : List Keyword).isEmpty then 0 else 1) < 30)) = true := by
  rw [st1 h]
  rfl
theorem few2 {env : Env} {pos : Pos} {b : Expr} (h : noStar a = true) (h' : noStar b = true) : ((backTo pos (starEach [a, b] env)).all (fun x => !x.1) && (backToKw pos (keywordEach [] env)).all (fun x => x.1.isSome)
    && decide (([a, b] : List Expr).length + ([] : List Keyword).length + (if ([] : List Keyword).isEmpty then 0 else 1) < 30)) = true := by
  rw [st2 h h']
  rfl
theorem de_mut0 {name : Str} {id : String} {g : MutF} {apos cpos : Pos} (slot : Slot "list" name id) (hty : typeOf (.builtin id) = pure (.type "method_descriptor")) (hm : MtR X id (rMut Z g)) (hb : baseOk e = true) (hline : (apos.endLine == cpos.line) = true) (he : DE Z X e fe) :
    DE Z X (.Call (.Attribute e name apos) [] [] cpos) (dMut isLst g fe (dVals [])) := ⟨fun W tk => PE.imp (pe_bm0 PySem.F.plainAttrs_list slot hty hm (he.run W tk) (base_of hb) hline) fun σ H Q ⟨F, S, B, ρ, R, q⟩ => by
  refine dTE.first R q fun r S1 x H1 B1 ρ1 R1 sb ex rv hw => ?_
  split at hw
  · rename_i c0 hc0
    split at hw
    · rename_i hl
      obtain ⟨a, lk, rfl, hcr, _⟩ := cont_at R1 rv hc0
      cases c0 with
      | lst ds => exact ⟨hcr.tyL, mut_end R1 rv .nil (Wp.mono hw (fun _ _ z => PQ.mono sb ex z) fun _ _ z => z)⟩
      | dic kvs => cases hl
    · exact hw.elim
  · exact hw.elim⟩
theorem de_mut1 {name : Str} {id : String} {g : MutF} {apos cpos : Pos} {fs : DS → Res (List D)} (slot : Slot "list" name id) (hty : typeOf (.builtin id) = pure (.type "method_descriptor")) (hm : MtR X id (rMut Z g)) (hb : baseOk e = true) (hline : (apos.endLine == cpos.line) = true) (na : noStar a = true) (he : DE Z X e fe) (ha : DV Z X [a] fs) :
    DE Z X (.Call (.Attribute e name apos) [a] [] cpos) (dMut isLst g fe fs) := ⟨fun W tk => PE.imp (pe_bm PySem.F.plainAttrs_list slot hty hm (he.run W tk) (ha.run W tk) (base_of hb) (few1 na) hline (st1 na) (plain_args [] rfl)) fun σ H Q ⟨F, S, B, ρ, R, q⟩ => by
  refine dTE.first R q fun r S1 x H1 B1 ρ1 R1 sb ex rv hw => ?_
  split at hw
  · rename_i c0 hc0
    split at hw
    · rename_i hl
      obtain ⟨a, lk, rfl, hcr, _⟩ := cont_at R1 rv hc0
      cases c0 with
      | lst ds =>
        refine ⟨hcr.tyL, dTV.first R1 hw fun es S2 xs H2 B2 ρ2 R2 sb2 ex2 rs hw2 => ?_⟩
        have st : r.still = true := by
          cases r with
          | own c => cases hc0
          | _ => rfl
        exact mut_end R2 (rv.mono st sb2 ex2) rs (Wp.mono hw2 (fun _ _ z => PQ.mono (sb.trans sb2) (ex.trans ex2) z) fun _ _ z => z)
      | dic kvs => cases hl
    · exact hw.elim
  · exact hw.elim⟩
theorem de_mut2 {name : Str} {id : String} {g : MutF} {apos cpos : Pos} {b : Expr} {fs : DS → Res (List D)} (slot : Slot "list" name id) (hty : typeOf (.builtin id) = pure (.type "method_descriptor")) (hm : MtR X id (rMut Z g)) (hb : baseOk e = true) (hline : (apos.endLine == cpos.line) = true) (na : noStar a = true) (nb : noStar b = true) (he : DE Z X e fe) (ha : DV Z X [a, b] fs) :
    DE Z X (.Call (.Attribute e name apos) [a, b] [] cpos) (dMut isLst g fe fs) := ⟨fun W tk => PE.imp (pe_bm PySem.F.plainAttrs_list slot hty hm (he.run W tk) (ha.run W tk) (base_of hb) (few2 na nb) hline (star_of na) (plain_args [b] (by rw [List.all_cons, nb]; rfl))) fun σ H Q ⟨F, S, B, ρ, R, q⟩ => by
  refine dTE.first R q fun r S1 x H1 B1 ρ1 R1 sb ex rv hw => ?_
  split at hw
  · rename_i c0 hc0
    split at hw
    · rename_i hl
      obtain ⟨a, lk, rfl, hcr, _⟩ := cont_at R1 rv hc0
      cases c0 with
      | lst ds =>
        refine ⟨hcr.tyL, dTV.first R1 hw fun es S2 xs H2 B2 ρ2 R2 sb2 ex2 rs hw2 => ?_⟩
        have st : r.still = true := by
          cases r with
          | own c => cases hc0
          | _ => rfl
        exact mut_end R2 (rv.mono st sb2 ex2) rs (Wp.mono hw2 (fun _ _ z => PQ.mono (sb.trans sb2) (ex.trans ex2) z) fun _ _ z => z)
      | dic kvs => cases hl
    · exact hw.elim
  · exact hw.elim⟩
theorem MtR.imp {id : String} {r r' : V → List V → Hp → VK → Prop} (h : MtR X id r) (i : ∀ x vs H Q, r' x vs H Q → r x vs H Q) : MtR X id r' := fun pins s σ H x xs v us Q I rx rv q => h pins s σ H x xs v us Q I rx rv (i _ _ _ _ q)
def mAppend : MutF
  | .lst ds, [d] => if ds.length < sizeLine then some (.lst (ds ++ [d]), .non) else none
  | _, _ => none
theorem mt_appendA : MtR X "list.append" (rMut Z mAppend) := MtR.imp (show MtR X "list.append" rAppend from mt_append) fun x vs H Q ⟨a, c, ds, c', d, o, B, ρ, e1, e2, e3, e4, e5, e6, e7⟩ => by
  unfold mAppend at e6
  split at e6
  · split at e6
    · rename_i hl
      cases e6
      obtain ⟨xs, rfl, h⟩ := e3
      cases e5 with
      | cons h1 t =>
        cases t
        exact ⟨a, xs, _, e1, rfl, e2, by rw [h.length]; exact hl, e7 .non _ ⟨_, rfl, h.append (.cons h1 .nil)⟩ .non⟩
    · cases e6
  · cases e6
def mExtend : MutF
  | .lst ds, [.lst es] => if ds.length + es.length ≤ sizeLine then some (.lst (ds ++ es), .non) else none
  | _, _ => none
theorem mt_extendA : MtR X "list.extend" (rMut Z mExtend) := MtR.imp (show MtR X "list.extend" rExtend from mt_extend) fun x vs H Q ⟨a, c, ds, c', d, o, B, ρ, e1, e2, e3, e4, e5, e6, e7⟩ => by
  unfold mExtend at e6
  split at e6
  · split at e6
    · rename_i hl
      cases e6
      obtain ⟨xs, rfl, h⟩ := e3
      cases e5 with
      | cons h1 t =>
        cases t
        cases h1 with
        | lst hb hs => exact ⟨a, _, xs, _, e1, rfl, e2, e4 _ _ hb, by rw [h.length, hs.length]; exact hl, e7 .non _ ⟨_, rfl, h.append hs⟩ .non⟩
    · cases e6
  · cases e6
def mClear : MutF
  | .lst _, [] => some (.lst [], .non)
  | _, _ => none
theorem mt_clearA : MtR X "list.clear" (rMut Z mClear) := MtR.imp (show MtR X "list.clear" rClear from mt_clear) fun x vs H Q ⟨a, c, ds, c', d, o, B, ρ, e1, e2, e3, e4, e5, e6, e7⟩ => by
  unfold mClear at e6
  split at e6
  · cases e6
    obtain ⟨xs, rfl, h⟩ := e3
    cases e5
    exact ⟨a, xs, e1, rfl, e2, e7 .non _ ⟨_, rfl, .nil⟩ .non⟩
  · cases e6
def mPopAt : MutF
  | .lst ds, [.int i] => if -(2 ^ 63) ≤ i ∧ i < 2 ^ 63 then (match seqIndex? i ds.length with
    | some k => (match ds[k]? with
      | some d => some (.lst (ds.eraseIdx k), d)
      | none => none)
    | none => none) else none
  | _, _ => none
theorem mt_popAtA : MtR X "list.pop" (rMut Z mPopAt) := MtR.imp (show MtR X "list.pop" rPopAt from mt_popAt) fun x vs H Q ⟨a, c, ds, c', d, o, B, ρ, e1, e2, e3, e4, e5, e6, e7⟩ => by
  unfold mPopAt at e6
  split at e6
  · split at e6
    · rename_i hi
      split at e6
      · rename_i k hk
        split at e6
        · rename_i d hd
          cases e6
          obtain ⟨xs, rfl, h⟩ := e3
          cases e5 with
          | cons h1 t =>
            cases t
            cases h1
            obtain ⟨v, h2, h3⟩ := h.get hd
            exact ⟨a, xs, _, k, v, e1, rfl, e2, hi.1, hi.2, by rw [h.length]; exact hk, h2, e7 v _ ⟨_, rfl, h.erase k⟩ h3⟩
        · cases e6
      · cases e6
    · cases e6
  · cases e6
def mPop : MutF
  | .lst ds, [] => (match ds[ds.length - 1]? with
    | some d => some (.lst ds.dropLast, d)
    | none => none)
  | _, _ => none
theorem mt_popA : MtR X "list.pop" (rMut Z mPop) := MtR.imp (show MtR X "list.pop" rPop from mt_pop) fun x vs H Q ⟨a, c, ds, c', d, o, B, ρ, e1, e2, e3, e4, e5, e6, e7⟩ => by
  unfold mPop at e6
  split at e6
  · split at e6
    · rename_i d hd
      cases e6
      obtain ⟨xs, rfl, h⟩ := e3
      cases e5
      obtain ⟨v, h2, h3⟩ := h.get hd
      exact ⟨a, xs, v, e1, rfl, e2, by rw [h.length]; exact h2, e7 v _ ⟨_, rfl, h.dropLast⟩ h3⟩
    · cases e6
  · cases e6
end
end TW
/-! TWA: try, except. -/
namespace TW
open PySem PySem.Spec L2

def SX.at_ (Z : SX) (x : Option (Str × Addr)) : SX := { Z with cur := x }
section
variable {Z : SX} {x y : Option (Str × Addr)} {B : Hp} {ρ : List Addr}
mutual
theorem VR.cur : ∀ {v : V} {d : D}, VR (Z.at_ x) B ρ v d → VR (Z.at_ y) B ρ v d
  | _, _, .non => .non
  | _, _, .bl b => .bl b
  | _, _, .int i => .int i
  | _, _, .str x => .str x
  | _, _, .tup h hs => .tup (Z := Z.at_ y) h (VRs.cur hs)
  | _, _, .lst h hs => .lst h (VRs.cur hs)
  | _, _, .scr h hs => .scr (Z := Z.at_ y) h (VRs.cur hs)
  | _, _, .dic h hs => .dic h (VRk.cur hs)
  | _, _, .ins hc h hs => .ins (Z := Z.at_ y) hc h (VRf.cur hs)
  | _, _, .ref h => .ref h
  | _, _, .exn h e n1 n2 => .exn (Z := Z.at_ y) h e n1 n2
theorem VRs.cur : ∀ {v : List V} {d : List D}, VRs (Z.at_ x) B ρ v d → VRs (Z.at_ y) B ρ v d
  | _, _, .nil => .nil
  | _, _, .cons h hs => .cons (VR.cur h) (VRs.cur hs)
theorem VRk.cur : ∀ {v : List (Key × V)} {d : List (Key × D)}, VRk (Z.at_ x) B ρ v d → VRk (Z.at_ y) B ρ v d
  | _, _, .nil => .nil
  | _, _, .cons h hs => .cons (VR.cur h) (VRk.cur hs)
theorem VRf.cur : ∀ {v : List (Str × V)} {d : List (Str × D)}, VRf (Z.at_ x) B ρ v d → VRf (Z.at_ y) B ρ v d
  | _, _, .nil => .nil
  | _, _, .cons h hs => .cons (VR.cur h) (VRf.cur hs)
end
theorem CO.cur {c : Cont} {o : HO} (h : CO (Z.at_ x) B ρ c o) : CO (Z.at_ y) B ρ c o := by
  cases c with
  | lst ds =>
    obtain ⟨xs, e, h⟩ := h
    exact ⟨xs, e, h.cur⟩
  | dic kvs =>
    obtain ⟨ks, e, h⟩ := h
    exact ⟨ks, e, h.cur⟩
theorem CR.cur {H : Hp} {a : Addr} {c : Cont} {lk : Bool} (h : CR (Z.at_ x) B ρ H a c lk) : CR (Z.at_ y) B ρ H a c lk := by
  obtain ⟨o, h1, h2⟩ := h
  exact ⟨o, h1.cur, h2⟩
theorem LR.cur {H : Hp} {a : Addr} {l : LO} (h : LR (Z.at_ x) B ρ H a l) : LR (Z.at_ y) B ρ H a l := by
  cases l with
  | con c lk => exact CR.cur h
  | ins C fs =>
    obtain ⟨Ca, dx, vs, h1, h2, h3⟩ := h
    exact ⟨Ca, dx, vs, h1, h2, h3.cur⟩
  | clo id ds =>
    obtain ⟨o, vs, h1, h2, h3⟩ := h
    exact ⟨o, vs, h1, h2, h3.cur⟩
theorem RelH.cur {F : Hp} {L : List LO} {H : Hp} (R : RelH (Z.at_ x) F L H B ρ) : RelH (Z.at_ y) F L H B ρ :=
  ⟨R.bh, R.fh, R.fb, R.rlen, R.rnd, R.rb, R.rf, fun k a o h1 h2 => (R.hp k a o h1 h2).cur⟩
def notExc : Option Sl → Bool
  | some (.exc _) => false
  | _ => true
theorem Rel.enter {F : Hp} {S : DS} {σ : St} {H : Hp} (R : Rel (Z.at_ x) F S σ H B ρ) (no : S.sl.all notExc = true) {i : Nat} {a : Addr} {cn : Str} :
    Rel (Z.at_ (some (cn, a))) F { S with sl := S.sl.set i (some (.exc cn)) } (σ.set i (some (.ref a))) H B ρ := by
  have nn : ∀ (j : Nat) c, S.sl[j]? ≠ some (some (.exc c)) := fun j c e => by
    have := List.all_eq_true.mp no _ (List.mem_of_getElem? e)
    cases this
  refine ⟨R.toRelH.cur, by simpa using R.len, fun k d q => ?_, fun k c l q => ?_, fun j k b q1 q2 => ?_, fun k c q => ?_⟩
  · by_cases e : i = k
    · subst e
      have hi : i < S.sl.length := by
        have := (List.getElem?_eq_some_iff.mp q).1
        simpa using this
      rw [List.getElem?_set_self hi] at q
      cases q
    · rw [List.getElem?_set_ne e] at q
      rw [List.getElem?_set_ne e]
      obtain ⟨v, h1, h2⟩ := R.vals k d q
      exact ⟨v, h1, h2.cur⟩
  · by_cases e : i = k
    · subst e
      have hi : i < S.sl.length := by
        have := (List.getElem?_eq_some_iff.mp q).1
        simpa using this
      rw [List.getElem?_set_self hi] at q
      cases q
    · rw [List.getElem?_set_ne e] at q
      rw [List.getElem?_set_ne e]
      obtain ⟨b, h1, h2, h3⟩ := R.owns k c l q
      exact ⟨b, h1, h2.cur, h3⟩
  · have up : ∀ k b, OwnAt { S with sl := S.sl.set i (some (.exc cn)) } (σ.set i (some (.ref a))) k b → OwnAt S σ k b := fun k b ⟨c', l', q1, q2⟩ => by
      have e : i ≠ k := fun e => by
        subst e
        have hi : i < S.sl.length := by
          have := (List.getElem?_eq_some_iff.mp q1).1
          simpa using this
        rw [List.getElem?_set_self hi] at q1
        cases q1
      rw [List.getElem?_set_ne e] at q1 q2
      exact ⟨c', l', q1, q2⟩
    exact R.sep j k b (up j b q1) (up k b q2)
  · by_cases e : i = k
    · subst e
      have hi : i < S.sl.length := by
        have := (List.getElem?_eq_some_iff.mp q).1
        simpa using this
      rw [List.getElem?_set_self hi] at q
      cases q
      exact ⟨a, rfl, List.getElem?_set_self (by rw [← R.len]; exact hi)⟩
    · rw [List.getElem?_set_ne e] at q
      exact absurd q (nn k c)
theorem Rel.leave {F : Hp} {S : DS} {σ : St} {H : Hp} (R : Rel (Z.at_ x) F S σ H B ρ) {i : Nat} (no : (S.sl.set i none).all notExc = true) : Rel (Z.at_ y) F { S with sl := S.sl.set i none } (σ.set i none) H B ρ := by
  have nn : ∀ (j : Nat) c, (S.sl.set i none)[j]? ≠ some (some (.exc c)) := fun j c e => by
    have := List.all_eq_true.mp no _ (List.mem_of_getElem? e)
    cases this
  have out : ∀ (k : Nat) s, (S.sl.set i none)[k]? = some (some s) → i ≠ k ∧ S.sl[k]? = some (some s) := fun k s q => by
    have e : i ≠ k := fun e => by
      subst e
      have hi : i < S.sl.length := by
        have := (List.getElem?_eq_some_iff.mp q).1
        simpa using this
      rw [List.getElem?_set_self hi] at q
      cases q
    rw [List.getElem?_set_ne e] at q
    exact ⟨e, q⟩
  refine ⟨R.toRelH.cur, by simpa using R.len, fun k d q => ?_, fun k c l q => ?_, fun j k b q1 q2 => ?_, fun k c q => absurd q (nn k c)⟩
  · obtain ⟨e, q⟩ := out k _ q
    rw [List.getElem?_set_ne e]
    obtain ⟨v, h1, h2⟩ := R.vals k d q
    exact ⟨v, h1, h2.cur⟩
  · obtain ⟨e, q⟩ := out k _ q
    rw [List.getElem?_set_ne e]
    obtain ⟨b, h1, h2, h3⟩ := R.owns k c l q
    exact ⟨b, h1, h2.cur, h3⟩
  · have up : ∀ k b, OwnAt { S with sl := S.sl.set i none } (σ.set i none) k b → OwnAt S σ k b := fun k b ⟨c', l', q1, q2⟩ => by
      obtain ⟨e, q⟩ := out k _ q1
      rw [List.getElem?_set_ne e] at q2
      exact ⟨c', l', q, q2⟩
    exact R.sep j k b (up j b q1) (up k b q2)
end
def endNext (i : Nat) (k : DS → Out) (S : DS) : Out := if (S.sl.set i none).all notExc = true then k { S with sl := S.sl.set i none } else .stk
def tryEnd (i : Nat) : Out → Out
  | .next S => endNext i .next S
  | .brk S => endNext i .brk S
  | .cont S => endNext i .cont S
  | .ret r S => .ret r S
  | .exc _ _ => .stk
  | .stk => .stk
/-- try: f except .. as the i-th name: g -/
def oTryAs (i : Nat) (sub : Str → Option Bool) (f : DS → Out) (g : Str → DS → Out) : DS → Out := fun S => match f S with
  | .exc cn S1 => (match sub cn with
    | some true => if S1.sl.all notExc = true then tryEnd i (g cn { S1 with sl := S1.sl.set i (some (.exc cn)) }) else .stk
    | some false => .exc cn S1
    | none => .stk)
  | o => o
theorem takes00 {X : Cx} : Takes X (fun _ _ _ _ => False) := fun _ _ ⟨_, _, _, _, _, _, _, _, _, _, _, _, _, _, _, _, w⟩ => w.elim
theorem RetR.cur {Z : SX} {x y : Option (Str × Addr)} {F H B : Hp} {ρ : List Addr} {v : V} {r : RV} (h : RetR (Z.at_ x) F H B ρ v r) : RetR (Z.at_ y) F H B ρ v r := by
  cases r with
  | val d => exact VR.cur h
  | own c =>
    obtain ⟨a, e, h1, h2⟩ := h
    exact ⟨a, e, h1.cur, h2⟩
  | plc i => exact h
section
variable {Z : SX} {X : Cx} {body suite : List Stmt} {b₀ : Stmt} {f : DS → Out} {g : Str → DS → Out} {A A' : List Nat} {pos pos' np : Pos} {x n : Str} {c : Value} {i : Nat} {sub : Str → Option Bool}
theorem dst_tryAs (hz : Z.cur = none) (hN : X.N.Nodup) (hs : X.stack = X.env :: X.outer) (hf : X.env.frame = some X.env.locals) (hi : X.N[i]? = some n) (hln : X.env.kindOf n = some .local) (hc : Names X x c)
    (hx : ∀ cn cls b, Z.EX cn cls → sub cn = some b → PySem.W.exmOne X.K cls c = some b)
    (hb : ∀ pn xe, PassesOwn (model X.prog X.w) X.A X.env xe → DSs Z (X.tr pn xe) body f A)
    (hg : ∀ a oe cls cn pn, Z.EX cn cls → Zc cls none oe → (∃ vs, oe.data = .fields vs) → DSs (Z.at_ (some (cn, a))) (X.suite a ((a, oe) :: pn)) (b₀ :: suite) (g cn) A') :
    DSt Z X (.Try body [.ExceptHandler (some (.Name x np)) (some n) (b₀ :: suite) pos'] [] [] pos) (oTryAs i sub f g) (A ++ (A' ++ [i])) := ⟨fun W tk => by
  have ez : Z = Z.at_ none := by
    unfold SX.at_
    rw [← hz]
  have hsu : ∀ (a : Addr) (oe : Obj) (cls : Value) (d : Option Addr) (pn : List (Addr × Obj)), Zc cls d oe → (∃ vs, oe.data = .fields vs) →
      PSs (X.suite a ((a, oe) :: pn)) (b₀ :: suite) (fun D σ H => ∃ cn, Z.EX cn cls ∧ d = none ∧ dTS (Z.at_ (some (cn, a))) (g cn) (fun _ _ _ _ => False) A' D σ H) := fun a oe cls d pn hz hf => ⟨fun pins s σ H D I q => by
    obtain ⟨cn, h1, rfl, h3⟩ := q
    exact ((hg a oe cls cn pn h1 hz hf).run _ takes00).run pins s σ H D I h3⟩
  refine PS.imp (ps_try_as hs hf hN hi hln hc tk (tb := fun W' => dTS Z f W' A) (fun W' pn xe tk' hp => (hb pn xe hp).run W' tk') hsu) fun D σ H ⟨F, S, B, ρ, R, q⟩ => ?_
  refine ⟨F, S, B, ρ, R, ?_⟩
  unfold oTryAs at q
  have up : ∀ j, j ∈ A → j ∈ A ++ (A' ++ [i]) := fun j hj => List.mem_append_left _ hj
  cases hfs : f S with
  | next S1 =>
    rw [hfs] at q
    exact NX.mono up q
  | brk S1 =>
    rw [hfs] at q
    exact NX.mono up q
  | cont S1 =>
    rw [hfs] at q
    exact NX.mono up q
  | ret r S1 =>
    rw [hfs] at q
    exact q
  | stk =>
    rw [hfs] at q
    exact q
  | exc cn S1 =>
    rw [hfs] at q
    dsimp only at q
    intro cls σ1 H1 B1 ρ1 R1 sb ex k1 hcn
    cases hsb : sub cn with
    | none =>
      rw [hsb] at q
      exact q.elim
    | some b =>
      rw [hsb] at q
      refine ⟨b, hx cn cls b hcn hsb, fun eb a ha => ?_, fun eb => ?_⟩
      · subst eb
        dsimp only at q
        split at q
        · rename_i hno
          have R2 : Rel (Z.at_ (some (cn, a))) F { S1 with sl := S1.sl.set i (some (.exc cn)) } (σ1.set i (some (.ref a))) H1 B1 ρ1 := by
            rw [ez] at R1
            exact R1.enter hno
          refine ⟨cn, hcn, rfl, F, _, B1, ρ1, R2, ?_⟩
          have kk : ∀ {σ2 : St}, Keeps A' (σ1.set i (some (.ref a))) σ2 → Keeps (A ++ (A' ++ [i])) σ (σ2.set i none) := fun {σ2} k2 =>
            (k1.trans ((Keeps.set σ1 i _).trans (k2.trans (Keeps.set σ2 i _)))).mono fun j hj => by
              simp only [List.mem_append, List.mem_singleton] at hj ⊢
              rcases hj with h | h | h | h
              · exact .inl h
              · exact .inr (.inr h)
              · exact .inr (.inl h)
              · exact .inr (.inr h)
          have nx : ∀ {P : St → Hp → Prop} {S2 : DS}, (S2.sl.set i none).all notExc = true → NX Z F B ρ σ (A ++ (A' ++ [i])) P { S2 with sl := S2.sl.set i none } → NX (Z.at_ (some (cn, a))) F B1 ρ1 (σ1.set i (some (.ref a))) A' (fun σ' H' => P (σ'.set i none) H') S2 := fun {P S2} hn h σ2 H2 B2 ρ2 R3 sb2 ex2 k2 => by
            have R4 : Rel Z F { S2 with sl := S2.sl.set i none } (σ2.set i none) H2 B2 ρ2 := by
              have := R3.leave (y := none) hn
              rw [← ez] at this
              exact this
            exact h _ H2 B2 ρ2 R4 (sb.trans sb2) (ex.trans ex2) (kk k2)
          cases hgs : g cn { S1 with sl := S1.sl.set i (some (.exc cn)) } with
          | next S2 =>
            rw [hgs] at q
            change WpS Z F B ρ σ _ W D (endNext i Out.next S2) at q
            unfold endNext at q
            split at q
            · exact nx (by assumption) q
            · exact q.elim
          | brk S2 =>
            rw [hgs] at q
            change WpS Z F B ρ σ _ W D (endNext i Out.brk S2) at q
            unfold endNext at q
            split at q
            · exact nx (by assumption) q
            · exact q.elim
          | cont S2 =>
            rw [hgs] at q
            change WpS Z F B ρ σ _ W D (endNext i Out.cont S2) at q
            unfold endNext at q
            split at q
            · exact nx (by assumption) q
            · exact q.elim
          | ret r S2 =>
            rw [hgs] at q
            intro v H2 B2 ρ2 R3 sb2 ex2 rv
            have R4 : RelH Z F S2.L H2 B2 ρ2 := by
              have := R3.cur (y := none)
              rw [← ez] at this
              exact this
            have rv2 : RetR Z F H2 B2 ρ2 v r := by
              have := rv.cur (y := none)
              rw [← ez] at this
              exact this
            exact q v H2 B2 ρ2 R4 (sb.trans sb2) (ex.trans ex2) rv2
          | exc c2 S2 =>
            rw [hgs] at q
            exact q.elim
          | stk =>
            rw [hgs] at q
            exact q.elim
        · exact q.elim
      · subst eb
        exact q cls σ1 H1 B1 ρ1 R1 sb ex (k1.mono up) hcn⟩
/-! ### isinstance of the exception that a suite holds -/
/-- where a suite stands -/
structure SuiteOk (Z : SX) (X : Cx) : Prop where
  ex : ∀ cn a, Z.cur = some (cn, a) → ∃ (X0 : Cx) (oe : Obj) (pn : List (Addr × Obj)) (D : Addr), X = X0.suite a ((a, oe) :: pn) ∧ ExcC X.K D ∧ Zc (.ref D) none oe ∧ (∃ vs, oe.data = .fields vs) ∧ Z.EX cn (.ref D)
def dIsE (i : Nat) (kit : Str → Option Bool) : DS → Res RV := fun S => match S.sl[i]? with
  | some (some (.exc cn)) => (match kit cn with
    | some b => .ok (.val (.bl b)) S
    | none => .stk)
  | _ => .stk
theorem de_isE {i : Nat} {n T : Str} {kit : Str → Option Bool} {p p1 p2 pos : Pos} {cv : Value} {tv : V} (hS : SuiteOk Z X) (hg : Gl X "isinstance") (hm : X.mg "isinstance" = none) (hv : PE X (.Name n p1) (tVar i)) (hT : PE X (.Name T p2) (tC tv)) (hcv : ∀ u, RelV tv u → u = cv)
    (hk : ∀ cn D b, Z.EX cn (.ref D) → kit cn = some b → PySem.W.kitOne X.K (.ref D) cv = some b) : DE Z X (.Call (.Name "isinstance" p) [.Name n p1, .Name T p2] [] pos) (dIsE i kit) := ⟨fun W tk => ⟨fun pins s σ H Q I ⟨F, S, B, ρ, R, q⟩ => by
  unfold dIsE at q
  split at q
  · rename_i cn hcn
    split at q
    · rename_i b hb
      obtain ⟨a, h1, h2⟩ := R.excs i cn hcn
      obtain ⟨X0, oe, pn, D, rfl, hC, hzc, hf, hex⟩ := hS.ex cn a h1
      refine (pe_callB (X := X0.suite a ((a, oe) :: pn)) (call_isE hC hzc hf) hg hm (by decide +kernel) (pa_cons hv (pa_cons hT pa_nil)) (by decide) (by decide)).run pins s σ H Q I ?_
      exact ⟨_, h2, tv, cv, b, rfl, hcv, hk cn D b hex hb, q (.bl b) H B ρ R (fun _ _ z => z) (.refl ρ) (.bl b)⟩
    · exact q.elim
  · exact q.elim⟩⟩
end
end TW
/-! TWB: defs that see the logical heap, methods, new instances, fields stored. -/
namespace TW
open PySem PySem.Spec L2

/-! ### the end of a def in the logical heap -/
inductive RH where
  | val (d : D) (L : List LO) | own (c : Cont) (L : List LO) | exc (c : Str) (L : List LO) | stk
def RH.lift (r : RH) (S : DS) : Res RV := match r with
  | .val d L => .ok (.val d) { S with L := L }
  | .own c L => .ok (.own c) { S with L := L }
  | .exc c L => .exc c { S with L := L }
  | .stk => .stk
def outRH : Out → RH
  | .next S => .val .non S.L
  | .ret (.val d) S => .val d S.L
  | .ret (.own c) S => .own c S.L
  | .exc c S => .exc c S.L
  | _ => .stk
def SL (n : Nat) (L : List LO) (ds : List D) : DS := ⟨ds.map (fun d => some (.val d)) ++ List.replicate (n - ds.length) none, L⟩
def fnRunH (n : Nat) (body : DS → Out) (L : List LO) (ds : List D) : RH := outRH (body (SL n L ds))
def BackH (Z : SX) (F B : Hp) (ρ : List Addr) (r : RH) (Q : VK) (E : XK) : Prop := match r with
  | .val d L => ∀ v H' B' ρ', RelH Z F L H' B' ρ' → Same B B' → Ex ρ ρ' → VR Z B' ρ' v d → Q v H'
  | .own c L => ∀ v H' B' ρ', RelH Z F L H' B' ρ' → Same B B' → Ex ρ ρ' → RetR Z F H' B' ρ' v (.own c) → Q v H'
  | .exc c L => ∀ cls H' B' ρ', RelH Z F L H' B' ρ' → Same B B' → Ex ρ ρ' → Z.EX c cls → E cls none H'
  | .stk => False
def spH (Z : SX) (n : Nat) (φ : List LO → List D → RH) : Sp := fun vs H Q E => vs.length = n ∧ ∃ F B ρ L ds, RelH Z F L H B ρ ∧ VRs Z B ρ vs ds ∧ BackH Z F B ρ (φ L ds) Q E
def noLkD : Option Sl → Bool
  | some (.own (.dic _) true) => false
  | _ => true
section
variable {Z : SX} {F : Hp} {S : DS} {σ : St} {H B : Hp} {ρ : List Addr}
open Classical in
/-- what a def called must leave alone: what others own, and what the frame's slots own -/
noncomputable def keepF (F : Hp) (S : DS) (σ : St) (H : Hp) : Hp := fun a => if ∃ i, OwnAt S σ i a then H a else F a
theorem keep_some (R : Rel Z F S σ H B ρ) {i : Nat} {a : Addr} (h : OwnAt S σ i a) : ∃ c lk, S.sl[i]? = some (some (.own c lk)) ∧ CR Z B ρ H a c lk ∧ B a = none ∧ FA F a c lk ∧ a ∉ ρ := by
  obtain ⟨c, lk, h1, h2⟩ := h
  obtain ⟨b, e1, e2⟩ := R.owns i c lk h1
  rw [h2] at e1
  cases e1
  exact ⟨c, lk, h1, e2⟩
theorem Rel.keepH (R : Rel Z F S σ H B ρ) : RelH Z (keepF F S σ H) S.L H B ρ := by
  refine ⟨R.bh, fun a o e => ?_, fun a o e => ?_, R.rlen, R.rnd, R.rb, fun k a l h1 h2 => ?_, R.hp⟩
  · unfold keepF at e
    split at e
    · exact e
    · exact R.fh _ _ e
  · unfold keepF at e
    split at e
    · rename_i h
      obtain ⟨i, h⟩ := h
      obtain ⟨_, _, _, _, h3, _⟩ := keep_some R h
      exact h3
    · exact R.fb _ _ e
  · have nn : ¬ ∃ i, OwnAt S σ i a := fun ⟨i, h⟩ => by
      obtain ⟨_, _, _, _, _, _, h5⟩ := keep_some R h
      exact h5 (List.mem_of_getElem? h1)
    have e : keepF F S σ H a = F a := by
      unfold keepF
      rw [if_neg nn]
    have q := R.rf k a l h1 h2
    cases l with
    | con c lk =>
      cases c with
      | lst ds => exact e.trans q
      | dic kvs =>
        cases lk with
        | false => exact e.trans q
        | true =>
          obtain ⟨ob, u, q⟩ := q
          exact ⟨ob, u, e.trans q⟩
    | ins C fs => exact e.trans q
    | clo id ds => exact e.trans q
theorem keepF_own (R : Rel Z F S σ H B ρ) {i : Nat} {a : Addr} (h : OwnAt S σ i a) : ∃ o, keepF F S σ H a = some o ∧ H a = some o := by
  obtain ⟨c, lk, _, h2, _⟩ := keep_some R h
  obtain ⟨o, e⟩ := h2.some
  refine ⟨o, ?_, e⟩
  unfold keepF
  rw [if_pos ⟨i, h⟩]
  exact e
theorem Rel.keepBack (R : Rel Z F S σ H B ρ) (nl : S.sl.all noLkD = true) {L' : List LO} {H' B' : Hp} {ρ' : List Addr} (R' : RelH Z (keepF F S σ H) L' H' B' ρ') (sb : Same B B') (ex : Ex ρ ρ') : Rel Z F { S with L := L' } σ H' B' ρ' := by
  have fsub : ∀ a o, F a = some o → keepF F S σ H a = some o := fun a o e => by
    unfold keepF
    split
    · exact R.fh _ _ e
    · exact e
  have fnone : ∀ a, keepF F S σ H a = none → F a = none := fun a e => by
    cases q : F a with
    | none => rfl
    | some o =>
      rw [fsub a o q] at e
      cases e
  have le := Le.of_same sb
  have nofrz : ∀ (i : Nat) (c : Cont) (lk : Bool), S.sl[i]? = some (some (Sl.own c lk)) → ∀ a, FA F a c lk → F a = none := fun i c lk h1 a h => by
    have q := List.all_eq_true.mp nl _ (List.mem_of_getElem? h1)
    cases c with
    | lst ds => exact h
    | dic kvs =>
      cases lk with
      | false => exact h
      | true => cases q
  have notr : ∀ i a, OwnAt S σ i a → a ∉ ρ' := fun i a h hm => by
    obtain ⟨k, hk⟩ := List.getElem?_of_mem hm
    have hl : k < L'.length := by
      rw [← R'.rlen]
      exact (List.getElem?_eq_some_iff.mp hk).1
    have q := R'.rf k a _ hk (List.getElem?_eq_getElem hl)
    obtain ⟨o, e1, e2⟩ := keepF_own R h
    obtain ⟨c, lk, h1, h2, _, h4, _⟩ := keep_some R h
    have hn : ∀ ob u, o ≠ .frz ob u := fun ob u z => by
      have f0 := nofrz i c lk h1 a h4
      obtain ⟨o1, g1, g2⟩ := h2
      have nk := List.all_eq_true.mp nl _ (List.mem_of_getElem? h1)
      rcases g2 with g2 | ⟨g3, ⟨ks, g4⟩, ob2, g2⟩
      · rw [e2] at g2
        cases g2
        subst z
        cases c with
        | lst ds =>
          obtain ⟨_, z, _⟩ := g1
          cases z
        | dic kvs =>
          obtain ⟨_, z, _⟩ := g1
          cases z
      · subst g3
        cases c with
        | lst ds =>
          obtain ⟨_, z, _⟩ := g1
          rw [z] at g4
          cases g4
        | dic kvs => cases nk
    revert q
    generalize L'[k] = l
    intro q
    cases l with
    | con c2 lk2 =>
      cases c2 with
      | lst ds =>
        have q : keepF F S σ H a = none := q
        rw [e1] at q
        cases q
      | dic kvs =>
        cases lk2 with
        | false =>
          have q : keepF F S σ H a = none := q
          rw [e1] at q
          cases q
        | true =>
          obtain ⟨ob, u, q⟩ := q
          rw [e1] at q
          exact hn ob u (Option.some.inj q)
    | ins C fs =>
      have q : keepF F S σ H a = none := q
      rw [e1] at q
      cases q
    | clo id ds =>
      have q : keepF F S σ H a = none := q
      rw [e1] at q
      cases q
  refine ⟨⟨R'.bh, fun a o e => R'.fh _ _ (fsub a o e), fun a o e => R'.fb _ _ (fsub a o e), R'.rlen, R'.rnd, R'.rb, fun k a l h1 h2 => ?_, R'.hp⟩, R.len, fun i d h => ?_, fun i c lk h => ?_, R.sep, R.excs⟩
  · have q := R'.rf k a l h1 h2
    have nn : ¬ ∃ i, OwnAt S σ i a := fun ⟨i, h⟩ => notr i a h (List.mem_of_getElem? h1)
    have e : keepF F S σ H a = F a := by
      unfold keepF
      rw [if_neg nn]
    cases l with
    | con c lk =>
      cases c with
      | lst ds => exact e.symm.trans q
      | dic kvs =>
        cases lk with
        | false => exact e.symm.trans q
        | true =>
          obtain ⟨ob, u, q⟩ := q
          exact ⟨ob, u, e.symm.trans q⟩
    | ins C fs => exact e.symm.trans q
    | clo id ds => exact e.symm.trans q
  · obtain ⟨v, e, h⟩ := R.vals i d h
    exact ⟨v, e, h.mono le ex⟩
  · obtain ⟨a, e, h1, h2, h3, h4⟩ := R.owns i c lk h
    obtain ⟨o, q1, q2⟩ := keepF_own R ⟨c, lk, h, e⟩
    have e3 : H' a = H a := by
      rw [q2]
      exact R'.fh _ _ q1
    exact ⟨a, e, CR.at_ e3 (h1.mono le ex), R'.fb _ _ q1, h3, notr i a ⟨c, lk, h, e⟩⟩
end

/-! ### calls -/
/-- f(..), f in the logical heap: owned lists that are handed in are frozen -/
def dCallH (φ : List LO → List D → RH) (dfl : List D) (f : DS → Res (List RV)) : DS → Res RV := fun S => (f S).bind fun rs S1 => (settleAll rs S1).bind fun ds S2 => if S2.sl.all noLkD = true then (φ S2.L (ds ++ dfl)).lift S2 else .stk
section
variable {Z : SX} {X : Cx} {W : WX} {F : Hp} {S : DS} {σ : St} {H B : Hp} {ρ : List Addr}
theorem backH_of (R : Rel Z F S σ H B ρ) (nl : S.sl.all noLkD = true) {r : RH} {Q : VK} (h : Wp (r.lift S) (PQ Z F B ρ σ Q) (EQ Z F B ρ σ W)) : BackH Z (keepF F S σ H) B ρ r Q (WE W σ) := by
  cases r with
  | val d L => exact fun v H' B' ρ' R' sb ex rv => h v H' B' ρ' (R.keepBack nl R' sb ex) sb ex rv
  | own c L =>
    intro v H' B' ρ' R' sb ex rv
    have R2 := R.keepBack nl R' sb ex
    obtain ⟨a, rfl, h1, h2, h3, h4⟩ := rv
    refine h _ H' B' ρ' R2 sb ex ⟨a, rfl, h1, h2, ?_, h4, fun i hi => ?_⟩
    · cases q : F a with
      | none => rfl
      | some o =>
        unfold keepF at h3
        split at h3
        · rw [R.fh _ _ q] at h3
          cases h3
        · rw [q] at h3
          cases h3
    · obtain ⟨c', lk', g1, g2⟩ := hi
      obtain ⟨o, q1, _⟩ := keepF_own R ⟨c', lk', g1, g2⟩
      rw [h3] at q1
      cases q1
  | exc c L => exact fun cls H' B' ρ' R' sb ex hc => h cls H' B' ρ' (R.keepBack nl R' sb ex) sb ex hc
  | stk => exact h
theorem RVRs.settled : ∀ {vs : List V} {rs : List RV} {S S' : DS} {B : Hp} {ds : List D}, Rel Z F S σ H B ρ → (∀ r ∈ rs, r.still = true) → RVRs Z F S σ H B ρ vs rs → settleAll rs S = .ok ds S' → ∃ B', Rel Z F S' σ H B' ρ ∧ Same B B' ∧ VRs Z B' ρ vs ds := fun R st h e => settleAll_ok R st h e
theorem settleAll_length : ∀ {rs : List RV} {S S' : DS} {ds : List D}, settleAll rs S = .ok ds S' → ds.length = rs.length
  | [], _, _, _, p => by
    cases p
    rfl
  | r :: rs, S, S', ds, p => by
    unfold settleAll at p
    cases hs : settle r S with
    | ok d S1 =>
      rw [hs] at p
      change (settleAll rs S1).bind _ = _ at p
      cases hs2 : settleAll rs S1 with
      | ok es S2 =>
        rw [hs2] at p
        cases p
        rw [List.length_cons, List.length_cons, settleAll_length hs2]
      | exc c S2 =>
        rw [hs2] at p
        cases p
      | stk =>
        rw [hs2] at p
        cases p
    | exc c S1 =>
      rw [hs] at p
      cases p
    | stk =>
      rw [hs] at p
      cases p
theorem dArgs_length : ∀ {fs : List (DS → Res RV)} {S S' : DS} {rs : List RV}, dArgs fs S = .ok rs S' → rs.length = fs.length
  | [], _, _, _, h => by
    cases h
    rfl
  | f :: fs, S, S', rs, h => by
    unfold dArgs at h
    cases hf : f S with
    | ok r S1 =>
      rw [hf] at h
      change (dArgs fs S1).bind _ = _ at h
      cases hs : dArgs fs S1 with
      | ok rs' S2 =>
        rw [hs] at h
        cases h
        rw [List.length_cons, List.length_cons, dArgs_length hs]
      | exc c S2 =>
        rw [hs] at h
        cases h
      | stk =>
        rw [hs] at h
        cases h
    | exc c S1 =>
      rw [hf] at h
      cases h
    | stk =>
      rw [hf] at h
      cases h
/-- settled arguments ahead of a call in the logical heap -/
theorem spH_of {φ : List LO → List D → RH} {n : Nat} {vs dvs : List V} {rs : List RV} {ds dfl : List D} {S' : DS} {Q : VK} (R0 : Rel Z F S σ H B ρ) (st : ∀ r ∈ rs, r.still = true) (rv : RVRs Z F S σ H B ρ vs rs) (hs : settleAll rs S = .ok ds S')
    (hl : (vs ++ dvs).length = n) (hd : ∀ B ρ, VRs Z B ρ dvs dfl) (h : Wp (if S'.sl.all noLkD = true then (φ S'.L (ds ++ dfl)).lift S' else .stk) (PQ Z F B ρ σ Q) (EQ Z F B ρ σ W)) : spH Z n φ (vs ++ dvs) H Q (WE W σ) := by
  refine ⟨hl, ?_⟩
  obtain ⟨B2, R2, sb2, v2⟩ := settleAll_ok R0 st rv hs
  split at h
  · rename_i nl
    exact ⟨keepF F S' σ H, B2, ρ, S'.L, ds ++ dfl, R2.keepH, v2.append (hd _ _), backH_of R2 nl (h.mono (fun _ _ z => PQ.mono sb2 (.refl ρ) z) fun _ _ z => z.mono sb2 (.refl ρ))⟩
  · exact h.elim
/-- a def in the logical heap -/
structure FnH where
  φ : List LO → List D → RH
  np : Nat
  dfl : List D := []
structure FnHOk (X : Cx) (Z : SX) (x : Str) (e : FnH) : Prop where
  ex : ∃ (f : Addr) (fd : FuncData) (ps : List Str) (k : Nat), X.mg x = some (.ref f) ∧ PySem.W.keepIn X.K (.ref f) = true ∧ FnOk X.prog X.w X.K X.mg X.base (L2.CX X.prog X.w) k f fd ps (spH Z e.np e.φ) ∧ Room k X.A ∧
    Binds X.K fd ps [] ∧ ∀ d, e.dfl = [d] → ∃ v u, RelV v u ∧ (∀ B ρ, VR Z B ρ v d) ∧ Binds X.K fd ps [u]
theorem de_callH {x : Str} {p pos : Pos} {e : Expr} {es : List Expr} {fs : List (DS → Res RV)} {en : FnH} (hg : Gl X x) (hE : FnHOk X Z x en) (hdb : (x == ("__debug__" : Str)) = false) (ns : (e :: es).all noStar = true) (ha : DA Z X (e :: es) (dArgs fs)) (hfs : fs.length = (e :: es).length)
    (dfl : List D) (hd : dfl = [] ∨ dfl = en.dfl) (h1 : dfl.length ≤ 1) (hn : (e :: es).length + dfl.length = en.np) : DE Z X (.Call (.Name x p) (e :: es) [] pos) (dCallH en.φ dfl (dArgs fs)) := by
  obtain ⟨f, fd, ps, k, hm, hk, hF, hr, hb, hbd⟩ := hE.ex
  have ns' := ns
  rw [List.all_cons, Bool.and_eq_true] at ns'
  have fin : ∀ (ds : List Value) (dvs : List V), Vals dvs ds → Binds X.K fd ps ds → (∀ B ρ, VRs Z B ρ dvs dfl) → DE Z X (.Call (.Name x p) (e :: es) [] pos) (dCallH en.φ dfl (dArgs fs)) := fun ds dvs hv hb hdv => ⟨fun W tk => PE.imp (pe_callSD hF hr hg hm hk hb hv (fun σ => passAt tk σ) (ha.run W tk) hdb (star_of ns'.1) (plain_args es ns'.2)) fun σ H Q ⟨F, S, B, ρ, R, q⟩ => by
    refine dTA.firstE R q fun rs S1 xs H1 B1 ρ1 he R1 sb ex rv hw => ?_
    cases hs : settleAll rs S1 with
    | ok ds' S2 =>
      rw [hs] at hw
      refine spH_of R1 (dArgs_still he) rv hs ?_ hdv (Wp.mono hw (fun _ _ z => PQ.mono sb ex z) fun _ _ z => z)
      rw [List.length_append, rv.length, dArgs_length he, hfs, (hdv B1 ρ1).length]
      exact hn
    | exc c S2 => exact (settleAll_exc hs).elim
    | stk =>
      rw [hs] at hw
      exact hw.elim⟩
  rcases hd with rfl | rfl
  · exact fin [] [] .nil hb fun _ _ => .nil
  · cases hq : en.dfl with
    | nil =>
      rw [hq] at fin
      exact fin [] [] .nil hb fun _ _ => .nil
    | cons d l =>
      rw [hq] at h1 fin
      have : l = [] := by
        cases l with
        | nil => rfl
        | cons _ _ => simp at h1
      subst this
      obtain ⟨v, u, r, h2, h3⟩ := hbd d hq
      exact fin [u] [v] (.cons r .nil) h3 fun B ρ => .cons (h2 B ρ) .nil
end
end TW
/-! TWC: methods of instances, new instances, fields stored, isinstance of own classes, chained comparisons. -/
namespace TW
open PySem PySem.Spec L2

/-! ### o.m(..) -/
inductive ME where
  | pure (φ : List D → R) (np : Nat) (dfl : List D) | heap (φ : List LO → List D → RH) (np : Nat) (dfl : List D)
def ME.np : ME → Nat
  | .pure _ n _ => n
  | .heap _ n _ => n
def ME.dfl : ME → List D
  | .pure _ _ l => l
  | .heap _ _ l => l
def ME.sp (Z : SX) : ME → Sp
  | .pure φ n _ => spP Z n φ
  | .heap φ n _ => spH Z n φ
structure MethOk (X : Cx) (Z : SX) (cl m : Str) (e : ME) : Prop where
  ex : ∀ C, Z.CA cl C → Cls X.K C ∧ ∃ (f : Addr) (fd : FuncData) (ps : List Str) (k : Nat), Meth X.K C m f ∧ FnOk X.prog X.w X.K X.mg X.base (L2.CX X.prog X.w) k f fd ps (e.sp Z) ∧ Room k X.A ∧
    Binds X.K fd ps [] ∧ ∀ d, e.dfl = [d] → ∃ v u, RelV v u ∧ (∀ B ρ, VR Z B ρ v d) ∧ Binds X.K fd ps [u]
def insAt (r : RV) (S : DS) : Option (Str × List (Str × D) × D) := match r with
  | .val (.ins C fs) => some (C, fs, .ins C fs)
  | .val (.ref k) => (match S.L[k]? with
    | some (.ins C fs) => some (C, fs, .ref k)
    | _ => none)
  | _ => none
def pureCall (φ : List D → R) (dfl : List D) (rs : List RV) (S : DS) : Res RV := match peekAll S rs with
  | some ds => if D.noRefs (ds ++ dfl) = true then (if (φ (ds ++ dfl)).clean = true then (φ (ds ++ dfl)).lift S else (settleAll rs S).bind fun es S2 => if D.noRefs (es ++ dfl) = true then (φ (es ++ dfl)).lift S2 else .stk) else .stk
  | none => .stk
def heapCall (φ : List LO → List D → RH) (dfl : List D) (rs : List RV) (S : DS) : Res RV := (settleAll rs S).bind fun ds S2 => if S2.sl.all noLkD = true then (φ S2.L (ds ++ dfl)).lift S2 else .stk
def ME.pick (e : ME) (n : Nat) : Option (List D) := if n + 1 = e.np then some [] else if n + 1 + e.dfl.length = e.np ∧ e.dfl.length ≤ 1 then some e.dfl else none
def ME.run (e : ME) (dfl : List D) (rs : List RV) (S : DS) : Res RV := match e with
  | .pure φ _ _ => pureCall φ dfl rs S
  | .heap φ _ _ => heapCall φ dfl rs S
def dMeth (m : Str) (n : Nat) (tbl : Str → Option ME) (fr : DS → Res RV) (fa : DS → Res (List RV)) : DS → Res RV := fun S => (fr S).bind fun r S1 => match insAt r S1 with
  | none => .stk
  | some (C, fs, self) => (match tbl C with
    | none => .stk
    | some e => (match e.pick n with
      | none => .stk
      | some dfl => if (fs.lookup m).isNone = true then (fa S1).bind fun rs S2 => e.run dfl (.val self :: rs) S2 else .stk))
def tMethX (X : Cx) (m : Str) (W : WX) (ta : TE) (t : TA) : TE := fun σ H Q => ta σ H fun x H1 => ∃ (C a dx : Addr) (fs : List (Str × V)) (f : Addr) (fd : FuncData) (ps : List Str) (sp : Sp) (k : Nat) (ds : List Value) (dvs : List V), x = .ref a ∧ H1 a = some (.ins C dx fs) ∧ fs.lookup m = none ∧
  Cls X.K C ∧ Meth X.K C m f ∧ FnOk X.prog X.w X.K X.mg X.base (L2.CX X.prog X.w) k f fd ps sp ∧ Room k X.A ∧ Binds X.K fd ps ds ∧ Vals dvs ds ∧ t σ H1 fun vs H2 => sp (x :: (vs ++ dvs)) H2 Q (WE W σ)
theorem eval_meth {o : Expr} {m : Str} {apos pos : Pos} {args : List Expr} {env : Env} (hb : attributeBase o m env (eval o env) = eval o env) (hf : methodCallForm (args.length + ([] : List Keyword).length) (backTo pos (starEach args env)) (backToKw pos (keywordEach [] env)) = true) (hl : (apos.endLine == pos.line) = true) :
    eval (.Call (.Attribute o m apos) args [] pos) env = (do
      let ov ← eval o env
      standAt apos.atName
      let (f, first) ← holding [ov] (getMethod ov m (plainOf o env))
      callWith pos f first (backTo pos (starEach args env)) (backToKw pos (keywordEach [] env))) := by
  have h : eval (.Call (.Attribute o m apos) args [] pos) env = (do
      let ov ← attributeBase o m env (eval o env)
      standAt apos.atName
      methodCall o m apos pos env ov (args.length + ([] : List Keyword).length) (backTo pos (starEach args env)) (backToKw pos (keywordEach [] env))) := by rfl
  rw [h, hb]
  simp only [mcall_line hf hl]
theorem few_args {env : Env} {pos : Pos} {args : List Expr} (h : args.all noStar = true) (hl : args.length < 30) : methodCallForm (args.length + ([] : List Keyword).length) (backTo pos (starEach args env)) (backToKw pos (keywordEach [] env)) = true := by
  have h1 := plain_args (env := env) (pos := pos) args h
  unfold methodCallForm
  have h2 : (backTo pos (starEach args env)).all (fun x => !x.1) = true := by
    rw [List.all_eq_true]
    intro x hx
    rw [List.any_eq_false] at h1
    have := h1 x hx
    simpa using this
  rw [h2]
  show ((true && true) && decide (args.length + 0 + 0 < 30)) = true
  rw [Bool.and_self, Bool.true_and]
  exact decide_eq_true (by omega)
section
variable {Z : SX} {X : Cx} {W : WX} {F : Hp} {S : DS} {σ : St} {H B : Hp} {ρ : List Addr} {o e : Expr} {es : List Expr} {ta : TE} {t : TA} {m : Str} {apos pos : Pos}
theorem pe_methX (tk : Takes X W) (he : PE X o ta) (ha : PA X (e :: es) t) (hbase : attributeBase o m X.env (eval o X.env) = eval o X.env) (hline : (apos.endLine == pos.line) = true) (ns : (e :: es).all noStar = true) (hl : (e :: es).length < 30) :
    PE X (.Call (.Attribute o m apos) (e :: es) [] pos) (tMethX X m W ta t) := by
  refine ⟨fun pins s σ H Q I h => ?_⟩
  refine PySem.W.methodCall_KW (pl := plainOf o X.env) (thn (he.run pins s σ H _ I h) fun u s1 ⟨x, H1, I1, rx, C, a, dx, fs, f, fd, ps, sp, k, ds, dvs, ex, ea, l, c, hm, Fn, hr, hb, hd, q⟩ => ?_) (eval_meth hbase (few_args ns hl) hline)
  subst ex
  obtain rfl : u = Value.ref a := rx
  refine getmeth_ok I1 ea c hm l ?_
  rw [List.all_cons, Bool.and_eq_true] at ns
  refine PySem.W.callWith_K (first := [.ref a]) (h₀ := X.base) I.ok.mod.kin hm.kp (thn (ha.run pos pins s1 σ H1 _ I1 q) fun us s2 ⟨vs, H2, I2, r, q2⟩ => ⟨I2.kIn, ?_⟩) (star_of ns.1) (plain_args es ns.2)
  exact run_fnSD (us := .ref a :: us) (vs := .ref a :: vs) Fn hr hb hd (passAt tk σ) I2 (.cons rfl r) q2
theorem pe_methX0 (tk : Takes X W) (he : PE X o ta) (hbase : attributeBase o m X.env (eval o X.env) = eval o X.env) (hline : (apos.endLine == pos.line) = true) :
    PE X (.Call (.Attribute o m apos) [] [] pos) (tMethX X m W ta tNil) := by
  refine ⟨fun pins s σ H Q I h => ?_⟩
  refine PySem.W.methodCall_KW (pl := plainOf o X.env) (thn (he.run pins s σ H _ I h) fun u s1 ⟨x, H1, I1, rx, C, a, dx, fs, f, fd, ps, sp, k, ds, dvs, ex, ea, l, c, hm, Fn, hr, hb, hd, q⟩ => ?_) (eval_meth hbase (few_args (args := []) rfl (by decide)) hline)
  subst ex
  obtain rfl : u = Value.ref a := rx
  refine getmeth_ok I1 ea c hm l ?_
  exact PySem.W.callWith_K0 (first := [.ref a]) I1.kIn hm.kp (run_fnSD (us := [.ref a]) (vs := [.ref a]) Fn hr hb hd (passAt tk σ) I1 (.cons rfl .nil) q)
theorem peekAll_cons {r : RV} {rs : List RV} {d : D} {ds : List D} (h : peek S r = some d) (k : peekAll S rs = some ds) : peekAll S (r :: rs) = some (d :: ds) := by
  unfold peekAll
  rw [h, k]
theorem pick_of {e : ME} {n : Nat} {dfl : List D} (h : e.pick n = some dfl) : (dfl = [] ∨ dfl = e.dfl) ∧ dfl.length ≤ 1 ∧ n + 1 + dfl.length = e.np := by
  unfold ME.pick at h
  split at h
  · cases h
    exact ⟨.inl rfl, Nat.zero_le _, by simpa using (by assumption)⟩
  · split at h
    · rename_i h2
      cases h
      exact ⟨.inr rfl, h2.2, h2.1⟩
    · cases h
/-- the promise of a method, by its kind -/
theorem me_of {en : ME} {dfl : List D} {dvs : List V} {x : V} {self : RV} {vs : List V} {rs : List RV} {Q : VK} (R : Rel Z F S σ H B ρ) (sx : self.still = true) (rx : RVR Z F S σ H B ρ x self) (st : ∀ r ∈ rs, r.still = true) (rv : RVRs Z F S σ H B ρ vs rs)
    (hn : rs.length + 1 + dfl.length = en.np) (hd : ∀ B ρ, VRs Z B ρ dvs dfl) (h : Wp (en.run dfl (self :: rs) S) (PQ Z F B ρ σ Q) (EQ Z F B ρ σ W)) : en.sp Z ((x :: vs) ++ dvs) H Q (WE W σ) := by
  have st' : ∀ r ∈ self :: rs, r.still = true := fun r hr => by
    rcases List.mem_cons.mp hr with rfl | hr
    · exact sx
    · exact st r hr
  have rv' : RVRs Z F S σ H B ρ (x :: vs) (self :: rs) := ⟨rx, rv⟩
  have hlen : (x :: vs).length = (self :: rs).length := rv'.length
  have hn' : ((x :: vs) ++ dvs).length = en.np := by
    rw [List.length_append, hlen, (hd B ρ).length, List.length_cons]
    exact hn
  cases en with
  | pure φ n dfl' =>
    change Wp (pureCall φ dfl (self :: rs) S) _ _ at h
    unfold pureCall at h
    split at h
    · rename_i ds hpk
      exact sp_of R st' rv' hpk hn' hd h
    · exact h.elim
  | heap φ n dfl' =>
    change Wp (heapCall φ dfl (self :: rs) S) _ _ at h
    unfold heapCall at h
    cases hs : settleAll (self :: rs) S with
    | ok ds S2 =>
      rw [hs] at h
      exact spH_of R st' rv' hs hn' hd h
    | exc c S2 => exact (settleAll_exc hs).elim
    | stk =>
      rw [hs] at h
      exact h.elim
/-- what stands where a method is asked for -/
theorem ins_at (R : Rel Z F S σ H B ρ) {r : RV} {x : V} {C : Str} {fs : List (Str × D)} {self : D} (rv : RVR Z F S σ H B ρ x r) (h : insAt r S = some (C, fs, self)) :
    ∃ a Ca dx vs, x = .ref a ∧ H a = some (.ins Ca dx vs) ∧ Z.CA C Ca ∧ VRf Z B ρ vs fs ∧ VR Z B ρ x self := by
  unfold insAt at h
  split at h
  · rename_i C fs
    cases h
    have rv' : VR Z B ρ x (.ins C fs) := rv
    have rv0 := rv'
    cases rv' with
    | ins h1 h2 h3 => exact ⟨_, _, _, _, rfl, R.bh _ _ h2, h1, h3, rv0⟩
  · rename_i k
    split at h
    · rename_i C fs hk
      cases h
      have rv' : VR Z B ρ x (.ref k) := rv
      have rv0 := rv'
      cases rv' with
      | ref hρ =>
        obtain ⟨Ca, dx, vs, c1, c2, c3⟩ := R.hp k _ _ hρ hk
        exact ⟨_, _, _, _, rfl, c2, c1, c3, rv0⟩
    · cases h
  · cases h
theorem de_meth {fo : DS → Res RV} {fs : List (DS → Res RV)} {tbl : Str → Option ME} (hT : ∀ cl e, tbl cl = some e → MethOk X Z cl m e) (ho : DE Z X o fo) (hb : baseOk o = true) (hline : (apos.endLine == pos.line) = true) (ns : es.all noStar = true) (hl : es.length < 30) (ha : DA Z X es (dArgs fs)) (hfs : fs.length = es.length) :
    DE Z X (.Call (.Attribute o m apos) es [] pos) (dMeth m fs.length tbl fo (dArgs fs)) := by
  have main : ∀ {W : WX} {t : TA}, (∀ F S σ H B ρ G, Rel Z F S σ H B ρ → dTA Z (dArgs fs) W σ H G → t σ H G) → ∀ σ H Q, dTE Z (dMeth m fs.length tbl fo (dArgs fs)) W σ H Q → tMethX X m W (dTE Z fo W) t σ H Q := fun {W t} ht σ H Q ⟨F, S, B, ρ, R, q⟩ => by
    refine dTE.firstE R q fun r S1 x H1 B1 ρ1 _ R1 sb ex rv hw => ?_
    split at hw
    · exact hw.elim
    · rename_i C fl self hi
      split at hw
      · exact hw.elim
      · rename_i en hen
        split at hw
        · exact hw.elim
        · rename_i dfl hpick
          split at hw
          · rename_i hno
            obtain ⟨a, Ca, dx, vs, rfl, h1, h2, h3, h4⟩ := ins_at R1 rv hi
            obtain ⟨hc, f, fd, ps, k, hm, hF, hr, hb0, hb1⟩ := (hT C en hen).ex Ca h2
            have hlk : vs.lookup m = none := h3.none (Option.isNone_iff_eq_none.mp hno)
            obtain ⟨hd1, hd2, hd3⟩ := pick_of hpick
            have step : ∃ (ds : List Value) (dvs : List V), Vals dvs ds ∧ Binds X.K fd ps ds ∧ ∀ B ρ, VRs Z B ρ dvs dfl := by
              rcases hd1 with rfl | rfl
              · exact ⟨[], [], .nil, hb0, fun _ _ => .nil⟩
              · cases hq : en.dfl with
                | nil => exact ⟨[], [], .nil, hb0, fun _ _ => .nil⟩
                | cons d l =>
                  rw [hq] at hd2
                  have : l = [] := by
                    cases l with
                    | nil => rfl
                    | cons _ _ => simp at hd2
                  subst this
                  obtain ⟨v, u, r, e1, e2⟩ := hb1 d hq
                  exact ⟨[u], [v], .cons r .nil, e2, fun B ρ => .cons (e1 B ρ) .nil⟩
            obtain ⟨ds, dvs, hv, hbn, hdv⟩ := step
            refine ⟨Ca, a, dx, vs, f, fd, ps, en.sp Z, k, ds, dvs, rfl, h1, hlk, hc, hm, hF, hr, hbn, hv, ht F S1 σ H1 B1 ρ1 _ R1 ?_⟩
            refine dTA.firstE R1 hw fun rs S2 xs H2 B2 ρ2 he R2 sb2 ex2 rvs hw2 => ?_
            exact me_of (self := .val self) R2 rfl (VR.mono (.of_same sb2) ex2 h4) (dArgs_still he) rvs (by rw [dArgs_length he]; exact hd3) hdv (Wp.mono hw2 (fun _ _ z => PQ.mono (sb.trans sb2) (ex.trans ex2) z) fun _ _ z => z)
          · exact hw.elim
  cases es with
  | nil =>
    refine ⟨fun W tk => PE.imp (pe_methX0 tk (ho.run W tk) (base_of hb) hline) (main (t := tNil) fun F S σ H B ρ G R ⟨F', S', B', ρ', R', q⟩ => ?_)⟩
    cases fs with
    | nil => exact q [] H B' ρ' R' (fun _ _ z => z) (.refl ρ') trivial
    | cons _ _ => simp at hfs
  | cons e es => exact ⟨fun W tk => PE.imp (pe_methX tk (ho.run W tk) (ha.run W tk) (base_of hb) hline ns hl) (main (t := dTA Z (dArgs fs) W) fun F S σ H B ρ G R h => h)⟩
end
end TW
/-! TWD: new instances, fields stored, isinstance of own classes, chained comparisons. -/
namespace TW
open PySem PySem.Spec L2

/-! ### C(..) -/
structure CE where
  φ : List LO → List D → RH
  np : Nat
  frz : Bool
structure NewOk (X : Cx) (Z : SX) (x : Str) (e : CE) : Prop where
  ex : ∃ (C fI : Addr) (fd : FuncData) (ps : List Str) (k : Nat), X.mg x = some (.ref C) ∧ Z.CA x C ∧ Mk X.K C fI ∧ FnOk X.prog X.w X.K X.mg X.base (L2.CX X.prog X.w) k fI fd ps (spH Z e.np e.φ) ∧ Room (k + 1) X.A ∧ Binds X.K fd ps []
/-- what the making hands back: frozen (nothing else of the logical heap may be), or a thing of the logical heap -/
def newEnd (x : Str) (frz : Bool) (S : DS) : RH → Res RV
  | .val .non L => if frz = true then (match S.L, L with
      | [], [.ins C fs] => if C = x ∧ D.noRefF fs = true then .ok (.val (.ins C fs)) S else .stk
      | _, _ => .stk) else .ok (.val (.ref S.L.length)) { S with L := L }
  | .exc c L => if frz = true then .exc c S else .exc c { S with L := L }
  | _ => .stk
def dNew (x : Str) (e : CE) (f : DS → Res (List RV)) : DS → Res RV := fun S => (f S).bind fun rs S1 => (settleAll rs S1).bind fun ds S2 => if S2.sl.all noLkD = true ∧ (e.frz = true → S2.L = []) then newEnd x e.frz S2 (e.φ (S2.L ++ [.ins x []]) (.ref S2.L.length :: ds)) else .stk
def tMakeX (X : Cx) (C : Addr) (W : WX) (sp : Sp) (t : TA) : TE := fun σ H Q => t σ H fun vs H1 => ∀ x dx, H1 x = none → H1 dx = none → dx ≠ x →
  sp (.ref x :: vs) (upd (upd H1 dx (.own x)) x (.ins C dx [])) (fun v H2 => v = .non ∧ Q (.ref x) H2) (WE W σ)
section
variable {Z : SX} {X : Cx} {W : WX} {F : Hp} {S : DS} {σ : St} {H B : Hp} {ρ : List Addr}
theorem run_makeX {k : Nat} {C f : Addr} {fd : FuncData} {ps : List Str} {sp : Sp} {E : XK} {pins : List (Addr × Obj)} {s : Shared} {Q : VK} {us : List Value} {vs : List V} (M : Mk X.K C f) (Fn : FnOk X.prog X.w X.K X.mg X.base (L2.CX X.prog X.w) k f fd ps sp) (hr : Room (k + 1) X.A) (hb : Binds X.K fd ps [])
    (hx : ∀ (pins : List (Addr × Obj)) (H' : Hp) (s : Shared) (e : Value) (s' : Shared), Inv X pins σ H' s → L2.CX X.prog X.w X.stack H' s E e s' → X.xe e s') (I : Inv X pins σ H s) (r : Vals vs us)
    (h : ∀ x dx, H x = none → H dx = none → dx ≠ x → sp (.ref x :: vs) (upd (upd H dx (.own x)) x (.ins C dx [])) (fun v H2 => v = .non ∧ Q (.ref x) H2) E) :
    wpAny (model X.prog X.w) X.A (call (.ref C) us) (EP X pins σ Q) X.xe s := by
  have hq := h (s.heap.objs.size + 1) s.heap.objs.size (I.hok.fresh (Nat.le_succ _)) (I.hok.fresh (Nat.le_refl _)) (Nat.ne_of_lt (Nat.lt_succ_self _))
  have I2 := Inv.made (C := C) I
  have r2 : Vals (V.ref (s.heap.objs.size + 1) :: vs) (Value.ref (s.heap.objs.size + 1) :: us) := .cons rfl r
  have hl : (Value.ref (s.heap.objs.size + 1) :: us ++ []).length = ps.length := by
    have e := r2.length
    rw [Fn.len _ _ _ _ hq] at e
    rw [List.append_nil]
    exact e.symm
  have hbb := hb _ (Value.ref (s.heap.objs.size + 1) :: us) I2.kIn hl
  rw [List.append_nil] at hbb
  refine wpAny_call (make_map (f := f) I.kIn M.makes M.init (beq_iff_eq.mp M.fn) (codeAny_mono (Fn.run _ X.stack _ _ ⟨Value.ref (s.heap.objs.size + 1) :: us, []⟩ (Value.ref (s.heap.objs.size + 1) :: us) _ _ E (hr.make C us [])
    (I2.env0.make C us []) hbb r2 hq) fun r s' hq' => ?_))
  cases r with
  | error e => exact hx pins _ _ e s' I2 hq'
  | ok fl =>
    cases fl with
    | ret u =>
      obtain ⟨v, H', I3, rv, ev, q3⟩ := I2.after hq'
      subst ev
      exact ⟨rv, ⟨V.ref (s.heap.objs.size + 1), H', I3, rfl, q3⟩⟩
    | next => exact False.elim hq'
    | brk => exact False.elim hq'
    | cont => exact False.elim hq'
theorem pe_makeX {k : Nat} {C f : Addr} {fd : FuncData} {ps : List Str} {sp : Sp} {x : Str} {e : Expr} {es : List Expr} {t : TA} {p pos : Pos} (tk : Takes X W) (M : Mk X.K C f) (Fn : FnOk X.prog X.w X.K X.mg X.base (L2.CX X.prog X.w) k f fd ps sp) (hr : Room (k + 1) X.A) (hg : Gl X x) (hm : X.mg x = some (.ref C)) (hb : Binds X.K fd ps [])
    (ha : PA X (e :: es) t) (hdb : (x == ("__debug__" : Str)) = false) (he : starEach (e :: es) X.env = (false, eval e X.env) :: starEach es X.env) (hpl : (backTo pos (starEach es X.env)).any (·.1) = false) :
    PE X (.Call (.Name x p) (e :: es) [] pos) (tMakeX X C W sp t) := by
  refine ⟨fun pins s σ H Q I h => ?_⟩
  refine wpAny_Call_Name_kw (ld_glob I hg hm ?_ hdb)
  refine PySem.W.callWith_K (h₀ := X.base) I.ok.mod.kin M.kp (thn (ha.run pos pins s σ H _ I h) fun us s1 ⟨vs, H1, I1, r, q⟩ => ⟨I1.kIn, ?_⟩) he hpl
  exact run_makeX M Fn hr hb (passAt tk σ) I1 r q
/-- the logical heap with a new instance -/
theorem RelH.newIns {L : List LO} (R : RelH Z F L H B ρ) {x dx C : Addr} {c : Str} (hx : H x = none) (hd : H dx = none) (ne : dx ≠ x) (hc : Z.CA c C) :
    RelH Z F (L ++ [.ins c []]) (upd (upd H dx (.own x)) x (.ins C dx [])) B (ρ ++ [x]) ∧ (ρ ++ [x])[L.length]? = some x := by
  have R1 := R.grow (o := .own x) hd
  have hx1 : upd H dx (.own x) x = none := by
    rw [upd_ne (fun e => ne e.symm)]
    exact hx
  have R2 := R1.grow (o := .ins C dx []) hx1
  have hn : x ∉ ρ := fun hm => by
    obtain ⟨k, hk⟩ := List.getElem?_of_mem hm
    have hl : k < L.length := by
      rw [← R.rlen]
      exact (List.getElem?_eq_some_iff.mp hk).1
    have := R.hp k x _ hk (List.getElem?_eq_getElem hl)
    revert this
    generalize L[k] = l
    intro this
    cases l with
    | con c lk =>
      obtain ⟨o, e⟩ := CR.some this
      rw [hx] at e
      cases e
    | ins C fs =>
      obtain ⟨_, _, _, _, e, _⟩ := this
      rw [hx] at e
      cases e
    | clo id ds =>
      obtain ⟨_, _, _, e, _⟩ := this
      rw [hx] at e
      cases e
  have last : (ρ ++ [x])[L.length]? = some x := by
    rw [← R.rlen, List.getElem?_append_right (Nat.le_refl _), Nat.sub_self]
    rfl
  have ex : Ex ρ (ρ ++ [x]) := .app ρ [x]
  refine ⟨⟨R2.bh, R2.fh, R.fb, by simp [R.rlen], ?_, fun a ha => ?_, fun k a l h1 h2 => ?_, fun k a l h1 h2 => ?_⟩, last⟩
  · exact List.nodup_append.mpr ⟨R.rnd, by simp, fun a ha b hb e => by
      rw [List.mem_singleton] at hb
      subst hb e
      exact hn ha⟩
  · rcases List.mem_append.mp ha with ha | ha
    · exact R.rb a ha
    · rw [List.mem_singleton] at ha
      subst ha
      exact R.bh.free hx
  · by_cases hk : k < L.length
    · rw [List.getElem?_append_left (by rw [R.rlen]; exact hk)] at h1
      rw [List.getElem?_append_left hk] at h2
      exact R.rf k a l h1 h2
    · rw [List.getElem?_append_right (by omega)] at h2
      have e : k = L.length := by
        have := (List.getElem?_eq_some_iff.mp h2).1
        simp at this
        omega
      subst e
      rw [last] at h1
      cases h1
      rw [Nat.sub_self] at h2
      cases h2
      exact R.fh.free hx
  · by_cases hk : k < L.length
    · rw [List.getElem?_append_left (by rw [R.rlen]; exact hk)] at h1
      rw [List.getElem?_append_left hk] at h2
      exact (R2.hp k a l h1 h2).mono (.refl B) ex
    · rw [List.getElem?_append_right (by omega)] at h2
      have e : k = L.length := by
        have := (List.getElem?_eq_some_iff.mp h2).1
        simp at this
        omega
      subst e
      rw [last] at h1
      cases h1
      rw [Nat.sub_self] at h2
      cases h2
      exact ⟨C, dx, [], hc, upd_same, .nil⟩
/-- .. frozen: it stands alone -/
theorem RelH.frzIns {a : Addr} {c : Str} {fs : List (Str × D)} (R : RelH Z F [.ins c fs] H B [a]) (hn : D.noRefF fs = true) : ∃ B', RelH Z F [] H B' [] ∧ Same B B' ∧ VR Z B' [] (.ref a) (.ins c fs) := by
  obtain ⟨Ca, dx, vs, h1, h2, h3⟩ := R.hp 0 a _ rfl rfl
  have nB := R.rb a (List.mem_singleton.mpr rfl)
  have nF : F a = none := R.rf 0 a _ rfl rfl
  have sb : Same B (upd B a (.ins Ca dx vs)) := fun b u e => by
    rw [upd_ne (ne_of_none e nB)]
    exact e
  refine ⟨upd B a (.ins Ca dx vs), ⟨fun b u e => ?_, R.fh, fun b u e => ?_, rfl, List.nodup_nil, (fun b hb => by cases hb), (fun k b l h => by simp at h), (fun k b l h => by simp at h)⟩, sb, .ins h1 upd_same ((h3.mono (.of_same sb) (.refl _)).noRef hn)⟩
  · by_cases q : b = a
    · subst q
      rw [upd_same] at e
      cases e
      exact h2
    · rw [upd_ne q] at e
      exact R.bh _ _ e
  · have q : b ≠ a := fun q => by
      rw [q, nF] at e
      cases e
    rw [upd_ne q]
    exact R.fb _ _ e
theorem de_new {x : Str} {p pos : Pos} {e : Expr} {es : List Expr} {fs : List (DS → Res RV)} {en : CE} (hg : Gl X x) (hE : NewOk X Z x en) (hdb : (x == ("__debug__" : Str)) = false) (ns : (e :: es).all noStar = true) (ha : DA Z X (e :: es) (dArgs fs)) (hfs : fs.length = (e :: es).length) (hn : (e :: es).length + 1 = en.np) :
    DE Z X (.Call (.Name x p) (e :: es) [] pos) (dNew x en (dArgs fs)) := by
  obtain ⟨C, fI, fd, ps, k, hm, hc, hM, hF, hr, hb⟩ := hE.ex
  have ns' := ns
  rw [List.all_cons, Bool.and_eq_true] at ns'
  refine ⟨fun W tk => PE.imp (pe_makeX tk hM hF hr hg hm hb (ha.run W tk) hdb (star_of ns'.1) (plain_args es ns'.2)) fun σ H Q ⟨F, S, B, ρ, R, q⟩ => ?_⟩
  refine dTA.firstE R q fun rs S1 xs H1 B1 ρ1 he R1 sb ex rv hw => ?_
  cases hs : settleAll rs S1 with
  | exc c S2 => exact (settleAll_exc hs).elim
  | stk =>
    rw [hs] at hw
    exact hw.elim
  | ok ds S2 =>
    rw [hs] at hw
    dsimp only [Res.bind] at hw
    obtain ⟨B2, R2, sb2, v2⟩ := settleAll_ok R1 (dArgs_still he) rv hs
    split at hw
    · rename_i hcond
      obtain ⟨nl, hfz⟩ := hcond
      intro a dx ha0 hd0 nad
      refine ⟨by rw [List.length_cons, rv.length, dArgs_length he, hfs]; exact hn, ?_⟩
      obtain ⟨RN, last⟩ := R2.keepH.newIns ha0 hd0 nad hc
      have exN : Ex ρ1 (ρ1 ++ [a]) := .app ρ1 [a]
      refine ⟨keepF F S2 σ H1, B2, ρ1 ++ [a], _, _, RN, .cons (.ref last) (v2.mono (.refl B2) exN), ?_⟩
      have sbb : Same B B2 := sb.trans sb2
      -- what comes behind
      cases hφ : en.φ (S2.L ++ [.ins x []]) (.ref S2.L.length :: ds) with
      | val d L =>
        rw [hφ] at hw
        cases d with
        | non =>
          change Wp (if _ then _ else _) _ _ at hw
          intro v H' B' ρ' R' sb' ex' rv'
          cases rv'
          refine ⟨rfl, ?_⟩
          split at hw
          · rename_i hfrz
            have hL := hfz hfrz
            split at hw
            · rename_i e1 e2
              split at hw
              · rename_i hcc
                obtain ⟨rfl, hnr⟩ := hcc
                have er : ρ' = [a] := by
                  have h1 : ρ1 = [] := List.length_eq_zero_iff.mp (by rw [R2.rlen, hL]; rfl)
                  subst h1
                  have h2 := R'.rlen
                  have h3 := ex' 0 a rfl
                  match ρ', h2, h3 with
                  | [b], _, h3 =>
                    cases h3
                    rfl
                subst er
                obtain ⟨B3, R3, sb3, v3⟩ := R'.frzIns hnr
                have r0 : ρ1 = [] := List.length_eq_zero_iff.mp (by rw [R2.rlen, hL]; rfl)
                subst r0
                have R4 := R2.keepBack nl R3 (sb'.trans sb3) (.refl [])
                have R5 : Rel Z F S2 σ H' B3 [] := by
                  have : ({ S2 with L := [] } : DS) = S2 := by
                    cases S2
                    simp at hL
                    subst hL
                    rfl
                  rw [← this]
                  exact R4
                exact hw (.ref a) H' B3 [] R5 (sbb.trans (sb'.trans sb3)) (ex.trans (.refl [])) v3
              · exact hw.elim
            · exact hw.elim
          · exact hw (.ref a) H' B' ρ' (R2.keepBack nl R' sb' (exN.trans ex')) (sbb.trans sb') (ex.trans (exN.trans ex')) (.ref (ex' _ _ last))
        | _ => exact hw.elim
      | own c L =>
        rw [hφ] at hw
        exact hw.elim
      | exc c L =>
        rw [hφ] at hw
        change Wp (if _ then _ else _) _ _ at hw
        intro cls H' B' ρ' R' sb' ex' hcl
        split at hw
        · rename_i hfrz
          have hL := hfz hfrz
          have r0 : ρ1 = [] := List.length_eq_zero_iff.mp (by rw [R2.rlen, hL]; rfl)
          subst r0
          have R3 : RelH Z (keepF F S2 σ H1) [] H' B' [] := ⟨R'.bh, R'.fh, R'.fb, rfl, List.nodup_nil, fun b hb => (by cases hb), fun k b l h => (by simp at h), fun k b l h => (by simp at h)⟩
          have R4 := R2.keepBack nl R3 sb' (.refl [])
          have R5 : Rel Z F S2 σ H' B' [] := by
            have : ({ S2 with L := [] } : DS) = S2 := by
              cases S2
              simp at hL
              subst hL
              rfl
            rw [← this]
            exact R4
          exact hw cls H' B' [] R5 (sb2.trans sb') (.refl []) hcl
        · exact hw cls H' B' ρ' (R2.keepBack nl R' sb' (exN.trans ex')) (sb2.trans sb') (exN.trans ex') hcl
      | stk =>
        rw [hφ] at hw
        exact hw.elim
    · exact hw.elim
end
end TW
/-! TWE: fields stored, things put into the logical heap, isinstance of own classes, chained comparisons. -/
namespace TW
open PySem PySem.Spec L2

/-- a value for keeping: an owned thing is frozen, or put into the logical heap -/
def keepV (box : Bool) (r : RV) (S : DS) : Res D := match r, box with
  | .own c, true => .ok (.ref S.L.length) { S with L := S.L ++ [.con c false] }
  | r, _ => settle r S
/-- o.f = e -/
def oFld (f : Str) (box : Bool) (fo fv : DS → Res RV) : DS → Out := fun S => (fv S).toOut fun r S1 => (keepV box r S1).toOut fun d S2 => (fo S2).toOut fun r2 S3 => match r2 with
  | .val (.ref k) => (match S3.L[k]? with
    | some (.ins C fs) => if fs.length < 1000 then .next { S3 with L := S3.L.set k (.ins C (fput f d fs)) } else .stk
    | _ => .stk)
  | _ => .stk
/-- x = e, x a thing of the logical heap -/
def oBox (i : Nat) (f : DS → Res RV) : DS → Out := fun S => (f S).toOut fun r S1 => (keepV true r S1).toOut fun d S2 => .next { S2 with sl := S2.sl.set i (some (.val d)) }
section
variable {Z : SX} {X : Cx} {W : WX} {F : Hp} {S : DS} {σ : St} {H B : Hp} {ρ : List Addr}
/-- a new owned thing goes into the logical heap -/
theorem Rel.toHeap (R : Rel Z F S σ H B ρ) {v : V} {c : Cont} (r : RVR Z F S σ H B ρ v (.own c)) : ∃ a, v = .ref a ∧ Rel Z F { S with L := S.L ++ [.con c false] } σ H B (ρ ++ [a]) ∧ Ex ρ (ρ ++ [a]) ∧ (ρ ++ [a])[S.L.length]? = some a := by
  obtain ⟨a, rfl, h1, f1, f2, f3, f4⟩ := r
  have ex : Ex ρ (ρ ++ [a]) := .app ρ [a]
  have last : (ρ ++ [a])[S.L.length]? = some a := by
    rw [← R.rlen, List.getElem?_append_right (Nat.le_refl _), Nat.sub_self]
    rfl
  have le := Le.refl B
  have at_ : ∀ (k : Nat) (b : Addr) (l : LO), (ρ ++ [a])[k]? = some b → (S.L ++ [LO.con c false])[k]? = some l → (ρ[k]? = some b ∧ S.L[k]? = some l) ∨ (b = a ∧ l = .con c false) := fun k b l h1 h2 => by
    by_cases hk : k < S.L.length
    · rw [List.getElem?_append_left (by rw [R.rlen]; exact hk)] at h1
      rw [List.getElem?_append_left hk] at h2
      exact .inl ⟨h1, h2⟩
    · rw [List.getElem?_append_right (by omega)] at h2
      have e : k = S.L.length := by
        have := (List.getElem?_eq_some_iff.mp h2).1
        simp at this
        omega
      subst e
      rw [last] at h1
      cases h1
      rw [Nat.sub_self] at h2
      cases h2
      exact .inr ⟨rfl, rfl⟩
  refine ⟨a, rfl, ⟨⟨R.bh, R.fh, R.fb, by simp [R.rlen], ?_, fun b hb => ?_, fun k b l h1 h2 => ?_, fun k b l h3 h2 => ?_⟩, R.len, fun i d h => ?_, fun i c' lk h => ?_, R.sep, R.excs⟩, ex, last⟩
  · exact List.nodup_append.mpr ⟨R.rnd, by simp, fun x hx b hb e => by
      rw [List.mem_singleton] at hb
      subst hb e
      exact f3 hx⟩
  · rcases List.mem_append.mp hb with hb | hb
    · exact R.rb b hb
    · rw [List.mem_singleton] at hb
      subst hb
      exact f1
  · rcases at_ k b l h1 h2 with ⟨q1, q2⟩ | ⟨rfl, rfl⟩
    · exact R.rf k b l q1 q2
    · exact FA.of f2
  · rcases at_ k b l h3 h2 with ⟨q1, q2⟩ | ⟨rfl, rfl⟩
    · exact (R.hp k b l q1 q2).mono le ex
    · exact CR.mono le ex h1
  · obtain ⟨v, e, h⟩ := R.vals i d h
    exact ⟨v, e, h.mono le ex⟩
  · obtain ⟨b, e, h2, h3, h4, h5⟩ := R.owns i c' lk h
    refine ⟨b, e, h2.mono le ex, h3, h4, fun hm => ?_⟩
    rcases List.mem_append.mp hm with hm | hm
    · exact h5 hm
    · rw [List.mem_singleton] at hm
      exact f4 i ⟨c', lk, h, by rw [e, hm]⟩
theorem keepV_ok (R : Rel Z F S σ H B ρ) {box : Bool} {r : RV} {v : V} {d : D} {S' : DS} (rv : RVR Z F S σ H B ρ v r) (h : keepV box r S = .ok d S') : ∃ B' ρ', Rel Z F S' σ H B' ρ' ∧ Same B B' ∧ Ex ρ ρ' ∧ VR Z B' ρ' v d := by
  have st : settle r S = .ok d S' → ∃ B' ρ', Rel Z F S' σ H B' ρ' ∧ Same B B' ∧ Ex ρ ρ' ∧ VR Z B' ρ' v d := fun h => by
    obtain ⟨B', R', sb, q⟩ := settle_ok R rv h
    exact ⟨B', ρ, R', sb, .refl ρ, q⟩
  cases r with
  | val e =>
    cases box <;> exact st h
  | plc i =>
    cases box <;> exact st h
  | own c =>
    cases box with
    | false => exact st h
    | true =>
      cases h
      obtain ⟨a, rfl, R', ex, last⟩ := R.toHeap rv
      exact ⟨B, ρ ++ [a], R', fun _ _ z => z, ex, .ref last⟩
theorem keepV_exc {box : Bool} {r : RV} {c : Str} {S' : DS} (h : keepV box r S = .exc c S') : False := by
  have st : settle r S = .exc c S' → False := fun h => settle_exc h
  cases r with
  | val e => cases box <;> exact st h
  | plc i => cases box <;> exact st h
  | own c =>
    cases box with
    | false => exact st h
    | true => cases h
variable {e o value : Expr} {fe fo fv : DS → Res RV} {A : List Nat}
theorem dst_box {i : Nat} {x : Str} {pos pos' : Pos} (hN : X.N.Nodup) (hi : X.N[i]? = some x) (hx : Loc X.env.scope x) (hf : X.fn x = true ∨ X.env.scope.names.lookup x = some .local) (he : DE Z X e fe) (hs : swapsWith e (some (.Name x pos')) pos.line X.env = pure false) :
    DSt Z X (.Assign [.Name x pos'] e pos) (oBox i fe) [i] := ⟨fun W tk => PS.imp (ps_set hN hi hx (he.run W tk) hs hf) fun D σ H ⟨F, S, B, ρ, R, q⟩ => dTE.toS R q fun r S1 x H1 B1 ρ1 R1 sb ex rv hw => by
  cases hk : keepV true r S1 with
  | ok d S2 =>
    rw [hk] at hw
    obtain ⟨B2, ρ2, R2, sb2, ex2, rv2⟩ := keepV_ok R1 rv hk
    exact hw _ H1 B2 ρ2 (R2.setVal rv2 i) sb2 ex2 (.set σ i _)
  | exc c S2 => exact (keepV_exc hk).elim
  | stk =>
    rw [hk] at hw
    exact hw.elim⟩
theorem dst_fld {f : Str} {box : Bool} {pos pos' : Pos} (hc : ∀ c C, Z.CA c C → Cls X.K C ∧ NoAttr X.K C f) (ho : DE Z X o fo) (hv : DE Z X value fv) (hs : swapsWith value (some (.Attribute o f pos')) pos.line X.env = pure false) :
    DSt Z X (.Assign [.Attribute o f pos'] value pos) (oFld f box fo fv) [] := ⟨fun W tk => PS.imp (ps_fld (ho.run W tk) (hv.run W tk) hs) fun D σ H ⟨F, S, B, ρ, R, q⟩ => dTE.toS R q fun r S1 y H1 B1 ρ1 R1 sb ex rv hw => by
  cases hk : keepV box r S1 with
  | exc c S2 => exact (keepV_exc hk).elim
  | stk =>
    rw [hk] at hw
    exact hw.elim
  | ok d S2 =>
    rw [hk] at hw
    obtain ⟨B2, ρ2, R2, sb2, ex2, rv2⟩ := keepV_ok R1 rv hk
    refine dTE.toS R2 (WpS.later sb2 ex2 hw) fun r3 S3 x H3 B3 ρ3 R3 sb3 ex3 rv3 hw3 => ?_
    split at hw3
    · rename_i k
      split at hw3
      · rename_i C fs hfs
        split at hw3
        · rename_i hl
          have rv3' : VR Z B3 ρ3 x (.ref k) := rv3
          cases rv3' with
          | ref hρ =>
            obtain ⟨Ca, dx, vs, c1, c2, c3⟩ := R3.hp k _ _ hρ hfs
            refine ⟨_, Ca, dx, vs, rfl, c2, (hc _ _ c1).1, (hc _ _ c1).2, by rw [c3.length]; exact hl, ?_⟩
            have R4 := R3.putHeap (l' := .ins C (fput f d fs)) (o' := .ins Ca dx (putF f y vs)) hfs hρ (show F _ = none from R3.rf k _ _ hρ hfs) (show F _ = none from R3.rf k _ _ hρ hfs) ⟨Ca, dx, _, c1, upd_same, c3.put (rv2.mono (.of_same sb3) ex3) f⟩
            exact hw3 σ _ B3 ρ3 R4 (fun _ _ z => z) (.refl ρ3) (.refl _ σ)
        · exact hw3.elim
      · exact hw3.elim
    · exact hw3.elim⟩
/-! ### isinstance(o, C), C an own class -/
def dIsO (kit : Str → Option Bool) (f : DS → Res RV) : DS → Res RV := fun S => (f S).bind fun r S1 => match insAt r S1 with
  | some (C, _, _) => (match kit C with
    | some b => .ok (.val (.bl b)) S1
    | none => .stk)
  | none => .stk
/-- what isinstance asks of a class -/
structure IsC (K : PySem.W.Frag) (C : Addr) : Prop where
  cl : Cls K C
  ha : PySem.W.findIn K (.ref C) "__class__" = some (some (.builtin "object.__class__"))
  hn : PySem.W.specialIn K (.builtin "object.__class__") "__get__" = some (some (.builtin "getset_descriptor.__get__"))
  ht : PySem.W.takesIn K (.builtin "object.__class__") = some true
  hm : PySem.W.mroIn K C (.type "object") = some true
theorem de_isO {T : Str} {kit : Str → Option Bool} {p p2 pos : Pos} {a : Expr} {fa : DS → Res RV} {TC : Addr} (hg : Gl X "isinstance") (hm : X.mg "isinstance" = none) (hT : PE X (.Name T p2) (tC (.ref TC))) (hk : ∀ cl C b, Z.CA cl C → kit cl = some b → IsC X.K C ∧ PySem.W.kitOne X.K (.ref C) (.ref TC) = some b)
    (ns : noStar a = true) (ha : DE Z X a fa) : DE Z X (.Call (.Name "isinstance" p) [a, .Name T p2] [] pos) (dIsO kit fa) := ⟨fun W tk =>
  PE.imp (pe_callB (call_isi) hg hm (by decide +kernel) (pa_cons (ha.run W tk) (pa_cons hT pa_nil (star_of rfl)) (star_of ns)) (by decide) (by decide) (star_of ns) (plain_args [.Name T p2] rfl)) fun σ H Q ⟨F, S, B, ρ, R, q⟩ => by
  refine dTE.first R q fun r S1 x H1 B1 ρ1 R1 sb ex rv hw => ?_
  split at hw
  · rename_i C fl self hi
    split at hw
    · rename_i b hb
      obtain ⟨a, Ca, dx, vs, rfl, h1, h2, _, _⟩ := ins_at R1 rv hi
      obtain ⟨hC, hkit⟩ := hk C Ca b h2 hb
      exact ⟨.ref a, .ref TC, .ref Ca, .ref TC, b, rfl, .own TC, .base (.ins h1 hC.cl hC.ha hC.hn hC.ht hC.hm), hkit, hw _ H1 B1 ρ1 R1 sb ex (.bl _)⟩
    · exact hw.elim
  · exact hw.elim⟩
/-! ### a < b < c -/
def dChain (g1 g2 : D → D → R) (fa fb fc : DS → Res RV) : DS → Res RV := fun S => (fa S).bind fun r1 S1 => (fb S1).bind fun r2 S2 => match peek S2 r1.frz, peek S2 r2.frz with
  | some d1, some d2 => (match g1 d1 d2 with
    | .val (.bl true) => (fc S2).bind fun r3 S3 => (match peek S3 r2.frz, peek S3 r3 with
      | some e2, some e3 => (g2 e2 e3).lift S3
      | _, _ => .stk)
    | .val (.bl false) => .ok (.val (.bl false)) S2
    | _ => .stk)
  | _, _ => .stk
theorem chain_of {g1 g2 : D → D → R} (he : ∀ d d' c, g2 d d' ≠ .exc c) {fa fb fc : DS → Res RV} {Q : VK} (R : Rel Z F S σ H B ρ) (q : Wp (dChain g1 g2 fa fb fc S) (PQ Z F B ρ σ Q) (EQ Z F B ρ σ W)) :
    tChain (rD2 Z g1) (rD2 Z g2) (dTE Z fa W) (dTE Z fb W) (dTE Z fc W) σ H Q := by
  refine dTE.first R q fun r S1 x H1 B1 ρ1 R1 sb ex rv hw => ?_
  obtain ⟨B1', R1', sb', rv'⟩ := frz_ok R1 rv
  refine dTE.first R1' (hw.mono (fun _ _ z => z) fun _ _ z => z.mono sb' (.refl ρ1)) fun r2 S2 y H2 B2 ρ2 R2 sb2 ex2 rv2 hw2 => ?_
  obtain ⟨B2', R2', sb2', rv2'⟩ := frz_ok R2 rv2
  split at hw2
  · rename_i d1 d2 hd1 hd2
    have p1 := peek_pv R2' (rv'.mono (frz_still r) (sb2.trans sb2') ex2) hd1
    have p2 := peek_pv R2' rv2' hd2
    have s4 := ((sb.trans sb').trans sb2).trans sb2'
    have e4 := ex.trans ex2
    refine ⟨F, S2, σ, B2', ρ2, d1, d2, R2', p1, p2, ?_⟩
    split at hw2
    · rename_i hg
      rw [hg]
      intro v H3 B3 R3 sb3 rv3
      cases rv3
      refine ⟨true, rfl, ?_⟩
      rw [if_pos rfl]
      refine dTE.first R3 (hw2.mono (fun _ _ z => z) fun _ _ z => z.mono (sb2'.trans sb3) (.refl ρ2)) fun r3 S4 w H4 B4 ρ4 R4 sb4 ex4 rv4 hw4 => ?_
      split at hw4
      · rename_i e2 e3 he2 he3
        exact ⟨F, S4, σ, B4, ρ4, e2, e3, R4, peek_pv R4 (rv2'.mono (frz_still r2) (sb3.trans sb4) ex4) he2, peek_pv R4 rv4 he3, lift_got (hw4.mono (fun _ _ z => PQ.mono ((s4.trans sb3).trans sb4) (e4.trans ex4) z) fun _ _ z => z) (he e2 e3)⟩
      · exact hw4.elim
    · rename_i hg
      rw [hg]
      intro v H3 B3 R3 sb3 rv3
      cases rv3
      refine ⟨false, rfl, ?_⟩
      rw [if_neg Bool.false_ne_true]
      exact hw2 _ H3 B3 ρ2 R3 (s4.trans sb3) e4 (.bl _)
    · exact hw2.elim
  · exact hw2.elim
theorem de_chain {op op' : CmpOp} {g1 g2 : D → D → R} {a b c : Expr} {fa fb fc : DS → Res RV} {pos : Pos} (he : ∀ d d' c, g2 d d' ≠ .exc c) (ho : OpR X (compareOp op) (rD2 Z g1)) (ho' : OpR X (compareOp op') (rD2 Z g2)) (ha : DE Z X a fa) (hb : DE Z X b fb) (hc : DE Z X c fc) (hm : lastMarks [op, op'] [b, c] = false) :
    DE Z X (.Compare a [op, op'] [b, c] pos) (dChain g1 g2 fa fb fc) := ⟨fun W tk => PE.imp (pe_chain ho ho' (ha.run W tk) (hb.run W tk) (hc.run W tk) hm) fun σ H Q ⟨F, S, B, ρ, R, q⟩ => chain_of he R q⟩
theorem dt_chain {op op' : CmpOp} {g1 g2 : D → D → R} {a b c : Expr} {fa fb fc : DS → Res RV} {pos : Pos} (he : ∀ d d' c, g2 d d' ≠ .exc c) (ho : OpR X (compareOp op) (rD2 Z g1)) (ho' : OpR X (compareOp op') (rD2 Z g2)) (ha : DE Z X a fa) (hb : DE Z X b fb) (hc : DE Z X c fc) (hm : lastMarks [op, op'] [b, c] = false) :
    DT Z X (.Compare a [op, op'] [b, c] pos) (asB (dChain g1 g2 fa fb fc)) := ⟨fun W tk => PT.imp (pt_chain ho ho' (ha.run W tk) (hb.run W tk) (hc.run W tk) hm) fun σ H Q ⟨F, S, B, ρ, R, q⟩ => by
  refine chain_of he R (Q := fun x H' => ∃ k, x = .bl k ∧ Q k H') ?_
  have q1 : Wp (dChain g1 g2 fa fb fc S) (fun r S1 => Wp (match r with | .val (.bl b) => Res.ok b S1 | _ => .stk) (PQt Z F B ρ σ Q) (EQ Z F B ρ σ W)) (EQ Z F B ρ σ W) := q.bind
  refine q1.mono (fun r S1 z x H' B' ρ' R' s' e' rv => ?_) fun _ _ z => z
  obtain ⟨k, e1, p⟩ := asB_of rv z
  exact ⟨k, e1, p H' B' ρ' R' s' e'⟩⟩
end
end TW
/-! TWF: dicts: made, asked, changed. -/
namespace TW
open PySem PySem.Spec L2
section
variable {Z : SX} {X : Cx} {W : WX} {F : Hp} {S : DS} {σ : St} {H B : Hp} {ρ : List Addr} {e a b o : Expr} {fe fa fb fo fv : DS → Res RV} {A : List Nat} {pos : Pos}
def dDic0 : DS → Res RV := fun S => .ok (.own (.dic [])) S
theorem de_dic0 : DE Z X (.Dict [] [] pos) dDic0 := ⟨fun W tk => PE.imp pe_dnewK fun σ H Q ⟨F, S, B, ρ, R, q⟩ p hp => by
  obtain ⟨R2, rv⟩ := R.newOwn (o := .dK []) (c := .dic []) hp ⟨[], rfl, .nil⟩
  exact q _ _ _ _ R2 (fun _ _ z => z) (.refl ρ) rv⟩
theorem kV_of {v : V} {d : D} {k : Key} (h : VR Z B ρ v d) (e : keyOf d = some k) : v = kV k := by
  unfold keyOf at e
  split at e
  · cases e
    cases h
    rfl
  · cases e
    cases h
    rfl
  · cases e
theorem VR.peeked (R : Rel Z F S σ H B ρ) {v : V} {r : RV} {d : D} {k : Key} (rv : RVR Z F S σ H B ρ v r) (hp : peek S r = some d) (e : keyOf d = some k) : v = kV k := by
  cases r with
  | val d0 =>
    have hd : deref S d0 = d := Option.some.inj hp
    cases d0 with
    | ref j =>
      exfalso
      unfold deref at hd
      dsimp only at hd
      split at hd
      · rename_i c _ _
        subst hd
        cases c <;> cases e
      · subst hd
        cases e
    | _ =>
      have hd : _ = d := hd
      first
      | (subst hd; exact kV_of rv e)
      | (cases hd; exact kV_of rv e)
  | own c =>
    have hd : c.toD = d := Option.some.inj hp
    subst hd
    cases c <;> cases e
  | plc i =>
    have hp : (match S.sl[i]? with
      | some (some (.val d)) => some d
      | some (some (.own c _)) => some c.toD
      | _ => none) = some d := hp
    split at hp
    · rename_i d' hs
      cases hp
      obtain ⟨w, h1, h2⟩ := R.vals i _ hs
      have rv : σ[i]? = some (some v) := rv
      rw [rv] at h1
      cases h1
      exact kV_of h2 e
    · rename_i c _ _
      cases hp
      cases c <;> cases e
    · cases hp
/-- d[k] = v -/
def dictOf (r : RV) (S : DS) : Option (List (Key × D)) := match contAt r S with
  | some (.dic kvs) => some kvs
  | _ => none
def oDSet (fo fk fv : DS → Res RV) : DS → Out := fun S => (fv S).toOut fun r S1 => (settle r S1).toOut fun d S2 => (fo S2).toOut fun ro S3 => (fk S3).toOut fun rk S4 => match dictOf ro S4, (peek S4 rk).bind keyOf with
  | some kvs, some k => if freeAt ro S4 = true ∧ kvs.length < sizeLine ∧ ro.still = true then .next (putAt ro (.dic (dput kvs k d)) S4) else .stk
  | _, _ => .stk
theorem dst_dset {pos' : Pos} (hu : X.A.units + 1 < cLine) (ho : DE Z X o fo) (hk : DE Z X a fa) (hv : DE Z X e fv) (hs : swapsWith e (some (.Subscript o a pos')) pos.line X.env = pure false) : DSt Z X (.Assign [.Subscript o a pos'] e pos) (oDSet fo fa fv) [] := ⟨fun W tk => PS.imp (ps_dput hu (ho.run W tk) (hk.run W tk) (hv.run W tk) hs) fun D σ H ⟨F, S, B, ρ, R, q⟩ => by
  refine dTE.toS R q fun r S1 v H1 B1 ρ1 R1 sb1 ex1 rv1 hw1 => ?_
  cases hse : settle r S1 with
  | exc c S2 => exact (settle_exc hse).elim
  | stk =>
    rw [hse] at hw1
    exact hw1.elim
  | ok d S2 =>
    rw [hse] at hw1
    dsimp only [Res.toOut] at hw1
    obtain ⟨B1', R1', sb1', rv1'⟩ := settle_ok R1 rv1 hse
    have hw1 := WpS.later sb1' (.refl _) hw1
    refine dTE.toS R1' hw1 fun ro S3 x H3 B3 ρ3 R3 sb3 ex3 rv3 hw3 => ?_
    refine dTE.toS R3 hw3 fun rk S4 y H4 B4 ρ4 R4 sb4 ex4 rv4 hw4 => ?_
    split at hw4
    · rename_i kvs k hd hk
      split at hw4
      · rename_i hc
        obtain ⟨hf, hl, st⟩ := hc
        have rv3' : RVR Z F S4 σ H4 B4 ρ4 x ro := rv3.mono st sb4 ex4
        unfold dictOf at hd
        split at hd
        · rename_i kvs' hcon
          cases hd
          obtain ⟨ad, lk, rfl, hcr, hfr⟩ := cont_at R4 rv3' hcon
          obtain ⟨rfl, hput⟩ := hfr hf
          obtain ⟨oo, ⟨ks, rfl, h1⟩, h2⟩ := hcr
          rcases h2 with h2 | ⟨z, _⟩
          · obtain ⟨dk, hp, hkk⟩ := Option.bind_eq_some_iff.mp hk
            have hy := VR.peeked R4 rv4 hp hkk
            have vd : VR Z B4 ρ4 v d := (rv1'.mono (.of_same (sb3.trans sb4)) (ex3.trans ex4))
            refine ⟨ad, _, rfl, .inl ⟨ks, k, h2, hy, by rw [h1.length]; exact hl, rfl⟩, ?_⟩
            exact hw4 σ _ B4 ρ4 (hput _ (.dK (putK ks k v)) ⟨_, rfl, VRk.put vd k h1⟩) (fun _ _ z => z) (.refl _) (.refl _ _)
          · cases z
        · cases hd
      · exact hw4.elim
    · exact hw4.elim⟩
theorem FA.neO {a b : Addr} {o : HO} (hn : ∀ ob u, o ≠ .frz ob u) {c : Cont} {lk : Bool} (h : FA (upd F a o) b c lk) : b ≠ a := fun e => by
  subst e
  cases c with
  | lst ds =>
    have h : upd F b o b = none := h
    rw [upd_same] at h
    cases h
  | dic kvs =>
    cases lk with
    | false =>
      have h : upd F b o b = none := h
      rw [upd_same] at h
      cases h
    | true =>
      obtain ⟨ob, u, h⟩ := h
      rw [upd_same] at h
      exact hn _ _ (Option.some.inj h)
theorem LF.neO {a b : Addr} {o : HO} (hn : ∀ ob u, o ≠ .frz ob u) {l : LO} (h : LF (upd F a o) b l) : b ≠ a := by
  cases l with
  | con c lk => exact FA.neO hn h
  | _ =>
    intro e
    subst e
    have h : upd F b o b = none := h
    rw [upd_same] at h
    cases h
/-- a new list is hidden from all that goes on -/
theorem Rel.hideO (R : Rel Z F S σ H B ρ) {a : Addr} {o : HO} (f : Fresh F S σ B ρ a) (h : H a = some o) : Rel Z (upd F a o) S σ H B ρ := by
  obtain ⟨f1, f2, f3, f4⟩ := f
  refine ⟨⟨R.bh, fun b u e => ?_, fun b u e => ?_, R.rlen, R.rnd, R.rb, fun k b u h1 h2 => ?_, R.hp⟩, R.len, R.vals, fun i c lk q => ?_, R.sep, R.excs⟩
  · by_cases e1 : b = a
    · subst e1
      rw [upd_same] at e
      cases e
      exact h
    · rw [upd_ne e1] at e
      exact R.fh _ _ e
  · by_cases e1 : b = a
    · subst e1
      exact f1
    · rw [upd_ne e1] at e
      exact R.fb _ _ e
  · have nb : b ≠ a := fun e => f3 (by rw [← e]; exact List.mem_of_getElem? h1)
    exact (R.rf k b u h1 h2).ne nb
  · obtain ⟨b, q1, q2, q3, q4, q5⟩ := R.owns i c lk q
    exact ⟨b, q1, q2, q3, q4.ne (fun e => f4 i ⟨c, lk, q, by rw [q1, e]⟩), q5⟩
theorem Rel.unhideO {a : Addr} {o : HO} (hn : ∀ ob u, o ≠ .frz ob u) (R : Rel Z (upd F a o) S σ H B ρ) (hF : F a = none) : Rel Z F S σ H B ρ ∧ Fresh F S σ B ρ a ∧ H a = some o := by
  have ha : H a = some o := R.fh _ _ upd_same
  have ne : ∀ b u, F b = some u → b ≠ a := fun b u e z => by
    rw [z, hF] at e
    cases e
  refine ⟨⟨⟨R.bh, fun b u e => R.fh _ _ (by rw [upd_ne (ne b u e)]; exact e), fun b u e => R.fb b u (by rw [upd_ne (ne b u e)]; exact e), R.rlen, R.rnd, R.rb, fun k b u h1 h2 => ?_, R.hp⟩, R.len, R.vals, fun i c lk q => ?_, R.sep, R.excs⟩, ⟨R.fb _ _ upd_same, hF, fun hm => ?_, fun i ⟨c, lk, q1, q2⟩ => ?_⟩, ha⟩
  · have h := R.rf k b u h1 h2
    exact h.en (h.neO hn)
  · obtain ⟨b, q1, q2, q3, q4, q5⟩ := R.owns i c lk q
    exact ⟨b, q1, q2, q3, q4.en (q4.neO hn), q5⟩
  · obtain ⟨k, hk⟩ := List.getElem?_of_mem hm
    have hl : k < S.L.length := by
      rw [← R.rlen]
      exact (List.getElem?_eq_some_iff.mp hk).1
    exact (R.rf k a _ hk (List.getElem?_eq_getElem hl)).neO hn rfl
  · obtain ⟨b, q3, _, _, q4, _⟩ := R.owns i c lk q1
    rw [q2] at q3
    cases q3
    exact q4.neO hn rfl

theorem Rel.reO {a : Addr} {o o' : HO} (hn : ∀ ob u, o ≠ .frz ob u) (hn' : ∀ ob u, o' ≠ .frz ob u) (R : Rel Z (upd F a o) S σ H B ρ) : Rel Z (upd F a o') S σ (upd H a o') B ρ := by
  have nB : B a = none := R.fb _ _ upd_same
  have up : ∀ b u, b ≠ a → H b = some u → upd H a o' b = some u := fun b u z e => by
    rw [upd_ne z]
    exact e
  have cr : ∀ {b : Addr} {c : Cont} {lk : Bool}, b ≠ a → CR Z B ρ H b c lk → CR Z B ρ (upd H a o') b c lk := fun {b c lk} nb ⟨o1, l1, l2⟩ => by
    refine ⟨o1, l1, ?_⟩
    rcases l2 with l2 | ⟨z, z2, ob, l2⟩
    · exact .inl (up _ _ nb l2)
    · exact .inr ⟨z, z2, ob, up _ _ nb l2⟩
  refine ⟨⟨fun b u e => up b u (fun z => by rw [z, nB] at e; cases e) (R.bh _ _ e), fun b u e => ?_, fun b u e => ?_, R.rlen, R.rnd, R.rb, fun k b u h1 h2 => ?_, fun k b u h1 h2 => ?_⟩, R.len, R.vals, fun i c lk q => ?_, R.sep, R.excs⟩
  · by_cases e1 : b = a
    · subst e1
      rw [upd_same] at e ⊢
      exact e
    · rw [upd_ne e1] at e
      exact up b u e1 (R.fh _ _ (by rw [upd_ne e1]; exact e))
  · by_cases e1 : b = a
    · subst e1
      exact nB
    · rw [upd_ne e1] at e
      exact R.fb b u (by rw [upd_ne e1]; exact e)
  · have h := R.rf k b u h1 h2
    have nb := h.neO hn
    exact (h.en nb).ne nb
  · have nb := (R.rf k b u h1 h2).neO hn
    have l := R.hp k b u h1 h2
    cases u with
    | con c lk => exact cr nb l
    | ins C fs =>
      obtain ⟨Ca, dx, vs, l1, l2, l3⟩ := l
      exact ⟨Ca, dx, vs, l1, up _ _ nb l2, l3⟩
    | clo id ds =>
      obtain ⟨o, vs, l1, l2, l3⟩ := l
      exact ⟨o, vs, l1, up _ _ nb l2, l3⟩
  · obtain ⟨b, q1, q2, q4, q5, q6⟩ := R.owns i c lk q
    have nb := q5.neO hn
    exact ⟨b, q1, cr nb q2, q4, (q5.en nb).ne nb, q6⟩

theorem kV_inj {k k' : Key} (h : kV k = kV k') : k = k' := by
  cases k <;> cases k' <;> simp [kV] at h <;> rw [h]
/-- {k: v} -/
def dDic1 (fk fv : DS → Res RV) : DS → Res RV := fun S => (fk S).bind fun rk S1 => match (peek S1 rk).bind keyOf with
  | some k => (fv S1).bind fun r S2 => (settle r S2).bind fun d S3 => .ok (.own (.dic [(k, d)])) S3
  | none => .stk
theorem de_dic1 (ha : DE Z X a fa) (hb : DE Z X b fb) : DE Z X (.Dict [some a] [b] pos) (dDic1 fa fb) := ⟨fun W tk => PE.imp (pe_disp (pps_cons (ha.run W tk) (hb.run W tk) pps_nil) rfl rfl (by simp) (by simp)) fun σ H Q ⟨F, S, B, ρ, R, q⟩ => by
  intro p hp
  have hn : ∀ ob u, (HO.dK [] : HO) ≠ .frz ob u := fun _ _ z => by cases z
  have R0 := (R.grow (o := .dK []) hp).hideO (R.fresh hp) upd_same
  have hF : F p = none := R.fh.free hp
  have q' : Wp ((fa S).bind fun rk S1 => match (peek S1 rk).bind keyOf with
      | some k => (fb S1).bind fun r S2 => (settle r S2).bind fun d S3 => Res.ok (RV.own (.dic [(k, d)])) S3
      | none => .stk) (PQ Z F B ρ σ Q) (EQ Z F B ρ σ W) := q
  have toE : ∀ {S' : DS} {c : Str}, EQ Z F B ρ σ W c S' → EQ Z (upd F p (.dK [])) B ρ σ W c S' := fun {S' c} h cls H' B' ρ' R' sb ex he => h cls H' B' ρ' (R'.unhideO hn hF).1 sb ex he
  refine dTE.firstG R0 q' (fun c S' h => toE h) fun rk S1 y H1 B1 ρ1 R1 sb1 ex1 rv1 hw1 => ?_
  split at hw1
  · rename_i k hk
    obtain ⟨dk, hpk, hkk⟩ := Option.bind_eq_some_iff.mp hk
    have hy := VR.peeked R1 rv1 hpk hkk
    refine dTE.firstG R1 hw1 (fun c S' h => fun cls H' B' ρ' R' sb ex he => h cls H' B' ρ' (R'.unhideO hn hF).1 (sb1.trans sb) (ex1.trans ex) he) fun r S2 v H2 B2 ρ2 R2 sb2 ex2 rv2 hw2 => ?_
    cases hs : settle r S2 with
    | exc c S3 => exact (settle_exc hs).elim
    | stk =>
      rw [hs] at hw2
      exact hw2.elim
    | ok d S3 =>
      rw [hs] at hw2
      obtain ⟨B3, R3, sb3, rv3⟩ := settle_ok R2 rv2 hs
      obtain ⟨R4, f4, h4⟩ := R3.unhideO hn hF
      refine ⟨h4, [(k, v)], by rw [hy]; rfl, by simp, ?_⟩
      have up : ∀ b u, b ≠ p → H2 b = some u → upd H2 p (.dK (mergeK [] [(k, v)])) b = some u := fun b u z e => by
        rw [upd_ne z]
        exact e
      have R5 := R3.reO hn (o' := .dK (mergeK [] [(k, v)])) (fun _ _ z => by cases z)
      obtain ⟨R6, f6, h6⟩ := R5.unhideO (fun _ _ z => by cases z) hF
      exact hw2 (.ref p) _ B3 ρ2 R6 ((sb1.trans sb2).trans sb3) (ex1.trans ex2) ⟨p, rfl, ⟨_, ⟨_, rfl, .cons rv3 .nil⟩, .inl h6⟩, f6⟩
  · exact hw1.elim⟩

/-- a dict that can be asked -/
def dicOf (r : RV) (S : DS) : Option (List (Key × D)) := match peek S r with
  | some (.dic kvs) => some kvs
  | _ => none
theorem dic_at (R : Rel Z F S σ H B ρ) {r : RV} {x : V} {kvs : List (Key × D)} (rv : RVR Z F S σ H B ρ x r) (st : r.still = true) (h : dicOf r S = some kvs) : ∃ a ks, x = .ref a ∧ Rd H a (.dK ks) ∧ VRk Z B ρ ks kvs := by
  have rdB : ∀ {a ks}, Rd B a (.dK ks) → Rd H a (.dK ks) := fun h => h.elim (fun h => .inl (R.bh _ _ h)) fun ⟨ob, h⟩ => .inr ⟨ob, R.bh _ _ h⟩
  have ofC : ∀ {a : Addr} {c : Cont} {lk : Bool} {kvs}, c.toD = .dic kvs → CR Z B ρ H a c lk → ∃ ks, Rd H a (.dK ks) ∧ VRk Z B ρ ks kvs := fun {a c lk kvs} e ⟨o, h1, h2⟩ => by
    cases c with
    | lst ds => cases e
    | dic kvs' =>
      cases e
      obtain ⟨ks, rfl, h1⟩ := h1
      rcases h2 with h2 | ⟨_, _, ob, h2⟩
      · exact ⟨ks, .inl h2, h1⟩
      · exact ⟨ks, .inr ⟨ob, h2⟩, h1⟩
  have ofV : ∀ {v : V} {kvs}, VR Z B ρ v (.dic kvs) → ∃ a ks, v = .ref a ∧ Rd H a (.dK ks) ∧ VRk Z B ρ ks kvs := fun {v kvs} h => by
    cases h with
    | dic h1 h2 => exact ⟨_, _, rfl, rdB h1, h2⟩
  unfold dicOf at h
  split at h
  · rename_i kvs' hp
    cases h
    cases r with
    | own c => cases st
    | val d0 =>
      have hd : deref S d0 = .dic kvs := Option.some.inj hp
      cases d0 with
      | ref j =>
        unfold deref at hd
        dsimp only at hd
        split at hd
        · rename_i c lk hj
          have rv : VR Z B ρ x (.ref j) := rv
          cases rv with
          | ref hρ =>
            obtain ⟨ks, h1, h2⟩ := ofC hd (R.hp j _ _ hρ hj)
            exact ⟨_, ks, rfl, h1, h2⟩
        · cases hd
      | dic ks =>
        cases hd
        exact ofV rv
      | _ => cases hd
    | plc i =>
      have hp : (match S.sl[i]? with
        | some (some (.val d)) => some d
        | some (some (.own c _)) => some c.toD
        | _ => none) = some (.dic kvs) := hp
      have rv : σ[i]? = some (some x) := rv
      split at hp
      · rename_i d' hs
        cases hp
        obtain ⟨w, h1, h2⟩ := R.vals i _ hs
        rw [rv] at h1
        cases h1
        exact ofV h2
      · rename_i c lk hs
        obtain ⟨a, h1, h2, _⟩ := R.owns i _ _ hs
        rw [rv] at h1
        cases h1
        obtain ⟨ks, h3, h4⟩ := ofC (Option.some.inj hp) h2
        exact ⟨_, ks, rfl, h3, h4⟩
      · cases hp
  · cases h
def dDGet2 (fo fk fx : DS → Res RV) : DS → Res RV := fun S => (fo S).bind fun ro S1 => match dicOf ro S1 with
  | some _ => if ro.still = true then ((fk S1).bind fun rk S2 => match (peek S2 rk).bind keyOf with
    | some k => (fx S2).bind fun rx S3 => (settle rx S3).bind fun dx S4 => (match dicOf ro S4 with
      | some kvs => .ok (.val ((dget kvs k).getD dx)) S4
      | none => .stk)
    | none => .stk) else .stk
  | none => .stk
theorem isD_of {a : Addr} {ks : List (Key × V)} (h : Rd H a (.dK ks)) : IsD H a := .inl ⟨ks, h⟩
theorem de_dget2 {apos cpos : Pos} (hu : X.A.units + 1 < cLine) (ho : DE Z X o fo) (ha : DE Z X a fa) (hb : DE Z X b fb) (bo : baseOk o = true) (hline : (apos.endLine == cpos.line) = true) (na : noStar a = true) (nb : noStar b = true) :
    DE Z X (.Call (.Attribute o "get" apos) [a, b] [] cpos) (dDGet2 fo fa fb) := ⟨fun W tk => PE.imp (pe_dget2 hu (ho.run W tk) (ha.run W tk) (hb.run W tk) ⟨base_of bo, few2 na nb, hline, by rw [st2 na nb]; rfl⟩) fun σ H Q ⟨F, S, B, ρ, R, q⟩ => by
  refine dTE.first R q fun ro S1 x H1 B1 ρ1 R1 sb1 ex1 rv1 hw1 => ?_
  split at hw1
  · rename_i kv1 hd1
    split at hw1
    · rename_i st
      obtain ⟨ad, ks1, rfl, hr1, _⟩ := dic_at R1 rv1 st hd1
      refine ⟨ad, rfl, isD_of hr1, ?_⟩
      refine dTE.firstG R1 hw1 (fun c S' h => h) fun rk S2 y H2 B2 ρ2 R2 sb2 ex2 rv2 hw2 => ?_
      split at hw2
      · rename_i k hk
        obtain ⟨dk, hpk, hkk⟩ := Option.bind_eq_some_iff.mp hk
        have hy := VR.peeked R2 rv2 hpk hkk
        refine dTE.firstG R2 hw2 (fun c S' h => EQ.mono sb2 ex2 h) fun rx S3 z H3 B3 ρ3 R3 sb3 ex3 rv3 hw3 => ?_
        cases hs : settle rx S3 with
        | exc c S4 => exact (settle_exc hs).elim
        | stk =>
          rw [hs] at hw3
          exact hw3.elim
        | ok dx S4 =>
          rw [hs] at hw3
          obtain ⟨B4, R4, sb4, rv4⟩ := settle_ok R3 rv3 hs
          have hw4 : Wp (match dicOf ro S4 with
            | some kvs => Res.ok (RV.val ((dget kvs k).getD dx)) S4
            | none => .stk) (PQ Z F B ρ σ Q) (EQ Z F B1 ρ1 σ W) := hw3
          split at hw4
          · rename_i kvs hd4
            have rvo : RVR Z F S4 σ H3 B4 ρ3 (.ref ad) ro := rv1.mono st ((sb2.trans sb3).trans sb4) (ex2.trans ex3)
            obtain ⟨ad', ks, e, hr, hks⟩ := dic_at R4 rvo st hd4
            cases e
            refine ⟨valV ks k, .inl ⟨ks, k, hr, hy, rfl⟩, ?_⟩
            have fin : ∀ v d, VR Z B4 ρ3 v d → PQ Z F B ρ σ Q (.val d) S4 → Q v H3 := fun v d h p => p v H3 B4 ρ3 R4 (((sb1.trans sb2).trans sb3).trans sb4) ((ex1.trans ex2).trans ex3) h
            rcases VRk.get k hks with ⟨g1, g2⟩ | ⟨d, v, g1, g2, g3⟩
            · rw [g1] at hw4
              rw [g2]
              exact fin _ _ rv4 hw4
            · rw [g1] at hw4
              rw [g2]
              exact fin _ _ g3 hw4
          · exact hw4.elim
      · exact hw2.elim
    · exact hw1.elim
  · exact hw1.elim⟩
def dDPop1 (fo fk : DS → Res RV) : DS → Res RV := fun S => (fo S).bind fun ro S1 => match dicOf ro S1 with
  | some _ => if ro.still = true then ((fk S1).bind fun rk S2 => match dictOf ro S2, (peek S2 rk).bind keyOf with
    | some kvs, some k => if freeAt ro S2 = true then (match dget kvs k with
      | some d => .ok (.val d) (putAt ro (.dic (ddrop kvs k)) S2)
      | none => .stk) else .stk
    | _, _ => .stk) else .stk
  | none => .stk
theorem de_dpop1 {apos cpos : Pos} (ho : DE Z X o fo) (ha : DE Z X a fa) (bo : baseOk o = true) (hline : (apos.endLine == cpos.line) = true) (na : noStar a = true) :
    DE Z X (.Call (.Attribute o "pop" apos) [a] [] cpos) (dDPop1 fo fa) := ⟨fun W tk => PE.imp (pe_dpop1 (ho.run W tk) (ha.run W tk) ⟨base_of bo, few1 na, hline, by rw [st1 na]; rfl⟩) fun σ H Q ⟨F, S, B, ρ, R, q⟩ => by
  refine dTE.first R q fun ro S1 x H1 B1 ρ1 R1 sb1 ex1 rv1 hw1 => ?_
  split at hw1
  · rename_i kv1 hd1
    split at hw1
    · rename_i st
      obtain ⟨ad, ks1, rfl, hr1, _⟩ := dic_at R1 rv1 st hd1
      refine ⟨ad, rfl, isD_of hr1, ?_⟩
      refine dTE.firstG R1 hw1 (fun c S' h => h) fun rk S2 y H2 B2 ρ2 R2 sb2 ex2 rv2 hw2 => ?_
      split at hw2
      · rename_i kvs k hd hk
        split at hw2
        · rename_i hf
          split at hw2
          · rename_i d hg
            have rvo : RVR Z F S2 σ H2 B2 ρ2 (.ref ad) ro := rv1.mono st sb2 ex2
            unfold dictOf at hd
            split at hd
            · rename_i kvs' hcon
              cases hd
              obtain ⟨ad', lk, e, hcr, hfr⟩ := cont_at R2 rvo hcon
              cases e
              obtain ⟨rfl, hput⟩ := hfr hf
              obtain ⟨oo, ⟨ks, rfl, h1⟩, h2⟩ := hcr
              rcases h2 with h2 | ⟨z, _⟩
              · obtain ⟨dk, hpk, hkk⟩ := Option.bind_eq_some_iff.mp hk
                have hy := VR.peeked R2 rv2 hpk hkk
                rcases VRk.get k h1 with ⟨g1, g2⟩ | ⟨d', v, g1, g2, g3⟩
                · rw [g1] at hg
                  cases hg
                · rw [g1] at hg
                  cases hg
                  exact ⟨ks, k, v, h2, hy, g2, hw2 v _ B2 ρ2 (hput _ (.dK (L2.dropK ks k)) ⟨_, rfl, VRk.dropK k h1⟩) (sb1.trans sb2) (ex1.trans ex2) g3⟩
              · cases z
            · cases hd
          · exact hw2.elim
        · exact hw2.elim
      · exact hw2.elim
    · exact hw1.elim
  · exact hw1.elim⟩

/-- d.clear() -/
def dDClear (fo : DS → Res RV) : DS → Res RV := fun S => (fo S).bind fun ro S1 => match dictOf ro S1 with
  | some _ => if freeAt ro S1 = true then .ok (.val .non) (putAt ro (.dic []) S1) else .stk
  | none => .stk
theorem de_dclear {apos cpos : Pos} (ho : DE Z X o fo) (bo : baseOk o = true) (hline : (apos.endLine == cpos.line) = true) :
    DE Z X (.Call (.Attribute o "clear" apos) [] [] cpos) (dDClear fo) := ⟨fun W tk => PE.imp (pe_dclear (ho.run W tk) (base_of bo) hline) fun σ H Q ⟨F, S, B, ρ, R, q⟩ => by
  refine dTE.first R q fun ro S1 x H1 B1 ρ1 R1 sb1 ex1 rv1 hw1 => ?_
  split at hw1
  · rename_i kvs hd
    split at hw1
    · rename_i hf
      unfold dictOf at hd
      split at hd
      · rename_i kvs' hcon
        cases hd
        obtain ⟨ad, lk, rfl, hcr, hfr⟩ := cont_at R1 rv1 hcon
        obtain ⟨rfl, hput⟩ := hfr hf
        have ty := hcr.tyV (K := X.K)
        obtain ⟨oo, ⟨ks, rfl, h1⟩, h2⟩ := hcr
        rcases h2 with h2 | ⟨z, _⟩
        · exact ⟨ty, ad, ks, rfl, rfl, h2, hw1 .non _ B1 ρ1 (hput _ (.dK []) ⟨[], rfl, .nil⟩) sb1 ex1 .non⟩
        · cases z
      · cases hd
    · exact hw1.elim
  · exact hw1.elim⟩

/-! ### dict(..), sorted(..) -/
def pairsOf : List D → Option (List (Key × D))
  | [] => some []
  | .tup [k, d] :: ds => (match keyOf k, pairsOf ds with
    | some k, some r => some ((k, d) :: r)
    | _, _ => none)
  | _ :: _ => none
def mergeD (acc more : List (Key × D)) : List (Key × D) := more.foldl (fun acc kv => dput acc kv.1 kv.2) acc
def gDict : List D → R
  | [.dic kvs] => .own (.dic kvs)
  | [.lst ds] => (match pairsOf ds with
    | some kvs => .own (.dic (mergeD [] kvs))
    | none => .stk)
  | _ => .stk
def keysI : List (Key × D) → Option (List Int)
  | [] => some []
  | (.inl i, _) :: ds => (keysI ds).map (i :: ·)
  | _ :: _ => none
def sortI (ns : List Int) : List Int := ns.mergeSort fun a b => decide (a ≤ b)
theorem sortI_eq {ns ms : List Int} (h : ms.Perm ns) (s : ms.Pairwise (· ≤ ·)) : ms = sortI ns := by
  have p : (sortI ns).Perm ns := List.mergeSort_perm ns _
  have q : (sortI ns).Pairwise (· ≤ ·) := by
    have := List.pairwise_mergeSort (le := fun a b : Int => decide (a ≤ b)) (fun a b c h1 h2 => by simp at h1 h2 ⊢; omega) (fun a b => by simp; omega) ns
    exact this.imp fun h => by simpa using h
  exact List.Perm.eq_of_pairwise (fun _ _ _ _ a b => Int.le_antisymm a b) s q (h.trans p.symm)
def gSorted : List D → R
  | [.dic kvs] => (match keysI kvs with
    | some ns => if ns.length < 64 then .own (.lst ((sortI ns).map D.int)) else .stk
    | none => .stk)
  | ds => gOne intsOf (fun ns => .own (.lst ((sortI ns).map D.int))) ds
theorem pairsOf_ok : ∀ {ds : List D} {kvs : List (Key × D)} {xs : List V}, pairsOf ds = some kvs → VRs Z B ρ xs ds → ∃ (ps : List Addr) (ks : List (Key × V)), xs = ps.map V.ref ∧ Paired (fun p kv => SqT Z.K B p [kV kv.1, kv.2]) ps ks ∧ VRk Z B ρ ks kvs
  | [], _, _, h, .nil => by
    cases h
    exact ⟨[], [], rfl, .nil, .nil⟩
  | d :: ds, kvs, x :: xs, h, .cons hd ht => by
    unfold pairsOf at h
    split at h
    · rename_i heq
      cases heq
    · rename_i k e ds' heq
      cases heq
      split at h
      · rename_i k' r h1 h2
        cases h
        obtain ⟨ps, ks, g1, g2, g3⟩ := pairsOf_ok h2 ht
        cases hd with
        | tup hs hv =>
          cases hv with
          | cons a1 a2 =>
            cases a2 with
            | cons b1 b2 =>
              cases b2
              have hk := kV_of a1 h1
              subst hk
              exact ⟨_ :: ps, (k', _) :: ks, by rw [g1]; rfl, .cons hs g2, .cons b1 g3⟩
      · cases h
    · cases h
theorem mergeD_ok : ∀ {ms : List (Key × D)} {ns : List (Key × V)} {as : List (Key × D)} {bs : List (Key × V)}, VRk Z B ρ ns ms → VRk Z B ρ bs as → VRk Z B ρ (mergeK bs ns) (mergeD as ms)
  | [], _, _, _, .nil, h => h
  | (k, d) :: ms, (_, v) :: ns, as, bs, .cons h t, g => mergeD_ok (ms := ms) (ns := ns) (as := dput as k d) (bs := putK bs k v) t (VRk.put h k g)
theorem paired_mono {K : PySem.W.Frag} {A B : Hp} (le : Le A B) : ∀ {ps : List Addr} {ks : List (Key × V)}, Paired (fun p kv => SqT K A p [kV kv.1, kv.2]) ps ks → Paired (fun p kv => SqT K B p [kV kv.1, kv.2]) ps ks
  | _, _, .nil => .nil
  | _, _, .cons h t => .cons (le.tup h) (paired_mono le t)
theorem keysI_ok : ∀ {ds : List (Key × D)} {ns : List Int} {ks : List (Key × V)}, keysI ds = some ns → VRk Z B ρ ks ds → ks.map (·.1) = ns.map Sum.inl
  | [], _, _, h, .nil => by
    cases h
    rfl
  | (k, d) :: ds, ns, (_, v) :: ks, h, .cons _ t => by
    unfold keysI at h
    split at h
    · rename_i heq
      cases heq
    · rename_i i _ ds' heq
      cases heq
      cases hr : keysI ds with
      | none =>
        rw [hr] at h
        cases h
      | some r =>
        rw [hr] at h
        cases h
        rw [List.map_cons, List.map_cons, keysI_ok hr t]
    · cases h
theorem call_dictA (hK : X.K = Z.K) (hc : X.calm = true) : CallR X (.type "dict") (rDs Z gDict) := by
  refine CallR.imp (CallR.or call_dictD (call_dictP hc)) fun vs H Q q => ?_
  obtain ⟨F, S, σ, B, ρ, ds, R, hx, q⟩ := q
  unfold gDict at q
  split at q
  · obtain ⟨v, rfl, h⟩ := hx.one
    obtain ⟨a, ks, rfl, h1, h2⟩ := h
    exact .inl ⟨a, ks, rfl, h1, q.dic R h2⟩
  · split at q
    · rename_i kvs hp
      obtain ⟨v, rfl, h⟩ := hx.one
      obtain ⟨a, xs, rfl, h1, h2⟩ := h
      obtain ⟨ps, ks, rfl, g2, g3⟩ := pairsOf_ok hp h2
      refine .inr ⟨a, ps, ks, rfl, .inl (.inl h1), ?_, q.dic R (mergeD_ok g3 .nil)⟩
      rw [hK]
      exact paired_mono (.of_same R.bh) g2
    · exact q.elim
  · exact q.elim
theorem call_sortedA (hc : X.calm = true) : CallR X (.builtin "sorted") (rDs Z gSorted) := by
  refine CallR.imp (CallR.or (call_sortedDI hc) cr_sortedI) fun vs H Q q => ?_
  obtain ⟨F, S, σ, B, ρ, ds, R, hx, q⟩ := q
  unfold gSorted at q
  split at q
  · split at q
    · rename_i ns hp
      split at q
      · rename_i hl
        obtain ⟨v, rfl, h⟩ := hx.one
        obtain ⟨a, ks, rfl, h1, h2⟩ := h
        refine .inl ⟨a, ks, ns, rfl, h1, keysI_ok hp h2, hl, fun ys p hperm hs hf => ?_⟩
        rw [sortI_eq hperm hs]
        exact q.lst R (VRs.of_ints _) p hf
      · exact q.elim
    · exact q.elim
  · obtain ⟨es, ns, rfl, he, q2⟩ := gOne_of q
    cases intsOf_eq he
    obtain ⟨v, rfl, a, xs, rfl, h1, h2⟩ := hx.one
    cases h2.ints
    refine .inr ⟨a, ns, rfl, .inl (.inl h1), fun ys p hperm hs hf => ?_⟩
    rw [sortI_eq hperm hs]
    exact q2.lst R (VRs.of_ints _) p hf
end
end TW
/-! TWG: walks over dicts. -/
namespace TW
open PySem PySem.Spec L2
section
variable {Z : SX} {X : Cx} {W : WX} {F : Hp} {S : DS} {σ : St} {H B : Hp} {ρ : List Addr} {tg iter : Expr} {f : DS → Out} {A A' : List Nat} {pos : Pos}
theorem for_core {g : TW.D → DS → Res Unit} {s : Src} {S1 : DS} {H0 H1 B1 : Hp} {ρ1 : List Addr} {J : It} {D : Ends} (nj : ∀ j, s.at_ = some j → j ∉ A ++ A') (q : WpS Z F B ρ σ (A ++ A') W D (forLoopA s g f s.items S1)) (R1 : Rel Z F S1 σ H1 B1 ρ1) (sb : Same B B1) (ex : Ex ρ ρ1) (wk : Walks Z J s F σ B1 ρ1) :
    tFor (fun _ _ R => R J H1) (dTG Z g A) (dTS Z f W A') D σ H0 := by
  have wσ : ∀ {σ2 : St}, Keeps (A ++ A') σ σ2 → ∀ j, s.at_ = some j → σ2[j]? = σ[j]? := fun k j h => k.2 j (nj j h)
  refine ⟨fun i m σ2 H2 => m = s.items.length - i ∧ i ≤ s.items.length ∧ ∃ S2 B2 ρ2, Rel Z F S2 σ2 H2 B2 ρ2 ∧ Same B1 B2 ∧ Ex ρ1 ρ2 ∧ Keeps (A ++ A') σ σ2 ∧ WpS Z F B ρ σ (A ++ A') W D (forLoopA s g f (s.items.drop i) S2), ⟨_, rfl, Nat.zero_le _, S1, B1, ρ1, R1, fun _ _ z => z, .refl ρ1, .refl _ σ, by rw [List.drop_zero]; exact q⟩, ?_⟩
  rintro i m σ2 H2 ⟨rfl, hi, S2, B2, ρ2, R2, sb2, ex2, k2, hw⟩
  by_cases hlt : i < s.items.length
  · have ed : s.items.drop i = s.items[i] :: s.items.drop (i + 1) := List.drop_eq_getElem_cons hlt
    rw [ed] at hw
    unfold forLoopA at hw
    split at hw
    · rename_i al
      obtain ⟨g1, g2⟩ := wk.go _ S2 _ H2 B2 ρ2 i s.items[i] R2 (fun _ _ z => z) sb2 ex2 al (wσ k2) (List.getElem?_eq_getElem hlt)
      refine .inr ⟨g1, _, fun σ' H' hN => ⟨s.items.length - (i + 1), by omega, hN⟩, fun x H' y => ?_⟩
      obtain ⟨B3, R3, sb3, rx⟩ := g2 x H' y
      refine ⟨F, S2, B3, ρ2, s.items[i], R3, rx, ?_⟩
      cases htg : g s.items[i] S2 with
      | exc c S4 =>
        rw [htg] at hw
        exact hw.elim
      | stk =>
        rw [htg] at hw
        exact hw.elim
      | ok u S4 =>
        rw [htg] at hw
        dsimp only at hw
        intro σ4 R4 k4
        refine ⟨F, S4, B3, ρ2, R4, ?_⟩
        have again : ∀ S5, WpS Z F B ρ σ (A ++ A') W D (forLoopA s g f (s.items.drop (i + 1)) S5) → NX Z F B3 ρ2 σ4 A' (fun σ' H' => s.items.length - (i + 1) = s.items.length - (i + 1) ∧ i + 1 ≤ s.items.length ∧ ∃ S2 B2 ρ2, Rel Z F S2 σ' H' B2 ρ2 ∧ Same B1 B2 ∧ Ex ρ1 ρ2 ∧ Keeps (A ++ A') σ σ' ∧ WpS Z F B ρ σ (A ++ A') W D (forLoopA s g f (s.items.drop (i + 1)) S2)) S5 := fun S5 h5 σ5 H5 B5 ρ5 R5 sb5 ex5 k5 =>
          ⟨rfl, hlt, S5, B5, ρ5, R5, (sb2.trans sb3).trans sb5, ex2.trans ex5, (k2.trans (k4.trans k5)).mono (fun j hj => by simp only [List.mem_append] at hj ⊢; rcases hj with (h | h) | h | h <;> simp [h]), h5⟩
        have up : ∀ {P : St → Hp → Prop} {S5 : DS}, NX Z F B ρ σ (A ++ A') P S5 → NX Z F B3 ρ2 σ4 A' P S5 := fun h σ5 H5 B5 ρ5 R5 sb5 ex5 k5 => h σ5 H5 B5 ρ5 R5 (((sb.trans sb2).trans sb3).trans sb5) ((ex.trans ex2).trans ex5) ((k2.trans (k4.trans k5)).mono (fun j hj => by simp only [List.mem_append] at hj ⊢; rcases hj with (h | h) | h | h <;> simp [h]))
        cases hf : f S4 with
        | next S5 =>
          rw [hf] at hw
          exact again S5 hw
        | cont S5 =>
          rw [hf] at hw
          exact again S5 hw
        | brk S5 =>
          rw [hf] at hw
          dsimp only at hw
          split at hw
          · rename_i al5
            exact fun σ5 H5 B5 ρ5 R5 sb5 ex5 k5 => up hw σ5 H5 B5 ρ5 (R5.unlock al5) sb5 ex5 k5
          · exact hw.elim
        | ret r S5 =>
          rw [hf] at hw
          exact fun v H5 B5 ρ5 R5 sb5 ex5 rv => hw v H5 B5 ρ5 R5 (((sb.trans sb2).trans sb3).trans sb5) ((ex.trans ex2).trans ex5) rv
        | exc c S5 =>
          rw [hf] at hw
          exact fun cls σ5 H5 B5 ρ5 R5 sb5 ex5 k5 hc => hw cls σ5 H5 B5 ρ5 R5 (((sb.trans sb2).trans sb3).trans sb5) ((ex.trans ex2).trans ex5) ((k2.trans (k4.trans k5)).mono (fun j hj => by simp only [List.mem_append] at hj ⊢; rcases hj with (h | h) | h | h <;> simp [h])) hc
        | stk =>
          rw [hf] at hw
          exact hw
    · exact hw.elim
  · have e : i = s.items.length := by omega
    subst e
    rw [List.drop_length] at hw
    unfold forLoopA at hw
    split at hw
    · rename_i al
      exact .inl ⟨wk.stop _ S2 _ H2 B2 ρ2 _ R2 (fun _ _ z => z) sb2 ex2 al (wσ k2) (Nat.le_refl _), hw σ2 H2 B2 ρ2 (R2.unlock al) (sb.trans sb2) (ex.trans ex2) k2⟩
    · exact hw.elim
theorem lc_coreD {tg : D → DS → Res Unit} {vs : List Nat} {tt : DS → Res Bool} {te : DS → Res RV} {Q : VK} {s : Src} {S1 : DS} {H0 H1 B1 : Hp} {ρ1 : List Addr} {J : It} (hA : ∀ i, i ∈ A → i ∈ vs) (R1 : Rel Z F S1 σ H1 B1 ρ1) (sb : Same B B1) (ex : Ex ρ ρ1) (wk : Walks Z J s F σ B1 ρ1)
    (no : (vs.all fun v => notOwn (S1.sl[v]?.join)) = true) (nj : ∀ j, s.at_ = some j → j ∉ vs)
    (hw : Wp ((lcLoop s tg tt te vs s.items [] { S1 with sl := wipeS vs S1.sl }).quiet.bind fun ds S2 => Res.ok (RV.own (.lst ds)) (unlock s { S2 with sl := backS S1.sl vs S2.sl })) (PQ Z F B ρ σ Q) (EQ Z F B ρ σ W)) :
    tLc (fun _ _ R => R J H1) (dTG Z tg A) (dTT Z tt fun _ _ _ _ => False) (dTE Z te fun _ _ _ _ => False) vs σ H0 Q := by
  intro dl hD
  have hw := hw.bind
  have sF : ∀ {xs : List V}, F dl = none → Same F (upd F dl (.lst xs)) := fun {xs} hF b u e => by
    rw [upd_ne (ne_of_none e hF)]
    exact e
  have wσ : ∀ j, s.at_ = some j → (L2.wipe σ vs)[j]? = σ[j]? := fun j e => wipe_get (nj j e)
  -- the invariant
  refine ⟨fun i m H2 => m = s.items.length - i ∧ i ≤ s.items.length ∧ ∃ acc xs S2 B2 ρ2, F dl = none ∧ VRs Z B2 ρ2 xs acc ∧ Rel Z (upd F dl (.lst xs)) S2 (L2.wipe σ vs) H2 B2 ρ2 ∧ Same B1 B2 ∧ Ex ρ1 ρ2 ∧
    Wp (lcLoop s tg tt te vs (s.items.drop i) acc S2) (fun ds S3 => Wp (Res.ok (RV.own (.lst ds)) (unlock s { S3 with sl := backS S1.sl vs S3.sl })) (PQ Z F B ρ σ Q) (EQ Z F B ρ σ W)) (fun _ _ => False), ⟨_, rfl, Nat.zero_le _, [], [], { S1 with sl := wipeS vs S1.sl }, B1, ρ1, ?_, .nil, ?_, fun _ _ z => z, .refl ρ1, ?_⟩, ?_⟩
  · exact R1.fh.free hD
  · have R2 := (R1.wipe vs).grow (o := .lst []) hD
    exact R2.hide ((R1.wipe vs).fresh hD) upd_same
  · rw [List.drop_zero]
    exact Wp.quiet hw
  · rintro i m H2 ⟨rfl, hi, acc, xs, S2, B2, ρ2, hF, h2, R2, sb2, ex2, hl⟩
    by_cases hlt : i < s.items.length
    · have ed : s.items.drop i = s.items[i] :: s.items.drop (i + 1) := List.drop_eq_getElem_cons hlt
      rw [ed] at hl
      unfold lcLoop at hl
      split at hl
      · rename_i al
        obtain ⟨g1, g2⟩ := wk.go _ S2 _ H2 B2 ρ2 i s.items[i] R2 (sF hF) sb2 ex2 al wσ (List.getElem?_eq_getElem hlt)
        refine .inr ⟨g1, _, fun H' hN => ⟨s.items.length - (i + 1), by omega, hN⟩, fun x H' y => ?_⟩
        obtain ⟨B3, R3, sb3, rx⟩ := g2 x H' y
        refine ⟨upd F dl (.lst xs), S2, B3, ρ2, s.items[i], R3, rx, hl.bind.mono (fun _ S4 hw4 σ4 R4 k4 => ?_) fun _ _ z => z.elim⟩
        have ew : L2.wipe σ4 vs = L2.wipe σ vs := wipe_eq hA k4
        refine ⟨ew, dTT.firstG R4 hw4 (fun _ _ z => z.elim) fun b S5 H5 B5 ρ5 R5 sb5 ex5 hw5 => ?_⟩
        have tonext : ∀ {S6 : DS} {H6 B6 : Hp} {ρ6 : List Addr} {xs' : List V} {acc' : List D}, Rel Z (upd F dl (.lst xs')) S6 σ4 H6 B6 ρ6 → VRs Z B6 ρ6 xs' acc' → Same B5 B6 → Ex ρ5 ρ6 →
            Wp (lcLoop s tg tt te vs (s.items.drop (i + 1)) acc' { S6 with sl := wipeS vs S6.sl }) (fun ds S3 => Wp (Res.ok (RV.own (.lst ds)) (unlock s { S3 with sl := backS S1.sl vs S3.sl })) (PQ Z F B ρ σ Q) (EQ Z F B ρ σ W)) (fun _ _ => False) →
            (s.items.length - (i + 1) = s.items.length - (i + 1) ∧ i + 1 ≤ s.items.length ∧ ∃ acc xs S2 B2 ρ2, F dl = none ∧ VRs Z B2 ρ2 xs acc ∧ Rel Z (upd F dl (.lst xs)) S2 (L2.wipe σ vs) H6 B2 ρ2 ∧ Same B1 B2 ∧ Ex ρ1 ρ2 ∧
              Wp (lcLoop s tg tt te vs (s.items.drop (i + 1)) acc S2) (fun ds S3 => Wp (Res.ok (RV.own (.lst ds)) (unlock s { S3 with sl := backS S1.sl vs S3.sl })) (PQ Z F B ρ σ Q) (EQ Z F B ρ σ W)) (fun _ _ => False)) := fun {S6 H6 B6 ρ6 xs' acc'} R6 v6 sb6 ex6 hl6 => by
          have R7 := R6.wipe vs
          rw [ew] at R7
          exact ⟨rfl, hlt, acc', xs', _, B6, ρ6, hF, v6, R7, ((sb2.trans sb3).trans sb5).trans sb6, (ex2.trans ex5).trans ex6, hl6⟩
        cases b with
        | true =>
          rw [if_pos rfl] at hw5 ⊢
          refine dTE.firstG R5 hw5 (fun _ _ z => z.elim) fun r S6 y' H6 B6 ρ6 R6 sb6 ex6 rv6 hw6 => ?_
          cases hs : settle r S6 with
          | ok d S7 =>
            rw [hs] at hw6
            dsimp only [Res.bind] at hw6
            obtain ⟨B7, R7, sb7, rv7⟩ := settle_ok R6 rv6 hs
            split at hw6
            · rename_i hlen
              refine ⟨xs, R7.fh _ _ upd_same, by rw [h2.length]; exact hlen, ?_⟩
              exact tonext R7.rehide (((h2.mono (.of_same (((sb3.trans sb5).trans sb6).trans sb7)) (ex5.trans ex6))).append (.cons rv7 .nil)) (sb6.trans sb7) ex6 hw6
            · exact hw6.elim
          | exc c S7 => exact (settle_exc hs).elim
          | stk =>
            rw [hs] at hw6
            exact hw6.elim
        | false =>
          rw [if_neg Bool.false_ne_true] at hw5 ⊢
          exact tonext R5 (h2.mono (.of_same (sb3.trans sb5)) ex5) (fun _ _ z => z) (.refl ρ5) hw5
      · exact hl.elim
    · have e : i = s.items.length := by omega
      subst e
      rw [List.drop_length] at hl
      unfold lcLoop at hl
      split at hl
      · rename_i al
        refine .inl ⟨wk.stop _ S2 _ H2 B2 ρ2 _ R2 (sF hF) sb2 ex2 al wσ (Nat.le_refl _), ?_⟩
        obtain ⟨R3, f3, h3⟩ := R2.unhide hF
        have R4 := R1.unwipe no R3 sb2 ex2
        have f4 : Fresh F { S2 with sl := backS S1.sl vs S2.sl } σ B2 ρ2 dl := by
          refine ⟨f3.1, f3.2.1, f3.2.2.1, fun j ⟨c, lk, q1, q2⟩ => ?_⟩
          rcases backS_some q1 with ⟨n1, q1⟩ | ⟨n1, q1⟩
          · have := List.all_eq_true.mp no j n1
            rw [q1] at this
            cases this
          · exact f3.2.2.2 j ⟨c, lk, q1, by rw [wipe_get n1]; exact q2⟩
        have hq : ∀ S', Rel Z F S' σ H2 B2 ρ2 → (∀ j, ¬ OwnAt S' σ j dl) → PQ Z F B ρ σ Q (.own (.lst acc)) S' → Q (.ref dl) H2 := fun S' R' n' hp => hp (.ref dl) H2 B2 ρ2 R' (sb.trans sb2) (ex.trans ex2) ⟨dl, rfl, ⟨_, ⟨xs, rfl, h2⟩, .inl h3⟩, f4.1, f4.2.1, f4.2.2.1, n'⟩
        have hl' : PQ Z F B ρ σ Q (.own (.lst acc)) (unlock s { S2 with sl := backS S1.sl vs S2.sl }) := hl
        have al2 : Alive s { S2 with sl := backS S1.sl vs S2.sl } := by
          unfold Alive at al ⊢
          cases hs : s.lk with
          | no => trivial
          | heap k ds lk =>
            rw [hs] at al
            exact al
          | slot j ds lk =>
            rw [hs] at al
            have nn := nj j (by unfold Src.at_; rw [hs])
            have : ∀ ws : List Nat, j ∉ ws → (backS S1.sl ws S2.sl)[j]? = S2.sl[j]? := by
              intro ws
              induction ws with
              | nil => intro _; rfl
              | cons v ws ih =>
                intro h
                rw [List.mem_cons, not_or] at h
                unfold backS
                rw [List.getElem?_set_ne (fun e => h.1 e.symm), ih h.2]
            exact (this vs nn).trans al
        refine hq _ (R4.unlock al2) (fun k ⟨c, lk, q1, q2⟩ => ?_) hl'
        rcases own_unlock q1 with ⟨c', lk', q3⟩
        exact f4.2.2.2 k ⟨c', lk', q3 al2, q2⟩
      · exact hl.elim

/-! ### a dict is locked while it is walked -/
theorem Le.lockD {d : Addr} {ks : List (Key × V)} {od : Obj} (h : B d = some (.dK ks)) : Le B (upd B d (.frz od (.dK ks))) := by
  have ne : ∀ {a u}, B a = some u → u ≠ .dK ks → a ≠ d := fun {a u} e n z => by
    rw [z, h] at e
    exact n (Option.some.inj e).symm
  refine ⟨fun a xs r => ?_, fun a xs r => ?_, fun a ls r => ?_, fun a o e n1 n2 => ?_⟩
  · rcases r with r | ⟨ob, r⟩
    · exact .inl (by rw [upd_ne (ne r (by simp))]; exact r)
    · exact .inr ⟨ob, by rw [upd_ne (ne r (by simp))]; exact r⟩
  · rcases r with r | ⟨ob, r⟩
    · exact .inl (by rw [upd_ne (ne r (by simp))]; exact r)
    · exact .inr ⟨ob, by rw [upd_ne (ne r (by simp))]; exact r⟩
  · by_cases q : a = d
    · subst q
      rcases r with r | ⟨ob, r⟩
      · rw [h] at r
        cases r
        exact .inr ⟨od, upd_same⟩
      · rw [h] at r
        cases r
    · rcases r with r | ⟨ob, r⟩
      · exact .inl (by rw [upd_ne q]; exact r)
      · exact .inr ⟨ob, by rw [upd_ne q]; exact r⟩
  · rw [upd_ne (ne e (n1 ks))]
    exact e
theorem Le.unlockD {d : Addr} {ks : List (Key × V)} {od : Obj} (h : B d = some (.frz od (.dK ks))) : Le B (upd B d (.dK ks)) := by
  have ne : ∀ {a u}, B a = some u → u ≠ .frz od (.dK ks) → a ≠ d := fun {a u} e n z => by
    rw [z, h] at e
    exact n (Option.some.inj e).symm
  refine ⟨fun a xs r => ?_, fun a xs r => ?_, fun a ls r => ?_, fun a o e n1 n2 => ?_⟩
  · rcases r with r | ⟨ob, r⟩
    · exact .inl (by rw [upd_ne (ne r (by simp))]; exact r)
    · exact .inr ⟨ob, by rw [upd_ne (ne r (by simp))]; exact r⟩
  · rcases r with r | ⟨ob, r⟩
    · exact .inl (by rw [upd_ne (ne r (by simp))]; exact r)
    · exact .inr ⟨ob, by rw [upd_ne (ne r (by simp))]; exact r⟩
  · by_cases q : a = d
    · subst q
      rcases r with r | ⟨ob, r⟩
      · rw [h] at r
        cases r
      · rw [h] at r
        cases r
        exact .inl upd_same
    · rcases r with r | ⟨ob, r⟩
      · exact .inl (by rw [upd_ne q]; exact r)
      · exact .inr ⟨ob, by rw [upd_ne q]; exact r⟩
  · rw [upd_ne (ne e (n2 od _))]
    exact e
theorem RelH.chB {L : List LO} (R : RelH Z F L H B ρ) {d : Addr} {u u' : HO} (h : B d = some u) (le : Le B (upd B d u')) : RelH Z F L (upd H d u') (upd B d u') ρ := by
  have nb : ∀ {a}, B a = none → a ≠ d := fun {a} e z => by rw [z, h] at e; cases e
  refine ⟨fun b o e => ?_, fun b o e => ?_, fun b o e => ?_, R.rlen, R.rnd, fun b hb => ?_, R.rf, fun k b o h1 h2 => ?_⟩
  · by_cases q : b = d
    · subst q
      rw [upd_same] at e ⊢
      exact e
    · rw [upd_ne q] at e ⊢
      exact R.bh _ _ e
  · rw [upd_ne (nb (R.fb _ _ e))]
    exact R.fh _ _ e
  · rw [upd_ne (nb (R.fb _ _ e))]
    exact R.fb _ _ e
  · rw [upd_ne (nb (R.rb _ hb))]
    exact R.rb _ hb
  · exact LR.at_ (upd_ne (nb (R.rb _ (List.mem_of_getElem? h1)))) ((R.hp k b o h1 h2).mono le (.refl ρ))
theorem Rel.chB (R : Rel Z F S σ H B ρ) {d : Addr} {u u' : HO} (h : B d = some u) (le : Le B (upd B d u')) : Rel Z F S σ (upd H d u') (upd B d u') ρ := by
  have nb : ∀ {a}, B a = none → a ≠ d := fun {a} e z => by rw [z, h] at e; cases e
  refine ⟨R.toRelH.chB h le, R.len, fun i x q => ?_, fun i c lk q => ?_, R.sep, R.excs⟩
  · obtain ⟨v, h1, h2⟩ := R.vals i x q
    exact ⟨v, h1, h2.mono le (.refl ρ)⟩
  · obtain ⟨a, h1, h2, h3, h4, h5⟩ := R.owns i c lk q
    exact ⟨a, h1, CR.at_ (upd_ne (nb h3)) (h2.mono le (.refl ρ)), by rw [upd_ne (nb h3)]; exact h3, h4, h5⟩
theorem ρ_inj {k j : Nat} {a : Addr} (nd : ρ.Nodup) (h : ρ[k]? = some a) (h' : ρ[j]? = some a) : k = j := by
  obtain ⟨q1, q2⟩ := List.getElem?_eq_some_iff.mp h
  obtain ⟨q3, q4⟩ := List.getElem?_eq_some_iff.mp h'
  exact (List.getElem_inj nd).mp (q2.trans q4.symm)
theorem RelH.lockF {L : List LO} (R : RelH Z F L H B ρ) {k : Nat} {a : Addr} {kvs : List (Key × D)} {ks : List (Key × V)} {od : Obj} (hρ : ρ[k]? = some a) (hL : L[k]? = some (.con (.dic kvs) false)) (hv : VRk Z B ρ ks kvs) :
    RelH Z (upd F a (.frz od (.dK ks))) (L.set k (.con (.dic kvs) true)) (upd H a (.frz od (.dK ks))) B ρ := by
  have hm : a ∈ ρ := List.mem_of_getElem? hρ
  have hB := R.rb a hm
  have hk : k < L.length := (List.getElem?_eq_some_iff.mp hL).1
  have nb : ∀ {b u}, B b = some u → b ≠ a := fun {b u} e z => by rw [z, hB] at e; cases e
  refine ⟨fun b o e => ?_, fun b o e => ?_, fun b o e => ?_, by simpa using R.rlen, R.rnd, R.rb, fun j b o h1 h2 => ?_, fun j b o h1 h2 => ?_⟩
  · rw [upd_ne (nb e)]
    exact R.bh _ _ e
  · by_cases q : b = a
    · subst q
      rw [upd_same] at e ⊢
      exact e
    · rw [upd_ne q] at e ⊢
      exact R.fh _ _ e
  · by_cases q : b = a
    · subst q
      exact hB
    · rw [upd_ne q] at e
      exact R.fb _ _ e
  · by_cases q : k = j
    · subst q
      rw [List.getElem?_set_self hk] at h2
      cases h2
      rw [hρ] at h1
      cases h1
      exact ⟨od, _, upd_same⟩
    · rw [List.getElem?_set_ne q] at h2
      exact (R.rf j b o h1 h2).ne fun z => q (ρ_inj R.rnd hρ (by rw [← z]; exact h1))
  · by_cases q : k = j
    · subst q
      rw [List.getElem?_set_self hk] at h2
      cases h2
      rw [hρ] at h1
      cases h1
      exact ⟨_, ⟨ks, rfl, hv⟩, .inr ⟨rfl, ⟨ks, rfl⟩, od, upd_same⟩⟩
    · rw [List.getElem?_set_ne q] at h2
      exact LR.at_ (upd_ne fun z => q (ρ_inj R.rnd hρ (by rw [← z]; exact h1))) (R.hp j b o h1 h2)
theorem RelH.unlockF {L : List LO} {k : Nat} {a : Addr} {kvs : List (Key × D)} {ks : List (Key × V)} {od : Obj} (R : RelH Z (upd F a (.frz od (.dK ks))) L H B ρ) (hF : F a = none) (hρ : ρ[k]? = some a) (hL : L[k]? = some (.con (.dic kvs) true)) :
    RelH Z F (L.set k (.con (.dic kvs) false)) (upd H a (.dK ks)) B ρ := by
  have hm : a ∈ ρ := List.mem_of_getElem? hρ
  have hB := R.rb a hm
  have hk : k < L.length := (List.getElem?_eq_some_iff.mp hL).1
  have hH : H a = some (.frz od (.dK ks)) := R.fh _ _ upd_same
  have nb : ∀ {b u}, B b = some u → b ≠ a := fun {b u} e z => by rw [z, hB] at e; cases e
  have nf : ∀ {b u}, F b = some u → b ≠ a := fun {b u} e z => by rw [z, hF] at e; cases e
  refine ⟨fun b o e => ?_, fun b o e => ?_, fun b o e => R.fb b o (by rw [upd_ne (nf e)]; exact e), by simpa using R.rlen, R.rnd, R.rb, fun j b o h1 h2 => ?_, fun j b o h1 h2 => ?_⟩
  · rw [upd_ne (nb e)]
    exact R.bh _ _ e
  · rw [upd_ne (nf e)]
    exact R.fh _ _ (by rw [upd_ne (nf e)]; exact e)
  · by_cases q : k = j
    · subst q
      rw [List.getElem?_set_self hk] at h2
      cases h2
      rw [hρ] at h1
      cases h1
      exact hF
    · rw [List.getElem?_set_ne q] at h2
      exact (R.rf j b o h1 h2).en fun z => q (ρ_inj R.rnd hρ (by rw [← z]; exact h1))
  · by_cases q : k = j
    · subst q
      rw [List.getElem?_set_self hk] at h2
      cases h2
      rw [hρ] at h1
      cases h1
      obtain ⟨o1, ⟨ks', rfl, l1⟩, l2⟩ := R.hp k a _ hρ hL
      rcases l2 with l2 | ⟨_, _, ob, l2⟩
      · rw [hH] at l2
        cases l2
      · rw [hH] at l2
        cases l2
        exact ⟨_, ⟨_, rfl, l1⟩, .inl upd_same⟩
    · rw [List.getElem?_set_ne q] at h2
      exact LR.at_ (upd_ne fun z => q (ρ_inj R.rnd hρ (by rw [← z]; exact h1))) (R.hp j b o h1 h2)
theorem Rel.lockF (R : Rel Z F S σ H B ρ) {k : Nat} {a : Addr} {kvs : List (Key × D)} {ks : List (Key × V)} {od : Obj} (hρ : ρ[k]? = some a) (hL : S.L[k]? = some (.con (.dic kvs) false)) (hv : VRk Z B ρ ks kvs) :
    Rel Z (upd F a (.frz od (.dK ks))) { S with L := S.L.set k (.con (.dic kvs) true) } σ (upd H a (.frz od (.dK ks))) B ρ := by
  have hm : a ∈ ρ := List.mem_of_getElem? hρ
  refine ⟨R.toRelH.lockF hρ hL hv, R.len, R.vals, fun i c lk q => ?_, R.sep, R.excs⟩
  obtain ⟨b, h1, h2, h3, h4, h5⟩ := R.owns i c lk q
  have nb : b ≠ a := fun z => h5 (by rw [z]; exact hm)
  exact ⟨b, h1, CR.at_ (upd_ne nb) h2, h3, h4.ne nb, h5⟩
theorem Rel.unlockF {k : Nat} {a : Addr} {kvs : List (Key × D)} {ks : List (Key × V)} {od : Obj} (R : Rel Z (upd F a (.frz od (.dK ks))) S σ H B ρ) (hF : F a = none) (hρ : ρ[k]? = some a) (hL : S.L[k]? = some (.con (.dic kvs) true)) :
    Rel Z F { S with L := S.L.set k (.con (.dic kvs) false) } σ (upd H a (.dK ks)) B ρ := by
  have hm : a ∈ ρ := List.mem_of_getElem? hρ
  refine ⟨R.toRelH.unlockF hF hρ hL, R.len, R.vals, fun i c lk q => ?_, R.sep, R.excs⟩
  obtain ⟨b, h1, h2, h3, h4, h5⟩ := R.owns i c lk q
  have nb : b ≠ a := fun z => h5 (by rw [z]; exact hm)
  exact ⟨b, h1, CR.at_ (upd_ne nb) h2, h3, h4.en nb, h5⟩

def keyD : Key → D
  | .inl i => .int i
  | .inr x => .str x
def itemsD (kvs : List (Key × D)) : List D := kvs.map fun kv => .tup [keyD kv.1, kv.2]
def keysD (kvs : List (Key × D)) : List D := kvs.map fun kv => keyD kv.1
def valsD (kvs : List (Key × D)) : List D := kvs.map fun kv => kv.2
theorem vr_key (k : Key) : VR Z B ρ (kV k) (keyD k) := by
  cases k with
  | inl i => exact .int i
  | inr x => exact .str x
theorem VRk.at_ : ∀ {ks : List (Key × V)} {kvs : List (Key × D)} {i : Nat} {kv : Key × D}, VRk Z B ρ ks kvs → kvs[i]? = some kv → ∃ v, ks[i]? = some (kv.1, v) ∧ VR Z B ρ v kv.2
  | _, _, _, _, .nil, e => by simp at e
  | _, _, 0, _, .cons h _, e => by
    simp at e
    subst e
    exact ⟨_, rfl, h⟩
  | _, _, i + 1, kv, .cons _ t, e => by
    obtain ⟨v, h1, h2⟩ := VRk.at_ (i := i) (kv := kv) t (by simpa using e)
    exact ⟨v, by simpa using h1, h2⟩
def Lkd (F B : Hp) (d : Addr) (o : Obj) (ks : List (Key × V)) : Prop := F d = some (.frz o (.dK ks)) ∨ B d = some (.frz o (.dK ks))
theorem Lkd.at_ {F' B' H' : Hp} {S' : DS} {σ' : St} {ρ' : List Addr} {d : Addr} {o : Obj} {ks : List (Key × V)} (h : Lkd F B d o ks) (R : Rel Z F' S' σ' H' B' ρ') (sf : Same F F') (sb : Same B B') : H' d = some (.frz o (.dK ks)) :=
  h.elim (fun h => R.fh _ _ (sf _ _ h)) fun h => R.bh _ _ (sb _ _ h)
theorem walks_items {d : Addr} {o : Obj} {ks : List (Key × V)} {kvs : List (Key × D)} {σ0 : St} (h : Lkd F B d o ks) (hv : VRk Z B ρ ks kvs) : Walks Z (Iti d o ks) ⟨itemsD kvs, .no⟩ F σ0 B ρ where
  go := fun F' S' σ' H' B' ρ' i dd R sf sb ex al nj hi => by
    have hi : (itemsD kvs)[i]? = some dd := hi
    unfold itemsD at hi
    rw [List.getElem?_map] at hi
    obtain ⟨kv, h1, rfl⟩ := Option.map_eq_some_iff.mp hi
    obtain ⟨v, h2, h3⟩ := hv.at_ h1
    refine ⟨⟨h.at_ R sf sb, (List.getElem?_eq_some_iff.mp h2).1⟩, fun x H2 y => ?_⟩
    obtain ⟨T, k, v', g1, rfl, g3, rfl⟩ := y
    rw [h2] at g1
    cases g1
    obtain ⟨R2, s2, r2⟩ := R.newTup g3 (.cons (vr_key kv.1) (.cons (h3.mono (.of_same sb) ex) .nil))
    exact ⟨_, R2, s2, r2⟩
  stop := fun F' S' σ' H' B' ρ' i R sf sb ex al nj hi => by
    have hi : (itemsD kvs).length ≤ i := hi
    unfold itemsD at hi
    rw [List.length_map, ← hv.length] at hi
    exact ⟨h.at_ R sf sb, hi⟩
theorem walks_keys {d : Addr} {o : Obj} {ks : List (Key × V)} {kvs : List (Key × D)} {σ0 : St} (h : Lkd F B d o ks) (hv : VRk Z B ρ ks kvs) : Walks Z (Itk d o ks) ⟨keysD kvs, .no⟩ F σ0 B ρ where
  go := fun F' S' σ' H' B' ρ' i dd R sf sb ex al nj hi => by
    have hi : (keysD kvs)[i]? = some dd := hi
    unfold keysD at hi
    rw [List.getElem?_map] at hi
    obtain ⟨kv, h1, rfl⟩ := Option.map_eq_some_iff.mp hi
    obtain ⟨v, h2, h3⟩ := hv.at_ h1
    refine ⟨⟨h.at_ R sf sb, (List.getElem?_eq_some_iff.mp h2).1⟩, fun x H2 y => ?_⟩
    obtain ⟨rfl, k, v', g1, rfl⟩ := y
    rw [h2] at g1
    cases g1
    exact ⟨_, R, fun _ _ z => z, vr_key kv.1⟩
  stop := fun F' S' σ' H' B' ρ' i R sf sb ex al nj hi => by
    have hi : (keysD kvs).length ≤ i := hi
    unfold keysD at hi
    rw [List.length_map, ← hv.length] at hi
    exact ⟨h.at_ R sf sb, hi⟩
theorem walks_vals {d : Addr} {o : Obj} {ks : List (Key × V)} {kvs : List (Key × D)} {σ0 : St} (h : Lkd F B d o ks) (hv : VRk Z B ρ ks kvs) : Walks Z (Itd d o ks) ⟨valsD kvs, .no⟩ F σ0 B ρ where
  go := fun F' S' σ' H' B' ρ' i dd R sf sb ex al nj hi => by
    have hi : (valsD kvs)[i]? = some dd := hi
    unfold valsD at hi
    rw [List.getElem?_map] at hi
    obtain ⟨kv, h1, rfl⟩ := Option.map_eq_some_iff.mp hi
    obtain ⟨v, h2, h3⟩ := hv.at_ h1
    refine ⟨⟨h.at_ R sf sb, (List.getElem?_eq_some_iff.mp h2).1⟩, fun x H2 y => ?_⟩
    obtain ⟨rfl, k, g1⟩ := y
    rw [h2] at g1
    cases g1
    exact ⟨_, R, fun _ _ z => z, h3.mono (.of_same sb) ex⟩
  stop := fun F' S' σ' H' B' ρ' i R sf sb ex al nj hi => by
    have hi : (valsD kvs).length ≤ i := hi
    unfold valsD at hi
    rw [List.length_map, ← hv.length] at hi
    exact ⟨h.at_ R sf sb, hi⟩
/-- the dict that a slot holds, or refers to -/
def dAt (i : Nat) (S : DS) : Option (List (Key × D)) := match S.sl[i]? with
  | some (some (.val (.dic kvs))) => some kvs
  | some (some (.val (.ref k))) => (match S.L[k]? with
    | some (.con (.dic kvs) true) => some kvs
    | _ => none)
  | _ => none
def dWalk (sel : List (Key × D) → List D) (i : Nat) : DS → Res Src := fun S => match dAt i S with
  | some kvs => .ok ⟨sel kvs, .no⟩ S
  | none => .stk
def lockD (i : Nat) (S : DS) : Option (DS × Option (Nat × List (Key × D))) := match S.sl[i]? with
  | some (some (.val (.dic kvs))) => some (S, none)
  | some (some (.own (.dic kvs) false)) => some ({ S with sl := S.sl.set i (some (.val (.dic kvs))) }, none)
  | some (some (.val (.ref k))) => (match S.L[k]? with
    | some (.con (.dic kvs) false) => some ({ S with L := S.L.set k (.con (.dic kvs) true) }, some (k, kvs))
    | _ => none)
  | _ => none
def stillD (k : Nat) (S : DS) : Bool := match S.L[k]? with
  | some (.con (.dic _) true) => true
  | _ => false
def unl (k : Nat) (S : DS) : DS := match S.L[k]? with
  | some (.con (.dic kvs) true) => { S with L := S.L.set k (.con (.dic kvs) false) }
  | _ => S
def Out.noExc : Out → Out
  | .exc _ _ => .stk
  | o => o
def Out.unl (k : Nat) : Out → Out
  | .next S => if stillD k S = true then .next (TW.unl k S) else .stk
  | .brk S => if stillD k S = true then .brk (TW.unl k S) else .stk
  | .cont S => if stillD k S = true then .cont (TW.unl k S) else .stk
  | .ret r S => if stillD k S = true then .ret r (TW.unl k S) else .stk
  | .exc _ _ => .stk
  | .stk => .stk
def oLock (i : Nat) (f : DS → Out) : DS → Out := fun S => match lockD i S with
  | none => .stk
  | some (S1, none) => (f S1).noExc
  | some (S1, some (k, _)) => (f S1).unl k
def Res.noExc {α : Type} : Res α → Res α
  | .exc _ _ => .stk
  | o => o
def Res.unl {α : Type} (k : Nat) : Res α → Res α
  | .ok a S => if stillD k S = true then .ok a (TW.unl k S) else .stk
  | .exc _ _ => .stk
  | .stk => .stk
def dLock {α : Type} (i : Nat) (f : DS → Res α) : DS → Res α := fun S => match lockD i S with
  | none => .stk
  | some (S1, none) => (f S1).noExc
  | some (S1, some (k, _)) => (f S1).unl k
/-- the dict of the slot is locked -/
def LkS (F B : Hp) (ρ : List Addr) (σ : St) (S : DS) (Z : SX) (i : Nat) : Prop := ∃ d o ks kvs, σ[i]? = some (some (.ref d)) ∧ Lkd F B d o ks ∧ VRk Z B ρ ks kvs ∧ dAt i S = some kvs
def dTSL (Z : SX) (i : Nat) (f : DS → Out) (W : WX) (A : List Nat) : TS := fun D σ H => ∃ F S B ρ, Rel Z F S σ H B ρ ∧ LkS F B ρ σ S Z i ∧ WpS Z F B ρ σ A W D (f S)
def dTEL (Z : SX) (i : Nat) (f : DS → Res RV) (W : WX) : TE := fun σ H Q => ∃ F S B ρ, Rel Z F S σ H B ρ ∧ LkS F B ρ σ S Z i ∧ Wp (f S) (PQ Z F B ρ σ Q) (EQ Z F B ρ σ W)

theorem stillD_of {k : Nat} {S : DS} (h : stillD k S = true) : ∃ kvs, S.L[k]? = some (.con (.dic kvs) true) ∧ unl k S = { S with L := S.L.set k (.con (.dic kvs) false) } := by
  unfold stillD at h
  split at h
  · rename_i kvs hk
    refine ⟨kvs, hk, ?_⟩
    unfold unl
    rw [hk]
  · cases h
/-- what lockD finds -/
theorem lock_val (R : Rel Z F S σ H B ρ) {i : Nat} {S1 : DS} (h : lockD i S = some (S1, none)) : ∃ B1 d ks kvs, Rel Z F S1 σ H B1 ρ ∧ Same B B1 ∧ σ[i]? = some (some (.ref d)) ∧ Rd B1 d (.dK ks) ∧ VRk Z B1 ρ ks kvs ∧ dAt i S1 = some kvs := by
  have fin : ∀ {B1 : Hp} {v : V} {S1 : DS} {kvs}, Rel Z F S1 σ H B1 ρ → Same B B1 → σ[i]? = some (some v) → VR Z B1 ρ v (.dic kvs) → S1.sl[i]? = some (some (.val (.dic kvs))) → ∃ B1 d ks kvs, Rel Z F S1 σ H B1 ρ ∧ Same B B1 ∧ σ[i]? = some (some (.ref d)) ∧ Rd B1 d (.dK ks) ∧ VRk Z B1 ρ ks kvs ∧ dAt i S1 = some kvs := fun {B1 v S1 kvs} R1 sb hσ hv hs => by
    cases hv with
    | dic h1 h2 => exact ⟨B1, _, _, kvs, R1, sb, hσ, h1, h2, by unfold dAt; rw [hs]⟩
  unfold lockD at h
  split at h
  · rename_i kvs hs
    cases h
    obtain ⟨v, h1, h2⟩ := R.vals i _ hs
    exact fin R (fun _ _ z => z) h1 h2 hs
  · rename_i kvs hs
    cases h
    obtain ⟨B', v, h1, h2, h3, h4⟩ := R.frzSlot hs
    exact fin h1 h2 h3 h4 (by
      show (S.sl.set i _)[i]? = _
      rw [List.getElem?_set_self (List.getElem?_eq_some_iff.mp hs).1])
  · split at h <;> cases h
  · cases h
theorem lock_ref (R : Rel Z F S σ H B ρ) {i k : Nat} {S1 : DS} {kv0 : List (Key × D)} (h : lockD i S = some (S1, some (k, kv0))) : ∃ a ks kvs, σ[i]? = some (some (.ref a)) ∧ ρ[k]? = some a ∧ F a = none ∧ H a = some (.dK ks) ∧ VRk Z B ρ ks kvs ∧ S.L[k]? = some (.con (.dic kvs) false) ∧ S1 = { S with L := S.L.set k (.con (.dic kvs) true) } ∧ dAt i S1 = some kvs := by
  unfold lockD at h
  split at h
  · cases h
  · cases h
  · rename_i k' hs
    split at h
    · rename_i kvs hL
      cases h
      obtain ⟨v, h1, h2⟩ := R.vals i _ hs
      cases h2 with
      | ref hρ =>
        obtain ⟨o, ⟨ks, rfl, g1⟩, g2⟩ := R.hp k _ _ hρ hL
        have hF : F _ = none := FA.free (c := .dic kv0) (R.rf k _ _ hρ hL)
        rcases g2 with g2 | ⟨z, _⟩
        · refine ⟨_, ks, kv0, h1, hρ, hF, g2, g1, hL, rfl, ?_⟩
          unfold dAt
          dsimp only
          rw [hs]
          dsimp only
          rw [List.getElem?_set_self (List.getElem?_eq_some_iff.mp hL).1]
        · cases z
    · cases h
  · cases h
theorem WpS.noExc {D : Ends} {o : Out} (h : WpS Z F B ρ σ A W D o.noExc) : WpS Z F B ρ σ A W D o := by
  cases o <;> first | exact h | exact h.elim
theorem same_back {B1 B' : Hp} {d : Addr} {u u' : HO} (sb : Same B B1) (h : B1 d = some u) (sb' : Same (upd B1 d u') B') : Same B (upd B' d u) := fun b o e => by
  by_cases q : b = d
  · subst q
    rw [sb _ _ e] at h
    cases h
    exact upd_same
  · rw [upd_ne q]
    exact sb' _ _ (by rw [upd_ne q]; exact sb _ _ e)
theorem dst_lock {st : Stmt} {i : Nat} (h : ∀ W, Takes X W → PS X st (dTSL Z i f W A)) : DSt Z X st (oLock i f) A := ⟨fun W tk => PS.imp (PS.or (ps_lock (h W tk)) (h W tk)) fun D σ H ⟨F, S, B, ρ, R, q⟩ => by
  unfold oLock at q
  split at q
  · exact q.elim
  · rename_i S1 hl
    obtain ⟨B1, d, ks, kvs, R1, sb1, hσ, hr, hv, hd⟩ := lock_val R hl
    have q := WpS.noExc q
    rcases hr with hr | ⟨o, hr⟩
    · refine .inl ⟨d, .dK ks, R1.bh _ _ hr, trivial, fun od => ⟨F, S1, upd B1 d (.frz od (.dK ks)), ρ, R1.chB hr (Le.lockD hr), ⟨d, od, ks, kvs, hσ, .inr upd_same, hv.mono (Le.lockD hr) (.refl ρ), hd⟩, ?_⟩⟩
      have nx : ∀ {P : St → Hp → Prop} {S' : DS}, NX Z F B ρ σ A P S' → NX Z F (upd B1 d (.frz od (.dK ks))) ρ σ A (fun σ' H' => H' d = some (.frz od (.dK ks)) ∧ P σ' (upd H' d (.dK ks))) S' := fun {P S'} q σ' H' B' ρ' R' sb ex kp => by
        have hb := sb _ _ upd_same
        exact ⟨R'.bh _ _ hb, q σ' _ _ ρ' (R'.chB hb (Le.unlockD hb)) (same_back sb1 hr sb) ex kp⟩
      cases ho : f S1 with
      | next S' =>
        rw [ho] at q
        exact nx q
      | brk S' =>
        rw [ho] at q
        exact nx q
      | cont S' =>
        rw [ho] at q
        exact nx q
      | ret r S' =>
        rw [ho] at q
        intro v H' B' ρ' R' sb ex rv
        have hb := sb _ _ upd_same
        refine ⟨R'.bh _ _ hb, q v _ _ ρ' (R'.chB hb (Le.unlockD hb)) (same_back sb1 hr sb) ex ?_⟩
        cases r with
        | val x => exact VR.mono (Le.unlockD hb) (.refl ρ') rv
        | own c =>
          obtain ⟨b, rfl, g1, g2, g3, g4⟩ := rv
          have nb : b ≠ d := fun z => by rw [z, hb] at g2; cases g2
          exact ⟨b, rfl, CR.at_ (upd_ne nb) (g1.mono (Le.unlockD hb) (.refl ρ')), by rw [upd_ne nb]; exact g2, g3, g4⟩
        | plc j => exact rv.elim
      | exc c S' =>
        have : WpS Z F B ρ σ A W D ((f S1).noExc) := by assumption
        rw [ho] at this
        exact this.elim
      | stk =>
        rw [ho] at q
        exact q.elim
    · exact .inr ⟨F, S1, B1, ρ, R1, ⟨d, o, ks, kvs, hσ, .inr hr, hv, hd⟩, WpS.later sb1 (.refl ρ) q⟩
  · rename_i S1 k kv0 hl
    obtain ⟨a, ks, kvs, hσ, hρ, hF, hH, hv, hL, rfl, hd⟩ := lock_ref R hl
    refine .inl ⟨a, .dK ks, hH, trivial, fun od => ⟨upd F a (.frz od (.dK ks)), _, B, ρ, R.lockF hρ hL hv, ⟨a, od, ks, kvs, hσ, .inl upd_same, hv, hd⟩, ?_⟩⟩
    have nx : ∀ {P : St → Hp → Prop} {S' : DS}, stillD k S' = true → NX Z F B ρ σ A P (unl k S') → NX Z (upd F a (.frz od (.dK ks))) B ρ σ A (fun σ' H' => H' a = some (.frz od (.dK ks)) ∧ P σ' (upd H' a (.dK ks))) S' := fun {P S'} hs q σ' H' B' ρ' R' sb ex kp => by
      obtain ⟨kvs', g1, g2⟩ := stillD_of hs
      rw [g2] at q
      exact ⟨R'.fh _ _ upd_same, q σ' _ _ ρ' (R'.unlockF hF (ex k a hρ) g1) sb ex kp⟩
    cases ho : f { S with L := S.L.set k (.con (.dic kvs) true) } with
    | next S' =>
      rw [ho] at q
      dsimp only [Out.unl] at q
      split at q
      · exact nx (by assumption) q
      · exact q.elim
    | brk S' =>
      rw [ho] at q
      dsimp only [Out.unl] at q
      split at q
      · exact nx (by assumption) q
      · exact q.elim
    | cont S' =>
      rw [ho] at q
      dsimp only [Out.unl] at q
      split at q
      · exact nx (by assumption) q
      · exact q.elim
    | ret r S' =>
      rw [ho] at q
      dsimp only [Out.unl] at q
      split at q
      · rename_i hs
        obtain ⟨kvs', g1, g2⟩ := stillD_of hs
        rw [g2] at q
        intro v H' B' ρ' R' sb ex rv
        have hm : a ∈ ρ' := List.mem_of_getElem? (ex k a hρ)
        refine ⟨R'.fh _ _ upd_same, q v _ _ ρ' (R'.unlockF hF (ex k a hρ) g1) sb ex ?_⟩
        cases r with
        | val x => exact rv
        | own c =>
          obtain ⟨b, rfl, p1, p2, p3, p4⟩ := rv
          have nb : b ≠ a := fun z => p4 (by rw [z]; exact hm)
          rw [upd_ne nb] at p3
          exact ⟨b, rfl, CR.at_ (upd_ne nb) p1, p2, p3, p4⟩
        | plc j => exact rv.elim
      · exact q.elim
    | exc c S' =>
      rw [ho] at q
      exact q.elim
    | stk =>
      rw [ho] at q
      exact q.elim⟩

theorem Wp.noExc {α : Type} {m : Res α} {P : α → DS → Prop} {E : Str → DS → Prop} (h : Wp m.noExc P E) : ∃ a S, m = .ok a S ∧ P a S := by
  cases m with
  | ok a S => exact ⟨a, S, rfl, h⟩
  | exc c S => exact h.elim
  | stk => exact h.elim
theorem Wp.unl {α : Type} {k : Nat} {m : Res α} {P : α → DS → Prop} {E : Str → DS → Prop} (h : Wp (m.unl k) P E) : ∃ a S, m = .ok a S ∧ stillD k S = true ∧ P a (TW.unl k S) := by
  cases m with
  | ok a S =>
    dsimp only [Res.unl] at h
    split at h
    · exact ⟨a, S, rfl, by assumption, h⟩
    · exact h.elim
  | exc c S => exact h.elim
  | stk => exact h.elim
theorem de_lock {e : Expr} {f : DS → Res RV} {i : Nat} (h : ∀ W, Takes X W → PE X e (dTEL Z i f W)) : DE Z X e (dLock i f) := ⟨fun W tk => PE.imp (PE.or (pe_lock (h W tk)) (h W tk)) fun σ H Q ⟨F, S, B, ρ, R, q⟩ => by
  unfold dLock at q
  split at q
  · exact q.elim
  · rename_i S1 hl
    obtain ⟨B1, d, ks, kvs, R1, sb1, hσ, hr, hv, hd⟩ := lock_val R hl
    obtain ⟨r, S2, ho, q⟩ := Wp.noExc q
    rcases hr with hr | ⟨o, hr⟩
    · refine .inl ⟨d, .dK ks, R1.bh _ _ hr, trivial, fun od => ⟨F, S1, upd B1 d (.frz od (.dK ks)), ρ, R1.chB hr (Le.lockD hr), ⟨d, od, ks, kvs, hσ, .inr upd_same, hv.mono (Le.lockD hr) (.refl ρ), hd⟩, ?_⟩⟩
      rw [ho]
      intro v H' B' ρ' R' sb ex rv
      have hb := sb _ _ upd_same
      refine ⟨R'.bh _ _ hb, q v _ _ ρ' (R'.chB hb (Le.unlockD hb)) (same_back sb1 hr sb) ex ?_⟩
      cases r with
      | val x => exact VR.mono (Le.unlockD hb) (.refl ρ') rv
      | own c =>
        obtain ⟨b, rfl, g1, g2, g3, g4, g5⟩ := rv
        have nb : b ≠ d := fun z => by rw [z, hb] at g2; cases g2
        exact ⟨b, rfl, CR.at_ (upd_ne nb) (g1.mono (Le.unlockD hb) (.refl ρ')), by rw [upd_ne nb]; exact g2, g3, g4, g5⟩
      | plc j => exact rv
    · refine .inr ⟨F, S1, B1, ρ, R1, ⟨d, o, ks, kvs, hσ, .inr hr, hv, hd⟩, ?_⟩
      rw [ho]
      exact PQ.mono sb1 (.refl ρ) q
  · rename_i S1 k kv0 hl
    obtain ⟨a, ks, kvs, hσ, hρ, hF, hH, hv, hL, rfl, hd⟩ := lock_ref R hl
    obtain ⟨r, S2, ho, hs, q⟩ := Wp.unl q
    refine .inl ⟨a, .dK ks, hH, trivial, fun od => ⟨upd F a (.frz od (.dK ks)), _, B, ρ, R.lockF hρ hL hv, ⟨a, od, ks, kvs, hσ, .inl upd_same, hv, hd⟩, ?_⟩⟩
    rw [ho]
    obtain ⟨kvs', g1, g2⟩ := stillD_of hs
    rw [g2] at q
    intro v H' B' ρ' R' sb ex rv
    have hm : a ∈ ρ' := List.mem_of_getElem? (ex k a hρ)
    refine ⟨R'.fh _ _ upd_same, q v _ _ ρ' (R'.unlockF hF (ex k a hρ) g1) sb ex ?_⟩
    cases r with
    | val x => exact rv
    | own c =>
      obtain ⟨b, rfl, p1, p2, p3, p4, p5⟩ := rv
      have nb : b ≠ a := fun z => p4 (by rw [z]; exact hm)
      rw [upd_ne nb] at p3
      exact ⟨b, rfl, CR.at_ (upd_ne nb) p1, p2, p3, p4, p5⟩
    | plc j => exact rv⟩
/-- a way to walk a dict -/
structure DWay (Z : SX) (X : Cx) (tg iter : Expr) (i : Nat) (sel : List (Key × D) → List D) where
  J : Addr → Obj → List (Key × V) → It
  pi : PI X tg iter (fun σ H R => tVar i σ H fun x H1 => ∃ d o kvs, x = .ref d ∧ H1 d = some (.frz o (.dK kvs)) ∧ R (J d o kvs) H1)
  wk : ∀ (F B : Hp) (ρ : List Addr) (σ0 : St) (d : Addr) (o : Obj) (ks : List (Key × V)) (kvs : List (Key × D)), Lkd F B d o ks → VRk Z B ρ ks kvs → Walks Z (J d o ks) ⟨sel kvs, .no⟩ F σ0 B ρ
def way_items {x : Str} {i : Nat} {p apos cpos : Pos} {elts : List Expr} {kk : Nat} {tpos : Pos} (h : PE X (.Name x p) (tVar i)) (hline : (apos.endLine == cpos.line) = true) : DWay Z X (.Tuple elts kk tpos) (.Call (.Attribute (.Name x p) "items" apos) [] [] cpos) i itemsD :=
  ⟨Iti, pi_items h rfl hline, fun F B ρ σ0 d o ks kvs h1 h2 => walks_items h1 h2⟩
def way_vals {x : Str} {i : Nat} {p apos cpos : Pos} {tg : Expr} (h : PE X (.Name x p) (tVar i)) (hline : (apos.endLine == cpos.line) = true) : DWay Z X tg (.Call (.Attribute (.Name x p) "values" apos) [] [] cpos) i valsD :=
  ⟨Itd, pi_values h rfl hline, fun F B ρ σ0 d o ks kvs h1 h2 => walks_vals h1 h2⟩
def way_keys {x : Str} {i : Nat} {p : Pos} {tg : Expr} (h : PE X (.Name x p) (tVar i)) : DWay Z X tg (.Name x p) i keysD :=
  ⟨Itk, PI.imp (pi_keys h) fun σ H R ⟨v, hv, d, o, kvs, e, h1, h2⟩ => ⟨v, hv, d, o, e, .inl ⟨kvs, h1, h2⟩⟩, fun F B ρ σ0 d o ks kvs h1 h2 => walks_keys h1 h2⟩
theorem dst_forD {i : Nat} {sel : List (Key × D) → List D} {g : TW.D → DS → Res Unit} {body : List Stmt} (hp : PassesOwn (model X.prog X.w) X.A X.env X.xe) (hc : X.calm = true) (way : DWay Z X tg iter i sel) (hg : DG Z X tg g A) (hb : DSs Z X body f A')
    (hs : ∀ x, foldedSetIterable iter X.env x = pure x) : DSt Z X (.For tg iter body [] pos) (oLock i (oFor (A ++ A') (dWalk sel i) g f)) (A ++ A') := dst_lock fun W tk => PS.imp (ps_for hp hc way.pi hg.run (hb.run W tk) hs) fun D σ H ⟨F, S, B, ρ, R, ⟨d, o, ks, kvs, hσ, hl, hv, hd⟩, q⟩ => by
  have wk := way.wk F B ρ σ d o ks kvs hl hv
  have q2 : WpS Z F B ρ σ (A ++ A') W D (forLoopA ⟨sel kvs, .no⟩ g f (sel kvs) S) := by
    rw [forLoopA_none rfl]
    unfold oFor dWalk at q
    rw [hd] at q
    exact q
  exact ⟨.ref d, hσ, d, o, ks, rfl, hl.at_ R (fun _ _ z => z) (fun _ _ z => z), for_core (H0 := H) (fun j e => by cases e) q2 R (fun _ _ z => z) (.refl ρ) wk⟩
theorem de_lcD {i : Nat} {sel : List (Key × D) → List D} {elt : Expr} {ifs : List Expr} {scope : Scope} {own : List (Str × Nat)} {g : D → DS → Res Unit} {tt : DS → Res Bool} {te : DS → Res RV} (hc : X.calm = true) (hN : X.N.Nodup) (way : DWay Z X tg iter i sel) (ok : BlkOk X.N X.env.scope scope own)
    (hA : ∀ i, i ∈ A → i ∈ own.map (·.2))
    (hg : ∀ (s : Shared) (H : Hp) (C : Addr) (cl : List (Str × Addr)) (fp : List Addr), DG Z (X.blk s H scope (compEnvC scope cl C X.env) fp) tg g A) (ht : ∀ (s : Shared) (H : Hp) (C : Addr) (cl : List (Str × Addr)) (fp : List Addr), DTs Z (X.blk s H scope (compEnvC scope cl C X.env) fp) ifs tt)
    (he : ∀ (s : Shared) (H : Hp) (C : Addr) (cl : List (Str × Addr)) (fp : List Addr), DE Z (X.blk s H scope (compEnvC scope cl C X.env) fp) elt te) (hs : ∀ x, foldedSetIterable iter X.env x = pure x) :
    DE Z X (.ListComp elt [⟨tg, iter, ifs, 0⟩] scope pos) (dLock i (dLc (dWalk sel i) g tt te (own.map (·.2)))) := de_lock fun W tk =>
  PE.imp (pe_lc hc hN way.pi ok (fun s H C cl fp => (hg s H C cl fp).run) (fun s H C cl fp => (ht s H C cl fp).run _ takes0) (fun s H C cl fp => (he s H C cl fp).run _ takes0) hs) fun σ H Q ⟨F, S, B, ρ, R, ⟨d, o, ks, kvs, hσ, hl, hv, hd⟩, q⟩ => by
    have wk := way.wk F B ρ σ d o ks kvs hl hv
    unfold dLc dWalk at q
    rw [hd] at q
    dsimp only [Res.bind] at q
    split at q
    · rename_i hno
      exact ⟨.ref d, hσ, d, o, ks, rfl, hl.at_ R (fun _ _ z => z) (fun _ _ z => z), lc_coreD (H0 := H) hA R (fun _ _ z => z) (.refl ρ) wk hno.1 hno.2 q⟩
    · exact q.elim

theorem dst_setLcD {i j : Nat} {sel : List (Key × D) → List D} {y : Str} {py : Pos} {elt : Expr} {ifs : List Expr} {scope : Scope} {own : List (Str × Nat)} {pos spos : Pos} {g : D → DS → Res Unit} {A : List Nat} {tt : DS → Res Bool} {te : DS → Res RV} (hc : X.calm = true) (hN : X.N.Nodup) (hy : X.N[i]? = some y) (hyl : X.env.scope.names.lookup y = some .local)
    (hsw : swapsWith (.ListComp elt [⟨tg, iter, ifs, 0⟩] scope pos) (some (.Name y py)) spos.line X.env = pure true) (way : DWay Z X tg iter j sel) (ok : BlkOk X.N X.env.scope scope own)
    (hA : ∀ i, i ∈ A → i ∈ own.map (·.2))
    (hg : ∀ (s : Shared) (H : Hp) (C : Addr) (cl : List (Str × Addr)) (fp : List Addr), DG Z (X.blk s H scope (compEnvC scope cl C X.env) fp) tg g A) (ht : ∀ (s : Shared) (H : Hp) (C : Addr) (cl : List (Str × Addr)) (fp : List Addr), DTs Z (X.blk s H scope (compEnvC scope cl C X.env) fp) ifs tt)
    (he : ∀ (s : Shared) (H : Hp) (C : Addr) (cl : List (Str × Addr)) (fp : List Addr), DE Z (X.blk s H scope (compEnvC scope cl C X.env) fp) elt te) (hs : ∀ x, foldedSetIterable iter X.env x = pure x) :
    DSt Z X (.Assign [.Name y py] (.ListComp elt [⟨tg, iter, ifs, 0⟩] scope pos) spos) (oLock j (oSet i (dLc (dWalk sel j) g tt te (own.map (·.2))))) [i] := dst_lock fun W tk =>
  PS.imp (ps_setLc hc hN hy hyl hsw way.pi ok (fun s H C cl fp => (hg s H C cl fp).run) (fun s H C cl fp => (ht s H C cl fp).run _ takes0) (fun s H C cl fp => (he s H C cl fp).run _ takes0) hs) fun D σ H ⟨F, S, B, ρ, R, ⟨d, o, ks, kvs, hσ, hl, hv, hd⟩, q⟩ => by
  have key : Wp (dLc (dWalk sel j) g tt te (own.map (·.2)) S) (PQ Z F B ρ σ fun x H1 => D.nx (σ.set i (some x)) H1) (EQ Z F B ρ σ W) := by
    unfold oSet at q
    cases hr : dLc (dWalk sel j) g tt te (own.map (·.2)) S with
    | ok r S1 =>
      rw [hr] at q
      exact fun v H' B' ρ' R' sb ex rv => set_of R' rv (WpS.later sb ex q)
    | exc c S1 =>
      rw [hr] at q
      exact fun cls H' B' ρ' R' sb ex hc => q cls σ H' B' ρ' R' sb ex (.refl _ _) hc
    | stk =>
      rw [hr] at q
      exact q.elim
  have wk := way.wk F B ρ σ d o ks kvs hl hv
  unfold dLc dWalk at key
  rw [hd] at key
  dsimp only [Res.bind] at key
  split at key
  · rename_i hno
    exact ⟨.ref d, hσ, d, o, ks, rfl, hl.at_ R (fun _ _ z => z) (fun _ _ z => z), lc_coreD (H0 := H) (Q := fun x H1 => D.nx (σ.set i (some x)) H1) hA R (fun _ _ z => z) (.refl ρ) wk hno.1 hno.2 key⟩
  · exact key.elim
end
/- list(d): its keys -/
def gListD : List D → R
  | [.dic kvs] => .own (.lst (keysD kvs))
  | _ => .stk
section
variable {Z : SX} {X : Cx} {B : Hp} {ρ : List Addr}
theorem VRk.keys : ∀ {ks : List (Key × V)} {kvs : List (Key × D)}, VRk Z B ρ ks kvs → VRs Z B ρ (ks.map fun kv => kV kv.1) (keysD kvs)
  | _, _, .nil => .nil
  | _, _, .cons h t => .cons (vr_key _) (VRk.keys t)
theorem call_listDA (hc : X.calm = true) : CallR X (.type "list") (rDs Z gListD) := by
  refine CallR.imp (call_listD hc) fun vs H Q q => ?_
  obtain ⟨F, S, σ, B, ρ, ds, R, hx, q⟩ := q
  unfold gListD at q
  split at q
  · obtain ⟨v, rfl, h⟩ := hx.one
    obtain ⟨a, ks, rfl, h1, h2⟩ := h
    exact ⟨a, ks, rfl, h1, fun p hf => q.lst R h2.keys p hf⟩
  · exact q.elim
end
end TW
namespace TW
open PySem PySem.Spec L2
/-! TWH: C.m(x, ..): a def read off a class. -/
structure BasOk (X : Cx) (Z : SX) (x m : Str) (e : FnH) : Prop where
  ex : ∃ (C : Addr) (mc : Value) (f : Addr) (fd : FuncData) (ps : List Str) (k : Nat), X.mg x = some (.ref C) ∧ ClX.CRead X.K C mc ∧ PySem.W.findCls X.K (.ref C) mc m = some (.val (.ref f)) ∧ PySem.W.keepIn X.K (.ref f) = true ∧
    FnOk X.prog X.w X.K X.mg X.base (L2.CX X.prog X.w) k f fd ps (spH Z e.np e.φ) ∧ Room k X.A ∧ Binds X.K fd ps []
section
variable {Z : SX} {X : Cx} {W : WX}
theorem pe_bas {k : Nat} {C f : Addr} {mc : Value} {fd : FuncData} {ps : List Str} {sp : Sp} {x m : Str} {e : Expr} {es : List Expr} {t : TA} {p apos pos : Pos} (tk : Takes X W) (F : FnOk X.prog X.w X.K X.mg X.base (L2.CX X.prog X.w) k f fd ps sp) (hr : Room k X.A) (hg : Gl X x) (hm : X.mg x = some (.ref C)) (r : ClX.CRead X.K C mc)
    (fc : PySem.W.findCls X.K (.ref C) mc m = some (.val (.ref f))) (hk : PySem.W.keepIn X.K (.ref f) = true) (hb : Binds X.K fd ps []) (ha : PA X (e :: es) t) (hdb : (x == ("__debug__" : Str)) = false) (hbase : attributeBase (.Name x p) m X.env (eval (.Name x p) X.env) = eval (.Name x p) X.env)
    (hline : (apos.endLine == pos.line) = true) (ns : (e :: es).all noStar = true) (hl : (e :: es).length < 30) : PE X (.Call (.Attribute (.Name x p) m apos) (e :: es) [] pos) (tCallSD sp [] (WE W) t) := by
  refine ⟨fun pins s σ H Q I h => ?_⟩
  refine PySem.W.methodCall_KW (pl := plainOf (.Name x p) X.env) (ld_glob I hg hm ?_ hdb) (eval_meth hbase (few_args ns hl) hline)
  refine PySem.W.method_cls I.kIn r.ga (PySem.W.cls_value I.kIn r.rd fc rfl ?_)
  rw [List.all_cons, Bool.and_eq_true] at ns
  refine PySem.W.callWith_K (first := []) (h₀ := X.base) I.ok.mod.kin hk (thn (ha.run pos pins _ σ H _ (I.tok _) h) fun us s1 ⟨vs, H1, I1, r, q⟩ => ⟨I1.kIn, ?_⟩) (star_of ns.1) (plain_args es ns.2)
  exact run_fnSD F hr hb .nil (passAt tk σ) I1 r q
theorem de_bas {x m : Str} {p apos pos : Pos} {e : Expr} {es : List Expr} {fs : List (DS → Res RV)} {en : FnH} (hg : Gl X x) (hE : BasOk X Z x m en) (hdb : (x == ("__debug__" : Str)) = false) (hbase : attributeBase (.Name x p) m X.env (eval (.Name x p) X.env) = eval (.Name x p) X.env) (hline : (apos.endLine == pos.line) = true)
    (ns : (e :: es).all noStar = true) (hl : (e :: es).length < 30) (ha : DA Z X (e :: es) (dArgs fs)) (hfs : fs.length = (e :: es).length) (hn : (e :: es).length = en.np) : DE Z X (.Call (.Attribute (.Name x p) m apos) (e :: es) [] pos) (dCallH en.φ [] (dArgs fs)) := by
  obtain ⟨C, mc, f, fd, ps, k, hm, hcr, hfc, hk, hF, hr, hb⟩ := hE.ex
  refine ⟨fun W tk => PE.imp (pe_bas tk hF hr hg hm hcr hfc hk hb (ha.run W tk) hdb hbase hline ns hl) fun σ H Q ⟨F, S, B, ρ, R, q⟩ => ?_⟩
  refine dTA.firstE R q fun rs S1 xs H1 B1 ρ1 he R1 sb ex rv hw => ?_
  cases hs : settleAll rs S1 with
  | ok ds' S2 =>
    rw [hs] at hw
    refine spH_of R1 (dArgs_still he) rv hs ?_ (fun _ _ => .nil) (Wp.mono hw (fun _ _ z => PQ.mono sb ex z) fun _ _ z => z)
    rw [List.length_append, rv.length, dArgs_length he, hfs]
    exact hn
  | exc c S2 => exact (settleAll_exc hs).elim
  | stk =>
    rw [hs] at hw
    exact hw.elim
end
/-! xs[i] = v of a list -/
def lstOf (r : RV) (S : DS) : Option (List D) := match contAt r S with
  | some (.lst ds) => some ds
  | _ => none
def oLSet (fo fk fv : DS → Res RV) : DS → Out := fun S => (fv S).toOut fun r S1 => (settle r S1).toOut fun d S2 => (fo S2).toOut fun ro S3 => (fk S3).toOut fun rk S4 => match lstOf ro S4, peek S4 rk with
  | some ds, some (.int i) => (match L2.ixN ds.length i with
    | some j => if freeAt ro S4 = true ∧ ro.still = true then .next (putAt ro (.lst (ds.set j d)) S4) else .stk
    | none => .stk)
  | _, _ => .stk
def sLSet (td ty tv : TE) : TS := fun D σ H => tv σ H fun v H1 => td σ H1 fun x H2 => ty σ H2 fun y H3 => rSetL x y v H3 fun H4 => D.nx σ H4
section
variable {Z : SX} {X : Cx} {W : WX} {o i a e value : Expr} {pos pos' : Pos} {td ty tv : TE} {fo fa fv : DS → Res RV}
theorem ps_lset (ho : PE X o td) (hi : PE X i ty) (hv : PE X value tv) (hs : swapsWith value (some (.Subscript o i pos')) pos.line X.env = pure false) :
    PS X (.Assign [.Subscript o i pos'] value pos) (sLSet td ty tv) := by
  refine ⟨fun pins s σ H D I h => ?_⟩
  refine wpAny_Assign_Subscript (thn (hv.run pins s σ H _ I h) fun r s1 ⟨v, H1, I1, rv, q1⟩ => thn (ho.run pins s1 σ H1 _ I1 q1) fun u s2 ⟨x, H2, I2, rx, q2⟩ => thn (hi.run pins s2 σ H2 _ I2 q2) fun iv s3 ⟨y, H3, I3, ry, q3⟩ => ?_) hs
  exact thn (set_list pins s3 σ H3 x y v u iv r _ I3 rx ry rv q3) fun _ s4 ⟨H4, I4, q4⟩ => ⟨σ, H4, I4, q4⟩
theorem dst_lset (ho : DE Z X o fo) (hk : DE Z X a fa) (hv : DE Z X e fv) (hs : swapsWith e (some (.Subscript o a pos')) pos.line X.env = pure false) : DSt Z X (.Assign [.Subscript o a pos'] e pos) (oLSet fo fa fv) [] := ⟨fun W tk => PS.imp (ps_lset (ho.run W tk) (hk.run W tk) (hv.run W tk) hs) fun D σ H ⟨F, S, B, ρ, R, q⟩ => by
  refine dTE.toS R q fun r S1 v H1 B1 ρ1 R1 sb1 ex1 rv1 hw1 => ?_
  cases hse : settle r S1 with
  | exc c S2 => exact (settle_exc hse).elim
  | stk =>
    rw [hse] at hw1
    exact hw1.elim
  | ok d S2 =>
    rw [hse] at hw1
    dsimp only [Res.toOut] at hw1
    obtain ⟨B1', R1', sb1', rv1'⟩ := settle_ok R1 rv1 hse
    have hw1 := WpS.later sb1' (.refl _) hw1
    refine dTE.toS R1' hw1 fun ro S3 x H3 B3 ρ3 R3 sb3 ex3 rv3 hw3 => ?_
    refine dTE.toS R3 hw3 fun rk S4 y H4 B4 ρ4 R4 sb4 ex4 rv4 hw4 => ?_
    split at hw4
    · rename_i ds k hd hk
      split at hw4
      · rename_i j hj
        split at hw4
        · rename_i hc
          obtain ⟨hf, st⟩ := hc
          have rv3' : RVR Z F S4 σ H4 B4 ρ4 x ro := rv3.mono st sb4 ex4
          unfold lstOf at hd
          split at hd
          · rename_i ds' hcon
            cases hd
            obtain ⟨ad, lk, rfl, hcr, hfr⟩ := cont_at R4 rv3' hcon
            obtain ⟨rfl, hput⟩ := hfr hf
            obtain ⟨oo, ⟨xs, rfl, h1⟩, h2⟩ := hcr
            rcases h2 with h2 | ⟨z, _⟩
            · have vd : VR Z B4 ρ4 v d := (rv1'.mono (.of_same (sb3.trans sb4)) (ex3.trans ex4))
              have hy : y = .int k := by
                have pv : VR Z B4 ρ4 y (.int k) := peek_pv R4 rv4 hk
                cases pv
                rfl
              refine ⟨ad, xs, k, j, rfl, hy, h2, by rw [h1.length]; exact hj, ?_⟩
              exact hw4 σ _ B4 ρ4 (hput _ (.lst (xs.set j v)) ⟨_, rfl, VRs.set vd j h1⟩) (fun _ _ z => z) (.refl _) (.refl _ _)
            · cases z
          · cases hd
        · exact hw4.elim
      · exact hw4.elim
    · exact hw4.elim⟩
end
/-! a list of nobody's, changed: o.m() behind a call -/
def dMutT (sel : Cont → Bool) (g : MutF) (fr : DS → Res RV) : DS → Res RV := fun S => (fr S).bind fun r S1 => match r with
  | .own c => if sel c = true then (match g c [] with
    | some (_, d) => .ok (.val d) S1
    | none => .stk) else .stk
  | _ => .stk
section
variable {Z : SX} {X : Cx} {W : WX} {F : Hp} {S : DS} {σ : St} {H B : Hp} {ρ : List Addr} {e : Expr} {fe : DS → Res RV}
theorem Rel.putFresh (R : Rel Z F S σ H B ρ) {a : Addr} {o o' : HO} (hn : ∀ ob u, o ≠ .frz ob u) (hn' : ∀ ob u, o' ≠ .frz ob u) (f : Fresh F S σ B ρ a) (h : H a = some o) : Rel Z F S σ (upd H a o') B ρ :=
  (((R.hideO f h).reO hn hn').unhideO hn' f.2.1).1
theorem de_mutT {name : Str} {id : String} {g : MutF} {apos cpos : Pos} (slot : Slot "list" name id) (hty : typeOf (.builtin id) = pure (.type "method_descriptor")) (hm : MtR X id (rMut Z g)) (hb : baseOk e = true) (hline : (apos.endLine == cpos.line) = true) (he : DE Z X e fe) :
    DE Z X (.Call (.Attribute e name apos) [] [] cpos) (dMutT isLst g fe) := ⟨fun W tk => PE.imp (pe_bm0 PySem.F.plainAttrs_list slot hty hm (he.run W tk) (base_of hb) hline) fun σ H Q ⟨F, S, B, ρ, R, q⟩ => by
  refine dTE.first R q fun r S1 x H1 B1 ρ1 R1 sb ex rv hw => ?_
  split at hw
  · rename_i c0
    split at hw
    · rename_i hl
      split at hw
      · rename_i c' d hg
        obtain ⟨a, rfl, hcr, hfr⟩ := rv
        cases c0 with
        | lst ds =>
          have hcr0 := hcr
          obtain ⟨o, ⟨xs, rfl, h1⟩, h2⟩ := hcr0
          rcases h2 with h2 | ⟨z, _⟩
          · refine ⟨hcr.tyL, a, .lst ds, [], c', d, _, B1, ρ1, rfl, h2, ⟨xs, rfl, h1⟩, R1.bh, .nil, hg, fun v o' ho hv => ?_⟩
            have hn' : ∀ ob u, o' ≠ .frz ob u := fun ob u z => by
              subst z
              cases c' with
              | lst ds' => obtain ⟨_, z, _⟩ := ho; cases z
              | dic ds' => obtain ⟨_, z, _⟩ := ho; cases z
            exact hw v (upd H1 a o') B1 ρ1 (R1.putFresh (fun _ _ z => by cases z) hn' hfr h2) sb ex hv
          · cases z
        | dic kvs => cases hl
      · exact hw.elim
    · exact hw.elim
  · exact hw.elim⟩
end
end TW
/-! TWI: more built-ins: sorted of tuples, of dicts turned about. -/
namespace TW
open PySem PySem.Spec L2 PyProof.Rows
section
variable {X : Cx}
/-- sorted of a tuple of ints -/
theorem cr_sortedTI : CallR X (.builtin "sorted") (fun vs H Q => ∃ (a : Addr) (ns : List Int), vs = [V.ref a] ∧ SqT X.K H a (ns.map V.int) ∧ ns.length < 64 ∧
    ∀ (ms : List Int) (p : Addr), ms.Perm ns → ms.Pairwise (· ≤ ·) → H p = none → Q (.ref p) (upd H p (.lst (ms.map V.int)))) := by
  intro pins s σ H vs us Q I r h
  obtain ⟨a, ns, rfl, hs, h64, q⟩ := h
  obtain ⟨its, rv, hl, hz⟩ := I.tuple hs
  rw [Vals.ref1 r]
  have hi := rv.ints
  have h64' : its.length < 64 := by rw [hi.length]; exact h64
  obtain ⟨o, ho, hc, hn⟩ := hl
  obtain ⟨n, hd⟩ := hn
  refine Calls.call_function_entry kind_sorted plain_sorted entry_sorted (args_sorted1 _) ?_; unfold Builtin.«sorted»
  have hsz : its.toArray.size ≤ sizeLine := by
    rw [List.size_toArray, sizeLine_eq]; omega
  refine wpAny_bind (m := checkCount "sorted" 1 1 _) (wpAny_pure ?_); refine wpAny_bind (wpAny_collect_seq a (.inr rfl) ho hc hd (fun h' hk => ?_) hsz)
  have J : Inv X pins σ H { s with heap := h' } := I.kept hk
  have hq : its.toArray.toList = its := by simp
  rw [hq]
  refine wpAny_bind (wpAny_newList ?_ (by rw [sizeLine_eq]; omega))
  have hL : (h'.push (seqObj "list" its.toArray 0)).get? h'.objs.size = some (seqObj "list" its.toArray 0) := Heap.get?_push_size _ rfl
  show wpAny _ _ _ _ _ { s with heap := h'.push (seqObj "list" its.toArray 0) }
  refine wpAny_bind (wpAny_holding (wpAny_call_entry slot_list_sort ⟨_, hL, rfl⟩ entry_list_sort (list_sort_tree (s := { s with heap := h'.push (seqObj "list" its.toArray 0) }) hL hi h64' fun out ys g1 g2 g3 => ⟨_, rfl, ?_⟩) (args_list_sort _)))
  obtain ⟨e', he⟩ := sortedHeap_at (vs := its) (out := out) hL
  have hlen : (ys.map V.int).length ≤ sizeLine := by rw [List.length_map, g2.length_eq, sizeLine_eq]; omega
  refine wpAny_pure ⟨_, rfl, .ref h'.objs.size, upd H h'.objs.size (.lst (ys.map V.int)), J.laid (t' := s.toks) (fun b u e => ?_) (Nat.le_refl _) (show ObjOk X.prog X.w _ _ _ (.lst (ys.map V.int)) from ⟨hlen, out.toList, e', vals_of_ints g1, by rw [Array.toArray_toList]; exact he⟩), rfl, q ys _ g2 g3 (J.hok.fresh (Nat.le_refl _))⟩
  have hb : b < h'.objs.size := Heap.lt_size e
  rw [sortedHeap_old (Nat.ne_of_lt hb) (by rw [size_push']; exact Nat.lt_succ_of_lt hb)]; exact Heap.get?_push_of_some _ e
/-- sorted(d, reverse=True), d a dict of ints -/
theorem cr_sortedDR (hcalm : X.calm = true) : CallRK X (.builtin "sorted") [Str.ofString "reverse"] (fun xs zs H Q => ∃ (a : Addr) (kvs : List (Key × V)) (ks : List Int), xs = [.ref a] ∧ zs = [.bl true] ∧ Rd H a (.dK kvs) ∧ kvs.map (·.1) = ks.map Sum.inl ∧ ks.length < 64 ∧
    ∀ (ys : List Int) (p : Addr), ys.Perm ks → ys.Pairwise (· ≥ ·) → H p = none → Q (.ref p) (upd H p (.lst (ys.map V.int)))) := by
  intro pins s σ H xs zs us ws Q I r rz q
  obtain ⟨a, kvs, ks, rfl, rfl, hd, hks, h64, q⟩ := q
  obtain rfl := Vals.ref1 r
  obtain ⟨w1, rfl, e1⟩ := vals1 rz
  obtain rfl : w1 = Value.bool true := e1
  obtain ⟨z, lo, vs, rel, dd⟩ := dk_rd I.hok hd
  obtain ⟨ep, hat⟩ := dd.dictAt
  have hkeys : vs.map (·.1) = ks.map Sum.inl := rel.keys.symm.trans hks
  have hl : vs.length = ks.length := by
    have := congrArg List.length hkeys; rwa [List.length_map, List.length_map] at this
  have h16 : vs.length ≤ sizeLine := by rw [hl, sizeLine_eq]; omega
  refine call_function_entry_kw kind_sorted plain_sorted entry_sorted (args_sorted_rev _ _) ?_; unfold Builtin.«sorted»
  refine wpAny_bind (m := checkCount "sorted" 1 1 _) (wpAny_pure ?_); refine wpAny_bind (PySem.W.kdu_collect (A := X.A.in1) (PySem.W.kdl_dict (knd := mixKind X.prog X.w) (kvs := vs) (ep := ep) lo) (I.ok.hd hcalm) hat h16 fun h' tk acc hk hacc => ?_)
  have hal : acc.toList.length = ks.length := by rw [Array.length_toList, hacc.1, hl]
  have hS : IntsAre acc.toList ks := ints_each hal fun j v e => by
    obtain ⟨k, x, e1, e2⟩ := hacc.2 j v (by rw [← Array.getElem?_toList]; exact e)
    have e3 : (vs.map (·.1))[j]? = some k := by rw [List.getElem?_map, e1]; rfl
    rw [hkeys, List.getElem?_map] at e3
    cases e4 : ks[j]? with
    | none => rw [e4] at e3; cases e3
    | some y =>
      rw [e4] at e3; have e5 : Sum.inl y = k := Option.some.inj e3; subst e5
      rcases keyIs_shape (show keyIs (Sum.inl y) v = true from e2) with ⟨i, t, ek, ev⟩ | ⟨z, t, ek, ev⟩
      · cases ek; exact ⟨y, t, rfl, ev⟩
      · cases ek
  have J : Inv X pins σ H { s with heap := h', toks := tk } := I.kept hk
  refine wpAny_bind (wpAny_newList ?_ (by rw [hal, sizeLine_eq]; omega))
  have hoL : (h'.push (seqObj "list" acc.toList.toArray 0)).get? h'.objs.size = some (seqObj "list" acc.toList.toArray 0) := Heap.get?_push_size _ rfl
  show wpAny _ _ _ _ _ { s with heap := h'.push (seqObj "list" acc.toList.toArray 0), toks := tk }
  refine wpAny_bind (wpAny_holding (wpAny_call_entry_kw slot_list_sort ⟨_, hoL, rfl⟩ entry_list_sort (SrtR.list_sort_ordR (s := { s with heap := h'.push (seqObj "list" acc.toList.toArray 0), toks := tk }) (b := true) SrtO.swo_int hoL (by rw [hal, sizeLine_eq]; omega) (fun h2 => SrtO.ints_sortable hS h2) fun out h1 h2 => ⟨_, rfl, ?_⟩) (args_list_sort_rev _ _)))
  obtain ⟨ys, g1, g2, g3⟩ := SrtR.ints_outR hS h1 h2
  obtain ⟨e', he'⟩ := sortedHeap_at (vs := acc.toList) (out := out.toArray.reverse) hoL
  have hlen : (ys.map V.int).length ≤ sizeLine := by rw [List.length_map, g2.length_eq, sizeLine_eq]; omega
  refine wpAny_pure ⟨_, rfl, .ref h'.objs.size, upd H h'.objs.size (.lst (ys.map V.int)), J.laid (t' := tk) (fun b u e => ?_) (Nat.le_refl _) (show ObjOk X.prog X.w _ _ _ (.lst (ys.map V.int)) from ⟨hlen, _, e', vals_of_ints g1, by rw [Array.toArray_toList]; exact he'⟩), rfl, q ys _ g2 g3 (J.hok.fresh (Nat.le_refl _))⟩
  have hb : b < h'.objs.size := Heap.lt_size e
  rw [sortedHeap_old (Nat.ne_of_lt hb) (by rw [size_push']; exact Nat.lt_succ_of_lt hb)]; exact Heap.get?_push_of_some _ e
variable {Z : SX}
def gSort : List D → R
  | [.tup es] => (match intsOf es with
    | some ns => if ns.length < 64 then .own (.lst ((sortI ns).map D.int)) else .stk
    | none => .stk)
  | ds => gSorted ds
theorem call_sortA (hK : X.K = Z.K) (hc : X.calm = true) : CallR X (.builtin "sorted") (rDs Z gSort) := by
  refine CallR.imp (CallR.or cr_sortedTI (call_sortedA (Z := Z) hc)) fun vs H Q q => ?_
  obtain ⟨F, S, σ, B, ρ, ds, R, hx, q⟩ := q
  unfold gSort at q
  split at q
  · split at q
    · rename_i ns he
      split at q
      · rename_i hl
        cases intsOf_eq he
        obtain ⟨v, rfl, h1⟩ := hx.one
        obtain ⟨a, xs, rfl, h1, h2⟩ := h1.tup
        cases h2.ints
        refine .inl ⟨a, ns, rfl, hK ▸ (Le.of_same R.bh).tup h1, hl, fun ys p hperm hs hf => ?_⟩
        rw [sortI_eq hperm hs]
        exact q.lst R (VRs.of_ints _) p hf
      · exact q.elim
    · exact q.elim
  · exact .inr ⟨F, S, σ, B, ρ, _, R, hx, q⟩
/-- sorted(d, reverse=True) -/
def gSortR : List D → R
  | [.dic kvs] => (match keysI kvs with
    | some ns => if ns.length < 64 then .own (.lst ((sortI ns).reverse.map D.int)) else .stk
    | none => .stk)
  | _ => .stk
theorem de_sortR {x : Str} {a : Expr} {p p2 pos kp : Pos} {kk : Nat} {fs : DS → Res (List RV)} (hc : X.calm = true) (hg : Gl X x) (hx : x = "sorted") (hm : X.mg x = none) (ns : noStar a = true) (ha : DA Z X [a] fs) :
    DE Z X (.Call (.Name x p) [a] [⟨some "reverse", .Constant (.bool true) kk p2, kp⟩] pos) (dPureN gSortR fs) := by
  subst hx
  have hb : backTo pos (starEach [a] X.env) = (false, eval a X.env) :: backTo pos (starEach [] X.env) := by rw [star_of ns]; rfl
  have hp : (backTo pos (starEach [a] X.env)).any (·.1) = false := by rw [hb]; rfl
  exact ⟨fun W tk => PE.imp (pe_callBK (cr_sortedDR hc) hg hm (by decide +kernel) (ha.run W tk) (pk_cons pe_bl pk_nil) (by decide) (by decide) hb hp) fun σ H Q ⟨F, S, B, ρ, R, q⟩ => by
    refine dTA.first R q fun r S1 x H1 B1 ρ1 R1 sb ex rv hw => ?_
    show ∃ a kvs ks, _
    split at hw
    · rename_i ds hd
      have hv := peekAll_pvs R1 rv hd
      have g := lift_got (H := H1) (r := gSortR ds) (hw.mono (fun _ _ z => PQ.mono sb ex z) fun _ _ z => z) (fun c z => by
        unfold gSortR at z; repeat' split at z
        all_goals cases z)
      unfold gSortR at g
      split at g
      · split at g
        · rename_i ns hp
          split at g
          · rename_i hl
            obtain ⟨v, rfl, h⟩ := hv.one
            obtain ⟨a, ks, rfl, h1, h2⟩ := h
            refine ⟨a, ks, ns, rfl, rfl, h1, keysI_ok hp h2, hl, fun ys p hperm hs hf => ?_⟩
            have e : ys = (sortI ns).reverse := by
              have := sortI_eq (ns := ns) (ms := ys.reverse) ((List.reverse_perm _).trans hperm) (List.pairwise_reverse.mpr hs)
              rw [← this, List.reverse_reverse]
            rw [e]
            exact g.lst R1 (VRs.of_ints _) p hf
          · exact g.elim
        · exact g.elim
      · exact g.elim
    · exact hw.elim⟩
/-- min of a dict of ints -/
theorem cr_minD (hc : X.calm = true) : CallR X (.builtin "min") (fun vs H Q => ∃ (a : Addr) (kvs : List (Key × V)) (ns : List Int), vs = [V.ref a] ∧ Rd H a (.dK kvs) ∧ kvs.map (·.1) = ns.map Sum.inl ∧ ns ≠ [] ∧ ∀ m, m ∈ ns → (∀ j ∈ ns, m ≤ j) → Q (.int m) H) := by
  intro pins s σ H vs us Q I r h
  obtain ⟨a, kvs, ns, rfl, hd, hks, hne, q⟩ := h
  obtain rfl := Vals.ref1 r
  obtain ⟨z, hsys, vs, rel, dof⟩ := dk_rd I.hok hd
  obtain ⟨ep, dat⟩ := dof.dictAt
  obtain ⟨ob, es, ho, _⟩ := id dat
  have hlt : a < s.heap.objs.size := Heap.lt_size ho
  have hkeys : vs.map (·.1) = ns.map Sum.inl := rel.keys.symm.trans hks
  have hlv : vs.length = ns.length := by
    have := congrArg List.length hkeys; rwa [List.length_map, List.length_map] at this
  have hlen : 0 < vs.length := by rw [hlv]; exact List.length_pos_iff.mpr hne
  have hval : ∀ (i : Nat) (v : Value), (∃ k x, vs[i]? = some (k, x) ∧ (mixKind X.prog X.w).is k v = true) → ∃ t, v = Value.int (ns.getD i 0) t := by
    rintro i v ⟨k, x, hk, hkey⟩
    have e1 : (vs.map (·.1))[i]? = some k := by rw [List.getElem?_map, hk]; rfl
    rw [hkeys, List.getElem?_map] at e1
    obtain ⟨j, hj, rfl⟩ := Option.map_eq_some_iff.mp e1
    obtain ⟨t, e3⟩ := Value.isInt_shape (k := j) (v := v) hkey
    exact ⟨t, by rw [e3, List.getD_eq_getElem?_getD, hj]; rfl⟩
  refine call_min_walk (wpAny_pyIter_dict (knd := mixKind X.prog X.w) hsys dat ⟨_, _, _, _, _, _, _, rfl, Walks.dictKeys (knd := mixKind X.prog X.w) (A := X.A.in1) (I.ok.hd hc) s.heap.objs.size a (Nat.ne_of_lt hlt) vs ep, ⟨⟨_, Heap.get?_push_size _ rfl, rfl, rfl⟩, dat.keep fun b u e => Heap.get?_push_of_some _ e⟩, fun b hb => ?_, hlen, CmpOf.ints_lt (fun i => ns.getD i 0) hval, fun v h' tk hP hk => ?_⟩)
  · show b < (s.heap.push _).objs.size
    rw [Heap.size_push]
    rcases List.mem_cons.mp hb with e | hb
    · rw [e]; exact Nat.lt_succ_self _
    · rw [List.mem_singleton.mp hb]; exact Nat.lt_succ_of_lt hlt
  · obtain ⟨t, rfl⟩ := hval _ v hP
    obtain ⟨_, b2⟩ := argBest_lt (fun i => ns.getD i 0) (vs.length - 1)
    refine ⟨.int _, H, I.kept (t' := tk) fun b u e => hk b u (fun hm => ?_) (Heap.get?_push_of_some _ e), ⟨t, rfl⟩, q _ ?_ fun j hj => ?_⟩
    · have e2 := Heap.lt_size e
      rw [List.mem_singleton.mp hm] at e2; exact absurd e2 (Nat.lt_irrefl _)
    · have hb : argBest (fun i j => decide (ns.getD i 0 < ns.getD j 0)) (vs.length - 1) < ns.length := by omega
      rw [List.getD_eq_getElem?_getD, List.getElem?_eq_getElem hb]; exact List.getElem_mem hb
    · obtain ⟨i, hi, e⟩ := List.mem_iff_getElem.mp hj
      have e2 : ns.getD i 0 = j := by rw [List.getD_eq_getElem?_getD, List.getElem?_eq_getElem hi, ← e]; rfl
      rw [← e2]; exact b2 i (by omega)
def gMinD : List D → R
  | [.dic kvs] => (match keysI kvs with
    | some ns => if ns = [] then .stk else .val (.int (minL ns))
    | none => .stk)
  | ds => gMin ds
theorem call_minDA (hK : X.K = Z.K) (hc : X.calm = true) : CallR X (.builtin "min") (rDs Z gMinD) := by
  refine CallR.imp (CallR.or (cr_minD hc) (call_minA (Z := Z) hK hc)) fun vs H Q q => ?_
  obtain ⟨F, S, σ, B, ρ, ds, R, hx, q⟩ := q
  unfold gMinD at q
  split at q
  · split at q
    · rename_i ns hp
      split at q
      · exact q.elim
      · rename_i hne
        obtain ⟨v, rfl, h⟩ := hx.one
        obtain ⟨a, ks, rfl, h1, h2⟩ := h
        refine .inl ⟨a, ks, ns, rfl, h1, keysI_ok hp h2, hne, fun m hm hle => ?_⟩
        obtain ⟨m1, m2⟩ := minL_mem hne
        have e : m = minL ns := Int.le_antisymm (hle _ m1) (m2 m hm)
        rw [e]
        exact q.int R
    · exact q.elim
  · exact .inr ⟨F, S, σ, B, ρ, _, R, hx, q⟩
end
end TW
/-! TW10: the text of a def, as a function of the state. -/
namespace TW
open PySem PySem.Spec L2
noncomputable section

inductive GE where
  | con (d : D) | fn (e : FnE) | fnh (e : FnH) | cls (e : CE) | bas (m : Str) (e : FnH)
structure EC where
  N : List Str
  sc : Scope
  fnB : Str → Bool
  gl : List (Str × GE)
  no : List Str
  flds : List Str
  calm : Bool := true
  top : Bool := true
  excs : List Str := []
  sub : List ((Str × Str) × Bool) := []
  kit : List ((Str × Str) × Bool) := []
  kitE : List ((Str × Str) × Bool) := []
  exn : Option Str := none
  mt : List ((Str × Str) × ME) := []
  box : List Nat := []
  boxf : List Str := []
def GE.Ok (X : Cx) (Z : SX) (x : Str) : GE → Prop
  | .con d => ∃ v u, X.mg x = some u ∧ RelV v u ∧ ∀ B ρ, VR Z B ρ v d
  | .fn e => FnEOk X Z x e
  | .fnh e => FnHOk X Z x e
  | .cls e => NewOk X Z x e
  | .bas m e => BasOk X Z x m e
structure ExcOk (X : Cx) (Z : SX) (x : Str) : Prop where
  ex : ∃ (C : Addr) (B0 newId initId : String) (bmB : List Value), ExcBaseFacts B0 newId initId bmB ∧ PySem.W.excIn X.K C bmB newId = true ∧ X.mg x = some (.ref C) ∧ PySem.W.keepIn X.K (.ref C) = true ∧ Raises X (.ref C) ∧ Z.EX x (.ref C)
structure CtxOk (Z : SX) (X : Cx) (c : EC) : Prop where
  K : X.K = Z.K
  N : X.N = c.N
  nd : X.N.Nodup
  sc : X.env.scope = c.sc
  calm : X.calm = c.calm
  fn : ∀ x, c.fnB x = true → X.fn x = true
  hu : X.A.units + 64 < cLine
  pass : PassesOwn (model X.prog X.w) X.A X.env X.xe
  gl : ∀ x g, c.gl.lookup x = some g → g.Ok X Z x
  no : ∀ x, c.no.contains x = true → X.mg x = none
  fld : ∀ f, c.flds.contains f = true → ∀ cl C, Z.CA cl C → Cls X.K C ∧ NoAttr X.K C f
  top : c.top = true → X.stack = X.env :: X.outer ∧ X.env.frame = some X.env.locals
  cur : c.calm = true → Z.cur = none
  exc : ∀ x, c.excs.contains x = true → ExcOk X Z x
  sub : ∀ cn y b, c.sub.lookup (cn, y) = some b → ∃ cy, X.mg y = some cy ∧ ∀ cls, Z.EX cn cls → PySem.W.exmOne X.K cls cy = some b
  kit : ∀ cl T b, c.kit.lookup (cl, T) = some b → ∃ TC, X.mg T = some (.ref TC) ∧ ∀ C, Z.CA cl C → IsC X.K C ∧ PySem.W.kitOne X.K (.ref C) (.ref TC) = some b
  kitE : ∀ cn T b, c.kitE.lookup (cn, T) = some b → (∃ TC, X.mg T = some (.ref TC) ∧ ∀ D, Z.EX cn (.ref D) → PySem.W.kitOne X.K (.ref D) (.ref TC) = some b) ∨ (X.mg T = none ∧ bootBuiltins T = some (.type "ValueError") ∧ T ≠ "__name__" ∧ ∀ D, Z.EX cn (.ref D) → PySem.W.kitOne X.K (.ref D) (.type "ValueError") = some b)
  suite : SuiteOk Z X
  ec : ∀ cn cls, Z.EX cn cls → ∃ D, cls = .ref D ∧ ExcC Z.K D
  mt : ∀ cl m e, c.mt.lookup (cl, m) = some e → MethOk X Z cl m e
def EC.blk (c : EC) (scope : Scope) : EC := { c with sc := relS scope c.sc, fnB := fun x => scope.names.lookup x == some .cell, top := false }
theorem CtxOk.blk {Z : SX} {X : Cx} {c : EC} (h : CtxOk Z X c) (hs : Z.cur = none) (s : Shared) (H : Hp) (scope : Scope) (C : Addr) (cl : List (Str × Addr)) (fp : List Addr) : CtxOk Z (X.blk s H scope (compEnvC scope cl C X.env) fp) (c.blk scope) where
  K := h.K
  N := h.N
  nd := h.nd
  sc := by
    show relS scope X.env.scope = relS scope c.sc
    rw [h.sc]
  calm := h.calm
  fn := fun x e => e
  hu := h.hu
  pass := PassesOwn.never
  gl := fun x g e => by
    have := h.gl x g e
    cases g with
    | con d => exact this
    | fn e =>
      exact ⟨this.ex⟩
    | fnh e =>
      exact ⟨this.ex⟩
    | cls e =>
      exact ⟨this.ex⟩
    | bas m e =>
      exact ⟨this.ex⟩
  no := h.no
  fld := h.fld
  top := fun e => by cases e
  cur := h.cur
  exc := fun x e => ⟨(h.exc x e).ex⟩
  sub := h.sub
  kit := h.kit
  kitE := h.kitE
  suite := ⟨fun cn a e => by rw [hs] at e; cases e⟩
  ec := h.ec
  mt := fun cl m e he => ⟨(h.mt cl m e he).ex⟩
/-- inside a try -/
theorem CtxOk.tr {Z : SX} {X : Cx} {c : EC} (h : CtxOk Z X c) (hs : Z.cur = none) (pn : List (Addr × Obj)) (xe : Value → Shared → Prop) (hp : PassesOwn (model X.prog X.w) X.A X.env xe) : CtxOk Z (X.tr pn xe) c where
  K := h.K
  N := h.N
  nd := h.nd
  sc := h.sc
  calm := h.calm
  fn := h.fn
  hu := h.hu
  pass := hp
  gl := fun x g e => by
    have := h.gl x g e
    cases g with
    | con d => exact this
    | fn e =>
      exact ⟨this.ex⟩
    | fnh e =>
      exact ⟨this.ex⟩
    | cls e =>
      exact ⟨this.ex⟩
    | bas m e =>
      exact ⟨this.ex⟩
  no := h.no
  fld := h.fld
  top := h.top
  cur := h.cur
  exc := fun x e => ⟨(h.exc x e).ex⟩
  sub := h.sub
  kit := h.kit
  kitE := h.kitE
  suite := ⟨fun cn a e => by rw [hs] at e; cases e⟩
  ec := h.ec
  mt := fun cl m e he => ⟨(h.mt cl m e he).ex⟩
/-- in an except suite: nothing of the module is called -/
def EC.suite (c : EC) (n : Str) : EC := { c with gl := [], calm := false, top := false, excs := [], exn := some n, mt := [] }
theorem CtxOk.suite_ {Z : SX} {X : Cx} {c : EC} (h : CtxOk Z X c) {a : Addr} {oe : Obj} {cn n : Str} {cls : Value} {pn : List (Addr × Obj)} (he : Z.EX cn cls) (hz : Zc cls none oe) (hf : ∃ vs, oe.data = .fields vs) :
    CtxOk (Z.at_ (some (cn, a))) (X.suite a ((a, oe) :: pn)) (c.suite n) where
  K := h.K
  N := h.N
  nd := h.nd
  sc := h.sc
  calm := rfl
  fn := h.fn
  hu := h.hu
  pass := PassesOwn.never
  gl := fun x g e => by cases e
  no := h.no
  fld := h.fld
  top := fun e => by cases e
  cur := fun e => by cases e
  exc := fun x e => by cases e
  sub := h.sub
  kit := h.kit
  kitE := h.kitE
  suite := ⟨fun cn' a' e => by
    cases e
    obtain ⟨D, rfl, hD⟩ := h.ec cn cls he
    exact ⟨X, oe, pn, D, rfl, by rw [show (X.suite a ((a, oe) :: pn)).K = Z.K from h.K]; exact hD, hz, hf, he⟩⟩
  ec := h.ec
  mt := fun cl m e he => by cases he
/-! ### names -/
def isVis (sc : Scope) (x : Str) : Bool := match sc.names.lookup x with
  | some .local => true | some .cell => true | some .free => true | _ => false
def isLoc (sc : Scope) (x : Str) : Bool := match sc.names.lookup x with
  | some .local => true | some .cell => true | _ => false
def isLocal (sc : Scope) (x : Str) : Bool := match sc.names.lookup x with
  | some .local => true | _ => false
def isCellN (sc : Scope) (x : Str) : Bool := match sc.names.lookup x with
  | some .cell => true | _ => false
def isFnK : ScopeKind → Bool
  | .function => true
  | _ => false
def isGl (sc : Scope) (x : Str) : Bool := match sc.names.lookup x with
  | some .globalImplicit => true | _ => false
theorem vis_of {sc : Scope} {x : Str} (h : isVis sc x = true) : Vis sc x := by
  unfold isVis at h
  split at h <;> first | exact .inl (by assumption) | exact .inr (.inl (by assumption)) | exact .inr (.inr (by assumption)) | cases h
theorem loc_of {sc : Scope} {x : Str} (h : isLoc sc x = true) : Loc sc x := by
  unfold isLoc at h
  split at h <;> first | exact .inl (by assumption) | exact .inr (by assumption) | cases h
theorem local_of {sc : Scope} {x : Str} (h : isLocal sc x = true) : sc.names.lookup x = some .local := by
  unfold isLocal at h
  split at h <;> first | assumption | cases h
theorem gl_of {sc : Scope} {x : Str} (h : isGl sc x = true) : sc.names.lookup x = some .globalImplicit := by
  unfold isGl at h
  split at h <;> first | assumption | cases h
def EC.slot (c : EC) (x : Str) : Option Nat := match c.N[c.N.idxOf x]? with
  | some y => if y = x then some (c.N.idxOf x) else none
  | none => none
theorem slot_of {c : EC} {x : Str} {i : Nat} (h : c.slot x = some i) : c.N[i]? = some x := by
  unfold EC.slot at h
  split at h
  · rename_i y hy
    split at h
    · rename_i e
      cases h
      rw [hy, e]
    · cases h
  · cases h
theorem gBin_exc (op : Operator) (d e : D) (c : Str) : gBin op d e ≠ .exc c := by
  have hI : ∀ f : Int → Int → R, (∀ i j, f i j ≠ .exc c) → gI f d e ≠ .exc c := fun f h => by
    cases d <;> cases e <;> first | exact h _ _ | (intro z; cases z)
  cases op with
  | Add =>
    show gAdd d e ≠ _
    intro z
    unfold gAdd at z
    split at z <;> first | (cases z; done) | (split at z <;> cases z)
  | Mult =>
    show gMul d e ≠ _
    intro z
    unfold gMul at z
    split at z <;> first | (cases z; done) | (split at z <;> cases z)
  | Sub => exact hI _ fun i j z => by cases z
  | FloorDiv => exact hI _ fun i j z => by split at z <;> cases z
  | Mod => exact hI _ fun i j z => by split at z <;> cases z
  | Pow => exact hI _ fun i j z => by split at z <;> cases z
  | LShift => exact hI _ fun i j z => by split at z <;> cases z
  | RShift => exact hI _ fun i j z => by split at z <;> cases z
  | BitAnd => exact hI _ fun i j z => by cases z
  | BitOr => exact hI _ fun i j z => by cases z
  | BitXor => exact hI _ fun i j z => by cases z
  | _ => intro z; cases z
theorem oB_exc (o : Option Bool) (c : Str) : oB o ≠ .exc c := by
  cases o <;> (intro z; cases z)
theorem gCmp_exc (op : CmpOp) (d e : D) (c : Str) : gCmp op d e ≠ .exc c := by
  have hI : ∀ f : Int → Int → Bool, gIB f d e ≠ .exc c := fun f => by
    cases d <;> cases e <;> (intro z; cases z)
  cases op with
  | Eq => exact oB_exc _ _
  | NotEq => exact oB_exc _ _
  | Lt =>
    show gLt d e ≠ _
    cases d <;> cases e <;> (intro z; cases z)
  | LtE => exact hI _
  | Gt => exact hI _
  | GtE => exact hI _
  | In => exact oB_exc _ _
  | NotIn => exact oB_exc _ _
  | Is => exact oB_exc _ _
  | IsNot => exact oB_exc _ _

/-! ### the parts of a step -/
structure EV where
  E : EC → Expr → DS → Res RV
  T : EC → Expr → DS → Res Bool
  W : EC → Expr → DS → Res Bool
  S : EC → Stmt → DS → Out
  SS : EC → List Stmt → DS → Out
  A : EC → Stmt → List Nat
  AA : EC → List Stmt → List Nat
/-- methods by the class of the instance -/
def tb (mt : List ((Str × Str) × ME)) (m : Str) (cl : Str) : Option ME := mt.lookup (cl, m)
def tb2 (kit : List ((Str × Str) × Bool)) (T : Str) (cl : Str) : Option Bool := kit.lookup (cl, T)
def evConst : Const → DS → Res RV
  | .int i => dConst (.int i)
  | .bool b => dConst (.bl b)
  | .none => dConst .non
  | .str x => dConst (.str x)
  | _ => dStk
def evName (c : EC) (x : Str) : DS → Res RV :=
  if ((x == ("__debug__" : Str)) || (x == ("__classdict__" : Str))) = true then dStk else
  if isVis c.sc x = true then (match c.slot x with
    | some i => dVar i
    | none => dStk) else
  if isGl c.sc x = true then (match c.gl.lookup x with
    | some (.con d) => dConst d
    | _ => dStk) else dStk
def evBool (v : EV) (c : EC) (op : BoolOp) (es : List Expr) (pos : Pos) : DS → Res RV := match es with
  | [] => dStk
  | [a] => v.E c a
  | a :: b :: es => (match op with
    | .And => dAndV (v.E c a) (v.E c (.BoolOp .And (b :: es) pos))
    | .Or => dOrV (v.E c a) (v.E c (.BoolOp .Or (b :: es) pos)))
def evCmp (v : EV) (c : EC) (a : Expr) (ops : List CmpOp) (bs : List Expr) : DS → Res RV := match ops, bs with
  | [op], [b] => if behindInMarks op b = true then dStk else dPure2 (gCmp op) (v.E c a) (v.E c b)
  | [op, op'], [b, b'] => if lastMarks [op, op'] [b, b'] = true then dStk else dChain (gCmp op) (gCmp op') (v.E c a) (v.E c b) (v.E c b')
  | _, _ => dStk
def tyOf (x : Str) : Option String :=
  if x = "int" then some "int" else if x = "bool" then some "bool" else if x = "str" then some "str" else if x = "tuple" then some "tuple" else if x = "list" then some "list" else if x = "dict" then some "dict" else none
def bltOf (x : Str) : Option (List D → R) :=
  if x = "len" then some gLen else if x = "list" then some gList else if x = "tuple" then some gTuple else if x = "sum" then some gSum else if x = "all" then some gAll else if x = "any" then some gAny else
  if x = "max" then some gMax else if x = "min" then some gMinD else if x = "str" then some gStr else if x = "int" then some gInt else if x = "dict" then some gDict else if x = "sorted" then some gSort else none
/-- what wants calm -/
def wantsCalm (x : Str) : Bool := x == ("sum" : Str) || x == ("all" : Str) || x == ("any" : Str) || x == ("max" : Str) || x == ("min" : Str) || x == ("dict" : Str) || x == ("sorted" : Str)
def isExn (c : EC) (e : Expr) : Option Str := match e with
  | .Name n _ => if c.exn = some n then some n else none
  | _ => none
def evIsi (v : EV) (c : EC) (a : Expr) (T : Str) : DS → Res RV :=
  match isExn c a with
  | some n => (match c.slot n with
    | some i => if isVis c.sc n = true ∧ n ≠ "__debug__" ∧ n ≠ "__classdict__" ∧ isGl c.sc T = true ∧ T ≠ "__debug__" then dIsE i (tb2 c.kitE T) else dStk
    | none => dStk)
  | none => (match tyOf T with
    | some T' => if (isGl c.sc T && c.no.contains T) = true then dPure1 (gIsi T') (v.E c a) else dStk
    | none => if isGl c.sc T = true ∧ T ≠ "__debug__" ∧ (c.kit.any fun q => q.1.2 == T) = true then dIsO (tb2 c.kit T) (v.E c a) else dStk)
/-- a slot that is said to hold a dict -/
def EC.isD (c : EC) (i : Nat) : Bool := c.box.contains (i + 1000)
def recvD (c : EC) (o : Expr) : Bool := match o with
  | .Name x _ => (match c.slot x with
    | some i => c.isD i
    | none => false)
  | _ => false
def evBlt (v : EV) (c : EC) (x : Str) (a : Expr) (es : List Expr) : DS → Res RV :=
  if x = "isinstance" then (match es with
    | [.Name T _] => evIsi v c a T
    | _ => dStk) else
  if x = "list" ∧ es.isEmpty = true ∧ recvD c a = true then (if c.calm = true then dPureN gListD (dArgs ((a :: es).map (v.E c))) else dStk) else
  match bltOf x with
  | some g => if wantsCalm x = true ∧ c.calm = false then dStk else dPureN g (dArgs ((a :: es).map (v.E c)))
  | none => dStk
def evCallN (v : EV) (c : EC) (x : Str) (args : List Expr) : DS → Res RV := match args with
  | [] => dStk
  | a :: es => (match c.gl.lookup x with
    | some (.fn en) => if es.length + 1 = en.np then dCall en.φ [] (dArgs ((a :: es).map (v.E c))) else
        if es.length + 1 + en.dfl.length = en.np ∧ en.dfl.length ≤ 1 then dCall en.φ en.dfl (dArgs ((a :: es).map (v.E c))) else dStk
    | some (.fnh en) => if es.length + 1 = en.np then dCallH en.φ [] (dArgs ((a :: es).map (v.E c))) else
        if es.length + 1 + en.dfl.length = en.np ∧ en.dfl.length ≤ 1 then dCallH en.φ en.dfl (dArgs ((a :: es).map (v.E c))) else dStk
    | some (.cls en) => if es.length + 2 = en.np then dNew x en (dArgs ((a :: es).map (v.E c))) else dStk
    | some (.con _) => dStk
    | some (.bas _ _) => dStk
    | none => if c.no.contains x = true then evBlt v c x a es else dStk)
def isTup : Expr → Bool
  | .Tuple _ _ _ => true
  | _ => false
/-- the slot of a name that is read -/
def visSlot (c : EC) (x : Str) : Option Nat := if ((x == ("__debug__" : Str)) || (x == ("__classdict__" : Str))) = true then none else if isVis c.sc x = true then c.slot x else none
inductive DSel where
  | items | vals | keys
def DSel.f : DSel → List (Key × D) → List D
  | .items => itemsD
  | .vals => valsD
  | .keys => keysD
/-- a walk over a dict: the slot, what is told of it -/
def wayD (c : EC) (tg iter : Expr) : Option (Nat × DSel) := match iter with
  | .Call (.Attribute (.Name x _) m ap) [] [] pos => if (ap.endLine == pos.line) = true then (match visSlot c x with
    | some i => if m = "items" ∧ isTup tg = true then some (i, .items) else if m = "values" then some (i, .vals) else none
    | none => none) else none
  | .Name x _ => (match visSlot c x with
    | some i => if c.isD i = true then some (i, .keys) else none
    | none => none)
  | _ => none
def isCall : Expr → Bool
  | .Call _ _ _ _ => true
  | _ => false
def evMeth (v : EV) (c : EC) (o : Expr) (m : Str) (args : List Expr) : DS → Res RV :=
  if (c.mt.any fun q => q.1.2 == m) = true then (if args.length < 30 then dMeth m (args.map (v.E c)).length (tb c.mt m) (v.E c o) (dArgs (args.map (v.E c))) else dStk) else
  match args with
  | [] => if m = "clear" then (if isCall o = true then dMutT isLst mClear (v.E c o) else if recvD c o = true then dDClear (v.E c o) else dMut isLst mClear (v.E c o) (dVals [])) else if m = "pop" then dMut isLst mPop (v.E c o) (dVals []) else if m = "bit_length" then dPure1 gBits (v.E c o) else dStk
  | [a] => if m = "append" then dMut isLst mAppend (v.E c o) (dVals [v.E c a]) else if m = "extend" then dMut isLst mExtend (v.E c o) (dVals [v.E c a]) else if m = "pop" then (if recvD c o = true then dDPop1 (v.E c o) (v.E c a) else dMut isLst mPopAt (v.E c o) (dVals [v.E c a])) else dStk
  | [a, b] => if m = "get" then dDGet2 (v.E c o) (v.E c a) (v.E c b) else dStk
  | _ => dStk
/-- C.m of a class of the text -/
def basAt (c : EC) (o : Expr) (m : Str) : Option FnH := match o with
  | .Name x _ => if (isGl c.sc x && !(x == ("__debug__" : Str))) = true then (match c.gl.lookup x with
    | some (.bas m' e) => if m = m' then some e else none
    | _ => none) else none
  | _ => none
def evBas (v : EV) (c : EC) (en : FnH) (args : List Expr) : DS → Res RV := match args with
  | [] => dStk
  | a :: es => if es.length + 1 = en.np ∧ es.length < 29 then dCallH en.φ [] (dArgs ((a :: es).map (v.E c))) else dStk
def evCall (v : EV) (c : EC) (f : Expr) (args : List Expr) (kws : List Keyword) (pos : Pos) : DS → Res RV := match kws with
  | [] => (match f with
    | .Name x _ => if (isGl c.sc x && args.all noStar && !(x == ("__debug__" : Str))) = true then evCallN v c x args else dStk
    | .Attribute o m ap => if (baseOk o && (ap.endLine == pos.line) && args.all noStar) = true then (match basAt c o m with
      | some en => evBas v c en args
      | none => evMeth v c o m args) else dStk
    | _ => dStk)
  | [⟨some nm, .Constant (.bool true) _ _, _⟩] => (match f, args with
    | .Name x _, [a] => if x = "sorted" ∧ nm = "reverse" ∧ (isGl c.sc x && noStar a && c.no.contains x && c.calm) = true then dPureN gSortR (dArgs [v.E c a]) else dStk
    | _, _ => dStk)
  | _ => dStk
def evSub (v : EV) (c : EC) (a i : Expr) : DS → Res RV := match i with
  | .Slice lo hi st _ => (match st with
    | none => dSl (v.E c a) (lo.map (v.E c)) (hi.map (v.E c))
    | some _ => dStk)
  | i => dPure2 gIx (v.E c a) (v.E c i)
def stOk (c : EC) (x : Str) : Bool := isLoc c.sc x && (c.fnB x || isLocal c.sc x)
def evGs (c : EC) : List Expr → Option (List Nat)
  | [] => some []
  | .Name x _ :: es => if stOk c x = true then (match c.slot x, evGs c es with
    | some i, some is => some (i :: is)
    | _, _ => none) else none
  | _ => none
def evG (c : EC) : Expr → Option ((D → DS → Res Unit) × List Nat)
  | .Name x _ => if stOk c x = true then (c.slot x).map fun i => (tgName i, [i]) else none
  | .Tuple es _ _ => if c.calm = true then (evGs c es).map fun is => (tgTup is, is) else none
  | _ => none
def notSet : Expr → Bool
  | .Set _ _ _ => false
  | _ => true
def isTupE : Expr → Bool
  | .Tuple _ _ _ => true
  | _ => false
/-- what is walked: f for a sequence -/
def evI (v : EV) (c : EC) (f : (DS → Res RV) → DS → Res Src) (tg iter : Expr) : DS → Res Src := match iter with
  | .Call (.Name x p) args [] pos =>
    if (isGl c.sc x && args.all noStar && c.no.contains x) = true ∧ (x = "range" ∨ x = "enumerate" ∨ x = "reversed") then
      (if x = "range" then (match args with
        | [a] => dRange rg1 (dArgs [v.E c a])
        | [a, b] => dRange rg2 (dArgs [v.E c a, v.E c b])
        | [a, b, d] => dRange rg3 (dArgs [v.E c a, v.E c b, v.E c d])
        | _ => fun _ => .stk)
      else if x = "enumerate" then (match args with
        | [a] => if isTupE tg = true then dOver (enumD 0) (dVals [v.E c a]) else fun _ => .stk
        | _ => fun _ => .stk)
      else (match args with
        | [a] => dOver List.reverse (dVals [v.E c a])
        | _ => fun _ => .stk))
    else f (v.E c (.Call (.Name x p) args [] pos))
  | iter => f (v.E c iter)
def ownOf (c : EC) (scope : Scope) : List (Str × Nat) := scope.names.filterMap fun y => match y.2 with
  | .local => (c.slot y.1).map fun i => (y.1, i)
  | .cell => (c.slot y.1).map fun i => (y.1, i)
  | _ => none
def evIfs (v : EV) (c : EC) : List Expr → DS → Res Bool
  | [] => fun S => .ok true S
  | [t] => v.T c t
  | _ => dStk
def evLc (v : EV) (c : EC) (elt : Expr) (gs : List Comprehension) (scope : Scope) : DS → Res RV := match gs with
  | [⟨tg, iter, ifs, 0⟩] => (match evG (c.blk scope) tg with
    | some (g, A) => if (c.calm && blkC c.N c.sc scope (ownOf c scope) && A.all (fun i => ((ownOf c scope).map (·.2)).contains i) && notSet iter) = true then
        (match wayD c tg iter with
          | some (i, sel) => dLock i (dLc (dWalk sel.f i) g (evIfs v (c.blk scope) ifs) (v.E (c.blk scope) elt) ((ownOf c scope).map (·.2)))
          | none => dLc (evI v c dSeq tg iter) g (evIfs v (c.blk scope) ifs) (v.E (c.blk scope) elt) ((ownOf c scope).map (·.2))) else dStk
    | none => dStk)
  | _ => dStk
def evE (v : EV) (c : EC) (e : Expr) : DS → Res RV := match e with
  | .Constant k _ _ => evConst k
  | .Name x _ => evName c x
  | .BinOp a op b _ => dPure2 (gBin op) (v.E c a) (v.E c b)
  | .UnaryOp op a _ => (match op with
    | .Not => dBool (dNot (asB (v.E c a)))
    | .USub => dPure1 gNeg (v.E c a)
    | _ => dStk)
  | .BoolOp op es pos => evBool v c op es pos
  | .Compare a ops bs _ => evCmp v c a ops bs
  | .IfExp t a b _ => dIf (v.T c t) (v.E c a) (v.E c b)
  | .Call f args kws pos => evCall v c f args kws pos
  | .Subscript a i _ => evSub v c a i
  | .Attribute a f _ => if (baseOk a && c.flds.contains f) = true then dFld f (v.E c a) else dStk
  | .List es _ => if es.all noStar = true then dLst (dVals (es.map (v.E c))) else dStk
  | .Tuple es _ _ => if es.all noStar = true then dTup (dVals (es.map (v.E c))) else dStk
  | .ListComp elt gs scope _ => evLc v c elt gs scope
  | .Dict keys values _ => (match keys, values with
    | [], [] => dDic0
    | [some a], [b] => dDic1 (v.E c a) (v.E c b)
    | _, _ => dStk)
  | _ => dStk
def evT (v : EV) (c : EC) (e : Expr) : DS → Res Bool := match e with
  | .UnaryOp op a pos => (match op with
    | .Not => dNot (v.T c a)
    | _ => dTruth (v.E c e))
  | .BoolOp op es pos => v.W c e
  | .IfExp _ _ _ _ => dStk
  | .Compare a ops bs _ => asB (evCmp v c a ops bs)
  | e => dTruth (v.E c e)
def evW (v : EV) (c : EC) (e : Expr) : DS → Res Bool := match e with
  | .BoolOp op es pos => (match es with
    | [] => dStk
    | [a] => v.T c a
    | a :: b :: es => (match op with
      | .And => dAnd (v.T c a) (v.W c (.BoolOp .And (b :: es) pos))
      | .Or => dOr (v.T c a) (v.W c (.BoolOp .Or (b :: es) pos))))
  | _ => dStk
def isLcE : Expr → Bool
  | .ListComp _ _ _ _ => true | .SetComp _ _ _ _ => true | .DictComp _ _ _ _ _ => true
  | _ => false
def evLcSet (v : EV) (c : EC) (i : Nat) (elt : Expr) (gs : List Comprehension) (scope : Scope) : DS → Out := match gs with
  | [⟨tg, iter, ifs, 0⟩] => (match evG (c.blk scope) tg with
    | some (g, A) => if (c.calm && blkC c.N c.sc scope (ownOf c scope) && A.all (fun i => ((ownOf c scope).map (·.2)).contains i) && notSet iter) = true then
        (match wayD c tg iter with
          | some (j, sel) => oLock j (oSet i (dLc (dWalk sel.f j) g (evIfs v (c.blk scope) ifs) (v.E (c.blk scope) elt) ((ownOf c scope).map (·.2))))
          | none => oSet i (dLc (evI v c dSeq tg iter) g (evIfs v (c.blk scope) ifs) (v.E (c.blk scope) elt) ((ownOf c scope).map (·.2)))) else oStk
    | none => oStk)
  | _ => oStk
def evAsgN (v : EV) (c : EC) (x : Str) (p : Pos) (e : Expr) : DS → Out := if stOk c x = true then (match c.slot x with
    | some i => (match e with
      | .ListComp elt gs scope pos => if (isLocal c.sc x && (p.line == pos.line) && !(scope.names.any fun (n, k) => n == x && (k == .local || k == .cell)) && isFnK c.sc.kind) = true then evLcSet v c i elt gs scope else if isCellN c.sc x = true ∧ c.box.contains i = false then oSet i (v.E c e) else oStk
      | e => if isLcE e = true then oStk else if c.box.contains i = true then oBox i (v.E c e) else oSet i (v.E c e))
    | none => oStk) else oStk
def evAsgT (v : EV) (c : EC) (ts : List Expr) (k : Nat) (p : Pos) (e : Expr) : DS → Out := match e with
  | .Tuple vs k2 p2 => (match ts, vs with
    | [.Name x px, .Name y py], [a, b] => if (c.calm && isLocal c.sc x && isLocal c.sc y && (px.line == py.line) && !(x == y) && noStar a && noStar b && !([a, b].all (foldedForSure 8)) && !([a, b].all (constantsAlone 8)) && isFnK c.sc.kind) = true then (match c.slot x, c.slot y with
        | some i, some j => oPar i j (dVals [v.E c a, v.E c b])
        | _, _ => oStk) else oStk
    | _, _ => oStk)
  | e => if isLcE e = true ∨ c.calm = false then oStk else (match evGs c ts with
    | some is => oUnp is (v.E c e)
    | none => oStk)
def evAsg (v : EV) (c : EC) (ts : List Expr) (e : Expr) : DS → Out := match ts with
  | [.Name x p] => evAsgN v c x p e
  | [.Tuple ts k p] => evAsgT v c ts k p e
  | [.Subscript o i p] => if recvD c o = false then oLSet (v.E c o) (v.E c i) (v.E c e) else oDSet (v.E c o) (v.E c i) (v.E c e)
  | [.Attribute o f p] => if c.flds.contains f = false then oStk else oFld f (c.boxf.contains f) (v.E c o) (v.E c e)
  | _ => oStk
def wF : Nat := 2 ^ 64
def evS (v : EV) (c : EC) (st : Stmt) : DS → Out := match st with
  | .Expr e _ => if isLcE e = true then oStk else oExpr (v.E c e)
  | .Assign ts e _ => evAsg v c ts e
  | .AugAssign t op e _ => (match t with
    | .Name x _ => if stOk c x = true then (match c.slot x with
      | some i => oAug i (gIop op) (v.E c e)
      | none => oStk) else oStk
    | _ => oStk)
  | .Return o _ => (match o with
    | some e => oRet (v.E c e)
    | none => fun S => .ret (.val .non) S)
  | .If t a b _ => oIf (v.T c t) (v.SS c a) (v.SS c b)
  | .For tg iter body orelse _ => (match orelse with
    | [] => if (c.calm && notSet iter) = true then (match evG c tg with
      | some (g, A) => (match wayD c tg iter with
        | some (i, sel) => oLock i (oFor (A ++ v.AA c body) (dWalk sel.f i) g (v.SS c body))
        | none => oFor (A ++ v.AA c body) (evI v c dSeq tg iter) g (v.SS c body))
      | none => oStk) else oStk
    | _ => oStk)
  | .While t body orelse _ => (match orelse with
    | [] => oWhile wF (v.T c t) (v.SS c body)
    | _ => oStk)
  | .Raise o _ _ => (match st with
    | .Raise (some (.Call (.Name x _) [.Constant (.str _) _ _] [] _)) none _ => if (c.calm && c.excs.contains x && isGl c.sc x && !(x == ("__debug__" : Str))) = true then oRaise x else oStk
    | _ => oStk)
  | .Try body hs orelse fin _ => (match hs, orelse, fin with
    | [.ExceptHandler (some (.Name x _)) (some n) (b :: suite) _], [], [] => (match c.slot n with
      | some i => if (c.top && c.calm && isLocal c.sc n && isGl c.sc x && !(x == ("__debug__" : Str)) && (c.sub.any fun q => q.1.2 == x)) = true then oTryAs i (tb2 c.sub x) (v.SS c body) (fun _ => v.SS (c.suite n) (b :: suite)) else oStk
      | none => oStk)
    | _, _, _ => oStk)
  | .Pass _ => oNext
  | .Break _ => fun S => .brk S
  | .Continue _ => fun S => .cont S
  | _ => oStk
def evSS (v : EV) (c : EC) (sts : List Stmt) : DS → Out := match sts with
  | [] => oNext
  | st :: r => oSeq (v.S c st) (v.SS c r)
/-- the slots that a statement may store -/
def nmSlot (c : EC) : Expr → Option Nat
  | .Name x _ => c.slot x
  | _ => none
def evTgA (c : EC) : Expr → List Nat
  | .Name x _ => (c.slot x).toList
  | .Tuple es _ _ => es.filterMap (nmSlot c)
  | _ => []
def evA (v : EV) (c : EC) (st : Stmt) : List Nat := match st with
  | .Assign [t] _ _ => evTgA c t
  | .AugAssign t _ _ _ => evTgA c t
  | .If _ a b _ => v.AA c a ++ v.AA c b
  | .For tg _ body _ _ => evTgA c tg ++ v.AA c body
  | .While _ body _ _ => v.AA c body
  | .Try body hs _ _ _ => (match hs with
    | [.ExceptHandler _ (some n) suite _] => v.AA c body ++ (v.AA (c.suite n) suite ++ (c.slot n).toList)
    | _ => [])
  | _ => []
def evAA (v : EV) (c : EC) (sts : List Stmt) : List Nat := match sts with
  | [] => []
  | st :: r => v.A c st ++ v.AA c r
def evStep (v : EV) : EV := ⟨evE v, evT v, evW v, evS v, evSS v, evA v, evAA v⟩
def ev : Nat → EV
  | 0 => ⟨fun _ _ => dStk, fun _ _ => dStk, fun _ _ => dStk, fun _ _ => oStk, fun _ _ => oStk, fun _ _ => [], fun _ _ => []⟩
  | n + 1 => evStep (ev n)
end
end TW
/-! TW11: the text of a def means what the layer says. -/
namespace TW
open PySem PySem.Spec L2

structure EVOk (v : EV) : Prop where
  E : ∀ {Z X c} (e : Expr), CtxOk Z X c → DE Z X e (v.E c e)
  T : ∀ {Z X c} (e : Expr), CtxOk Z X c → DT Z X e (v.T c e)
  W : ∀ {Z X c} (e : Expr), CtxOk Z X c → DW Z X e (v.W c e)
  S : ∀ {Z X c} (e : Stmt), CtxOk Z X c → DSt Z X e (v.S c e) (v.A c e)
  SS : ∀ {Z X c} (e : List Stmt), CtxOk Z X c → DSs Z X e (v.SS c e) (v.AA c e)
section
variable {Z : SX} {X : Cx} {c : EC} {v : EV}
theorem DSt.mono {st : Stmt} {f : DS → Out} {A A' : List Nat} (h : DSt Z X st f A') (i : ∀ j, j ∈ A' → j ∈ A) : DSt Z X st f A := ⟨fun W tk => PS.imp (h.run W tk) fun D σ H ⟨F, S, B, ρ, R, q⟩ => ⟨F, S, B, ρ, R, q.mono i⟩⟩
theorem DSs.mono {st : List Stmt} {f : DS → Out} {A A' : List Nat} (h : DSs Z X st f A') (i : ∀ j, j ∈ A' → j ∈ A) : DSs Z X st f A := ⟨fun W tk => PSs.imp (h.run W tk) fun D σ H ⟨F, S, B, ρ, R, q⟩ => ⟨F, S, B, ρ, R, q.mono i⟩⟩
theorem slot_lt {x : Str} {i : Nat} (h : c.slot x = some i) : i < c.N.length := (List.getElem?_eq_some_iff.mp (slot_of h)).1
theorem CtxOk.gl_x (k : CtxOk Z X c) {x : Str} (h : isGl c.sc x = true) : Gl X x := by
  show X.env.scope.names.lookup x = _
  rw [k.sc]
  exact gl_of h
theorem CtxOk.vis_x (k : CtxOk Z X c) {x : Str} (h : isVis c.sc x = true) : Vis X.env.scope x := by
  rw [k.sc]
  exact vis_of h
theorem de_evConst {k : Const} {j : Nat} {p : Pos} : DE Z X (.Constant k j p) (evConst k) := by
  cases k with
  | int i => exact de_const pe_int fun _ _ => .int i
  | bool b => exact de_const pe_bl fun _ _ => .bl b
  | none => exact de_const pe_non fun _ _ => .non
  | str x => exact de_const pe_str fun _ _ => .str x
  | _ => exact de_stk
theorem de_evName (k : CtxOk Z X c) {x : Str} {p : Pos} : DE Z X (.Name x p) (evName c x) := by
  unfold evName
  split
  · exact de_stk
  · rename_i hdd
    have hd : (x == ("__debug__" : Str)) = false := by
      cases h : x == ("__debug__" : Str)
      · rfl
      · exact absurd (by rw [h]; rfl) hdd
    have hcd : (x == ("__classdict__" : Str)) = false := by
      cases h : x == ("__classdict__" : Str)
      · rfl
      · exact absurd (by rw [h, Bool.or_true]) hdd
    split
    · rename_i hv
      split
      · rename_i i hi
        refine de_var (pe_var ?_ (k.vis_x hv) hd hcd)
        rw [k.N]
        exact slot_of hi
      · exact de_stk
    · split
      · rename_i hg
        split
        · rename_i d hd'
          obtain ⟨v, u, h1, h2, h3⟩ := k.gl _ _ hd'
          exact de_const (pe_glob (k.gl_x hg) h1 h2 hd) h3
        · exact de_stk
      · exact de_stk
theorem de_evBool (k : CtxOk Z X c) (h : EVOk v) {op : BoolOp} {es : List Expr} {pos : Pos} : DE Z X (.BoolOp op es pos) (evBool v c op es pos) := by
  match es, op with
  | [], _ => exact de_stk
  | [a], _ => exact de_one (h.E a k)
  | a :: b :: es, .And => exact de_and (h.E a k) (h.E _ k)
  | a :: b :: es, .Or => exact de_or (h.E a k) (h.E _ k)
theorem last_of {op op' : CmpOp} {b b' : Expr} (h : ¬ lastMarks [op, op'] [b, b'] = true) : lastMarks [op, op'] [b, b'] = false := Bool.eq_false_iff.mpr h
theorem de_evCmp (k : CtxOk Z X c) (h : EVOk v) {a : Expr} {ops : List CmpOp} {bs : List Expr} {pos : Pos} : DE Z X (.Compare a ops bs pos) (evCmp v c a ops bs) := by
  match ops, bs with
  | [op], [b] =>
    show DE Z X _ (if _ then _ else _)
    split
    · exact de_stk
    · rename_i hb
      exact de_pure2 (gCmp_exc op) (fun t u p q => pe_cmpR (op_cmp k.K k.hu op) p q (Bool.eq_false_iff.mpr hb)) (h.E a k) (h.E b k)
  | [op, op'], [b, b'] =>
    show DE Z X _ (if _ then _ else _)
    split
    · exact de_stk
    · rename_i hb
      exact de_chain (gCmp_exc op') (op_cmp k.K k.hu op) (op_cmp k.K k.hu op') (h.E a k) (h.E b k) (h.E b' k) (last_of hb)
  | [], _ => exact de_stk
  | [_, _], [] => exact de_stk
  | _ :: _ :: _ :: _, [] => exact de_stk
  | _ :: _ :: _ :: _, _ :: _ => exact de_stk
  | [_, _], [_] => exact de_stk
  | [_, _], _ :: _ :: _ :: _ => exact de_stk
  | [_], [] => exact de_stk
  | [_], _ :: _ :: _ => exact de_stk
theorem dt_evCmp (k : CtxOk Z X c) (h : EVOk v) {a : Expr} {ops : List CmpOp} {bs : List Expr} {pos : Pos} : DT Z X (.Compare a ops bs pos) (asB (evCmp v c a ops bs)) := by
  match ops, bs with
  | [op], [b] =>
    show DT Z X _ (asB (if _ then _ else _))
    split
    · exact dt_stk
    · rename_i hb
      exact dt_cmp (gCmp_exc op) (op_cmp k.K k.hu op) (Bool.eq_false_iff.mpr hb) (h.E a k) (h.E b k)
  | [op, op'], [b, b'] =>
    show DT Z X _ (asB (if _ then _ else _))
    split
    · exact dt_stk
    · rename_i hb
      exact dt_chain (gCmp_exc op') (op_cmp k.K k.hu op) (op_cmp k.K k.hu op') (h.E a k) (h.E b k) (h.E b' k) (last_of hb)
  | [], _ => exact dt_stk
  | [_, _], [] => exact dt_stk
  | _ :: _ :: _ :: _, [] => exact dt_stk
  | _ :: _ :: _ :: _, _ :: _ => exact dt_stk
  | [_, _], [_] => exact dt_stk
  | [_, _], _ :: _ :: _ :: _ => exact dt_stk
  | [_], [] => exact dt_stk
  | [_], _ :: _ :: _ => exact dt_stk
theorem gNeg_exc (d : D) (e : Str) : gNeg d ≠ .exc e := by
  cases d <;> (intro z; cases z)
theorem isFnK_of {k : ScopeKind} (h : isFnK k = true) : k = .function := by
  cases k <;> first | rfl | cases h
theorem da_ev (k : CtxOk Z X c) (h : EVOk v) : ∀ es : List Expr, es.all noStar = true → DA Z X es (dArgs (es.map (v.E c)))
  | [], _ => da_nil
  | e :: es, z => by
    rw [List.all_cons, Bool.and_eq_true] at z
    exact da_cons z.1 (h.E e k) (da_ev k h es z.2)
theorem dv_ev (k : CtxOk Z X c) (h : EVOk v) : ∀ es : List Expr, es.all noStar = true → DV Z X es (dVals (es.map (v.E c)))
  | [], _ => dv_nil
  | e :: es, z => by
    rw [List.all_cons, Bool.and_eq_true] at z
    exact dv_cons z.1 (h.E e k) (dv_ev k h es z.2)
theorem one_star {a : Expr} {es : List Expr} (h : (a :: es).all noStar = true) : noStar a = true ∧ es.all noStar = true := by
  rw [List.all_cons, Bool.and_eq_true] at h
  exact h
theorem tyOf_ok {x : Str} {T : String} (h : tyOf x = some T) : bootBuiltins x = some (.type T) ∧ x ≠ "__name__" ∧ (x == ("__debug__" : Str)) = false := by
  unfold tyOf at h
  repeat' split at h
  all_goals (first | (cases h; subst x; exact ⟨by decide +kernel, by decide +kernel, by decide +kernel⟩) | cases h)
set_option maxHeartbeats 2000000 in
theorem blt_exc {x : Str} {g : List D → R} (h : bltOf x = some g) (ds : List D) (e : Str) : g ds ≠ .exc e := by
  have hone : ∀ {α : Type} (f : List D → Option α) (k : α → R), (∀ a, k a ≠ .exc e) → gOne f k ds ≠ .exc e := fun f k hk z => by
    unfold gOne at z
    repeat' split at z
    all_goals first | exact hk _ z | cases z
  unfold bltOf at h
  repeat' split at h
  all_goals first | (cases h; done) | skip
  all_goals cases h
  · intro z; unfold gLen at z; repeat' split at z
    all_goals cases z
  · intro z; unfold gList at z; repeat' split at z
    all_goals cases z
  · intro z; unfold gTuple at z; repeat' split at z
    all_goals cases z
  · exact hone _ _ fun a z => by cases z
  · exact hone _ _ fun a z => by cases z
  · exact hone _ _ fun a z => by cases z
  · intro z
    unfold gMax at z
    split at z
    · cases z
    · split at z
      · split at z <;> cases z
      · cases z
    · refine hone intsOf (fun ns => if ns = [] then .stk else .val (.int (maxL ns))) (fun a z => ?_) z
      by_cases q : a = []
      · rw [if_pos q] at z
        cases z
      · rw [if_neg q] at z
        cases z
  · intro z
    unfold gMinD at z
    split at z
    · repeat' split at z
      all_goals cases z
    · unfold gMin at z
      split at z
      · cases z
      · split at z
        · split at z <;> cases z
        · cases z
      · refine hone intsOf (fun ns => if ns = [] then .stk else .val (.int (minL ns))) (fun a z => ?_) z
        by_cases q : a = []
        · rw [if_pos q] at z
          cases z
        · rw [if_neg q] at z
          cases z
  · intro z; unfold gStr at z; repeat' split at z
    all_goals cases z
  · intro z; unfold gInt at z; repeat' split at z
    all_goals cases z
  · intro z; unfold gDict at z; repeat' split at z
    all_goals cases z
  · intro z
    unfold gSort at z
    split at z
    · repeat' split at z
      all_goals cases z
    · unfold gSorted at z
      split at z
      · repeat' split at z
        all_goals cases z
      · exact hone intsOf (fun ns => .own (.lst ((sortI ns).map D.int))) (fun a z => by cases z) z
set_option maxHeartbeats 2000000 in
theorem de_bltOf (k : CtxOk Z X c) {x : Str} {g : List D → R} (kc : wantsCalm x = true → X.calm = true) (hx : bltOf x = some g) (hg : Gl X x) (hm : X.mg x = none) {a : Expr} {es : List Expr} {p pos : Pos} (ns : (a :: es).all noStar = true) {fs : DS → Res (List RV)} (ha : DA Z X (a :: es) fs) :
    DE Z X (.Call (.Name x p) (a :: es) [] pos) (dPureN g fs) := by
  have he := blt_exc hx
  unfold bltOf at hx
  repeat' split at hx
  all_goals first | (cases hx; done) | skip
  all_goals (cases hx; subst x)
  · exact de_blt hg hm (by decide +kernel) (by decide +kernel) (by decide +kernel) ns (call_lenA k.K) he ha
  · exact de_bty hg hm (by decide +kernel) (by decide +kernel) (by decide +kernel) ns (call_listA k.K) he ha
  · exact de_bty hg hm (by decide +kernel) (by decide +kernel) (by decide +kernel) ns (call_tupleA k.K) he ha
  · exact de_blt hg hm (by decide +kernel) (by decide +kernel) (by decide +kernel) ns (call_sumA (kc (by decide +kernel))) he ha
  · exact de_blt hg hm (by decide +kernel) (by decide +kernel) (by decide +kernel) ns (call_allA (kc (by decide +kernel))) he ha
  · exact de_blt hg hm (by decide +kernel) (by decide +kernel) (by decide +kernel) ns (call_anyA (kc (by decide +kernel))) he ha
  · exact de_blt hg hm (by decide +kernel) (by decide +kernel) (by decide +kernel) ns (call_maxA k.K (kc (by decide +kernel))) he ha
  · exact de_blt hg hm (by decide +kernel) (by decide +kernel) (by decide +kernel) ns (call_minDA k.K (kc (by decide +kernel))) he ha
  · exact de_bty hg hm (by decide +kernel) (by decide +kernel) (by decide +kernel) ns call_strA he ha
  · exact de_bty hg hm (by decide +kernel) (by decide +kernel) (by decide +kernel) ns call_intA he ha
  · exact de_bty hg hm (by decide +kernel) (by decide +kernel) (by decide +kernel) ns (call_dictA k.K (kc (by decide +kernel))) he ha
  · exact de_blt hg hm (by decide +kernel) (by decide +kernel) (by decide +kernel) ns (call_sortA k.K (kc (by decide +kernel))) he ha
theorem ne_debug {T : Str} (h : T ≠ "__debug__") : (T == ("__debug__" : Str)) = false := by
  cases q : T == ("__debug__" : Str)
  · rfl
  · exact absurd (eq_of_beq q) h
theorem any_key {α : Type} {l : List ((Str × Str) × α)} {T : Str} (h : (l.any fun q => q.1.2 == T) = true) : ∃ cn a, l.lookup (cn, T) = some a := by
  rw [List.any_eq_true] at h
  obtain ⟨⟨⟨c, t⟩, a⟩, h1, h2⟩ := h
  have e : t = T := eq_of_beq h2
  subst e
  refine ⟨c, ?_⟩
  induction l with
  | nil => cases h1
  | cons y l ih =>
    obtain ⟨k, b⟩ := y
    rw [List.lookup_cons]
    split
    · exact ⟨b, rfl⟩
    · rename_i hne
      rcases List.mem_cons.mp h1 with e | h1
      · cases e
        rw [beq_self_eq_true] at hne
        cases hne
      · exact ih h1
theorem de_evIsi (k : CtxOk Z X c) (h : EVOk v) {T : Str} (hg : Gl X "isinstance") (hm : X.mg "isinstance" = none) {a : Expr} {p p2 pos : Pos} (ns : noStar a = true) : DE Z X (.Call (.Name "isinstance" p) [a, .Name T p2] [] pos) (evIsi v c a T) := by
  unfold evIsi
  split
  · rename_i n hn
    split
    · rename_i i hi
      split
      · rename_i hc
        obtain ⟨hvis, hd1, hd2, hgT, hd3⟩ := hc
        have ea : ∃ q, a = .Name n q := by
          unfold isExn at hn
          split at hn
          · split at hn
            · cases hn
              exact ⟨_, rfl⟩
            · cases hn
          · cases hn
        obtain ⟨q, rfl⟩ := ea
        have hv : PE X (.Name n q) (tVar i) := pe_var (by rw [k.N]; exact slot_of hi) (k.vis_x hvis) (ne_debug hd1) (by
          cases z : n == ("__classdict__" : Str)
          · rfl
          · exact absurd (eq_of_beq z) hd2)
        by_cases hk : ∃ cn b, tb2 c.kitE T cn = some b
        · obtain ⟨cn0, b0, hb0⟩ := hk
          have all := fun cn b (hb : tb2 c.kitE T cn = some b) => k.kitE cn T b hb
          rcases all cn0 b0 hb0 with ⟨TC, hTC, _⟩ | ⟨hn1, hn2, hn3, _⟩
          · refine de_isE k.suite hg hm hv (pe_glob (v := .ref TC) (k.gl_x hgT) hTC rfl (ne_debug hd3)) (fun u r => r) fun cn D b hex hb => ?_
            rcases all cn b hb with ⟨TC', hTC', hk'⟩ | ⟨hn1, _⟩
            · rw [hTC] at hTC'
              cases hTC'
              exact hk' D hex
            · rw [hTC] at hn1
              cases hn1
          · refine de_isE k.suite hg hm hv (pe_bltn (v := .ty "ValueError") (k.gl_x hgT) hn1 hn2 rfl hn3 (ne_debug hd3)) (fun u r => r) fun cn D b hex hb => ?_
            rcases all cn b hb with ⟨TC', hTC', _⟩ | ⟨_, _, _, hk'⟩
            · rw [hn1] at hTC'
              cases hTC'
            · exact hk' D hex
        · refine ⟨fun W tk => ⟨fun pins s σ H Q I ⟨F, S, B, ρ, R, q⟩ => ?_⟩⟩
          exfalso
          unfold dIsE at q
          split at q
          · rename_i cn hcn
            split at q
            · rename_i b hb
              exact hk ⟨cn, b, hb⟩
            · exact q
          · exact q
      · exact de_stk
    · exact de_stk
  · split
    · rename_i T' hT
      split
      · rename_i hc
        rw [Bool.and_eq_true] at hc
        obtain ⟨t1, t2, t3⟩ := tyOf_ok hT
        exact de_isi k.K hg hm (by decide +kernel) (pe_bltn (k.gl_x hc.1) (k.no _ hc.2) t1 rfl t2 t3) ns (h.E a k)
      · exact de_stk
    · split
      · rename_i hc
        obtain ⟨hgT, hd, hany⟩ := hc
        obtain ⟨cn, b, hb⟩ := any_key hany
        obtain ⟨TC, hTC, _⟩ := k.kit cn T b hb
        refine de_isO hg hm (pe_glob (v := .ref TC) (k.gl_x hgT) hTC rfl (ne_debug hd)) (fun cl C b' hC hb' => ?_) ns (h.E a k)
        obtain ⟨TC', hTC', hk'⟩ := k.kit cl T b' hb'
        rw [hTC] at hTC'
        cases hTC'
        exact hk' C hC
      · exact de_stk
theorem de_evBlt (k : CtxOk Z X c) (h : EVOk v) {x : Str} (hg : Gl X x) (hm : X.mg x = none) {a : Expr} {es : List Expr} {p pos : Pos} (ns : (a :: es).all noStar = true) : DE Z X (.Call (.Name x p) (a :: es) [] pos) (evBlt v c x a es) := by
  unfold evBlt
  split
  · rename_i hx
    subst x
    split
    · exact de_evIsi k h hg hm (one_star ns).1
    · exact de_stk
  split
  · rename_i hx
    obtain ⟨rfl, _, _⟩ := hx
    split
    · rename_i hc
      exact de_bty hg hm (by decide +kernel) (by decide +kernel) (by decide +kernel) ns (call_listDA (by rw [k.calm]; exact hc)) (fun ds e => by unfold gListD; split <;> simp) (da_ev k h _ ns)
    · exact de_stk
  · split
    · rename_i g hgx
      split
      · exact de_stk
      · rename_i hcalm
        exact de_bltOf k (fun hw => by
          rw [k.calm]
          cases z : c.calm
          · exact absurd ⟨hw, z⟩ hcalm
          · rfl) hgx hg hm ns (da_ev k h _ ns)
    · exact de_stk
theorem de_evCallN (k : CtxOk Z X c) (h : EVOk v) {x : Str} (hg : Gl X x) (hd : (x == ("__debug__" : Str)) = false) {args : List Expr} {p pos : Pos} (ns : args.all noStar = true) : DE Z X (.Call (.Name x p) args [] pos) (evCallN v c x args) := by
  unfold evCallN
  split
  · exact de_stk
  · split
    · rename_i en hen
      have hE : FnEOk X Z x en := k.gl _ _ hen
      split
      · rename_i hl
        exact de_call hg hE hd ns (da_ev k h _ ns) (by rw [List.length_map]) [] (.inl rfl) (Nat.zero_le _) (by rw [List.length_cons]; exact hl)
      · split
        · rename_i hl
          exact de_call hg hE hd ns (da_ev k h _ ns) (by rw [List.length_map]) en.dfl (.inr rfl) hl.2 (by rw [List.length_cons]; exact hl.1)
        · exact de_stk
    · rename_i en hen
      have hE : FnHOk X Z x en := k.gl _ _ hen
      split
      · rename_i hl
        exact de_callH hg hE hd ns (da_ev k h _ ns) (by rw [List.length_map]) [] (.inl rfl) (Nat.zero_le _) (by rw [List.length_cons]; exact hl)
      · split
        · rename_i hl
          exact de_callH hg hE hd ns (da_ev k h _ ns) (by rw [List.length_map]) en.dfl (.inr rfl) hl.2 (by rw [List.length_cons]; exact hl.1)
        · exact de_stk
    · rename_i en hen
      have hE : NewOk X Z x en := k.gl _ _ hen
      split
      · rename_i hl
        exact de_new hg hE hd ns (da_ev k h _ ns) (by rw [List.length_map]) (by rw [List.length_cons]; exact hl)
      · exact de_stk
    · exact de_stk
    · exact de_stk
    · split
      · rename_i hn
        exact de_evBlt k h hg (k.no _ hn) ns
      · exact de_stk
theorem pe_vis (k : CtxOk Z X c) {x : Str} {i : Nat} {p : Pos} (h : visSlot c x = some i) : PE X (.Name x p) (tVar i) := by
  unfold visSlot at h
  split at h
  · cases h
  · rename_i hd
    split at h
    · rename_i hv
      have hd : ((x == ("__debug__" : Str)) || (x == ("__classdict__" : Str))) = false := Bool.eq_false_iff.mpr hd
      rw [Bool.or_eq_false_iff] at hd
      exact pe_var (by rw [k.N]; exact slot_of h) (k.vis_x hv) hd.1 hd.2
    · cases h
noncomputable def way_of (k : CtxOk Z X c) {tg iter : Expr} {i : Nat} {sel : DSel} (h : wayD c tg iter = some (i, sel)) : DWay Z X tg iter i sel.f := by
  refine Classical.choice ?_
  unfold wayD at h
  split at h
  · split at h
    · rename_i hl
      split at h
      · rename_i j hj
        split at h
        · rename_i hm
          cases h
          obtain ⟨rfl, ht⟩ := hm
          unfold isTup at ht
          split at ht
          · exact ⟨way_items (pe_vis k hj) hl⟩
          · cases ht
        · split at h
          · rename_i hm
            cases h
            subst hm
            exact ⟨way_vals (pe_vis k hj) hl⟩
          · cases h
      · cases h
    · cases h
  · split at h
    · rename_i j hj
      split at h
      · cases h
        exact ⟨way_keys (pe_vis k hj)⟩
      · cases h
    · cases h
  · cases h
theorem de_evMeth (k : CtxOk Z X c) (h : EVOk v) {o : Expr} {m : Str} {args : List Expr} {ap pos : Pos} (hb : baseOk o = true) (hl : (ap.endLine == pos.line) = true) (ns : args.all noStar = true) : DE Z X (.Call (.Attribute o m ap) args [] pos) (evMeth v c o m args) := by
  unfold evMeth
  split
  · split
    · rename_i hlen
      exact de_meth (fun cl e he => k.mt cl m e he) (h.E o k) hb hl ns hlen (da_ev k h _ ns) (by rw [List.length_map])
    · exact de_stk
  split
  · split
    · subst m
      split
      · exact de_mutT PySem.F.slot_list_clear PySem.F.type_list_clear mt_clearA hb hl (h.E o k)
      split
      · exact de_dclear (h.E o k) hb hl
      · exact de_mut0 PySem.F.slot_list_clear PySem.F.type_list_clear mt_clearA hb hl (h.E o k)
    · split
      · subst m
        exact de_mut0 PySem.F.slot_list_pop PySem.F.type_list_pop mt_popA hb hl (h.E o k)
      · split
        · subst m
          exact de_bits (base_of hb) hl (h.E o k)
        · exact de_stk
  · rename_i a
    have na := (one_star ns).1
    have hv : DV Z X [a] (dVals [v.E c a]) := dv_ev k h [a] ns
    split
    · subst m
      exact de_mut1 PySem.F.slot_list_append PySem.F.type_list_append mt_appendA hb hl na (h.E o k) hv
    · split
      · subst m
        exact de_mut1 PySem.F.slot_list_extend PySem.F.type_list_extend mt_extendA hb hl na (h.E o k) hv
      · split
        · subst m
          split
          · exact de_dpop1 (h.E o k) (h.E a k) hb hl na
          · exact de_mut1 PySem.F.slot_list_pop PySem.F.type_list_pop mt_popAtA hb hl na (h.E o k) hv
        · exact de_stk
  · rename_i a b
    obtain ⟨na, nb⟩ := one_star ns
    have nb := (one_star nb).1
    split
    · subst m
      exact de_dget2 (by have := k.hu; omega) (h.E o k) (h.E a k) (h.E b k) hb hl na nb
    · exact de_stk
  · exact de_stk
theorem de_evBas (k : CtxOk Z X c) (h : EVOk v) {o : Expr} {m : Str} {args : List Expr} {ap pos : Pos} {en : FnH} (he : basAt c o m = some en) (hb : baseOk o = true) (hl : (ap.endLine == pos.line) = true) (ns : args.all noStar = true) : DE Z X (.Call (.Attribute o m ap) args [] pos) (evBas v c en args) := by
  unfold basAt at he
  split at he
  · rename_i x p
    split at he
    · rename_i hg
      rw [Bool.and_eq_true] at hg
      split at he
      · rename_i m1 e1 hlk
        split at he
        · rename_i hm
          cases he
          subst hm
          have hE := k.gl _ _ hlk
          change BasOk X Z x _ en at hE
          unfold evBas
          split
          · exact de_stk
          · split
            · rename_i hlen
              exact de_bas (k.gl_x hg.1) hE (by simpa using hg.2) (base_of hb) hl ns (by rw [List.length_cons]; omega) (da_ev k h _ ns) (by rw [List.length_map]) (by rw [List.length_cons]; exact hlen.1)
            · exact de_stk
        · cases he
      · cases he
    · cases he
  · cases he
theorem de_evCall (k : CtxOk Z X c) (h : EVOk v) {f : Expr} {args : List Expr} {kws : List Keyword} {pos : Pos} : DE Z X (.Call f args kws pos) (evCall v c f args kws pos) := by
  unfold evCall
  split
  · split
    · split
      · rename_i hc
        rw [Bool.and_eq_true, Bool.and_eq_true] at hc
        exact de_evCallN k h (k.gl_x hc.1.1) (by simpa using hc.2) hc.1.2
      · exact de_stk
    · split
      · rename_i hc
        rw [Bool.and_eq_true, Bool.and_eq_true] at hc
        split
        · rename_i en hen
          exact de_evBas k h hen hc.1.1 hc.1.2 hc.2
        · exact de_evMeth k h hc.1.1 hc.1.2 hc.2
      · exact de_stk
    · exact de_stk
  · split
    · split
      · rename_i hc
        obtain ⟨rfl, rfl, hc⟩ := hc
        rw [Bool.and_eq_true, Bool.and_eq_true, Bool.and_eq_true] at hc
        obtain ⟨⟨⟨h1, h2⟩, h3⟩, h4⟩ := hc
        exact de_sortR (k.calm.trans h4) (k.gl_x h1) rfl (k.no _ h3) h2 (da_ev k h [_] (by simpa using h2))
      · exact de_stk
    · exact de_stk
  · exact de_stk
theorem do_ev (k : CtxOk Z X c) (h : EVOk v) (o : Option Expr) : DO Z X o (dOpt (o.map (v.E c))) := by
  cases o with
  | none => exact do_none
  | some e => exact do_some (h.E e k)
theorem de_evSub (k : CtxOk Z X c) (h : EVOk v) {a i : Expr} {pos : Pos} : DE Z X (.Subscript a i pos) (evSub v c a i) := by
  have hu : X.A.units + 1 < cLine := by have := k.hu; omega
  cases i with
  | Slice lo hi st p =>
    cases st with
    | none => exact de_slice k.K (h.E a k) (do_ev k h lo) (do_ev k h hi)
    | some _ => exact de_stk
  | _ => exact de_sub k.K hu (fun _ _ => rfl) (h.E a k) (h.E _ k)
theorem DG.stk {tg : Expr} {A : List Nat} : True := trivial
theorem stOk_of (k : CtxOk Z X c) {x : Str} {i : Nat} (h : stOk c x = true) (hi : c.slot x = some i) : X.N[i]? = some x ∧ Loc X.env.scope x ∧ (X.fn x = true ∨ X.env.scope.names.lookup x = some .local) := by
  unfold stOk at h
  rw [Bool.and_eq_true, Bool.or_eq_true] at h
  refine ⟨by rw [k.N]; exact slot_of hi, by rw [k.sc]; exact loc_of h.1, ?_⟩
  rcases h.2 with h | h
  · exact .inl (k.fn _ h)
  · rw [k.sc]
    exact .inr (local_of h)
theorem dgs_ev (k : CtxOk Z X c) : ∀ (es : List Expr) (is : List Nat), evGs c es = some is → PGs X es (dTGs Z is) ∧ es.length = is.length ∧ (assignEach es X.env).length = es.length ∧ (assignEach es X.env).findIdx? (·.1) = none ∧ ∀ i ∈ is, i ∈ es.filterMap (nmSlot c)
  | [], is, z => by
    cases z
    exact ⟨pgs_nilA, rfl, rfl, rfl, fun i hi => by cases hi⟩
  | e :: es, is, z => by
    unfold evGs at z
    split at z
    · rename_i heq
      cases heq
    · rename_i x p es' heq
      cases heq
      split at z
      · rename_i hs
        split at z
        · rename_i i is' hi his
          cases z
          obtain ⟨h1, h2, h3⟩ := stOk_of k hs hi
          obtain ⟨q1, q2, q3, q4, q5⟩ := dgs_ev k es is' his
          refine ⟨pgs_consA (pg_name k.nd h1 h2 h3) q1 rfl, by rw [List.length_cons, List.length_cons, q2], ?_, ?_, fun j hj => ?_⟩
          · show (assignEach es X.env).length + 1 = _
            rw [q3]
            rfl
          · show (List.findIdx? _ ((false, _) :: assignEach es X.env)) = none
            rw [List.findIdx?_cons]
            simpa using q4
          · rw [List.mem_cons] at hj
            rcases hj with rfl | hj
            · exact List.mem_filterMap.mpr ⟨_, List.mem_cons_self, hi⟩
            · obtain ⟨e, he1, he2⟩ := List.mem_filterMap.mp (q5 j hj)
              exact List.mem_filterMap.mpr ⟨e, List.mem_cons_of_mem _ he1, he2⟩
        · cases z
      · cases z
    · cases z
theorem dg_ev (k : CtxOk Z X c) {tg : Expr} {g : D → DS → Res Unit} {A : List Nat} (h : evG c tg = some (g, A)) : DG Z X tg g A ∧ ∀ i ∈ A, i ∈ evTgA c tg := by
  unfold evG at h
  split at h
  · rename_i x p
    split at h
    · rename_i hs
      rw [Option.map_eq_some_iff] at h
      obtain ⟨i, hi, e⟩ := h
      cases e
      obtain ⟨h1, h2, h3⟩ := stOk_of k hs hi
      exact ⟨dg_name (pg_name k.nd h1 h2 h3), fun j hj => by
        rw [List.mem_singleton] at hj
        subst j
        show i ∈ (c.slot x).toList
        rw [hi]
        exact List.mem_singleton.mpr rfl⟩
    · cases h
  · rename_i es kk p
    split at h
    · rename_i hcalm
      rw [Option.map_eq_some_iff] at h
      obtain ⟨is, his, e⟩ := h
      cases e
      obtain ⟨q1, q2, q3, q4, q5⟩ := dgs_ev k es _ his
      exact ⟨dg_tup (k.calm.trans hcalm) k.K q1 q2 q3 q4, q5⟩
    · cases h
  · cases h
theorem folded_of {iter : Expr} {env : Env} (h : notSet iter = true) : ∀ x, foldedSetIterable iter env x = pure x := by
  intro x
  cases iter with
  | Set _ _ _ => cases h
  | _ => rfl
theorem di_stk {tg e : Expr} : DI Z X tg e (fun _ => .stk) := ⟨fun W tk => ⟨fun _ _ _ _ _ _ ⟨_, _, _, _, _, h⟩ => h.elim⟩⟩
theorem di_ev (k : CtxOk Z X c) (h : EVOk v) {f : (DS → Res RV) → DS → Res Src} {tg iter : Expr} (hf : ∀ e fe, DE Z X e fe → DI Z X tg e (f fe)) : DI Z X tg iter (evI v c f tg iter) := by
  unfold evI
  split
  · rename_i x p args pos
    split
    · rename_i hc
      obtain ⟨hc, hx⟩ := hc
      rw [Bool.and_eq_true, Bool.and_eq_true] at hc
      have hg := k.gl_x hc.1.1
      have hm := k.no _ hc.2
      split
      · subst x
        split
        · have ns := one_star hc.1.2
          exact di_range1 hg hm ns.1 (da_ev k h [_] hc.1.2)
        · have ns := one_star hc.1.2
          exact di_range2 hg hm ns.1 (one_star ns.2).1 (da_ev k h [_, _] hc.1.2)
        · have ns := one_star hc.1.2
          exact di_range3 hg hm ns.1 (one_star ns.2).1 (one_star (one_star ns.2).2).1 (da_ev k h [_, _, _] hc.1.2)
        · exact di_stk
      · rename_i nx
        split
        · subst x
          split
          · split
            · rename_i ht
              cases tg with
              | Tuple elts kk tp => exact di_enum k.K hg hm (one_star hc.1.2).1 (dv_ev k h [_] hc.1.2)
              | _ => cases ht
            · exact di_stk
          · exact di_stk
        · rename_i nx2
          rcases hx with hx | hx | hx
          · exact absurd hx nx
          · exact absurd hx nx2
          · subst x
            split
            · exact di_rev k.K hg hm (one_star hc.1.2).1 (dv_ev k h [_] hc.1.2)
            · exact di_stk
    · exact hf _ _ (h.E _ k)
  · exact hf _ _ (h.E _ k)
theorem dts_ev (k : CtxOk Z X c) (h : EVOk v) (ifs : List Expr) : DTs Z X ifs (evIfs v c ifs) := by
  match ifs with
  | [] => exact dts_nil
  | [t] => exact dts_one (h.T t k)
  | _ :: _ :: _ => exact ⟨fun W tk => ⟨fun _ _ _ _ _ _ ⟨_, _, _, _, _, z⟩ => z.elim⟩⟩
/-- the parts of a list comprehension -/
theorem lc_parts (k : CtxOk Z X c) (h : EVOk v) {tg iter : Expr} {ifs : List Expr} {scope : Scope} {g : D → DS → Res Unit} {A : List Nat} (hg : evG (c.blk scope) tg = some (g, A))
    (hc : (c.calm && blkC c.N c.sc scope (ownOf c scope) && A.all (fun i => ((ownOf c scope).map (·.2)).contains i) && notSet iter) = true) :
    BlkOk X.N X.env.scope scope (ownOf c scope) ∧ (∀ i, i ∈ A → i ∈ (ownOf c scope).map (·.2)) ∧ (∀ x, foldedSetIterable iter X.env x = pure x) ∧ c.calm = true := by
  rw [Bool.and_eq_true, Bool.and_eq_true, Bool.and_eq_true] at hc
  refine ⟨?_, fun i hi => ?_, folded_of hc.2, hc.1.1.1⟩
  · rw [k.N, k.sc]
    exact blkOk_by hc.1.1.2
  · exact List.contains_iff_mem.mp (List.all_eq_true.mp hc.1.2 i hi)
theorem de_evLc (k : CtxOk Z X c) (h : EVOk v) {elt : Expr} {gs : List Comprehension} {scope : Scope} {pos : Pos} : DE Z X (.ListComp elt gs scope pos) (evLc v c elt gs scope) := by
  unfold evLc
  split
  · rename_i tg iter ifs
    split
    · rename_i g A hg
      split
      · rename_i hc
        obtain ⟨h1, h2, h3, h4⟩ := lc_parts (ifs := ifs) k h hg hc
        have hz := k.cur h4
        split
        · rename_i i sel hw
          exact de_lcD (k.calm.trans h4) k.nd (way_of k hw) h1 h2 (fun s H C cl fp => (dg_ev (k.blk hz s H scope C cl fp) hg).1) (fun s H C cl fp => dts_ev (k.blk hz s H scope C cl fp) h ifs) (fun s H C cl fp => h.E elt (k.blk hz s H scope C cl fp)) h3
        exact de_lc (k.calm.trans h4) k.nd (di_ev k h fun e fe => di_seq k.K) h1 h2 (fun s H C cl fp => (dg_ev (k.blk hz s H scope C cl fp) hg).1) (fun s H C cl fp => dts_ev (k.blk hz s H scope C cl fp) h ifs) (fun s H C cl fp => h.E elt (k.blk hz s H scope C cl fp)) h3
      · exact de_stk
    · exact de_stk
  · exact de_stk
theorem de_ev (k : CtxOk Z X c) (h : EVOk v) (e : Expr) : DE Z X e (evE v c e) := by
  cases e with
  | Constant k' j p => exact de_evConst
  | Name x p => exact de_evName k
  | BinOp a op b p => exact de_pure2 (gBin_exc op) (fun t u p q => pe_op (op_bin k.K op) p q) (h.E a k) (h.E b k)
  | UnaryOp op a p =>
    cases op with
    | Not => exact de_not (h.E a k)
    | USub => exact de_pure1 gNeg_exc (fun t p => pe_un un_negA p) (h.E a k)
    | _ => exact de_stk
  | BoolOp op es p => exact de_evBool k h
  | Compare a ops bs p => exact de_evCmp k h
  | IfExp t a b p => exact de_if (h.T t k) (h.E a k) (h.E b k)
  | Call f args kws p => exact de_evCall k h
  | Subscript a i p => exact de_evSub k h
  | Attribute a f p =>
    show DE Z X _ (if _ then _ else _)
    split
    · rename_i hc
      rw [Bool.and_eq_true] at hc
      exact de_fld (base_of hc.1) (k.fld f hc.2) (h.E a k)
    · exact de_stk
  | List es p =>
    show DE Z X _ (if _ then _ else _)
    split
    · rename_i hs
      exact de_lst (fun t p => pe_lst p) (dv_ev k h es hs)
    · exact de_stk
  | Tuple es j p =>
    show DE Z X _ (if _ then _ else _)
    split
    · rename_i hs
      exact de_tup (fun t p => pe_tup p) (dv_ev k h es hs)
    · exact de_stk
  | ListComp elt gs scope p => exact de_evLc k h
  | Dict keys values p =>
    show DE Z X _ (match keys, values with
      | [], [] => dDic0
      | [some a], [b] => dDic1 (v.E c a) (v.E c b)
      | _, _ => dStk)
    split
    · exact de_dic0
    · exact de_dic1 (h.E _ k) (h.E _ k)
    · exact de_stk
  | _ => exact de_stk
theorem dt_ev (k : CtxOk Z X c) (h : EVOk v) (e : Expr) : DT Z X e (evT v c e) := by
  cases e with
  | UnaryOp op a p =>
    cases op with
    | Not => exact dt_not (h.T a k)
    | _ => exact dt_truth k.K (h.E _ k) fun _ => rfl
  | BoolOp op es p => exact (h.W _ k).dt
  | IfExp t a b p => exact dt_stk
  | Compare a ops bs p => exact dt_evCmp k h
  | _ => exact dt_truth k.K (h.E _ k) fun _ => rfl
theorem dw_ev (k : CtxOk Z X c) (h : EVOk v) (e : Expr) : DW Z X e (evW v c e) := by
  cases e with
  | BoolOp op es p =>
    match es, op with
    | [], _ => exact dw_stk
    | [a], .And => exact dw_and1 (h.T a k)
    | [a], .Or => exact dw_or1 (h.T a k)
    | a :: b :: es, .And => exact dw_and (h.T a k) (h.W _ k)
    | a :: b :: es, .Or => exact dw_or (h.T a k) (h.W _ k)
  | _ => exact dw_stk
theorem sw_no {e : Expr} {t : Option Expr} {l : Nat} {env : Env} (h : ¬ isLcE e = true) : swapsWith e t l env = pure false := by
  cases e <;> first | rfl | exact absurd rfl h
theorem sw_att {e o : Expr} {f : Str} {p : Pos} {l : Nat} {env : Env} : swapsWith e (some (.Attribute o f p)) l env = pure false := by cases e <;> rfl
theorem sw_sub {e o i : Expr} {p : Pos} {l : Nat} {env : Env} : swapsWith e (some (.Subscript o i p)) l env = pure false := by cases e <;> rfl
theorem cell_of {sc : Scope} {x : Str} (h : isCellN sc x = true) : sc.names.lookup x = some .cell := by
  unfold isCellN at h
  split at h
  · assumption
  · cases h
theorem sw_cell {elt : Expr} {gs : List Comprehension} {scope : Scope} {p p2 : Pos} {x : Str} {l : Nat} {env : Env} (h : env.scope.names.lookup x = some .cell) : swapsWith (.ListComp elt gs scope p2) (some (.Name x p)) l env = pure false := by
  have hk : env.kindOf x = some .cell := h
  show (pure (env.blockKind == .function && env.kindOf x == some .local && p.line == (Expr.ListComp elt gs scope p2).pos.line && !(scope.names.any fun (n, k) => n == x && (k == .local || k == .cell))) : Sem Bool) = pure false
  rw [hk]
  have : ((some NameKind.cell == some NameKind.local) = false) := rfl
  simp [this]
theorem dst_evAsgN (k : CtxOk Z X c) (h : EVOk v) {x : Str} {p : Pos} {e : Expr} {pos : Pos} : DSt Z X (.Assign [.Name x p] e pos) (evAsgN v c x p e) (evTgA c (.Name x p)) := by
  unfold evAsgN
  split
  · rename_i hs
    split
    · rename_i i hi
      obtain ⟨h1, h2, h3⟩ := stOk_of k hs hi
      have mono : ∀ {f : DS → Out} {st : Stmt}, DSt Z X st f [i] → DSt Z X st f (evTgA c (.Name x p)) := fun hd => hd.mono fun j hj => by
        show j ∈ (c.slot x).toList
        rw [hi]
        exact hj
      split
      · rename_i elt gs scope p2
        split
        · rename_i hc
          rw [Bool.and_eq_true, Bool.and_eq_true, Bool.and_eq_true] at hc
          obtain ⟨⟨⟨c1, c2⟩, c3⟩, c4⟩ := hc
          have hl : X.env.scope.names.lookup x = some .local := by
            rw [k.sc]
            exact local_of c1
          have hk : X.env.scope.kind = .function := by
            rw [k.sc]
            exact isFnK_of c4
          unfold evLcSet
          split
          · rename_i tg iter ifs
            split
            · rename_i g A hg
              split
              · rename_i hc
                obtain ⟨q1, q2, q3, q4⟩ := lc_parts (ifs := ifs) k h hg hc
                have hz := k.cur q4
                split
                · rename_i j sel hw
                  exact mono (dst_setLcD (k.calm.trans q4) k.nd h1 hl (sw_true hk hl c2 (by simpa using c3)) (way_of k hw) q1 q2 (fun s H C cl fp => (dg_ev (k.blk hz s H scope C cl fp) hg).1) (fun s H C cl fp => dts_ev (k.blk hz s H scope C cl fp) h ifs) (fun s H C cl fp => h.E elt (k.blk hz s H scope C cl fp)) q3)
                exact mono (dst_setLc (k.calm.trans q4) k.nd h1 hl (sw_true hk hl c2 (by simpa using c3)) (di_ev k h fun e fe => di_seq k.K) q1 q2 (fun s H C cl fp => (dg_ev (k.blk hz s H scope C cl fp) hg).1) (fun s H C cl fp => dts_ev (k.blk hz s H scope C cl fp) h ifs) (fun s H C cl fp => h.E elt (k.blk hz s H scope C cl fp)) q3)
              · exact dst_stk
            · exact dst_stk
          · exact dst_stk
        · split
          · rename_i hcell
            exact mono (dst_set k.nd h1 h2 h3 (h.E _ k) (sw_cell (by rw [k.sc]; exact cell_of hcell.1)))
          · exact dst_stk
      · split
        · exact dst_stk
        · rename_i hn
          split
          · exact mono (dst_box k.nd h1 h2 h3 (h.E e k) (sw_no hn))
          · exact mono (dst_set k.nd h1 h2 h3 (h.E e k) (sw_no hn))
    · exact dst_stk
  · exact dst_stk
theorem swapped_no {ts : List Expr} {kk : Nat} {p : Pos} {e : Expr} {env : Env} (h : ¬ isTupE e = true) : swappedStores [.Tuple ts kk p] e env = pure none := by
  cases e <;> first | rfl | exact absurd rfl h
theorem dst_evAsgT (k : CtxOk Z X c) (h : EVOk v) {ts : List Expr} {kk : Nat} {p : Pos} {e : Expr} {pos : Pos} : DSt Z X (.Assign [.Tuple ts kk p] e pos) (evAsgT v c ts kk p e) (evTgA c (.Tuple ts kk p)) := by
  unfold evAsgT
  split
  · rename_i vs k2 p2
    split
    · rename_i x px y py a b
      split
      · rename_i hc
        simp only [Bool.and_eq_true] at hc
        obtain ⟨⟨⟨⟨⟨⟨⟨⟨⟨c0, c1⟩, c2⟩, c3⟩, c4⟩, c5⟩, c6⟩, c7⟩, c8⟩, c9⟩ := hc
        split
        · rename_i i j hi hj
          have hx : X.env.scope.names.lookup x = some .local := by
            rw [k.sc]
            exact local_of c1
          have hy : X.env.scope.names.lookup y = some .local := by
            rw [k.sc]
            exact local_of c2
          have hi' : X.N[i]? = some x := by
            rw [k.N]
            exact slot_of hi
          have hj' : X.N[j]? = some y := by
            rw [k.N]
            exact slot_of hj
          have hxy : (x == y) = false := by simpa using c4
          have hij : i ≠ j := fun z => by
            subst z
            rw [hi'] at hj'
            cases hj'
            rw [beq_self_eq_true] at hxy
            cases hxy
          have hk : X.env.scope.kind = .function := by
            rw [k.sc]
            exact isFnK_of c9
          have kx : X.env.kindOf x = some .local := hx
          have ky : X.env.kindOf y = some .local := hy
          have hb : X.env.blockKind = .function := by
            unfold Env.blockKind
            rw [hk]
            rfl
          have s1 : ∀ q : Expr, noStar q = true → (match q with | .Starred .. => true | _ => false) = false := fun q hq => by
            cases q <;> first | rfl | cases hq
          have ha := s1 a c5
          have hb' := s1 b c6
          refine (dst_par (k2 := k2) (pt2 := p2) (k.calm.trans c0) k.nd hi' hj' hij hx hy (dv_ev k h [a, b] ?_) ?_ rfl).mono fun q hq => ?_
          · rw [List.all_cons, List.all_cons, c5, c6]
            rfl
          · unfold swappedStores
            have e1 : (px.line == (Pos.line px)) = true := beq_self_eq_true _
            have hxy' : (y == x) = false := by
              cases hz : y == x
              · rfl
              · have := eq_of_beq hz
                subst this
                rw [beq_self_eq_true] at hxy
                cases hxy
            have c3' : (py.line == px.line) = true := by
              rw [eq_of_beq c3]
              exact beq_self_eq_true _
            have nt : ∀ b : Bool, (!b) = true → b = false := fun b hb => by
              cases b
              · rfl
              · cases hb
            have c7' := nt _ c7
            have c8' := nt _ c8
            simp only [hb, ha, hb', List.any_cons, List.any_nil, List.length_cons, List.length_nil, c7', c8', Bool.or_self]
            simp [kx, ky, eq_of_beq c3', List.eraseDups_cons, hxy', Expr.pos, List.filterMap_cons, List.filterMap_nil]
            intro z
            exfalso
            rcases z with z | z
            · exact Bool.noConfusion (z.symm.trans ha)
            · exact Bool.noConfusion (z.symm.trans hb')
          · rw [List.mem_cons, List.mem_singleton] at hq
            rcases hq with rfl | rfl
            · exact List.mem_filterMap.mpr ⟨_, List.mem_cons_self, hi⟩
            · exact List.mem_filterMap.mpr ⟨_, List.mem_cons_of_mem _ List.mem_cons_self, hj⟩
        · exact dst_stk
      · exact dst_stk
    · exact dst_stk
  · rename_i hne
    split
    · exact dst_stk
    · rename_i hn
      rw [not_or] at hn
      obtain ⟨hn, hcalm⟩ := hn
      have hcalm : c.calm = true := by
        cases z : c.calm
        · exact absurd z hcalm
        · rfl
      split
      · rename_i is his
        have hg : evG c (.Tuple ts kk p) = some (tgTup is, is) := by
          show (if c.calm = true then (evGs c ts).map _ else none) = _
          rw [if_pos hcalm, his]
          rfl
        obtain ⟨q1, q2⟩ := dg_ev k hg
        have ht : ¬ isTupE e = true := fun z => by
          cases e <;> first | exact hne _ _ _ rfl | cases z
        exact (dst_unp q1 (h.E e k) (by unfold swapsWithSole; exact sw_no hn) (swapped_no ht) rfl).mono fun j hj => q2 j hj
      · exact dst_stk
theorem dst_ev (k : CtxOk Z X c) (h : EVOk v) (st : Stmt) : DSt Z X st (evS v c st) (evA v c st) := by
  cases st with
  | Expr e p =>
    show DSt Z X _ (if _ then _ else _) _
    split
    · exact dst_stk
    · rename_i hn
      exact (dst_expr (h.E e k) (sw_no hn)).mono fun j hj => by cases hj
  | Assign ts e p =>
    show DSt Z X _ (evAsg v c ts e) _
    unfold evAsg
    split
    · exact dst_evAsgN k h
    · exact dst_evAsgT k h
    · rename_i o i p2
      split
      · exact (dst_lset (h.E o k) (h.E i k) (h.E e k) sw_sub).mono fun j hj => by cases hj
      · exact (dst_dset (by have := k.hu; omega) (h.E o k) (h.E i k) (h.E e k) sw_sub).mono fun j hj => by cases hj
    · rename_i o f p2
      split
      · exact dst_stk
      · rename_i hn
        have hf : c.flds.contains f = true := by
          cases z : c.flds.contains f
          · exact absurd z hn
          · rfl
        exact dst_fld (k.fld f hf) (h.E o k) (h.E e k) sw_att
    · exact dst_stk
  | AugAssign t op e p =>
    show DSt Z X _ (match t with
      | .Name x _ => if stOk c x = true then (match c.slot x with
        | some i => oAug i (gIop op) (v.E c e)
        | none => oStk) else oStk
      | _ => oStk) _
    split
    · split
      · rename_i hs
        split
        · rename_i i hi
          obtain ⟨h1, h2, h3⟩ := stOk_of k hs hi
          exact (dst_aug k.nd h1 h2 h3 (op_iop op) (gIop_own op) (h.E e k)).mono fun j hj => by
            rw [List.mem_singleton] at hj
            subst j
            show i ∈ (c.slot _).toList
            rw [hi]
            exact List.mem_singleton.mpr rfl
        · exact dst_stk
      · exact dst_stk
    · exact dst_stk
  | Return o p =>
    cases o with
    | some e => exact (dst_ret (h.E e k)).mono fun j hj => by cases hj
    | none => exact dst_retN.mono fun j hj => by cases hj
  | If t a b p => exact (dst_if (h.T t k) (h.SS a k) (h.SS b k)).mono fun j hj => hj
  | For tg iter body orelse p =>
    cases orelse with
    | nil =>
      show DSt Z X _ (if _ then _ else _) _
      split
      · rename_i hn0
        rw [Bool.and_eq_true] at hn0
        obtain ⟨hcalm, hn⟩ := hn0
        split
        · rename_i g A hg
          obtain ⟨q1, q2⟩ := dg_ev k hg
          split
          · rename_i i sel hw
            exact (dst_forD k.pass (k.calm.trans hcalm) (way_of k hw) q1 (h.SS body k) (folded_of hn)).mono fun j hj => List.mem_append.mpr ((List.mem_append.mp hj).imp (q2 j) id)
          exact (dst_for k.pass (k.calm.trans hcalm) (di_ev k h fun e fe => di_seq k.K) q1 (h.SS body k) (folded_of hn)).mono fun j hj => List.mem_append.mpr ((List.mem_append.mp hj).imp (q2 j) id)
        · exact dst_stk
      · exact dst_stk
    | cons _ _ => exact dst_stk
  | While t body orelse p =>
    cases orelse with
    | nil => exact dst_while wF k.pass (h.T t k) (h.SS body k)
    | cons _ _ => exact dst_stk
  | Raise o cause p =>
    show DSt Z X _ (match (Stmt.Raise o cause p) with
      | .Raise (some (.Call (.Name x _) [.Constant (.str _) _ _] [] _)) none _ => if (c.calm && c.excs.contains x && isGl c.sc x && !(x == ("__debug__" : Str))) = true then oRaise x else oStk
      | _ => oStk) _
    split
    · rename_i x _ _ _ _ _ _ heq
      cases heq
      split
      · rename_i hc
        simp only [Bool.and_eq_true] at hc
        obtain ⟨⟨⟨c1, c2⟩, c3⟩, c4⟩ := hc
        obtain ⟨C, B0, newId, initId, bmB, e1, e2, e3, e4, e5, e6⟩ := (k.exc x c2).ex
        exact (dst_raise (k.calm.trans c1) e1 e2 e3 e4 e5 (k.gl_x c3) (by simpa using c4) e6).mono fun j hj => by cases hj
      · exact dst_stk
    · exact dst_stk
  | Try body hs orelse fin p =>
    show DSt Z X _ (match hs, orelse, fin with
      | [.ExceptHandler (some (.Name x _)) (some n) (b :: suite) _], [], [] => (match c.slot n with
        | some i => if (c.top && c.calm && isLocal c.sc n && isGl c.sc x && !(x == ("__debug__" : Str)) && (c.sub.any fun q => q.1.2 == x)) = true then oTryAs i (tb2 c.sub x) (v.SS c body) (fun _ => v.SS (c.suite n) (b :: suite)) else oStk
        | none => oStk)
      | _, _, _ => oStk) _
    split
    · rename_i x _ n b suite _
      split
      · rename_i i hi
        split
        · rename_i hc
          simp only [Bool.and_eq_true] at hc
          obtain ⟨⟨⟨⟨⟨c1, c0⟩, c2⟩, c3⟩, c4⟩, c5⟩ := hc
          obtain ⟨t1, t2⟩ := k.top c1
          have hz : Z.cur = none := k.cur c0
          obtain ⟨cn0, b0, hb0⟩ := any_key c5
          obtain ⟨cy, hcy, _⟩ := k.sub cn0 x b0 hb0
          refine (dst_tryAs (A' := v.AA (c.suite n) (b :: suite)) (sub := tb2 c.sub x) (g := fun _ => v.SS (c.suite n) (b :: suite)) hz k.nd t1 t2 (by rw [k.N]; exact slot_of hi) (by show X.env.scope.names.lookup n = _; rw [k.sc]; exact local_of c2) ⟨k.gl_x c3, by simpa using c4, .inl hcy⟩
            (fun cn cls b hex hb => by
              obtain ⟨cy', hcy', hk⟩ := k.sub cn x b hb
              rw [hcy] at hcy'
              cases hcy'
              exact hk cls hex)
            (fun pn xe hp => h.SS body (k.tr hz pn xe hp)) (fun a oe cls cn pn he hzc hf => h.SS (b :: suite) (k.suite_ he hzc hf))).mono fun j hj => ?_
          show j ∈ v.AA c body ++ (v.AA (c.suite n) (b :: suite) ++ (c.slot n).toList)
          rw [hi]
          exact hj
        · exact dst_stk
      · exact dst_stk
    · exact dst_stk
  | Pass p => exact dst_pass.mono fun j hj => by cases hj
  | Break p => exact dst_break.mono fun j hj => by cases hj
  | Continue p => exact dst_cont.mono fun j hj => by cases hj
  | _ => exact dst_stk
theorem dss_ev (k : CtxOk Z X c) (h : EVOk v) (sts : List Stmt) : DSs Z X sts (evSS v c sts) (evAA v c sts) := by
  cases sts with
  | nil => exact dss_nil.mono fun j hj => by cases hj
  | cons st r => exact (dss_cons (h.S st k) (h.SS r k)).mono fun j hj => hj
end
theorem ev_ok : ∀ n, EVOk (ev n)
  | 0 => ⟨fun _ _ => de_stk, fun _ _ => dt_stk, fun _ _ => dw_stk, fun _ _ => dst_stk, fun _ _ => dss_stk⟩
  | n + 1 => ⟨fun e k => de_ev k (ev_ok n) e, fun e k => dt_ev k (ev_ok n) e, fun e k => dw_ev k (ev_ok n) e, fun e k => dst_ev k (ev_ok n) e, fun e k => dss_ev k (ev_ok n) e⟩
end TW
/-! TW12: a def by its text. -/
namespace TW
open PySem PySem.Spec L2
def Cont.noRef : Cont → Bool
  | .lst ds => D.noRefs ds
  | .dic kvs => D.noRefK kvs
def S0 (n : Nat) (ds : List D) : DS := ⟨ds.map (fun d => some (.val d)) ++ List.replicate (n - ds.length) none, []⟩
def outR : Out → R
  | .next _ => .val .non
  | .ret (.val (.ref k)) S => (match S.L[k]? with
    | some (.con c false) => if c.noRef = true then .own c else .stk
    | _ => .stk)
  | .ret (.val d) _ => if d.noRef = true then .val d else .stk
  | .ret (.own c) _ => if c.noRef = true then .own c else .stk
  | .exc c _ => .exc c
  | _ => .stk
theorem outR_val {d : D} {S : DS} (h : ∀ k, d ≠ .ref k) : outR (.ret (.val d) S) = if d.noRef = true then .val d else .stk := by
  cases d <;> first | rfl | exact absurd rfl (h _)
def fnRun (n : Nat) (body : DS → Out) (ds : List D) : R := outR (body (S0 n ds))
section
variable {P : Program} {w : World} {K : PySem.W.Frag} {mg : Str → Option Value} {base : Heap} {Z : SX}
/-- a def that stands at f -/
structure DefOk (P : Program) (w : World) (K : PySem.W.Frag) (mg : Str → Option Value) (base : Heap) (k : Nat) (f : Addr) (sp : Sp) (dfl : List D) (Z : SX) : Prop where
  ex : ∃ (fd : FuncData) (ps : List Str), FnOk P w K mg base (L2.CX P w) k f fd ps sp ∧ Binds K fd ps [] ∧ ∀ d, dfl = [d] → ∃ v u, RelV v u ∧ (∀ B ρ, VR Z B ρ v d) ∧ Binds K fd ps [u]
theorem DefOk.mono {j k : Nat} {f : Addr} {sp : Sp} {dfl : List D} (h : j ≤ k) (o : DefOk P w K mg base j f sp dfl Z) : DefOk P w K mg base k f sp dfl Z := by
  obtain ⟨fd, ps, h1, h2, h3⟩ := o.ex
  exact ⟨fd, ps, h1.mono h, h2, h3⟩
/-- what is known of a module's name, ahead of any call -/
def GE.Ok0 (P : Program) (w : World) (K : PySem.W.Frag) (mg : Str → Option Value) (base : Heap) (Z : SX) (k : Nat) (x : Str) : GE → Prop
  | .con d => ∃ v u, mg x = some u ∧ RelV v u ∧ ∀ B ρ, VR Z B ρ v d
  | .fn e => ∃ f, mg x = some (.ref f) ∧ PySem.W.keepIn K (.ref f) = true ∧ DefOk P w K mg base k f (spP Z e.np e.φ) e.dfl Z
  | .fnh e => ∃ f, mg x = some (.ref f) ∧ PySem.W.keepIn K (.ref f) = true ∧ DefOk P w K mg base k f (spH Z e.np e.φ) e.dfl Z
  | .cls e => ∃ C fI, mg x = some (.ref C) ∧ Z.CA x C ∧ Mk K C fI ∧ ∃ j, j + 1 = k ∧ DefOk P w K mg base j fI (spH Z e.np e.φ) [] Z
  | .bas m e => ∃ C mc f, mg x = some (.ref C) ∧ ClX.CRead K C mc ∧ PySem.W.findCls K (.ref C) mc m = some (.val (.ref f)) ∧ PySem.W.keepIn K (.ref f) = true ∧ DefOk P w K mg base k f (spH Z e.np e.φ) [] Z
theorem GE.Ok0.mono {j k : Nat} {x : Str} {g : GE} (h : j ≤ k) (o : g.Ok0 P w K mg base Z j x) : g.Ok0 P w K mg base Z k x := by
  cases g with
  | con d => exact o
  | fn e =>
    obtain ⟨f, h1, h2, h3⟩ := o
    exact ⟨f, h1, h2, h3.mono h⟩
  | fnh e =>
    obtain ⟨f, h1, h2, h3⟩ := o
    exact ⟨f, h1, h2, h3.mono h⟩
  | cls e =>
    obtain ⟨C, fI, h1, h2, h3, i, h4, h5⟩ := o
    exact ⟨C, fI, h1, h2, h3, k - 1, by omega, h5.mono (by omega)⟩
  | bas m e =>
    obtain ⟨C, mc, f, h1, h2, h3, h4, h5⟩ := o
    exact ⟨C, mc, f, h1, h2, h3, h4, h5.mono h⟩
theorem GE.Ok0.at {X : Cx} {k : Nat} {x : Str} {g : GE} (o : g.Ok0 X.prog X.w X.K X.mg X.base Z k x) (r : Room k X.A) : g.Ok X Z x := by
  cases g with
  | con d => exact o
  | fn e =>
    obtain ⟨f, h1, h2, h3⟩ := o
    obtain ⟨fd, ps, h3, h4, h5⟩ := h3.ex
    exact ⟨f, fd, ps, k, h1, h2, h3, r, h4, h5⟩
  | fnh e =>
    obtain ⟨f, h1, h2, h3⟩ := o
    obtain ⟨fd, ps, h3, h4, h5⟩ := h3.ex
    exact ⟨f, fd, ps, k, h1, h2, h3, r, h4, h5⟩
  | cls e =>
    obtain ⟨C, fI, h1, h2, h3, i, h4, h5⟩ := o
    obtain ⟨fd, ps, h6, h7, _⟩ := h5.ex
    exact ⟨C, fI, fd, ps, i, h1, h2, h3, h6, by rw [h4]; exact r, h7⟩
  | bas m e =>
    obtain ⟨C, mc, f, h1, h2, h3, h4, h5⟩ := o
    obtain ⟨fd, ps, h6, h7, _⟩ := h5.ex
    exact ⟨C, mc, f, fd, ps, k, h1, h2, h3, h4, h6, r, h7⟩
structure MethOk0 (P : Program) (w : World) (K : PySem.W.Frag) (mg : Str → Option Value) (base : Heap) (Z : SX) (k : Nat) (cl m : Str) (e : ME) : Prop where
  ex : ∀ C, Z.CA cl C → Cls K C ∧ ∃ f, Meth K C m f ∧ DefOk P w K mg base k f (e.sp Z) e.dfl Z
theorem MethOk0.mono {j k : Nat} {cl m : Str} {e : ME} (h : j ≤ k) (o : MethOk0 P w K mg base Z j cl m e) : MethOk0 P w K mg base Z k cl m e := ⟨fun C hC => by
  obtain ⟨h1, f, h2, h3⟩ := o.ex C hC
  exact ⟨h1, f, h2, h3.mono h⟩⟩
theorem MethOk0.at {X : Cx} {k : Nat} {cl m : Str} {e : ME} (o : MethOk0 X.prog X.w X.K X.mg X.base Z k cl m e) (r : Room k X.A) : MethOk X Z cl m e := ⟨fun C hC => by
  obtain ⟨h1, f, h2, h3⟩ := o.ex C hC
  obtain ⟨fd, ps, h3, h4, h5⟩ := h3.ex
  exact ⟨h1, f, fd, ps, k, h2, h3, r, h4, h5⟩⟩
structure ExcOk0 (K : PySem.W.Frag) (mg : Str → Option Value) (Z : SX) (x : Str) : Prop where
  ex : ∃ (C : Addr) (B0 newId initId : String) (bmB : List Value), ExcBaseFacts B0 newId initId bmB ∧ PySem.W.excIn K C bmB newId = true ∧ mg x = some (.ref C) ∧ PySem.W.keepIn K (.ref C) = true ∧ PySem.W.subIn K (.ref C) (.type "BaseException") = some true ∧
    PySem.W.typeIn K (.ref C) = some (.type "type") ∧ Z.EX x (.ref C)
/-- the module, as far as a def looks at it -/
structure ModOk (P : Program) (w : World) (K : PySem.W.Frag) (mg : Str → Option Value) (base : Heap) (Z : SX) (k : Nat) (m : EC) : Prop where
  ZK : K = Z.K
  cur : Z.cur = none
  gl : ∀ x g, m.gl.lookup x = some g → g.Ok0 P w K mg base Z k x
  no : ∀ x, m.no.contains x = true → mg x = none
  fld : ∀ f, m.flds.contains f = true → ∀ cl C, Z.CA cl C → Cls K C ∧ NoAttr K C f
  exc : ∀ x, m.excs.contains x = true → ExcOk0 K mg Z x
  sub : ∀ cn y b, m.sub.lookup (cn, y) = some b → ∃ cy, mg y = some cy ∧ ∀ cls, Z.EX cn cls → PySem.W.exmOne K cls cy = some b
  kit : ∀ cl T b, m.kit.lookup (cl, T) = some b → ∃ TC, mg T = some (.ref TC) ∧ ∀ C, Z.CA cl C → IsC K C ∧ PySem.W.kitOne K (.ref C) (.ref TC) = some b
  kitE : ∀ cn T b, m.kitE.lookup (cn, T) = some b → (∃ TC, mg T = some (.ref TC) ∧ ∀ D, Z.EX cn (.ref D) → PySem.W.kitOne K (.ref D) (.ref TC) = some b) ∨ (mg T = none ∧ bootBuiltins T = some (.type "ValueError") ∧ T ≠ "__name__" ∧ ∀ D, Z.EX cn (.ref D) → PySem.W.kitOne K (.ref D) (.type "ValueError") = some b)
  ec : ∀ cn cls, Z.EX cn cls → ∃ D, cls = .ref D ∧ ExcC Z.K D
  mt : ∀ cl x e, m.mt.lookup (cl, x) = some e → MethOk0 P w K mg base Z k cl x e
def EC.of (m : EC) (N : List Str) (sc : Scope) (box : List Nat) : EC := { m with N := N, sc := sc, fnB := fun _ => true, box := box, calm := true, top := true, exn := none }
theorem ModOk.ctx {k : Nat} {m : EC} {N ps : List Str} {qual : Str} {scope : Scope} {box : List Nat} (M : ModOk P w K mg base Z k m) (S : FnScope N ps scope) {cdv : Value} {f : Addr} {A : Around} {outer : List Env} {s : Shared} {H : Hp} {E : XK} (hr : Room k (A.deeper (PyProof.Rows.envOfC qual scope s.heap.objs.size f cdv))) :
    CtxOk Z (cxOf (L2.CX P w) P w K mg base N qual scope f cdv A outer s H E) (m.of N scope box) where
  K := M.ZK
  N := rfl
  nd := S.nd
  sc := rfl
  calm := rfl
  fn := fun _ _ => rfl
  hu := hr.units
  pass := passes_of rfl
  gl := fun y g e => (M.gl y g e).at (X := cxOf (L2.CX P w) P w K mg base N qual scope f cdv A outer s H E) hr
  no := M.no
  fld := M.fld
  top := fun _ => ⟨rfl, rfl⟩
  cur := fun _ => M.cur
  exc := fun x e => by
    obtain ⟨C, B0, n1, n2, bm, h1, h2, h3, h4, h5, h6, h7⟩ := (M.exc x e).ex
    exact ⟨C, B0, n1, n2, bm, h1, h2, h3, h4, raises_own h5 h6, h7⟩
  sub := M.sub
  kit := M.kit
  kitE := M.kitE
  suite := ⟨fun cn a e => by rw [M.cur] at e; cases e⟩
  ec := M.ec
  mt := fun cl x e he => (M.mt cl x e he).at (X := cxOf (L2.CX P w) P w K mg base N qual scope f cdv A outer s H E) hr
open Classical in
theorem rel_start {B H : Hp} {N : List Str} {vs : List V} {ds : List D} (hb : Same B H) (hv : VRs Z B [] vs ds) : Rel Z (fun a => if B a = none then H a else none) (S0 N.length ds) (L2.start N vs) H B [] := by
  have hlen := hv.length
  have noOwn : ∀ i c lk, (S0 N.length ds).sl[i]? = some (some (Sl.own c lk)) → False := fun i c lk h => by
    unfold S0 at h
    dsimp only at h
    rw [List.getElem?_append] at h
    split at h
    · rw [List.getElem?_map] at h
      cases hd : ds[i]? with
      | none =>
        rw [hd] at h
        cases h
      | some d =>
        rw [hd] at h
        cases h
    · rw [List.getElem?_replicate] at h
      split at h <;> cases h
  have noExc : ∀ (i : Nat) c, (S0 N.length ds).sl[i]? = some (some (Sl.exc c)) → False := fun i c h => by
    unfold S0 at h
    dsimp only at h
    rw [List.getElem?_append] at h
    split at h
    · rw [List.getElem?_map] at h
      cases hd : ds[i]? with
      | none =>
        rw [hd] at h
        cases h
      | some d =>
        rw [hd] at h
        cases h
    · rw [List.getElem?_replicate] at h
      split at h <;> cases h
  refine ⟨⟨hb, fun a o e => ?_, fun a o e => ?_, rfl, List.nodup_nil, fun a h => (List.not_mem_nil h).elim, fun k a o h => (by simp at h), fun k a o h => (by simp at h)⟩, ?_, fun i d h => ?_, fun i c lk h => (noOwn i c lk h).elim, fun i j a h1 h2 => ?_, fun i c h => (noExc i c h).elim⟩
  · by_cases z : B a = none
    · rw [if_pos z] at e
      exact e
    · rw [if_neg z] at e
      cases e
  · by_cases z : B a = none
    · exact z
    · rw [if_neg z] at e
      cases e
  · unfold S0 L2.start
    simp [hlen]
  · unfold S0 at h
    dsimp only at h
    rw [List.getElem?_append] at h
    split at h
    · rename_i hi
      rw [List.length_map] at hi
      rw [List.getElem?_map, List.getElem?_eq_getElem hi] at h
      cases h
      obtain ⟨v, h1, h2⟩ := hv.get (List.getElem?_eq_getElem hi)
      refine ⟨v, ?_, h2⟩
      unfold L2.start
      rw [List.getElem?_append_left (by rw [List.length_map, hlen]; exact hi), List.getElem?_map, h1]
      rfl
    · rw [List.getElem?_replicate] at h
      split at h <;> cases h
  · obtain ⟨c, lk, q, _⟩ := h1
    exact (noOwn i c lk q).elim
open Classical in
theorem back_of {B H H' B' : Hp} {ρ' : List Addr} {L : List LO} (hb : Same B H) (R : RelH Z (fun a => if B a = none then H a else none) L H' B' ρ') (sb : Same B B') : Same H H' ∧ Same B' H' ∧ ∀ a, H a ≠ none → B' a = B a := by
  refine ⟨fun a o e => ?_, R.bh, fun a ha => ?_⟩
  · cases z : B a with
    | none =>
      refine R.fh a o ?_
      rw [if_pos z]
      exact e
    | some u =>
      have := hb a u z
      rw [e] at this
      cases this
      exact R.bh a o (sb a o z)
  · cases z : B a with
    | none =>
      cases hh : H a with
      | none => exact absurd hh ha
      | some o =>
        refine R.fb a o ?_
        rw [if_pos z]
        exact hh
    | some u => exact sb a u z
theorem CO.noRef {B : Hp} {ρ ρ' : List Addr} {c : Cont} {o : HO} (h : CO Z B ρ c o) (n : c.noRef = true) : CO Z B ρ' c o := by
  cases c with
  | lst ds =>
    obtain ⟨xs, e, h⟩ := h
    exact ⟨xs, e, h.noRef n⟩
  | dic kvs =>
    obtain ⟨xs, e, h⟩ := h
    exact ⟨xs, e, h.noRef n⟩
open Classical in
/-- THE RULE for a def -/
theorem fn_ok {x qual : Str} {params : Arguments} {sts : List Stmt} {scope : Scope} {dvs : List V} {kws : List (Str × V)} {f : Addr} {fd : FuncData} {N ps : List Str} {k : Nat} {m : EC} {box : List Nat} (F : FunD K x qual params sts scope dvs kws f fd) (S : FnScope N ps scope) (M : ModOk P w K mg base Z k m) {n : Nat} {body : DS → Out}
    (hbody : (ev n).SS (m.of N scope box) sts = body) : FnOk P w K mg base (L2.CX P w) (k + 1) f fd ps (spP Z ps.length (fnRun N.length body)) := by
  refine F.ok S (fun vs H Q E h => h.1) fun cdv A outer s H vs Q E hr h => ?_
  obtain ⟨hl, B, ds, hb, hv, hq⟩ := h
  have hctx := M.ctx S (qual := qual) (box := box) (cdv := cdv) (f := f) (outer := outer) (H := H) (E := E) hr
  have key := (ev_ok n).SS sts hctx
  rw [hbody] at key
  refine ⟨_, key.run _ (takes_of rfl rfl rfl rfl), ?_⟩
  refine ⟨_, S0 N.length ds, B, [], rel_start hb hv, ?_⟩
  unfold fnRun at hq
  cases ho : body (S0 N.length ds) with
  | next S' =>
    rw [ho] at hq
    intro σ' H' B' ρ' R' sb ex kp
    obtain ⟨q1, q2, q3⟩ := back_of hb R'.toRelH sb
    exact hq .non H' B' q1 q2 sb q3 .non
  | ret r S' =>
    rw [ho] at hq
    intro v H' B' ρ' R' sb ex rv
    obtain ⟨q1, q2, q3⟩ := back_of hb R' sb
    cases r with
    | val d =>
      cases d with
      | ref k =>
        have hq : Back Z H B (match S'.L[k]? with
          | some (.con c false) => if c.noRef = true then .own c else .stk
          | _ => .stk) Q E := hq
        split at hq
        · rename_i c hL
          split at hq
          · rename_i hn
            have rv : VR Z B' ρ' v (.ref k) := rv
            cases rv with
            | ref hρ =>
              rename_i a
              obtain ⟨o, c1, c2⟩ := R'.hp k a _ hρ hL
              have n1 : B' a = none := R'.rb a (List.mem_of_getElem? hρ)
              have n2 : FA (fun a => if B a = none then H a else none) a c false := R'.rf k a _ hρ hL
              have n2 := n2.free
              refine hq a H' B' q1 q2 sb q3 ⟨o, c1.noRef hn, c2⟩ ?_ n1
              have nb : B a = none := by
                cases z : B a with
                | none => rfl
                | some u =>
                  rw [sb a u z] at n1
                  cases n1
              rw [if_pos nb] at n2
              exact n2
          · exact hq.elim
        · exact hq.elim
      | _ =>
        rw [outR_val (fun k z => by cases z)] at hq
        split at hq
        · rename_i hn
          exact hq v H' B' q1 q2 sb q3 (VR.noRef rv hn)
        · exact hq.elim
    | own c =>
      change Back Z H B (if c.noRef = true then _ else _) Q E at hq
      by_cases hn : c.noRef = true
      · rw [if_pos hn] at hq
        obtain ⟨a, rfl, ⟨o, c1, c2⟩, n1, n2, n3⟩ := rv
        refine hq a H' B' q1 q2 sb q3 ⟨o, c1.noRef hn, c2⟩ ?_ n1
        have nb : B a = none := by
          cases z : B a with
          | none => rfl
          | some u =>
            rw [sb a u z] at n1
            cases n1
        dsimp only at n2
        rw [if_pos nb] at n2
        exact n2
      · rw [if_neg hn] at hq
        exact hq.elim
    | plc i => exact rv.elim
  | exc c S' =>
    rw [ho] at hq
    intro cls σ' H' B' ρ' R' sb ex kp he
    obtain ⟨q1, q2, q3⟩ := back_of hb R'.toRelH sb
    exact hq cls H' q1 he
  | brk S' =>
    rw [ho] at hq
    exact hq.elim
  | cont S' =>
    rw [ho] at hq
    exact hq.elim
  | stk =>
    rw [ho] at hq
    exact hq.elim
theorem relH_start {N : List Str} {vs : List V} {ds : List D} {F B H : Hp} {ρ : List Addr} {L : List LO} (R : RelH Z F L H B ρ) (hv : VRs Z B ρ vs ds) : Rel Z F (SL N.length L ds) (L2.start N vs) H B ρ := by
  have hlen := hv.length
  have sl : ∀ (i : Nat) s, (SL N.length L ds).sl[i]? = some (some s) → ∃ d, ds[i]? = some d ∧ s = .val d := fun i s h => by
    unfold SL at h
    dsimp only at h
    rw [List.getElem?_append] at h
    split at h
    · rw [List.getElem?_map] at h
      cases hd : ds[i]? with
      | none =>
        rw [hd] at h
        cases h
      | some d =>
        rw [hd] at h
        cases h
        exact ⟨d, rfl, rfl⟩
    · rw [List.getElem?_replicate] at h
      split at h <;> cases h
  refine ⟨R, ?_, fun i d h => ?_, fun i c lk h => ?_, fun i j a h1 h2 => ?_, fun i c h => ?_⟩
  · unfold SL L2.start
    simp [hlen]
  · obtain ⟨d', h1, h2⟩ := sl i _ h
    cases h2
    obtain ⟨v, h3, h4⟩ := hv.get h1
    refine ⟨v, ?_, h4⟩
    unfold L2.start
    have hi := (List.getElem?_eq_some_iff.mp h3).1
    rw [List.getElem?_append_left (by rw [List.length_map]; exact hi), List.getElem?_map, h3]
    rfl
  · obtain ⟨_, _, h2⟩ := sl i _ h
    cases h2
  · obtain ⟨c, lk, q, _⟩ := h1
    obtain ⟨_, _, h2⟩ := sl i _ q
    cases h2
  · obtain ⟨_, _, h2⟩ := sl i _ h
    cases h2
/-- .. in the logical heap -/
theorem fn_okH {x qual : Str} {params : Arguments} {sts : List Stmt} {scope : Scope} {dvs : List V} {kws : List (Str × V)} {f : Addr} {fd : FuncData} {N ps : List Str} {k : Nat} {m : EC} {box : List Nat} (F : FunD K x qual params sts scope dvs kws f fd) (S : FnScope N ps scope) (M : ModOk P w K mg base Z k m) {n : Nat} {body : DS → Out}
    (hbody : (ev n).SS (m.of N scope box) sts = body) : FnOk P w K mg base (L2.CX P w) (k + 1) f fd ps (spH Z ps.length (fnRunH N.length body)) := by
  refine F.ok S (fun vs H Q E h => h.1) fun cdv A outer s H vs Q E hr h => ?_
  obtain ⟨hl, F, B, ρ, L, ds, R, hv, hq⟩ := h
  have hctx := M.ctx S (qual := qual) (box := box) (cdv := cdv) (f := f) (outer := outer) (H := H) (E := E) hr
  have key := (ev_ok n).SS sts hctx
  rw [hbody] at key
  refine ⟨_, key.run _ (takes_of rfl rfl rfl rfl), ?_⟩
  refine ⟨F, SL N.length L ds, B, ρ, relH_start R hv, ?_⟩
  unfold fnRunH at hq
  cases ho : body (SL N.length L ds) with
  | next S' =>
    rw [ho] at hq
    exact fun σ' H' B' ρ' R' sb ex kp => hq .non H' B' ρ' R'.toRelH sb ex .non
  | ret r S' =>
    rw [ho] at hq
    intro v H' B' ρ' R' sb ex rv
    cases r with
    | val d => exact hq v H' B' ρ' R' sb ex rv
    | own c => exact hq v H' B' ρ' R' sb ex rv
    | plc i => exact rv.elim
  | exc c S' =>
    rw [ho] at hq
    exact fun cls σ' H' B' ρ' R' sb ex kp he => hq cls H' B' ρ' R'.toRelH sb ex he
  | brk S' =>
    rw [ho] at hq
    exact hq.elim
  | cont S' =>
    rw [ho] at hq
    exact hq.elim
  | stk =>
    rw [ho] at hq
    exact hq.elim
/-- how its arguments bind -/
abbrev BindD (x qual : Str) (params : Arguments) (sts : List Stmt) (scope : Scope) (ps : List Str) : Prop :=
  ∀ (kV doc pm : Value) (an : Option Addr) (cdv ct : Value) (us : List Value), us.length = ps.length → bindArgs (PySem.W.fnOf x qual params sts scope .none kV doc pm an cdv ct) ⟨us, []⟩ = pure (ps.zip us)
theorem DefOk.mk0 {x qual : Str} {params : Arguments} {sts : List Stmt} {scope : Scope} {N ps : List Str} {k : Nat} {m : EC} {box : List Nat} {f : Addr} (M : ModOk P w K mg base Z k m) (F : ∃ fd, FunD K x qual params sts scope [] [] f fd) (S : FnScope N ps scope) (hb : BindD x qual params sts scope ps) {n : Nat} {body : DS → Out}
    (hbody : (ev n).SS (m.of N scope box) sts = body) {φ : List D → R} (hφ : fnRun N.length body = φ) : DefOk P w K mg base (k + 1) f (spP Z ps.length φ) [] Z := by
  obtain ⟨fd, F⟩ := F
  exact ⟨fd, ps, hφ ▸ fn_ok F S M hbody, FunD.bindsN F hb, fun d e => by cases e⟩
theorem DefOk.mkH {x qual : Str} {params : Arguments} {sts : List Stmt} {scope : Scope} {N ps : List Str} {k : Nat} {m : EC} {box : List Nat} {f : Addr} (M : ModOk P w K mg base Z k m) (F : ∃ fd, FunD K x qual params sts scope [] [] f fd) (S : FnScope N ps scope) (hb : BindD x qual params sts scope ps) {n : Nat} {body : DS → Out}
    (hbody : (ev n).SS (m.of N scope box) sts = body) {φ : List LO → List D → RH} (hφ : fnRunH N.length body = φ) : DefOk P w K mg base (k + 1) f (spH Z ps.length φ) [] Z := by
  obtain ⟨fd, F⟩ := F
  exact ⟨fd, ps, hφ ▸ fn_okH F S M hbody, FunD.bindsN F hb, fun d e => by cases e⟩
/-- a module with one name more -/
theorem ModOk.add {k : Nat} {m : EC} {x : Str} {g : GE} (M : ModOk P w K mg base Z k m) (o : g.Ok0 P w K mg base Z (k + 1) x) : ModOk P w K mg base Z (k + 1) { m with gl := (x, g) :: m.gl } := by
  refine ⟨M.ZK, M.cur, fun y g' e => ?_, M.no, M.fld, M.exc, M.sub, M.kit, M.kitE, M.ec, fun cl y e he => (M.mt cl y e he).mono (Nat.le_succ k)⟩
  have e : List.lookup y ((x, g) :: m.gl) = some g' := e
  rw [List.lookup_cons] at e
  split at e
  · rename_i hxy
    cases e
    cases eq_of_beq hxy
    exact o
  · exact (M.gl y g' e).mono (Nat.le_succ k)
/-- .. one method more -/
theorem ModOk.addM {k : Nat} {m : EC} {cl x : Str} {g : ME} (M : ModOk P w K mg base Z k m) (o : MethOk0 P w K mg base Z (k + 1) cl x g) : ModOk P w K mg base Z (k + 1) { m with mt := ((cl, x), g) :: m.mt } := by
  refine ⟨M.ZK, M.cur, fun y g' e => (M.gl y g' e).mono (Nat.le_succ k), M.no, M.fld, M.exc, M.sub, M.kit, M.kitE, M.ec, fun cl' y g' e => ?_⟩
  have e : List.lookup (cl', y) (((cl, x), g) :: m.mt) = some g' := e
  rw [List.lookup_cons] at e
  split at e
  · rename_i hxy
    cases e
    cases eq_of_beq hxy
    exact o
  · exact (M.mt cl' y g' e).mono (Nat.le_succ k)
/-- the law's own def, at its call -/
theorem law_sp {φ : List D → R} {a : Addr} {ns : List Int} {H : Hp} (hS : SqL Z.K H a (ns.map V.int)) (h : φ [.scr (ns.map D.int)] = .val (.bl true)) : spP Z 1 φ [.ref a] H (fun v _ => v = .bl true) fun _ _ _ => False := by
  refine ⟨rfl, H, [.scr (ns.map D.int)], fun _ _ z => z, .cons (.scr hS (VRs.of_ints ns)) .nil, ?_⟩
  rw [h]
  intro v H' B' _ _ _ _ hv
  cases hv
  rfl
end
end TW
/-! TW13: from the head's facts to the module; the law's end. -/
namespace TW
open PySem PySem.Spec L2

/-! ### the Hook: the head's facts, and some more by one Bool -/
def obsZ (fa : List He.Fa) (fn : List He.DefD) (ex : PySem.W.Frag → Bool) (K : PySem.W.Frag) : He.AlD := (((fa.all fun f => f.ok K) && fn.all fun d => d.ok K) && ex K, fn.map fun d => He.fnW K d.at_)
def SaysZ (fa : List He.Fa) (fn : List He.DefD) (ex : PySem.W.Frag → Bool) (K : PySem.W.Frag) : Prop := obsZ fa fn ex K = He.valD fn
def obsZG (n : Nat) (fa : List He.Fa) (fn : List He.DefD) (ex : PySem.W.Frag → Bool) (g : Addr → Option Obj) : He.AlD := obsZ fa fn ex (He.frG g (He.asD g n ++ [cStatics]))
def hookZ (n : Nat) (fa : List He.Fa) (fn : List He.DefD) (ex : PySem.W.Frag → Bool) : PySem.W.Hook where
  α := He.AlD
  obs := fun s => obsZG n fa fn ex s.heap.get?
  val := fun _ => He.valD fn
  says := fun _ h => ∃ K : PySem.W.Frag, K.In h ∧ SaysZ fa fn ex K
  of := fun _ _ e => ⟨_, He.frG_in, e⟩
  keeps := fun _ _ _ ⟨K, hK, c⟩ k => ⟨K, PySem.W.Frag.In.keeps hK k, c⟩
theorem obsZG_eq {n : Nat} {fa : List He.Fa} {fn : List He.DefD} {ex : PySem.W.Frag → Bool} {g : Addr → Option Obj} {s : Shared} (h : ∀ a, g a = s.heap.get? a) : obsZG n fa fn ex g = (hookZ n fa fn ex).obs s := by
  have e : g = s.heap.get? := funext h
  rw [e] <;> rfl
section
variable {fa : List He.Fa} {fn : List He.DefD} {ex : PySem.W.Frag → Bool} {K : PySem.W.Frag} {h : Heap} {mg : Str → Option Value}
theorem SaysZ.parts (c : SaysZ fa fn ex K) : He.SaysD fa fn K ∧ ex K = true := by
  have c1 : (((fa.all fun f => f.ok K) && fn.all fun d => d.ok K) && ex K) = true := congrArg (fun z : He.AlD => z.1) c
  have c2 : fn.map (fun d => He.fnW K d.at_) = fn.map He.DefD.val := congrArg (fun z : He.AlD => z.2) c
  obtain ⟨c3, c4⟩ := He.ba c1
  refine ⟨?_, c4⟩
  show ((fa.all fun f => f.ok K) && fn.all fun d => d.ok K, fn.map fun d => He.fnW K d.at_) = (true, fn.map He.DefD.val)
  rw [c3, c2]
theorem SaysZ.fact (c : SaysZ fa fn ex K) {f : He.Fa} (m : f ∈ fa) : f.ok K = true := by
  have c1 := (He.ba (show ((fa.all fun f => f.ok K) && fn.all fun d => d.ok K) = true from congrArg (fun z : He.AlD => z.1) c.parts.1)).1
  exact List.all_eq_true.mp c1 f m
theorem SaysZ.def_ (c : SaysZ fa fn ex K) {d : He.DefD} (m : d ∈ fn) : ∃ fd, FunD K d.name d.qual d.params d.body d.scope (d.dvs K) (d.kws K) (He.fAd K d.at_) fd := by
  obtain ⟨i, hi⟩ := List.getElem?_of_mem m
  exact c.parts.1.def_ i hi
end
/-! ### what a law's text holds -/
structure Facts where
  glos : List Str
  nos : List Str
  cints : List (Str × Int) := []
  cstrs : List (Str × Str) := []
  cls : List Str := []
  flds : List Str := []
  boxf : List Str := []
  excs : List Str := []
  meths : List (Str × Str) := []
  mks : List Str := []
  sub : List ((Str × Str) × Bool) := []
  kit : List ((Str × Str) × Bool) := []
  kitE : List ((Str × Str) × Bool) := []
  bas : List (Str × Str) := []
def basB (K : PySem.W.Frag) (C : Addr) (m : Str) (f : Addr) : Bool := PySem.W.readsIn K C (.type "type") && (decide (PySem.W.specialIn K (.ref C) "__getattribute__" = some (some (.builtin "type.__getattribute__"))) && (match PySem.W.findCls K (.ref C) (.type "type") m with
  | some (.val u) => decide (u = .ref f)
  | _ => false))
theorem basB_ok {K : PySem.W.Frag} {C f : Addr} {m : Str} (h : basB K C m f = true) : ClX.CRead K C (.type "type") ∧ PySem.W.findCls K (.ref C) (.type "type") m = some (.val (.ref f)) := by
  unfold basB at h
  rw [Bool.and_eq_true, Bool.and_eq_true] at h
  obtain ⟨h1, h2, h3⟩ := h
  refine ⟨⟨h1, of_decide_eq_true h2⟩, ?_⟩
  split at h3
  · rename_i u hu
    rw [hu, of_decide_eq_true h3]
  · cases h3
def excCB (K : PySem.W.Frag) (D : Addr) : Bool := decide (PySem.W.findIn K (.ref D) "__getattribute__" = some (some (.builtin "BaseException.__getattribute__"))) && (decide (PySem.W.findIn K (.ref D) "__getattr__" = some none) && (decide (PySem.W.subIn K (.ref D) (.type "BaseException") = some true) &&
  (PySem.W.hasDictIn K D && (decide (PySem.W.findIn K (.ref D) "__class__" = some (some (.builtin "object.__class__"))) && (decide (PySem.W.specialIn K (.builtin "object.__class__") "__get__" = some (some (.builtin "getset_descriptor.__get__"))) && (decide (PySem.W.takesIn K (.builtin "object.__class__") = some true) && decide (PySem.W.mroIn K D (.type "object") = some true)))))))
theorem excCB_ok {K : PySem.W.Frag} {D : Addr} (h : excCB K D = true) : ExcC K D := by
  unfold excCB at h
  simp only [Bool.and_eq_true, decide_eq_true_eq] at h
  obtain ⟨h1, h2, h3, h4, h5, h6, h7, h8⟩ := h
  exact ⟨h1, h2, h3, h4, h5, h6, h7, h8⟩
def isCB (K : PySem.W.Frag) (C : Addr) : Bool := decide (PySem.W.findIn K (.ref C) "__class__" = some (some (.builtin "object.__class__"))) && (decide (PySem.W.specialIn K (.builtin "object.__class__") "__get__" = some (some (.builtin "getset_descriptor.__get__"))) && (decide (PySem.W.takesIn K (.builtin "object.__class__") = some true) && decide (PySem.W.mroIn K C (.type "object") = some true)))
theorem isCB_ok {K : PySem.W.Frag} {C : Addr} (hc : Cls K C) (h : isCB K C = true) : IsC K C := by
  unfold isCB at h
  simp only [Bool.and_eq_true, decide_eq_true_eq] at h
  obtain ⟨h1, h2, h3, h4⟩ := h
  exact ⟨hc, h1, h2, h3, h4⟩
namespace Facts
variable (q : Facts)
def fa : List He.Fa := q.glos.map He.Fa.glo ++ (q.nos.map He.Fa.free ++ (q.cints.map (fun p => He.Fa.int p.1 p.2) ++ (q.cstrs.map (fun p => He.Fa.str p.1 p.2) ++ (q.cls.map He.Fa.cls ++ (q.cls.flatMap (fun c => q.flds.map (He.Fa.noat c)) ++ (q.meths.map (fun p => He.Fa.meth p.1 p.2) ++ (q.mks.map He.Fa.mkr ++ (q.excs.map He.Fa.exc ++ q.sub.map fun p => He.Fa.exm p.1.1 p.1.2 p.2))))))))
def ex (K : PySem.W.Frag) : Bool := (q.excs.all fun x => excCB K (He.ga K x)) && ((q.bas.all fun p => basB K (He.ga K p.1) p.2 (He.fAd K (p.1, some p.2))) && ((q.kit.all fun p => isCB K (He.ga K p.1.1) && decide (PySem.W.kitOne K (.ref (He.ga K p.1.1)) (.ref (He.ga K p.1.2)) = some p.2)) &&
  q.kitE.all fun p => if p.1.2 = "ValueError" then decide (PySem.W.kitOne K (.ref (He.ga K p.1.1)) (.type "ValueError") = some p.2) else decide (PySem.W.kitOne K (.ref (He.ga K p.1.1)) (.ref (He.ga K p.1.2)) = some p.2)))
def cons : List (Str × GE) := q.cints.map (fun p => (p.1, GE.con (.int p.2))) ++ q.cstrs.map (fun p => (p.1, GE.con (.str p.2)))
def m0 : EC := { N := [], sc := ⟨.function, [], false, false, []⟩, fnB := fun _ => true, gl := q.cons, no := q.nos, flds := q.flds, excs := q.excs, sub := q.sub, kit := q.kit, kitE := q.kitE, boxf := q.boxf }
/-- well written -/
def wf : Bool := (q.cls.all fun x => q.glos.contains x) && ((q.excs.all fun x => q.glos.contains x) && ((q.sub.all fun p => q.excs.contains p.1.2) && ((q.kit.all fun p => q.cls.contains p.1.1 && q.cls.contains p.1.2) && (q.kitE.all fun p => if p.1.2 = "ValueError" then q.nos.contains p.1.2 else q.excs.contains p.1.2))))
def zx (K : PySem.W.Frag) : SX := { K := K, CA := fun c a => c ∈ q.cls ∧ a = He.ga K c, EX := fun c v => c ∈ q.excs ∧ v = .ref (He.ga K c), CL := fun _ _ _ => False, EO := fun _ _ => False }
end Facts
theorem lookup_mem' {α β : Type} [BEq α] [LawfulBEq α] {a : α} {b : β} : ∀ {l : List (α × β)}, l.lookup a = some b → (a, b) ∈ l
  | [], h => by cases h
  | (x, y) :: l, h => by
    rw [List.lookup_cons] at h
    split at h
    · rename_i e
      cases h
      cases eq_of_beq e
      exact List.mem_cons_self
    · exact List.mem_cons_of_mem _ (lookup_mem' h)
section
variable {P : Program} {w : World} {K : PySem.W.Frag} {mg : Str → Option Value} {base : Heap} {h : Heap} {fn : List He.DefD} (q : Facts)
theorem Facts.glo (c : SaysZ q.fa fn q.ex K) (X : K.In h) (G : h.Ns mainGlobals mg) {x : Str} (m : q.glos.contains x = true) : mg x = some (.ref (He.ga K x)) :=
  He.glo_ok X G (c.fact (List.mem_append_left _ (List.mem_map.mpr ⟨x, List.contains_iff_mem.mp m, rfl⟩)))
theorem Facts.m0_ok (c : SaysZ q.fa fn q.ex K) (X : K.In h) (G : h.Ns mainGlobals mg) (wf : q.wf = true) : ModOk P w K mg base (q.zx K) 0 q.m0 := by
  unfold Facts.wf at wf
  simp only [Bool.and_eq_true] at wf
  obtain ⟨w1, w2, w3, w4, w5⟩ := wf
  have hex := c.parts.2
  unfold Facts.ex at hex
  simp only [Bool.and_eq_true] at hex
  obtain ⟨x1, _, x2, x3⟩ := hex
  have gcls : ∀ x, x ∈ q.cls → mg x = some (.ref (He.ga K x)) := fun x hx => q.glo c X G (List.all_eq_true.mp w1 x hx)
  have gexc : ∀ x, x ∈ q.excs → mg x = some (.ref (He.ga K x)) := fun x hx => q.glo c X G (List.all_eq_true.mp w2 x hx)
  have clsOk : ∀ x, x ∈ q.cls → Cls K (He.ga K x) := fun x hx => He.cls_ok (c.fact (by
    unfold Facts.fa
    simp only [List.mem_append, List.mem_map]
    exact .inr (.inr (.inr (.inr (.inl ⟨x, hx, rfl⟩))))))
  refine ⟨rfl, rfl, fun x g e => ?_, fun x e => ?_, fun f e cl C hC => ?_, fun x e => ?_, fun cn y b e => ?_, fun cl T b e => ?_, fun cn T b e => ?_, fun cn cls hc => ?_, fun cl x e he => by cases he⟩
  · have hm := lookup_mem' e
    rcases List.mem_append.mp hm with hm | hm
    · obtain ⟨p, hp, e2⟩ := List.mem_map.mp hm
      cases e2
      obtain ⟨t, ht⟩ := He.int_ok X G (c.fact (f := .int p.1 p.2) (by
        unfold Facts.fa
        simp only [List.mem_append, List.mem_map]
        exact .inr (.inr (.inl ⟨p, hp, rfl⟩))))
      exact ⟨.int p.2, _, ht, ⟨t, rfl⟩, fun _ _ => .int _⟩
    · obtain ⟨p, hp, e2⟩ := List.mem_map.mp hm
      cases e2
      obtain ⟨t, ht⟩ := He.str_ok X G (c.fact (f := .str p.1 p.2) (by
        unfold Facts.fa
        simp only [List.mem_append, List.mem_map]
        exact .inr (.inr (.inr (.inl ⟨p, hp, rfl⟩)))))
      exact ⟨.str p.2, _, ht, ⟨t, rfl⟩, fun _ _ => .str _⟩
  · exact He.free_ok X G (c.fact (by
      unfold Facts.fa
      simp only [List.mem_append, List.mem_map]
      exact .inr (.inl ⟨x, List.contains_iff_mem.mp e, rfl⟩)))
  · obtain ⟨h1, rfl⟩ := hC
    refine ⟨clsOk cl h1, He.noat_ok (c.fact (by
      unfold Facts.fa
      simp only [List.mem_append, List.mem_map, List.mem_flatMap]
      exact .inr (.inr (.inr (.inr (.inr (.inl ⟨cl, h1, f, List.contains_iff_mem.mp e, rfl⟩)))))))⟩
  · have hx : x ∈ q.excs := List.contains_iff_mem.mp e
    obtain ⟨e1, e2, e3, e4⟩ := He.exc_ok (c.fact (f := .exc x) (by
      unfold Facts.fa
      simp only [List.mem_append, List.mem_map]
      exact .inr (.inr (.inr (.inr (.inr (.inr (.inr (.inr (.inl ⟨x, hx, rfl⟩))))))))))
    exact ⟨He.ga K x, _, _, _, _, PySem.F.excBase_ValueError, e1, gexc x hx, e2, e3, e4, hx, rfl⟩
  · have hm := lookup_mem' e
    have hy := List.all_eq_true.mp w3 _ hm
    refine ⟨_, gexc y (List.contains_iff_mem.mp hy), fun cls hc => ?_⟩
    obtain ⟨_, rfl⟩ := hc
    exact He.exm_ok (c.fact (f := .exm cn y b) (by
      unfold Facts.fa
      simp only [List.mem_append, List.mem_map]
      exact .inr (.inr (.inr (.inr (.inr (.inr (.inr (.inr (.inr ⟨((cn, y), b), hm, rfl⟩))))))))))
  · have hm := lookup_mem' e
    have hw := List.all_eq_true.mp w4 _ hm
    simp only [Bool.and_eq_true] at hw
    have hk := List.all_eq_true.mp x2 _ hm
    simp only [Bool.and_eq_true, decide_eq_true_eq] at hk
    refine ⟨_, gcls T (List.contains_iff_mem.mp hw.2), fun C hC => ?_⟩
    obtain ⟨h1, rfl⟩ := hC
    exact ⟨isCB_ok (clsOk cl h1) hk.1, hk.2⟩
  · have hm := lookup_mem' e
    have hw := List.all_eq_true.mp w5 _ hm
    have hk := List.all_eq_true.mp x3 _ hm
    by_cases hT : T = "ValueError"
    · subst hT
      rw [if_pos rfl] at hw hk
      refine .inr ⟨He.free_ok X G (c.fact (by
        unfold Facts.fa
        simp only [List.mem_append, List.mem_map]
        exact .inr (.inl ⟨_, List.contains_iff_mem.mp hw, rfl⟩))), by decide +kernel, by decide +kernel, fun D hD => ?_⟩
      obtain ⟨_, hD⟩ := hD
      cases hD
      exact of_decide_eq_true hk
    · have hw : q.excs.contains T = true := by
        have := hw
        rw [if_neg hT] at this
        exact this
      have hk : decide (PySem.W.kitOne K (.ref (He.ga K cn)) (.ref (He.ga K T)) = some b) = true := by
        have := hk
        rw [if_neg hT] at this
        exact this
      refine .inl ⟨_, gexc T (List.contains_iff_mem.mp hw), fun D hD => ?_⟩
      obtain ⟨_, hD⟩ := hD
      cases hD
      exact of_decide_eq_true hk
  · obtain ⟨h1, rfl⟩ := hc
    exact ⟨_, rfl, excCB_ok (List.all_eq_true.mp x1 cn h1)⟩
/-- a def of the module -/
theorem Facts.defP {k : Nat} {m : EC} (c : SaysZ q.fa fn q.ex K) (X : K.In h) (G : h.Ns mainGlobals mg) (M : ModOk P w K mg base (q.zx K) k m) {d : He.DefD} {x : Str} {N ps : List Str} {box : List Nat} (hd : d ∈ fn) (ha : d.at_ = (x, none)) (hx : q.glos.contains x = true) (h0 : d.dfl = []) (h1 : d.kwd = []) (S : FnScope N ps d.scope)
    (hb : BindD d.name d.qual d.params d.body d.scope ps) {n : Nat} {body : DS → Out} (hbody : (ev n).SS (m.of N d.scope box) d.body = body) {φ : List D → R} (hφ : fnRun N.length body = φ) : ModOk P w K mg base (q.zx K) (k + 1) { m with gl := (x, .fn ⟨φ, ps.length, []⟩) :: m.gl } := by
  obtain ⟨fd, F⟩ := c.def_ hd
  unfold He.DefD.dvs He.DefD.kws at F
  rw [h0, h1, ha] at F
  exact M.add ⟨He.ga K x, q.glo c X G hx, F.kp, .mk0 M ⟨fd, F⟩ S hb hbody hφ⟩
theorem Facts.defH {k : Nat} {m : EC} (c : SaysZ q.fa fn q.ex K) (X : K.In h) (G : h.Ns mainGlobals mg) (M : ModOk P w K mg base (q.zx K) k m) {d : He.DefD} {x : Str} {N ps : List Str} {box : List Nat} (hd : d ∈ fn) (ha : d.at_ = (x, none)) (hx : q.glos.contains x = true) (h0 : d.dfl = []) (h1 : d.kwd = []) (S : FnScope N ps d.scope)
    (hb : BindD d.name d.qual d.params d.body d.scope ps) {n : Nat} {body : DS → Out} (hbody : (ev n).SS (m.of N d.scope box) d.body = body) {φ : List LO → List D → RH} (hφ : fnRunH N.length body = φ) : ModOk P w K mg base (q.zx K) (k + 1) { m with gl := (x, .fnh ⟨φ, ps.length, []⟩) :: m.gl } := by
  obtain ⟨fd, F⟩ := c.def_ hd
  unfold He.DefD.dvs He.DefD.kws at F
  rw [h0, h1, ha] at F
  exact M.add ⟨He.ga K x, q.glo c X G hx, F.kp, .mkH M ⟨fd, F⟩ S hb hbody hφ⟩
/-- a method: the def stands in the class c0, the class cl finds it -/
theorem Facts.methP {k : Nat} {m : EC} (c : SaysZ q.fa fn q.ex K) (M : ModOk P w K mg base (q.zx K) k m) {d : He.DefD} {cl x : Str} {N ps : List Str} {box : List Nat} (hd : d ∈ fn) (ha : d.at_ = (cl, some x)) (hc : q.cls.contains cl = true) (hm : (cl, x) ∈ q.meths) (h0 : d.dfl = []) (h1 : d.kwd = []) (S : FnScope N ps d.scope)
    (hb : BindD d.name d.qual d.params d.body d.scope ps) {n : Nat} {body : DS → Out} (hbody : (ev n).SS (m.of N d.scope box) d.body = body) {φ : List D → R} (hφ : fnRun N.length body = φ) : ModOk P w K mg base (q.zx K) (k + 1) { m with mt := ((cl, x), .pure φ ps.length []) :: m.mt } := by
  obtain ⟨fd, F⟩ := c.def_ hd
  unfold He.DefD.dvs He.DefD.kws at F
  rw [h0, h1, ha] at F
  refine M.addM ⟨fun C hC => ?_⟩
  obtain ⟨e1, rfl⟩ := hC
  refine ⟨He.cls_ok (c.fact (by
    unfold Facts.fa
    simp only [List.mem_append, List.mem_map]
    exact .inr (.inr (.inr (.inr (.inl ⟨cl, e1, rfl⟩)))))), _, He.meth_ok (c.fact (by
    unfold Facts.fa
    simp only [List.mem_append, List.mem_map]
    exact .inr (.inr (.inr (.inr (.inr (.inr (.inl ⟨(cl, x), hm, rfl⟩)))))))), .mk0 M ⟨fd, F⟩ S hb hbody hφ⟩
theorem Facts.methH {k : Nat} {m : EC} (c : SaysZ q.fa fn q.ex K) (M : ModOk P w K mg base (q.zx K) k m) {d : He.DefD} {cl x : Str} {N ps : List Str} {box : List Nat} (hd : d ∈ fn) (ha : d.at_ = (cl, some x)) (hc : q.cls.contains cl = true) (hm : (cl, x) ∈ q.meths) (h0 : d.dfl = []) (h1 : d.kwd = []) (S : FnScope N ps d.scope)
    (hb : BindD d.name d.qual d.params d.body d.scope ps) {n : Nat} {body : DS → Out} (hbody : (ev n).SS (m.of N d.scope box) d.body = body) {φ : List LO → List D → RH} (hφ : fnRunH N.length body = φ) : ModOk P w K mg base (q.zx K) (k + 1) { m with mt := ((cl, x), .heap φ ps.length []) :: m.mt } := by
  obtain ⟨fd, F⟩ := c.def_ hd
  unfold He.DefD.dvs He.DefD.kws at F
  rw [h0, h1, ha] at F
  refine M.addM ⟨fun C hC => ?_⟩
  obtain ⟨e1, rfl⟩ := hC
  refine ⟨He.cls_ok (c.fact (by
    unfold Facts.fa
    simp only [List.mem_append, List.mem_map]
    exact .inr (.inr (.inr (.inr (.inl ⟨cl, e1, rfl⟩)))))), _, He.meth_ok (c.fact (by
    unfold Facts.fa
    simp only [List.mem_append, List.mem_map]
    exact .inr (.inr (.inr (.inr (.inr (.inr (.inl ⟨(cl, x), hm, rfl⟩)))))))), .mkH M ⟨fd, F⟩ S hb hbody hφ⟩
theorem Facts.methP0 {k : Nat} {m : EC} (c : SaysZ q.fa fn q.ex K) (M : ModOk P w K mg base (q.zx K) k m) {d : He.DefD} {cl x : Str} {N ps : List Str} {box : List Nat} (hd : d ∈ fn) (ha : d.at_ = (cl, some x)) (hc : q.cls.contains cl = true) (hm : q.meths.contains (cl, x) = true) (h0 : d.dfl = []) (h1 : d.kwd = []) (S : FnScope N ps d.scope)
    (hb : BindD d.name d.qual d.params d.body d.scope ps) {n : Nat} {body : DS → Out} (hbody : (ev n).SS (m.of N d.scope box) d.body = body) {φ : List D → R} (hφ : fnRun N.length body = φ) : MethOk0 P w K mg base (q.zx K) (k + 1) cl x (.pure φ ps.length []) := by
  have hm := List.contains_iff_mem.mp hm
  obtain ⟨fd, F⟩ := c.def_ hd
  unfold He.DefD.dvs He.DefD.kws at F
  rw [h0, h1, ha] at F
  refine ⟨fun C hC => ?_⟩
  obtain ⟨e1, rfl⟩ := hC
  refine ⟨He.cls_ok (c.fact (by
    unfold Facts.fa
    simp only [List.mem_append, List.mem_map]
    exact .inr (.inr (.inr (.inr (.inl ⟨cl, e1, rfl⟩)))))), _, He.meth_ok (c.fact (by
    unfold Facts.fa
    simp only [List.mem_append, List.mem_map]
    exact .inr (.inr (.inr (.inr (.inr (.inr (.inl ⟨(cl, x), hm, rfl⟩)))))))), .mk0 M ⟨fd, F⟩ S hb hbody hφ⟩
theorem Facts.methH0 {k : Nat} {m : EC} (c : SaysZ q.fa fn q.ex K) (M : ModOk P w K mg base (q.zx K) k m) {d : He.DefD} {cl x : Str} {N ps : List Str} {box : List Nat} (hd : d ∈ fn) (ha : d.at_ = (cl, some x)) (hc : q.cls.contains cl = true) (hm : q.meths.contains (cl, x) = true) (h0 : d.dfl = []) (h1 : d.kwd = []) (S : FnScope N ps d.scope)
    (hb : BindD d.name d.qual d.params d.body d.scope ps) {n : Nat} {body : DS → Out} (hbody : (ev n).SS (m.of N d.scope box) d.body = body) {φ : List LO → List D → RH} (hφ : fnRunH N.length body = φ) : MethOk0 P w K mg base (q.zx K) (k + 1) cl x (.heap φ ps.length []) := by
  have hm := List.contains_iff_mem.mp hm
  obtain ⟨fd, F⟩ := c.def_ hd
  unfold He.DefD.dvs He.DefD.kws at F
  rw [h0, h1, ha] at F
  refine ⟨fun C hC => ?_⟩
  obtain ⟨e1, rfl⟩ := hC
  refine ⟨He.cls_ok (c.fact (by
    unfold Facts.fa
    simp only [List.mem_append, List.mem_map]
    exact .inr (.inr (.inr (.inr (.inl ⟨cl, e1, rfl⟩)))))), _, He.meth_ok (c.fact (by
    unfold Facts.fa
    simp only [List.mem_append, List.mem_map]
    exact .inr (.inr (.inr (.inr (.inr (.inr (.inl ⟨(cl, x), hm, rfl⟩)))))))), .mkH M ⟨fd, F⟩ S hb hbody hφ⟩
theorem ModOk.addMs {Z : SX} {k : Nat} {m : EC} (x : Str) (e : ME) : ∀ (cls : List Str) (M : ModOk P w K mg base Z k m) (o : ∀ cl, cl ∈ cls → MethOk0 P w K mg base Z (k + 1) cl x e), ModOk P w K mg base Z (k + 1) { m with mt := cls.map (fun cl => ((cl, x), e)) ++ m.mt }
  | [], M, _ => ⟨M.ZK, M.cur, fun y g' e => (M.gl y g' e).mono (Nat.le_succ k), M.no, M.fld, M.exc, M.sub, M.kit, M.kitE, M.ec, fun cl y e he => (M.mt cl y e he).mono (Nat.le_succ k)⟩
  | c :: cls, M, o => by
    have M1 := ModOk.addMs x e cls M fun cl h => o cl (List.mem_cons_of_mem _ h)
    refine ⟨M1.ZK, M1.cur, M1.gl, M1.no, M1.fld, M1.exc, M1.sub, M1.kit, M1.kitE, M1.ec, fun cl' y g' e' => ?_⟩
    have e' : List.lookup (cl', y) (((c, x), e) :: (cls.map (fun cl => ((cl, x), e)) ++ m.mt)) = some g' := e'
    rw [List.lookup_cons] at e'
    split at e'
    · rename_i hxy
      cases e'
      cases eq_of_beq hxy
      exact o c List.mem_cons_self
    · exact M1.mt cl' y g' e'
/-- a def read off a class -/
theorem Facts.bas_ok {k : Nat} {m : EC} (c : SaysZ q.fa fn q.ex K) (X : K.In h) (G : h.Ns mainGlobals mg) (M : ModOk P w K mg base (q.zx K) k m) {d : He.DefD} {x y : Str} {N ps : List Str} {box : List Nat} (hd : d ∈ fn) (ha : d.at_ = (x, some y)) (hx : q.glos.contains x = true) (hB : q.bas.contains (x, y) = true) (h0 : d.dfl = []) (h1 : d.kwd = []) (S : FnScope N ps d.scope)
    (hb : BindD d.name d.qual d.params d.body d.scope ps) {n : Nat} {body : DS → Out} (hbody : (ev n).SS (m.of N d.scope box) d.body = body) {φ : List LO → List D → RH} (hφ : fnRunH N.length body = φ) : ModOk P w K mg base (q.zx K) (k + 1) { m with gl := (x, .bas y ⟨φ, ps.length, []⟩) :: m.gl } := by
  obtain ⟨fd, F⟩ := c.def_ hd
  unfold He.DefD.dvs He.DefD.kws at F
  rw [h0, h1, ha] at F
  have hex := c.parts.2
  unfold Facts.ex at hex
  simp only [Bool.and_eq_true] at hex
  obtain ⟨x1, x0, x2, x3⟩ := hex
  obtain ⟨hr, hf⟩ := basB_ok (List.all_eq_true.mp x0 _ (List.contains_iff_mem.mp hB))
  exact M.add ⟨He.ga K x, _, _, q.glo c X G hx, hr, hf, F.kp, .mkH M ⟨fd, F⟩ S hb hbody hφ⟩
/-- a class that is made: its __init__ -/
theorem Facts.mkC {k : Nat} {m : EC} {frz : Bool} (c : SaysZ q.fa fn q.ex K) (X : K.In h) (G : h.Ns mainGlobals mg) (M : ModOk P w K mg base (q.zx K) k m) {d : He.DefD} {cl : Str} {N ps : List Str} {box : List Nat} (hd : d ∈ fn) (ha : d.at_ = (cl, some ("__init__" : Str))) (hg : q.glos.contains cl = true) (hc : q.cls.contains cl = true) (hm : cl ∈ q.mks) (h0 : d.dfl = []) (h1 : d.kwd = []) (S : FnScope N ps d.scope)
    (hb : BindD d.name d.qual d.params d.body d.scope ps) {n : Nat} {body : DS → Out} (hbody : (ev n).SS (m.of N d.scope box) d.body = body) {φ : List LO → List D → RH} (hφ : fnRunH N.length body = φ) : ModOk P w K mg base (q.zx K) (k + 2) { m with gl := (cl, .cls ⟨φ, ps.length, frz⟩) :: m.gl } := by
  obtain ⟨fd, F⟩ := c.def_ hd
  unfold He.DefD.dvs He.DefD.kws at F
  rw [h0, h1, ha] at F
  have M1 : ModOk P w K mg base (q.zx K) (k + 1) m := ⟨M.ZK, M.cur, fun y g' e => (M.gl y g' e).mono (Nat.le_succ k), M.no, M.fld, M.exc, M.sub, M.kit, M.kitE, M.ec, fun cl y e he => (M.mt cl y e he).mono (Nat.le_succ k)⟩
  refine M1.add ⟨He.ga K cl, _, q.glo c X G hg, ⟨List.contains_iff_mem.mp hc, rfl⟩, He.mkr_ok (c.fact (by
    unfold Facts.fa
    simp only [List.mem_append, List.mem_map]
    exact .inr (.inr (.inr (.inr (.inr (.inr (.inr (.inl ⟨cl, hm, rfl⟩))))))))), k + 1, rfl, .mkH M ⟨fd, F⟩ S hb hbody hφ⟩
end
/-- the law's end: the script's bits are told -/
theorem walk_law {l : PySem.W.OpenLaw} {n k : Nat} {q : Program} {loose : List Str} {XP : (Str → Option Value) → Heap → Prop} {YP : World → Heap → Prop} {d : DefRec} {x : Str}
    (hn : l.most = some n) (hn2 : n ≤ sizeLine) (hdf : d.params.defaults = []) (hr : Room k callerA)
    (F : ∀ (w : World) (mg : Str → Option Value) (fa : Addr) (h : Heap), YP w h → h.Ns mainGlobals mg → mg d.name = some (.ref fa) →
      ∃ (K : PySem.W.Frag) (fd : FuncData) (sp : Sp), K.In h ∧ (∀ (s : Shared) (u : Value), BindsTo s fd ⟨[u], []⟩ [(x, u)]) ∧
        (∀ (H : Hp) (a : Addr) (ns : List Int), ns.length ≤ n → (∀ z ∈ ns, Builtin.Int.intBits z ≤ 1048576) → SqL K H a (ns.map V.int) → sp [.ref a] H (fun v _ => v = .bl true) fun _ _ _ => False) ∧
        ∀ base : Heap, K.In base → base.Ns mainGlobals mg → FnOk l.prog w K mg base (L2.CX l.prog w) k fa fd [x] sp) :
    PySem.W.WalkO q loose XP YP l.row.toRowW d [] (fun f vs => PySem.call f vs) := by
  refine Att.attach_callB hn hdf fun w s₀ s₁ mg mb fa o pm cd doc a vs ns G Y ho hd hcd hmg hobj hints hlen hbits hg => ?_
  obtain ⟨K, fd, sp, KX, hb, hsp, hF⟩ := F w mg fa _ Y G.T.g hmg
  refine law_call KX G.T.g G.T.b G.T.builtins G.T.nolimit hg hobj hints (Nat.le_trans hlen hn2) hr hF hb (fun H hO hS => hsp H a ns hlen hbits hS) fun H e s' hx => ?_
  obtain ⟨_, _, _, _, _, _, _, _, _, _, _, _, z⟩ := hx
  exact z
end TW
/-! TB: bits of numbers, counted. -/
namespace TW
/-! ### bits -/
def sm (n : Nat) (f : Nat → Nat) : Nat := match n with
  | 0 => 0
  | n + 1 => sm n f + f n
def bt (m k : Nat) : Nat := m / 2 ^ k % 2
def pc (n m : Nat) : Nat := sm n (bt m)
theorem sm_congr {f g : Nat → Nat} : ∀ {n : Nat}, (∀ k, k < n → f k = g k) → sm n f = sm n g
  | 0, _ => rfl
  | n + 1, h => by rw [sm, sm, sm_congr (fun k hk => h k (by omega)), h n (by omega)]
theorem sm_add {f g : Nat → Nat} : ∀ {n : Nat}, sm n (fun k => f k + g k) = sm n f + sm n g
  | 0 => rfl
  | n + 1 => by rw [sm, sm, sm, sm_add]; omega
theorem sm_mul {f : Nat → Nat} {c : Nat} : ∀ {n : Nat}, sm n (fun k => c * f k) = c * sm n f
  | 0 => by simp [sm]
  | n + 1 => by rw [sm, sm, sm_mul, Nat.mul_add]
theorem sm_zero : ∀ {n : Nat}, sm n (fun _ => 0) = 0
  | 0 => rfl
  | n + 1 => by rw [sm, sm_zero]
theorem sm_front {f : Nat → Nat} : ∀ {n : Nat}, sm (n + 1) f = f 0 + sm n (fun k => f (k + 1))
  | 0 => by simp [sm]
  | n + 1 => by rw [sm, sm_front, sm]; omega
theorem bt_le (m k : Nat) : bt m k ≤ 1 := by
  have := Nat.mod_lt (m / 2 ^ k) (show 2 > 0 by decide)
  unfold bt
  omega
theorem bt_tb (m k : Nat) : bt m k = if m.testBit k = true then 1 else 0 := by
  unfold bt
  rw [Nat.testBit_eq_decide_div_mod_eq]
  have := Nat.mod_lt (m / 2 ^ k) (show 2 > 0 by decide)
  split
  · simp_all
  · rename_i h
    simp at h
    omega
theorem bt_and (a b k : Nat) : bt (a &&& b) k = bt a k * bt b k := by
  rw [bt_tb, bt_tb, bt_tb, Nat.testBit_and]
  cases a.testBit k <;> cases b.testBit k <;> rfl
theorem bt_or (a b k : Nat) : bt (a ||| b) k = if bt a k = 1 ∨ bt b k = 1 then 1 else 0 := by
  rw [bt_tb, bt_tb, bt_tb, Nat.testBit_or]
  cases a.testBit k <;> cases b.testBit k <;> rfl
theorem bt_xor (a b k : Nat) : bt (a ^^^ b) k = (bt a k + bt b k) % 2 := by
  rw [bt_tb, bt_tb, bt_tb, Nat.testBit_xor]
  cases a.testBit k <;> cases b.testBit k <;> rfl
theorem bt_zero {m n k : Nat} (h : m < 2 ^ n) (hk : n ≤ k) : bt m k = 0 := by
  have : m < 2 ^ k := Nat.lt_of_lt_of_le h (Nat.pow_le_pow_right (by decide) hk)
  unfold bt
  rw [Nat.div_eq_of_lt this]
theorem bt_half (m k : Nat) : bt m (k + 1) = bt (m / 2) k := by
  unfold bt
  rw [Nat.pow_succ, Nat.mul_comm, Nat.div_div_eq_div_mul]
theorem bt_0 (m : Nat) : bt m 0 = m % 2 := by simp [bt]
theorem pc_step (n m : Nat) : pc (n + 1) m = m % 2 + pc n (m / 2) := by
  unfold pc
  rw [sm_front, bt_0]
  exact congrArg _ (sm_congr fun k _ => bt_half m k)
theorem pc_more {m : Nat} {n : Nat} (h : m < 2 ^ n) : ∀ j, pc (n + j) m = pc n m
  | 0 => rfl
  | j + 1 => by
    show sm (n + j + 1) (bt m) = _
    rw [sm, bt_zero h (by omega)]
    exact pc_more h j
theorem pc_zero (n : Nat) : pc n 0 = 0 := by
  unfold pc
  rw [sm_congr (g := fun _ => 0) fun k _ => by simp [bt], sm_zero]
/-- the lowest 1 put out -/
theorem pc_low : ∀ (n m : Nat), 0 < m → m < 2 ^ n → pc n (m &&& (m - 1)) + 1 = pc n m ∧ (m &&& (m - 1)) < m
  | 0, m, h, h2 => by simp at h2; omega
  | n + 1, m, h, h2 => by
    have hm : (m &&& (m - 1)) % 2 = m % 2 * ((m - 1) % 2) := by
      have := bt_and m (m - 1) 0
      rwa [bt_0, bt_0, bt_0] at this
    have hd : (m &&& (m - 1)) / 2 = m / 2 &&& (m - 1) / 2 := Nat.and_div_two
    rw [pc_step, pc_step, hm, hd]
    by_cases he : m % 2 = 0
    · have e1 : (m - 1) / 2 = m / 2 - 1 := by omega
      obtain ⟨i1, i2⟩ := pc_low n (m / 2) (by omega) (by rw [Nat.pow_succ] at h2; omega)
      rw [e1, he]
      constructor
      · omega
      · have : (m &&& (m - 1)) / 2 = m / 2 &&& (m / 2 - 1) := by rw [hd, e1]
        omega
    · have e1 : (m - 1) / 2 = m / 2 := by omega
      have e2 : (m - 1) % 2 = 0 := by omega
      rw [e1, e2, Nat.and_self]
      refine ⟨by omega, ?_⟩
      have : (m &&& (m - 1)) / 2 = m / 2 := by rw [hd, e1, Nat.and_self]
      rw [e2] at hm
      omega
/-- a number by its bits -/
theorem sm_bits : ∀ (n m : Nat), m < 2 ^ n → sm n (fun k => bt m k * 2 ^ k) = m
  | 0, m, h => by simp at h; rw [h]; rfl
  | n + 1, m, h => by
    rw [sm_front, bt_0]
    have : sm n (fun k => bt m (k + 1) * 2 ^ (k + 1)) = 2 * (m / 2) := by
      rw [← sm_bits n (m / 2) (by rw [Nat.pow_succ] at h; omega), ← sm_mul]
      exact sm_congr fun k _ => by rw [bt_half, Nat.pow_succ]; rw [← Nat.mul_assoc, Nat.mul_comm _ 2]
    rw [this]
    omega
end TW
/-! TP: plain steps: what the combinators compute. -/
namespace TW
open PySem PySem.Spec L2 PyProof.Rows
section
variable {tg : D → DS → Res Unit} {body : DS → Out} {S : DS} {s : Src} {xs : List D}
theorem forLoop_inv : ∀ {xs : List D} {S : DS} (P : Nat → DS → Prop) (_ : ∀ k (hk : k < xs.length) S, P k S → ∃ S1 S2, tg xs[k] S = .ok () S1 ∧ (body S1 = .next S2 ∨ body S1 = .cont S2) ∧ P (k + 1) S2) (_ : P 0 S), ∃ S', forLoop tg body xs S = .next S' ∧ P xs.length S'
  | [], S, P, h, h0 => ⟨S, rfl, h0⟩
  | x :: xs, S, P, h, h0 => by
    obtain ⟨S1, S2, e1, e2, e3⟩ := h 0 (Nat.zero_lt_succ _) S h0
    have e1 : tg x S = .ok () S1 := e1
    obtain ⟨S', f1, f2⟩ := forLoop_inv (xs := xs) (S := S2) (fun k => P (k + 1)) (fun k hk S hS => h (k + 1) (Nat.succ_lt_succ hk) S hS) e3
    refine ⟨S', ?_, f2⟩
    rw [forLoop, e1]
    rcases e2 with e2 | e2 <;> (dsimp only; rw [e2]; exact f1)
theorem forLoopA_inv : ∀ {xs : List D} {S : DS} (P : Nat → DS → Prop) (_ : ∀ k S, P k S → Alive s S) (_ : ∀ k (hk : k < xs.length) S, P k S → ∃ S1 S2, tg xs[k] S = .ok () S1 ∧ (body S1 = .next S2 ∨ body S1 = .cont S2) ∧ P (k + 1) S2) (_ : P 0 S), ∃ S', forLoopA s tg body xs S = .next (unlock s S') ∧ P xs.length S'
  | [], S, P, ha, h, h0 => ⟨S, by rw [forLoopA, if_pos (ha 0 S h0)], h0⟩
  | x :: xs, S, P, ha, h, h0 => by
    obtain ⟨S1, S2, e1, e2, e3⟩ := h 0 (Nat.zero_lt_succ _) S h0
    have e1 : tg x S = .ok () S1 := e1
    obtain ⟨S', f1, f2⟩ := forLoopA_inv (xs := xs) (S := S2) (fun k => P (k + 1)) (fun k S => ha (k + 1) S) (fun k hk S hS => h (k + 1) (Nat.succ_lt_succ hk) S hS) e3
    refine ⟨S', ?_, f2⟩
    rw [forLoopA, if_pos (ha 0 S h0), e1]
    rcases e2 with e2 | e2 <;> (dsimp only; rw [e2]; exact f1)
theorem lcLoop_eq {tt : DS → Res Bool} {te : DS → Res RV} {vs : List Nat} {p : D → Bool} {f : D → D} (ha : Alive s S) : ∀ {xs acc : List D} (_ : ∀ x ∈ xs, ∃ S1 S2, tg x S = .ok () S1 ∧ tt S1 = .ok (p x) S2 ∧ (p x = true → ∃ r S3 S4, te S2 = .ok r S3 ∧ settle r S3 = .ok (f x) S4 ∧ ({ S4 with sl := wipeS vs S4.sl } : DS) = S) ∧ (p x = false → ({ S2 with sl := wipeS vs S2.sl } : DS) = S)) (_ : acc.length + xs.length ≤ sizeLine),
    lcLoop s tg tt te vs xs acc S = .ok (acc ++ (xs.filter p).map f) S
  | [], acc, h, hl => by rw [lcLoop, if_pos ha]; simp
  | x :: xs, acc, h, hl => by
    obtain ⟨S1, S2, e1, e2, e3, e4⟩ := h x List.mem_cons_self
    rw [lcLoop, if_pos ha, e1, Res.bind, e2, Res.bind]
    rw [List.length_cons] at hl
    cases hp : p x with
    | true =>
      obtain ⟨r, S3, S4, e5, e6, e7⟩ := e3 hp
      rw [if_pos rfl, e5, Res.bind, e6, Res.bind, if_pos (by omega), e7, lcLoop_eq ha (fun y hy => h y (List.mem_cons_of_mem _ hy)) (by rw [List.length_append, List.length_singleton]; omega), List.filter_cons_of_pos hp]
      simp
    | false =>
      rw [if_neg (by simp), e4 hp, lcLoop_eq ha (fun y hy => h y (List.mem_cons_of_mem _ hy)) (by omega), List.filter_cons_of_neg (by simp [hp])]
theorem whileLoop_inv {α : Type} {t : DS → Res Bool} (μ : α → Nat) (St : α → DS → Prop) (go : α → Bool) (ht : ∀ a S, St a S → ∃ S1, t S = .ok (go a) S1 ∧ (go a = true → ∃ b S2, (body S1 = .next S2 ∨ body S1 = .cont S2) ∧ St b S2 ∧ μ b < μ a) ∧ (go a = false → St a S1)) : ∀ n a S, St a S → μ a < n → ∃ b S', whileLoop t body n S = .next S' ∧ St b S' ∧ go b = false
  | 0, a, S, h, hl => absurd hl (Nat.not_lt_zero _)
  | n + 1, a, S, h, hl => by
    obtain ⟨S1, e1, e2, e3⟩ := ht a S h
    rw [whileLoop, e1]
    cases hg : go a with
    | true =>
      obtain ⟨b, S2, f1, f2, f3⟩ := e2 hg
      obtain ⟨c, S', g1, g2⟩ := whileLoop_inv μ St go ht n b S2 f2 (by omega)
      refine ⟨c, S', ?_, g2⟩
      dsimp only [Res.toOut]
      rw [if_pos rfl]
      rcases f1 with f1 | f1 <;> (rw [f1]; exact g1)
    | false => exact ⟨a, S1, by simp [Res.toOut], e3 hg, hg⟩
end
theorem rgD_len {lo c : Int} {n : Nat} : (rgD lo c n).length = n := by simp [rgD]
theorem rgD_get' {lo c : Int} {n k : Nat} (h : k < (rgD lo c n).length) : (rgD lo c n)[k] = .int (lo + (k : Int) * c) := by simp [rgD]
theorem flats_map {α : Type} {f : α → D} (h : ∀ a, (f a).flat = true) : ∀ xs : List α, D.flats (xs.map f) = true
  | [] => rfl
  | x :: xs => by simp [D.flats, h x, flats_map h xs]
theorem noRefs_map {α : Type} {f : α → D} (h : ∀ a, (f a).noRef = true) : ∀ xs : List α, D.noRefs (xs.map f) = true
  | [] => rfl
  | x :: xs => by simp [D.noRefs, h x, noRefs_map h xs]

/-! ### ints that are Nats -/
theorem bAnd (a b : Nat) : Builtin.bitAnd (a : Int) (b : Int) = ((a &&& b : Nat) : Int) := by
  rw [bitAnd_pp (by omega) (by omega)]
  simp
theorem bXorP {x y : Int} (hx : 0 ≤ x) (hy : 0 ≤ y) : Builtin.bitXor x y = ((x.toNat ^^^ y.toNat : Nat) : Int) := by
  rw [bitXor_and, bitAnd_pp hx hy]
  have : ∀ (n a b : Nat), a < 2 ^ n → b < 2 ^ n → (a ^^^ b) + 2 * (a &&& b) = a + b := by
    intro n
    induction n with
    | zero => intro a b h1 h2; simp at h1 h2; subst h1; subst h2; rfl
    | succ n ih =>
      intro a b h1 h2
      have h3 := ih (a / 2) (b / 2) (by rw [Nat.pow_succ] at h1; omega) (by rw [Nat.pow_succ] at h2; omega)
      have x1 : (a ^^^ b) / 2 = a / 2 ^^^ b / 2 := Nat.xor_div_two
      have x2 : (a &&& b) / 2 = a / 2 &&& b / 2 := Nat.and_div_two
      have x3 : (a ^^^ b) % 2 = (a % 2 + b % 2) % 2 := by
        have := bt_xor a b 0
        rwa [bt_0, bt_0, bt_0] at this
      have x4 : (a &&& b) % 2 = a % 2 * (b % 2) := by
        have := bt_and a b 0
        rwa [bt_0, bt_0, bt_0] at this
      rcases Nat.mod_two_eq_zero_or_one a with ha | ha <;> rcases Nat.mod_two_eq_zero_or_one b with hb | hb <;> rw [ha, hb] at x3 x4 <;> omega
  have h := this (x.toNat + y.toNat) x.toNat y.toNat (Nat.lt_of_lt_of_le Nat.lt_two_pow_self (Nat.pow_le_pow_right (by decide) (by omega))) (Nat.lt_of_lt_of_le Nat.lt_two_pow_self (Nat.pow_le_pow_right (by decide) (by omega)))
  omega
theorem bXor (a b : Nat) : Builtin.bitXor (a : Int) (b : Int) = ((a ^^^ b : Nat) : Int) := by
  rw [bXorP (by omega) (by omega)]
  simp
theorem bOr (a b : Nat) : Builtin.bitOr (a : Int) (b : Int) = ((a ||| b : Nat) : Int) := by
  rw [bitOr_and, bAnd]
  have : ∀ (n a b : Nat), a < 2 ^ n → b < 2 ^ n → (a ||| b) + (a &&& b) = a + b := by
    intro n
    induction n with
    | zero => intro a b h1 h2; simp at h1 h2; subst h1; subst h2; rfl
    | succ n ih =>
      intro a b h1 h2
      have h3 := ih (a / 2) (b / 2) (by rw [Nat.pow_succ] at h1; omega) (by rw [Nat.pow_succ] at h2; omega)
      have x1 : (a ||| b) / 2 = a / 2 ||| b / 2 := Nat.or_div_two
      have x2 : (a &&& b) / 2 = a / 2 &&& b / 2 := Nat.and_div_two
      have x3 : (a ||| b) % 2 = if a % 2 = 1 ∨ b % 2 = 1 then 1 else 0 := by
        have := bt_or a b 0
        rwa [bt_0, bt_0, bt_0] at this
      have x4 : (a &&& b) % 2 = a % 2 * (b % 2) := by
        have := bt_and a b 0
        rwa [bt_0, bt_0, bt_0] at this
      rcases Nat.mod_two_eq_zero_or_one a with ha | ha <;> rcases Nat.mod_two_eq_zero_or_one b with hb | hb <;> rw [ha, hb] at x3 x4 <;> split at x3 <;> omega
  have h := this (a + b) a b (Nat.lt_of_lt_of_le Nat.lt_two_pow_self (Nat.pow_le_pow_right (by decide) (by omega))) (Nat.lt_of_lt_of_le Nat.lt_two_pow_self (Nat.pow_le_pow_right (by decide) (by omega)))
  omega
theorem shr_bt (m k : Nat) : Builtin.bitAnd ((m : Int) / 2 ^ k) 1 = (bt m k : Int) := by
  rw [bitAnd_m1]
  unfold bt
  simp
end TW
/-! TQ: simp steps. -/
namespace TW
open PySem PySem.Spec L2 PyProof.Rows
section
variable {S S1 S2 : DS} {f f' g h k : DS → Out} {e e' : DS → Res RV} {t t' : DS → Res Bool} {i j : Nat} {d d' : D} {r : RV} {α β : Type}
/- statements -/
@[simp] theorem q_seq_seq : oSeq (oSeq f g) h = oSeq f (oSeq g h) := by
  funext S
  unfold oSeq
  cases f S <;> rfl
@[simp] theorem q_seq_next : oSeq oNext h = h := (rfl)
@[simp] theorem q_seq_ret : oSeq (oRet e) h = oRet e := by
  funext S
  unfold oSeq oRet Res.toOut
  cases e S with
  | ok r S1 =>
    cases r with
    | plc i =>
      dsimp only
      split <;> rename_i z <;> split at z <;> first | rfl | (cases z; done) | (split at z <;> first | rfl | (cases z; done) | skip) | skip
      all_goals first | rfl | (exact absurd z (by simp)) | skip
    | _ => rfl
  | _ => rfl
@[simp] theorem q_seq_raise {c : Str} : oSeq (oRaise c) h = oRaise c := (rfl)
@[simp] theorem q_seq_if : oSeq (oIf t f g) h = oIf t (oSeq f h) (oSeq g h) := by
  funext S
  unfold oSeq oIf Res.toOut
  cases t S with
  | ok b S1 => cases b <;> rfl
  | _ => rfl
@[simp] theorem q_seq_brk : oSeq (fun S => .brk S) h = fun S => .brk S := (rfl)
@[simp] theorem q_seq_cont : oSeq (fun S => .cont S) h = fun S => .cont S := (rfl)
@[simp] theorem q_next : oNext S = .next S := (rfl)
@[simp] theorem q_raise {c : Str} : oRaise c S = .exc c S := (rfl)
@[simp] theorem q_if : oIf t f g S = (t S).toOut fun b S1 => if b = true then f S1 else g S1 := (rfl)
@[simp] theorem q_toOut_ok {a : α} {k : α → DS → Out} : (Res.ok a S).toOut k = k a S := (rfl)
@[simp] theorem q_bind_ok {a : α} {k : α → DS → Res β} : (Res.ok a S).bind k = k a S := (rfl)
@[simp] theorem q_toOut_exc {c : Str} {k : α → DS → Out} : (Res.exc c S : Res α).toOut k = .exc c S := (rfl)
@[simp] theorem q_bind_exc {c : Str} {k : α → DS → Res β} : (Res.exc c S : Res α).bind k = .exc c S := (rfl)
def Out.then_ (o : Out) (g : DS → Out) : Out := match o with
  | .next S1 => g S1
  | o => o
@[simp] theorem q_then_next : (Out.next S).then_ g = g S := (rfl)
@[simp] theorem q_then_ret : (Out.ret r S).then_ g = .ret r S := (rfl)
@[simp] theorem q_then_exc {c : Str} : (Out.exc c S).then_ g = .exc c S := (rfl)
@[simp] theorem q_seq_set : oSeq (oSet i e) g S = (e S).toOut fun r S1 => (setOut i r S1).then_ g := by
  unfold oSeq oSet Res.toOut Out.then_
  cases e S <;> rfl
@[simp] theorem q_seq_expr : oSeq (oExpr e) g S = (e S).toOut fun _ S1 => g S1 := by
  unfold oSeq oExpr Res.toOut
  cases e S <;> rfl
@[simp] theorem q_seq_aug {u : D → D → R} : oSeq (oAug i u e) g S = (oAug i u e S).then_ g := (rfl)
@[simp] theorem q_seq_unp {is : List Nat} : oSeq (oUnp is e) g S = (oUnp is e S).then_ g := (rfl)
@[simp] theorem q_seq_par {es : DS → Res (List D)} : oSeq (oPar i j es) g S = (oPar i j es S).then_ g := (rfl)
@[simp] theorem q_set_val : setOut i (.val d) S = .next { S with sl := S.sl.set i (some (.val d)) } := (rfl)
@[simp] theorem q_set_own {c : Cont} : setOut i (.own c) S = .next { S with sl := S.sl.set i (some (.own c false)) } := (rfl)
@[simp] theorem q_set_plc : setOut i (.plc j) S = (settle (.plc j) S).toOut fun d S2 => .next { S2 with sl := S2.sl.set i (some (.val d)) } := (rfl)
@[simp] theorem q_ret : oRet e S = (e S).toOut fun r S1 => match r with
  | .val d => .ret (.val d) S1
  | .own c => .ret (.own c) S1
  | .plc i => (match S1.sl[i]? with
    | some (some (.val d)) => .ret (.val d) S1
    | some (some (.own c false)) => .ret (.own c) S1
    | _ => .stk) := (rfl)
@[simp] theorem q_aug {u : D → D → R} : oAug i u e S = (match S.sl[i]? with
  | some (some (.val d)) => (e S).toOut fun r S1 => (match peek S1 r with
    | some e => (match u d e with
      | .val x => .next { S1 with sl := S1.sl.set i (some (.val x)) }
      | _ => .stk)
    | none => .stk)
  | _ => .stk) := (rfl)
@[simp] theorem q_outR_val (h : d.noRef = true) : outR (.ret (.val d) S) = .val d := by
  rw [outR_val (fun k z => by rw [z] at h; cases h), if_pos h]
@[simp] theorem q_outR_ref {sl : List (Option Sl)} {L : List LO} {k : Nat} : outR (.ret (.val (.ref k)) ⟨sl, L⟩) = (match L[k]? with
    | some (.con c false) => if c.noRef = true then .own c else .stk
    | _ => .stk) := (rfl)
@[simp] theorem q_outR_own {ds : List D} : outR (.ret (.own (.lst ds)) S) = if D.noRefs ds = true then .own (.lst ds) else .stk := (rfl)
@[simp] theorem q_outR_exc {c : Str} : outR (.exc c S) = .exc c := (rfl)
@[simp] theorem q_outR_next : outR (.next S) = .val .non := (rfl)
/- expressions -/
@[simp] theorem q_const : dConst d S = .ok (.val d) S := (rfl)
@[simp] theorem q_var : dVar i S = (match S.sl[i]? with
  | some (some (.val d)) => .ok (.val d) S
  | some (some (.own _ _)) => .ok (.plc i) S
  | _ => .stk) := (rfl)
@[simp] theorem q_p1 {u : D → R} : dPure1 u e S = (e S).bind fun r S1 => match peek S1 r with
  | some d => (u d).lift S1
  | none => .stk := (rfl)
@[simp] theorem q_p2 {u : D → D → R} : dPure2 u e e' S = (e S).bind fun r S1 => (e' S1).bind fun r' S2 => match peek S2 r.frz, peek S2 r' with
  | some d, some e => (u d e).lift S2
  | _, _ => .stk := (rfl)
@[simp] theorem q_args0 : dArgs [] S = .ok [] S := (rfl)
@[simp] theorem q_args {es : List (DS → Res RV)} : dArgs (e :: es) S = (e S).bind fun r S1 => (dArgs es S1).bind fun rs S2 => .ok (r.frz :: rs) S2 := (rfl)
@[simp] theorem q_vals0 : dVals [] S = .ok [] S := (rfl)
@[simp] theorem q_vals {es : List (DS → Res RV)} : dVals (e :: es) S = (e S).bind fun r S1 => (settle r S1).bind fun d S2 => (dVals es S2).bind fun ds S3 => .ok (d :: ds) S3 := (rfl)
@[simp] theorem q_pN {u : List D → R} {es : DS → Res (List RV)} : dPureN u es S = (es S).bind fun rs S1 => match peekAll S1 rs with
  | some ds => (u ds).lift S1
  | none => .stk := (rfl)
@[simp] theorem q_tup {es : DS → Res (List D)} : dTup es S = (es S).bind fun ds S1 => if ds.length ≤ sizeLine then .ok (.val (.tup ds)) S1 else .stk := (rfl)
@[simp] theorem q_lst {es : DS → Res (List D)} : dLst es S = (es S).bind fun ds S1 => if ds.length ≤ sizeLine then .ok (.own (.lst ds)) S1 else .stk := (rfl)
@[simp] theorem q_ifE {u v : DS → Res α} : dIf t u v S = (t S).bind fun b S1 => if b = true then u S1 else v S1 := (rfl)
@[simp] theorem q_truth : dTruth e S = (e S).bind fun r S1 => match (peek S1 r).bind truthD with
  | some b => .ok b S1
  | none => .stk := (rfl)
@[simp] theorem q_not : dNot t S = (t S).bind fun b S1 => .ok (!b) S1 := (rfl)
@[simp] theorem q_and : dAnd t t' S = (t S).bind fun b S1 => if b = true then t' S1 else .ok false S1 := (rfl)
@[simp] theorem q_or : dOr t t' S = (t S).bind fun b S1 => if b = true then .ok true S1 else t' S1 := (rfl)
@[simp] theorem q_bool : dBool t S = (t S).bind fun b S1 => .ok (.val (.bl b)) S1 := (rfl)
@[simp] theorem q_asB : asB e S = (e S).bind fun r S1 => match r with
  | .val (.bl b) => .ok b S1
  | _ => .stk := (rfl)
@[simp] theorem q_andV : dAndV e e' S = (asB e S).bind fun b S1 => if b = true then e' S1 else .ok (.val (.bl false)) S1 := (rfl)
@[simp] theorem q_orV : dOrV e e' S = (asB e S).bind fun b S1 => if b = true then .ok (.val (.bl true)) S1 else e' S1 := (rfl)
@[simp] theorem q_sl {lo hi : Option (DS → Res RV)} : dSl e lo hi S = (e S).bind fun r S1 => (dOpt lo S1).bind fun l S2 => (dOpt hi S2).bind fun u S3 => match peek S3 r.frz with
  | some d => (gSl d l u).lift S3
  | none => .stk := (rfl)
@[simp] theorem q_call {φ : List D → R} {dfl : List D} {es : DS → Res (List RV)} : dCall φ dfl es S = (es S).bind fun rs S1 => match peekAll S1 rs with
  | some ds => if D.noRefs (ds ++ dfl) = true then (if (φ (ds ++ dfl)).clean = true then (φ (ds ++ dfl)).lift S1 else (settleAll rs S1).bind fun es S2 => if D.noRefs (es ++ dfl) = true then (φ (es ++ dfl)).lift S2 else .stk) else .stk
  | none => .stk := (rfl)
@[simp] theorem q_lift_val : (R.val d).lift S = .ok (.val d) S := (rfl)
@[simp] theorem q_lift_own {c : Cont} : (R.own c).lift S = .ok (.own c) S := (rfl)
@[simp] theorem q_frz_val : RV.frz (.val d) = .val d := (rfl)
@[simp] theorem q_frz_own {c : Cont} : RV.frz (.own c) = .val c.toD := (rfl)
@[simp] theorem q_frz_plc : RV.frz (.plc i) = .plc i := (rfl)
@[simp] theorem q_peek_own {c : Cont} : peek S (.own c) = some c.toD := (rfl)
@[simp] theorem q_peek_int {z : Int} : peek S (.val (.int z)) = some (.int z) := (rfl)
@[simp] theorem q_peek_bl {z : Bool} : peek S (.val (.bl z)) = some (.bl z) := (rfl)
@[simp] theorem q_peek_str {z : Str} : peek S (.val (.str z)) = some (.str z) := (rfl)
@[simp] theorem q_peek_non : peek S (.val .non) = some .non := (rfl)
@[simp] theorem q_peek_tup {z : List D} : peek S (.val (.tup z)) = some (.tup z) := (rfl)
@[simp] theorem q_peek_lst {z : List D} : peek S (.val (.lst z)) = some (.lst z) := (rfl)
@[simp] theorem q_peek_scr {z : List D} : peek S (.val (.scr z)) = some (.scr z) := (rfl)
@[simp] theorem q_peek_dic {z : List (Key × D)} : peek S (.val (.dic z)) = some (.dic z) := (rfl)
@[simp] theorem q_peek_plc : peek S (.plc i) = (match S.sl[i]? with
    | some (some (.val d)) => some d
    | some (some (.own c _)) => some c.toD
    | _ => none) := (rfl)
@[simp] theorem q_settle_val : settle (.val d) S = .ok d S := (rfl)
@[simp] theorem q_settle_own {c : Cont} : settle (.own c) S = .ok c.toD S := (rfl)
@[simp] theorem q_settle_plc : settle (.plc i) S = (match S.sl[i]? with
    | some (some (.val d)) => .ok d S
    | some (some (.own c false)) => .ok c.toD { S with sl := S.sl.set i (some (.val c.toD)) }
    | _ => .stk) := (rfl)
@[simp] theorem q_pa0 : peekAll S [] = some [] := (rfl)
@[simp] theorem q_pa {rs : List RV} : peekAll S (r :: rs) = (match peek S r, peekAll S rs with
    | some d, some ds => some (d :: ds)
    | _, _ => none) := (rfl)
@[simp] theorem q_toD_lst {ds : List D} : (Cont.lst ds).toD = .lst ds := (rfl)
@[simp] theorem q_opt0 : dOpt none S = .ok none S := (rfl)
/- ops of ints -/
@[simp] theorem q_add {a b : Int} : gBin .Add (.int a) (.int b) = .val (.int (a + b)) := (rfl)
@[simp] theorem q_sub {a b : Int} : gBin .Sub (.int a) (.int b) = .val (.int (a - b)) := (rfl)
@[simp] theorem q_and' {a b : Int} : gBin .BitAnd (.int a) (.int b) = .val (.int (Builtin.bitAnd a b)) := (rfl)
@[simp] theorem q_or' {a b : Int} : gBin .BitOr (.int a) (.int b) = .val (.int (Builtin.bitOr a b)) := (rfl)
@[simp] theorem q_xor' {a b : Int} : gBin .BitXor (.int a) (.int b) = .val (.int (Builtin.bitXor a b)) := (rfl)
theorem q_div {a b : Int} (h : 0 < b) (h2 : b < 2 ^ 200) : gBin .FloorDiv (.int a) (.int b) = .val (.int (a / b)) := by
  show (if CDivW a b then R.val (.int (a / b)) else .stk) = _
  rw [if_pos]
  refine ⟨h, ?_⟩
  have h3 : b.natAbs < 2 ^ 200 := by omega
  have h4 : b.natAbs.log2 < 200 := (Nat.log2_lt (by omega)).mpr h3
  omega
theorem q_mod {a b : Int} (h : 0 < b) : gBin .Mod (.int a) (.int b) = .val (.int (a % b)) := if_pos h
theorem q_shl1 {b : Int} (h : 0 ≤ b) (h2 : b < 1000) : gBin .LShift (.int 1) (.int b) = .val (.int (2 ^ b.toNat)) := by
  show (if CShl 1 b then R.val (.int (1 * 2 ^ b.toNat)) else .stk) = _
  rw [if_pos, Int.one_mul]
  exact ⟨h, by have : Builtin.Int.intBits 1 = 1 := by decide
               rw [this]; omega⟩
theorem q_shr {a b : Int} (h : 0 ≤ b) : gBin .RShift (.int a) (.int b) = .val (.int (a / 2 ^ b.toNat)) := if_pos h
@[simp] theorem q_eq {a b : Int} : gCmp .Eq (.int a) (.int b) = .val (.bl (decide (a = b))) := (rfl)
@[simp] theorem q_ne {a b : Int} : gCmp .NotEq (.int a) (.int b) = .val (.bl (!decide (a = b))) := (rfl)
@[simp] theorem q_lt {a b : Int} : gCmp .Lt (.int a) (.int b) = .val (.bl (decide (a < b))) := (rfl)
@[simp] theorem q_le {a b : Int} : gCmp .LtE (.int a) (.int b) = .val (.bl (decide (a ≤ b))) := (rfl)
@[simp] theorem q_gt {a b : Int} : gCmp .Gt (.int a) (.int b) = .val (.bl (decide (b < a))) := (rfl)
@[simp] theorem q_ge {a b : Int} : gCmp .GtE (.int a) (.int b) = .val (.bl (decide (b ≤ a))) := (rfl)
@[simp] theorem q_eqb {a b : Bool} : gCmp .Eq (.bl a) (.bl b) = .val (.bl (decide (a = b))) := (rfl)
@[simp] theorem q_neb {a b : Bool} : gCmp .NotEq (.bl a) (.bl b) = .val (.bl (!decide (a = b))) := (rfl)
@[simp] theorem q_neg {a : Int} : gNeg (.int a) = .val (.int (-a)) := (rfl)
@[simp] theorem q_tr_bl {b : Bool} : truthD (.bl b) = some b := (rfl)
@[simp] theorem q_tr_int {b : Int} : truthD (.int b) = some (b != 0) := (rfl)
@[simp] theorem q_iop_add {a b : Int} : gIop .Add (.int a) (.int b) = .val (.int (a + b)) := (rfl)
@[simp] theorem q_iop_sub {a b : Int} : gIop .Sub (.int a) (.int b) = .val (.int (a - b)) := (rfl)
@[simp] theorem q_iop_and {a b : Int} : gIop .BitAnd (.int a) (.int b) = .val (.int (Builtin.bitAnd a b)) := (rfl)
@[simp] theorem q_iop_xor {a b : Int} : gIop .BitXor (.int a) (.int b) = .val (.int (Builtin.bitXor a b)) := (rfl)
@[simp] theorem q_iop_or {a b : Int} : gIop .BitOr (.int a) (.int b) = .val (.int (Builtin.bitOr a b)) := (rfl)
@[simp] theorem q_nr_int {a : Int} : D.noRef (.int a) = true := (rfl)
@[simp] theorem q_nr_bl {a : Bool} : D.noRef (.bl a) = true := (rfl)
@[simp] theorem q_nr_str {a : Str} : D.noRef (.str a) = true := (rfl)
@[simp] theorem q_nr_non : D.noRef .non = true := (rfl)
@[simp] theorem q_nr_tup {a : List D} : D.noRef (.tup a) = D.noRefs a := (rfl)
@[simp] theorem q_nr_lst {a : List D} : D.noRef (.lst a) = D.noRefs a := (rfl)
@[simp] theorem q_nr_scr {a : List D} : D.noRef (.scr a) = D.noRefs a := (rfl)
@[simp] theorem q_nrs0 : D.noRefs [] = true := (rfl)
@[simp] theorem q_nrs {ds : List D} : D.noRefs (d :: ds) = (d.noRef && D.noRefs ds) := (rfl)
@[simp] theorem q_cl_int {a : Int} : (R.val (.int a)).clean = true := (rfl)
@[simp] theorem q_cl_bl {a : Bool} : (R.val (.bl a)).clean = true := (rfl)
@[simp] theorem q_cl_val {a : D} : (R.val a).clean = a.flat := (rfl)
@[simp] theorem q_cl_own {a : List D} : (R.own (.lst a)).clean = D.flats a := (rfl)
@[simp] theorem q_cl_exc {a : Str} : (R.exc a).clean = true := (rfl)
@[simp] theorem q_fl_int {a : Int} : D.flat (.int a) = true := (rfl)
@[simp] theorem q_fl_bl {a : Bool} : D.flat (.bl a) = true := (rfl)
@[simp] theorem q_fl_str {a : Str} : D.flat (.str a) = true := (rfl)
@[simp] theorem q_fl_non : D.flat .non = true := (rfl)
@[simp] theorem q_fl_tup {a : List D} : D.flat (.tup a) = D.flats a := (rfl)
@[simp] theorem q_fls0 : D.flats [] = true := (rfl)
@[simp] theorem q_fls {ds : List D} : D.flats (d :: ds) = (d.flat && D.flats ds) := (rfl)
end
/-! ### loops, in the way of goals -/
section
variable {A : List Nat} {src : DS → Res Src} {tg : D → DS → Res Unit} {body g : DS → Out} {S S0 : DS} {s : Src}
theorem for_seq {xs : List D} (Q : Out → Prop) (P : Nat → DS → Prop) (h1 : src S = .ok ⟨xs, .no⟩ S0) (h3 : P 0 S0) (h4 : ∀ k (hk : k < xs.length) S, P k S → ∃ S1 S2, tg xs[k] S = .ok () S1 ∧ (body S1 = .next S2 ∨ body S1 = .cont S2) ∧ P (k + 1) S2)
    (h5 : ∀ S', P xs.length S' → Q (g S')) : Q (oSeq (oFor A src tg body) g S) := by
  obtain ⟨S', e1, e2⟩ := forLoop_inv P h4 h3
  have : oSeq (oFor A src tg body) g S = g S' := by
    unfold oSeq oFor
    rw [h1]
    simp only [Res.toOut]
    rw [e1]
  rw [this]
  exact h5 S' e2
theorem forA_seq {xs ds : List D} {j : Nat} {lk : Bool} (Q : Out → Prop) (P : Nat → DS → Prop) (h1 : src S = .ok ⟨xs, .slot j ds lk⟩ S0) (hA : A.contains j = false) (h3 : P 0 S0) (ha : ∀ k S, P k S → S.sl[j]? = some (some (.own (.lst ds) true))) (h4 : ∀ k (hk : k < xs.length) S, P k S → ∃ S1 S2, tg xs[k] S = .ok () S1 ∧ (body S1 = .next S2 ∨ body S1 = .cont S2) ∧ P (k + 1) S2)
    (h5 : ∀ S', P xs.length S' → Q (g { S' with sl := S'.sl.set j (some (.own (.lst ds) lk)) })) : Q (oSeq (oFor A src tg body) g S) := by
  obtain ⟨S', e1, e2⟩ := forLoopA_inv (s := ⟨xs, .slot j ds lk⟩) P (fun k S hS => ha k S hS) h4 h3
  have : oSeq (oFor A src tg body) g S = g { S' with sl := S'.sl.set j (some (.own (.lst ds) lk)) } := by
    unfold oSeq oFor
    rw [h1]
    simp only [Res.toOut]
    rw [if_neg (by rw [hA]; decide), e1]
    rfl
  rw [this]
  exact h5 S' e2
theorem while_seq {α : Type} {t : DS → Res Bool} {n : Nat} (Q : Out → Prop) (μ : α → Nat) (St : α → DS → Prop) (go : α → Bool) (a : α) (h0 : St a S) (hn : μ a < n) (ht : ∀ a S, St a S → ∃ S1, t S = .ok (go a) S1 ∧ (go a = true → ∃ b S2, (body S1 = .next S2 ∨ body S1 = .cont S2) ∧ St b S2 ∧ μ b < μ a) ∧ (go a = false → St a S1))
    (h5 : ∀ b S', St b S' → go b = false → Q (g S')) : Q (oSeq (oWhile n t body) g S) := by
  obtain ⟨b, S', e1, e2, e3⟩ := whileLoop_inv μ St go ht n a S h0 hn
  have : oSeq (oWhile n t body) g S = g S' := by
    unfold oSeq oWhile
    rw [e1]
  rw [this]
  exact h5 b S' e2 e3
theorem lc_eq {tt : DS → Res Bool} {te : DS → Res RV} {vs : List Nat} {xs : List D} (p : D → Bool) (f : D → D) (h1 : src S = .ok ⟨xs, .no⟩ S0) (hv : (vs.all fun v => notOwn (S0.sl[v]?.join)) = true)
    (h : ∀ x ∈ xs, ∃ S1 S2, tg x { S0 with sl := wipeS vs S0.sl } = .ok () S1 ∧ tt S1 = .ok (p x) S2 ∧ (p x = true → ∃ r S3 S4, te S2 = .ok r S3 ∧ settle r S3 = .ok (f x) S4 ∧ ({ S4 with sl := wipeS vs S4.sl } : DS) = { S0 with sl := wipeS vs S0.sl }) ∧ (p x = false → ({ S2 with sl := wipeS vs S2.sl } : DS) = { S0 with sl := wipeS vs S0.sl })) (hl : xs.length ≤ sizeLine) :
    dLc src tg tt te vs S = .ok (.own (.lst ((xs.filter p).map f))) { S0 with sl := backS S0.sl vs (wipeS vs S0.sl) } := by
  have := lcLoop_eq (s := ⟨xs, .no⟩) (S := { S0 with sl := wipeS vs S0.sl }) (tg := tg) (tt := tt) (te := te) (vs := vs) (p := p) (f := f) trivial (xs := xs) (acc := []) h (by simpa using hl)
  unfold dLc
  rw [h1]
  simp only [q_bind_ok]
  rw [if_pos ⟨hv, fun j e => by cases e⟩, this]
  simp [Res.quiet, unlock]
end
/-! ### the defs of bits -/
noncomputable section
def bb_ones : DS → Out := (oSeq (oSet 1 (dConst (.int 0))) (oSeq (oWhile wF (asB (dPure2 (gCmp .Gt) (dVar 0) (dConst (.int 0)))) (oSeq (oAug 0 (gIop .BitAnd) (dPure2 (gBin .Sub) (dVar 0) (dConst (.int 1)))) (oSeq (oAug 1 (gIop .Add) (dConst (.int 1))) oNext))) (oSeq (oRet (dVar 1)) oNext)))
theorem wF_big : (2 : Nat) ^ 60 ≤ wF := by
  unfold wF
  exact Nat.pow_le_pow_right (by decide) (by decide)
theorem ones_eq {m n : Nat} (h : m < 2 ^ n) (hn : n ≤ 60) : fnRun 2 bb_ones [.int m] = .val (.int (pc n m)) := by
  unfold fnRun bb_ones S0
  simp
  refine while_seq (α := Nat × Nat) (fun o => outR o = .val (.int (pc n m))) (fun a => a.1) (fun a S => S = ⟨[some (.val (.int a.1)), some (.val (.int a.2))], []⟩ ∧ a.1 < 2 ^ n ∧ a.2 + pc n a.1 = pc n m) (fun a => decide (0 < a.1)) (m, 0) ⟨rfl, h, by simp⟩ (Nat.lt_of_lt_of_le h (Nat.le_trans (Nat.pow_le_pow_right (by decide) hn) wF_big)) ?_ ?_
  · rintro ⟨a, b⟩ S ⟨rfl, h1, h2⟩
    refine ⟨⟨[some (.val (.int a)), some (.val (.int b))], []⟩, by simp, fun hg => ?_, fun _ => ⟨rfl, h1, h2⟩⟩
    have hg : 0 < a := of_decide_eq_true hg
    obtain ⟨p1, p2⟩ := pc_low n a hg h1
    refine ⟨(a &&& (a - 1), b + 1), _, .inl rfl, ⟨?_, Nat.lt_trans p2 h1, ?_⟩, p2⟩
    · have e : (a : Int) - 1 = ((a - 1 : Nat) : Int) := by omega
      simp [e, bAnd]
    · show b + 1 + pc n (a &&& (a - 1)) = pc n m
      have : b + pc n a = pc n m := h2
      omega
  · rintro ⟨a, b⟩ S ⟨rfl, h1, h2⟩ hg
    have hg : a = 0 := by simpa using hg
    subst hg
    have : b + pc n 0 = pc n m := h2
    rw [pc_zero] at this
    simp
    omega
end
end TW
namespace TW
open PySem PySem.Spec L2 PyProof.Rows
theorem eqX_tup {xs : List D} {e : D} (h : SeqAt.shaped (D.tup xs).py = true) : eqX (.tup xs) e = eqX0 (.tup xs) e := by
  cases xs with
  | nil => rfl
  | cons x xs =>
    cases x with
    | dic ks =>
      have := SeqAt.canLay_of_shaped h
      rw [D.py, D.pys, PyData.canLay0, PyData.canLayAll0, D.py, PyData.canLay0] at this
      cases this
    | _ => rfl
theorem gEq_tup {xs ys : List D} (h1 : SeqAt.shaped (D.tup xs).py = true) (h2 : SeqAt.shaped (D.tup ys).py = true) : gCmp .Eq (.tup xs) (.tup ys) = .val (.bl (PyData.eqv (D.tup xs).py (D.tup ys).py)) := by
  have : eqD (.tup xs) (.tup ys) = some (PyData.eqv (D.tup xs).py (D.tup ys).py) := by
    unfold eqD scalD
    simp only
    rw [if_pos ⟨h1, h2⟩]
  simp only [gCmp, gEq, eqX_tup h1, eqX0, this, oB]
theorem gNe_tup {xs ys : List D} (h1 : SeqAt.shaped (D.tup xs).py = true) (h2 : SeqAt.shaped (D.tup ys).py = true) : gCmp .NotEq (.tup xs) (.tup ys) = .val (.bl (!PyData.eqv (D.tup xs).py (D.tup ys).py)) := by
  have : eqD (.tup xs) (.tup ys) = some (PyData.eqv (D.tup xs).py (D.tup ys).py) := by
    unfold eqD scalD
    simp only
    rw [if_pos ⟨h1, h2⟩]
  simp only [gCmp, gNe, eqX0, this, oB, Option.map_some]
@[simp] theorem q_eq_tup2 {a b c d : Int} : gCmp .Eq (.tup [.int a, .int b]) (.tup [.int c, .int d]) = .val (.bl (decide (a = c) && decide (b = d))) := by
  rw [gEq_tup rfl rfl]
  simp only [D.py, D.pys, PyData.eqv, PyData.eqvAll, Bool.and_true]
  rfl
@[simp] theorem q_ne_tup2 {a b c d : Int} : gCmp .NotEq (.tup [.int a, .int b]) (.tup [.int c, .int d]) = .val (.bl (!(decide (a = c) && decide (b = d)))) := by
  rw [gNe_tup rfl rfl]
  simp only [D.py, D.pys, PyData.eqv, PyData.eqvAll, Bool.and_true]
  rfl
@[simp] theorem q_eq_tup3 {a b c d e f : Int} : gCmp .Eq (.tup [.int a, .int b, .int e]) (.tup [.int c, .int d, .int f]) = .val (.bl (decide (a = c) && (decide (b = d) && decide (e = f)))) := by
  rw [gEq_tup rfl rfl]
  simp only [D.py, D.pys, PyData.eqv, PyData.eqvAll, Bool.and_true]
  rfl
@[simp] theorem q_ne_tup3 {a b c d e f : Int} : gCmp .NotEq (.tup [.int a, .int b, .int e]) (.tup [.int c, .int d, .int f]) = .val (.bl (!(decide (a = c) && (decide (b = d) && decide (e = f))))) := by
  rw [gNe_tup rfl rfl]
  simp only [D.py, D.pys, PyData.eqv, PyData.eqvAll, Bool.and_true]
  rfl
/- subscripts -/
@[simp] theorem q_ix_tup {ds : List D} {i : Int} : gIx (.tup ds) (.int i) = (match atI ds i with
    | some d => .val d
    | none => .stk) := (rfl)
@[simp] theorem q_ix_lst {ds : List D} {i : Int} : gIx (.lst ds) (.int i) = (match atI ds i with
    | some d => .val d
    | none => .stk) := (rfl)
@[simp] theorem q_ix_scr {ds : List D} {i : Int} : gIx (.scr ds) (.int i) = (match atI ds i with
    | some d => .val d
    | none => .stk) := (rfl)
theorem atI_nat {ds : List D} {k : Nat} : atI ds (k : Int) = ds[k]? := by
  unfold atI ixN
  rw [if_pos (by omega)]
  by_cases h : (k : Int) < ds.length
  · rw [if_pos h]
    simp
  · rw [if_neg h]
    simp
    omega
@[simp] theorem q_at0 {d : D} {ds : List D} : atI (d :: ds) 0 = some d := atI_nat (k := 0)
@[simp] theorem q_at1 {d e : D} {ds : List D} : atI (d :: e :: ds) 1 = some e := atI_nat (k := 1)
@[simp] theorem q_at2 {d e f : D} {ds : List D} : atI (d :: e :: f :: ds) 2 = some f := atI_nat (k := 2)
@[simp] theorem q_isi_bool {b : Bool} : gIsi "bool" (.bl b) = .val (.bl true) := (rfl)
@[simp] theorem q_isi_int {b : Int} : gIsi "int" (.int b) = .val (.bl true) := (rfl)
@[simp] theorem q_isi_int2 {b : Int} : gIsi "bool" (.int b) = .val (.bl false) := (rfl)
@[simp] theorem q_isi_lst {b : List D} : gIsi "list" (.lst b) = .val (.bl true) := (rfl)
@[simp] theorem q_isi_tup {b : List D} : gIsi "tuple" (.tup b) = .val (.bl true) := (rfl)
@[simp] theorem q_gLen_lst {ds : List D} : gLen [.lst ds] = .val (.int ds.length) := (rfl)
@[simp] theorem q_gLen_scr {ds : List D} : gLen [.scr ds] = .val (.int ds.length) := (rfl)
@[simp] theorem q_gLen_dic {kvs : List (Key × D)} : gLen [.dic kvs] = .val (.int kvs.length) := (rfl)
@[simp] theorem q_gLen_tup {ds : List D} : gLen [.tup ds] = .val (.int ds.length) := (rfl)
@[simp] theorem q_sl_lst {ds : List D} {lo hi : Option Int} : gSl (.lst ds) lo hi = .own (.lst (cutD ds lo hi)) := (rfl)
@[simp] theorem q_sl_scr {ds : List D} {lo hi : Option Int} : gSl (.scr ds) lo hi = .own (.lst (cutD ds lo hi)) := (rfl)
theorem cut_take {ds : List D} {n : Nat} : cutD ds none (some (n : Int)) = ds.take n := by
  unfold cutD
  rw [HT.sIx_none, HT.sIx_nat, List.drop_zero, Nat.sub_zero]
  by_cases h : n ≤ ds.length
  · rw [Nat.min_eq_left h]
  · rw [Nat.min_eq_right (by omega), List.take_of_length_le (by omega), List.take_of_length_le (by omega)]
theorem inB_nat {n : Nat} (hn : n ≤ 100000) : inB62 (n : Int) = true := by
  unfold inB62
  exact decide_eq_true ⟨by omega, by omega⟩
theorem rg1_eq {n : Nat} (hn : n ≤ 100000) : rg1 [.int (n : Int)] = some (rgD 0 1 n) := by
  simp only [rg1]
  rw [if_pos (inB_nat hn), Int.toNat_natCast]
@[simp] theorem q_range {S : DS} {g : List D → Option (List D)} {f : DS → Res (List RV)} : dRange g f S = (f S).bind fun rs S1 => match (peekAll S1 rs).bind g with
  | some ds => .ok ⟨ds, .no⟩ S1
  | none => .stk := (rfl)
theorem range_of {S S' : DS} {f : DS → Res RV} {n : Nat} (h : f S = .ok (.val (.int n)) S') (hn : n ≤ 100000) : dRange rg1 (dArgs [f]) S = .ok ⟨rgD 0 1 n, .no⟩ S' := by
  have e1 : dArgs [f] S = .ok [.val (.int n)] S' := by simp only [q_args, q_args0, h, q_bind_ok, q_frz_val]
  have e2 : (peekAll S' [.val (.int (n : Int))]).bind rg1 = some (rgD 0 1 n) := by
    have e3 : peekAll S' [.val (.int (n : Int))] = some [.int (n : Int)] := (rfl)
    rw [e3, Option.bind_some]
    exact rg1_eq hn
  unfold dRange
  rw [e1, q_bind_ok, e2]
@[simp] theorem q_opt_int {S : DS} {i : Int} : dOpt (some (dConst (.int i))) S = .ok (some i) S := (rfl)
theorem cut_script {ns : List Int} {n : Nat} : ∃ cs : List Int, cutD (ns.map D.int) none (some (n : Int)) = cs.map D.int ∧ cs.length ≤ n ∧ ∀ z ∈ cs, z ∈ ns :=
  ⟨ns.take n, by rw [cut_take, List.map_take], by simp; omega, fun z hz => List.mem_of_mem_take hz⟩
theorem atI_map {xs : List Int} {i : Int} (h1 : -(xs.length : Int) ≤ i) (h2 : i < xs.length) : ∃ z, z ∈ xs ∧ atI (xs.map D.int) i = some (.int z) := by
  unfold atI ixN
  rw [List.length_map]
  by_cases h : 0 ≤ i
  · rw [if_pos h, if_pos h2]
    have : i.toNat < xs.length := by omega
    exact ⟨xs[i.toNat], List.getElem_mem _, by simp [this]⟩
  · rw [if_neg h, if_pos h1]
    have : (i + xs.length).toNat < xs.length := by omega
    exact ⟨xs[(i + xs.length).toNat], List.getElem_mem _, by simp [this]⟩
def DS.at_ (S : DS) (v : Nat) (d : D) : DS := { S with sl := S.sl.set v (some (.val d)) }
theorem alive_no (its : List D) (S : DS) : Alive ⟨its, .no⟩ S := trivial
theorem lcMap_go {α : Type} {S0 : DS} {v : Nat} {g : α → D} {tt : DS → Res Bool} {te : DS → Res RV} {p : α → Bool} {f : α → D} : ∀ {xs : List α} {acc : List D} (_ : ∀ a ∈ xs, tt (S0.at_ v (g a)) = .ok (p a) (S0.at_ v (g a)) ∧ (p a = true → ∃ r, te (S0.at_ v (g a)) = .ok r (S0.at_ v (g a)) ∧ settle r (S0.at_ v (g a)) = .ok (f a) (S0.at_ v (g a)))) (_ : acc.length + xs.length ≤ sizeLine) {its : List D},
    lcLoop ⟨its, .no⟩ (tgName v) tt te [v] (xs.map g) acc { S0 with sl := S0.sl.set v none } = .ok (acc ++ (xs.filter p).map f) { S0 with sl := S0.sl.set v none }
  | [], acc, h, hl, its => by rw [List.map_nil, lcLoop, if_pos (alive_no _ _)]; simp
  | x :: xs, acc, h, hl, its => by
    obtain ⟨e2, e3⟩ := h x List.mem_cons_self
    have e1 : tgName v (g x) { S0 with sl := S0.sl.set v none } = .ok () (S0.at_ v (g x)) := by
      unfold tgName DS.at_
      simp
    rw [List.map_cons, lcLoop, if_pos (alive_no _ _), e1, Res.bind, e2, Res.bind]
    rw [List.length_cons] at hl
    have ew : ({ S0.at_ v (g x) with sl := wipeS [v] (S0.at_ v (g x)).sl } : DS) = { S0 with sl := S0.sl.set v none } := by
      unfold DS.at_ wipeS wipeS
      simp
    cases hp : p x with
    | true =>
      obtain ⟨r, e5, e6⟩ := e3 hp
      rw [if_pos rfl, e5, Res.bind, e6, Res.bind, if_pos (by omega), ew, lcMap_go (fun y hy => h y (List.mem_cons_of_mem _ hy)) (by rw [List.length_append, List.length_singleton]; omega), List.filter_cons_of_pos hp]
      simp
    | false =>
      rw [if_neg (by simp), ew, lcMap_go (fun y hy => h y (List.mem_cons_of_mem _ hy)) (by omega), List.filter_cons_of_neg (by simp [hp])]
theorem lc_map {α : Type} {S S0 : DS} {v : Nat} {o : Option Sl} {src : DS → Res Src} {tt : DS → Res Bool} {te : DS → Res RV} (xs : List α) (g : α → D) (p : α → Bool) (f : α → D) (hs : src S = .ok ⟨xs.map g, .no⟩ S0) (hv : S0.sl[v]? = some o) (hn : notOwn o = true)
    (h : ∀ a ∈ xs, tt (S0.at_ v (g a)) = .ok (p a) (S0.at_ v (g a)) ∧ (p a = true → ∃ r, te (S0.at_ v (g a)) = .ok r (S0.at_ v (g a)) ∧ settle r (S0.at_ v (g a)) = .ok (f a) (S0.at_ v (g a)))) (hl : xs.length ≤ sizeLine) :
    dLc src (tgName v) tt te [v] S = .ok (.own (.lst ((xs.filter p).map f))) S0 := by
  have hg := lcMap_go (acc := []) (its := xs.map g) h (by simpa using hl)
  unfold dLc
  rw [hs, q_bind_ok, if_pos ⟨by simp [hv, hn], fun j e => by cases e⟩]
  have : wipeS [v] S0.sl = S0.sl.set v none := rfl
  rw [this, hg]
  have hb : backS S0.sl [v] (S0.sl.set v none) = S0.sl := by
    unfold backS backS
    obtain ⟨hlt, he⟩ := List.getElem?_eq_some_iff.mp hv
    rw [List.set_set, hv]
    simp only [Option.join_some]
    rw [← he, List.set_getElem_self]
  simp only [Res.quiet, q_bind_ok, unlock, List.nil_append]
  rw [hb]
theorem rgD_eq {lo c : Int} {n : Nat} : rgD lo c n = (List.range n).map fun (k : Nat) => D.int (lo + (k : Int) * c) := rfl
@[simp] theorem q_mut {S : DS} {sel : Cont → Bool} {g : MutF} {fr : DS → Res RV} {fa : DS → Res (List D)} : dMut sel g fr fa S = (fr S).bind fun r S1 => match contAt r S1 with
  | some c0 => if sel c0 = true then (fa S1).bind fun ds S2 => (match contAt r S2 with
    | some c => if freeAt r S2 = true then (match g c ds with
      | some (c', d) => .ok (.val d) (putAt r c' S2)
      | none => .stk) else .stk
    | none => .stk) else .stk
  | none => .stk := (rfl)
@[simp] theorem q_contAt {S : DS} {i : Nat} : contAt (.plc i) S = (match S.sl[i]? with
    | some (some (.own c _)) => some c
    | _ => none) := by
  first
  | (simp only [contAt]; done)
  | (simp only [contAt]
     generalize S.sl[i]? = x
     rcases x with _ | _ | s
     · rfl
     · rfl
     · cases s <;> rfl)
@[simp] theorem q_freeAt {S : DS} {i : Nat} : freeAt (.plc i) S = (match S.sl[i]? with
    | some (some (.own _ false)) => true
    | _ => false) := by
  first
  | (simp only [freeAt]; done)
  | (simp only [freeAt]
     generalize S.sl[i]? = x
     rcases x with _ | _ | s
     · rfl
     · rfl
     · cases s with
       | own c lk => cases lk <;> rfl
       | _ => rfl)
@[simp] theorem q_putAt {S : DS} {i : Nat} {c : Cont} : putAt (.plc i) c S = { S with sl := S.sl.set i (some (.own c false)) } := (rfl)
@[simp] theorem q_isLst {ds : List D} : isLst (.lst ds) = true := rfl
@[simp] theorem q_mAppend {ds : List D} {d : D} : mAppend (.lst ds) [d] = if ds.length < sizeLine then some (.lst (ds ++ [d]), .non) else none := (rfl)
theorem sz_lit {n : Nat} (h : n ≤ 1000) : n ≤ sizeLine := by
  unfold sizeLine
  omega
@[simp] theorem sz1 : 1 ≤ sizeLine := sz_lit (by decide)
@[simp] theorem sz2 : 2 ≤ sizeLine := sz_lit (by decide)
@[simp] theorem sz3 : 3 ≤ sizeLine := sz_lit (by decide)
@[simp] theorem sz4 : 4 ≤ sizeLine := sz_lit (by decide)
@[simp] theorem sz5 : 5 ≤ sizeLine := sz_lit (by decide)
@[simp] theorem sz6 : 6 ≤ sizeLine := sz_lit (by decide)
@[simp] theorem sz7 : 7 ≤ sizeLine := sz_lit (by decide)
@[simp] theorem sz8 : 8 ≤ sizeLine := sz_lit (by decide)
@[simp] theorem q_add_lst {a b : List D} : gBin .Add (.lst a) (.lst b) = if a.length + b.length ≤ sizeLine then .own (.lst (a ++ b)) else .stk := (rfl)
/-! ### rows of the laws -/
abbrev rowD (s x z : Nat) : D := .tup [.int s, .int x, .int z]
noncomputable section
def bb_law_row : DS → Out := (oSeq (oSet 2 (dPure2 (gBin .Mod) (dVar 0) (dPure2 (gBin .LShift) (dConst (.int 1)) (dVar 1)))) (oSeq (oSet 3 (dPure2 (gBin .Mod) (dPure2 (gBin .FloorDiv) (dVar 0) (dPure2 (gBin .LShift) (dConst (.int 1)) (dVar 1))) (dPure2 (gBin .LShift) (dConst (.int 1)) (dVar 1)))) (oSeq (oIf (asB (dPure2 (gCmp .Eq) (dPure2 (gBin .Mod) (dVar 0) (dConst (.int 3))) (dConst (.int 0)))) (oSeq (oSet 2 (dPure2 (gBin .BitAnd) (dVar 2) (dPure2 (gBin .Mod) (dPure2 (gBin .FloorDiv) (dVar 0) (dConst (.int 7))) (dPure2 (gBin .LShift) (dConst (.int 1)) (dVar 1))))) (oSeq (oSet 3 (dPure2 (gBin .BitAnd) (dVar 3) (dPure2 (gBin .Mod) (dPure2 (gBin .FloorDiv) (dVar 0) (dConst (.int 11))) (dPure2 (gBin .LShift) (dConst (.int 1)) (dVar 1))))) oNext)) oNext) (oSeq (oRet (dTup (dVals [(dPure2 (gBin .Mod) (dPure2 (gBin .FloorDiv) (dVar 0) (dConst (.int 5))) (dConst (.int 2))), (dVar 2), (dVar 3)]))) oNext))))
theorem pow_nat (n : Nat) : (2 : Int) ^ n = ((2 ^ n : Nat) : Int) := by simp
theorem mod_nat {a : Int} {b : Nat} (h : 0 < b) : ∃ m : Nat, a % (b : Int) = (m : Int) ∧ m < b := ⟨(a % (b : Int)).toNat, by have := Int.emod_nonneg a (show (b : Int) ≠ 0 by omega); omega, by have := Int.emod_lt_of_pos a (show 0 < (b : Int) by omega); have := Int.emod_nonneg a (show (b : Int) ≠ 0 by omega); omega⟩
theorem mod_pow {a : Int} (n : Nat) : ∃ m : Nat, a % 2 ^ n = (m : Int) ∧ m < 2 ^ n := by
  rw [pow_nat]
  exact mod_nat (Nat.two_pow_pos n)
theorem two_lt {n : Nat} (h : n ≤ 100) : 2 ^ n < 2 ^ 200 := Nat.pow_lt_pow_right (by decide) (by omega)
theorem mod_p {a : Int} {n : Nat} : gBin .Mod (.int a) (.int (2 ^ n)) = .val (.int (a % 2 ^ n)) := by
  rw [pow_nat]
  exact q_mod (by have := Nat.two_pow_pos n; omega)
theorem div_p {a : Int} {n : Nat} (h : n ≤ 100) : gBin .FloorDiv (.int a) (.int (2 ^ n)) = .val (.int (a / 2 ^ n)) := by
  rw [pow_nat]
  exact q_div (by have := Nat.two_pow_pos n; omega) (by have := two_lt h; omega)
theorem shl_p {n : Nat} (h : n ≤ 100) : gBin .LShift (.int 1) (.int (n : Int)) = .val (.int (2 ^ n)) := by
  rw [q_shl1 (by omega) (by omega), Int.toNat_natCast]
theorem shr_p {a : Int} {n : Nat} : gBin .RShift (.int a) (.int (n : Int)) = .val (.int (a / 2 ^ n)) := by
  rw [q_shr (by omega), Int.toNat_natCast]
theorem law_row_eq {c : Int} {n : Nat} (hn : n ≤ 100) : ∃ s x z : Nat, s < 2 ∧ x < 2 ^ n ∧ z < 2 ^ n ∧ fnRun 4 bb_law_row [.int c, .int n] = .val (rowD s x z) := by
  obtain ⟨x, e1, h1⟩ := mod_pow (a := c) n
  obtain ⟨z, e2, h2⟩ := mod_pow (a := c / 2 ^ n) n
  obtain ⟨x', e3, h3⟩ := mod_pow (a := c / 7) n
  obtain ⟨z', e4, h4⟩ := mod_pow (a := c / 11) n
  obtain ⟨s, e5, h5⟩ := mod_nat (a := c / 5) (show 0 < 2 by decide)
  have e5 : c / 5 % 2 = (s : Int) := e5
  by_cases h : c % 3 = 0
  · refine ⟨s, x &&& x', z &&& z', h5, Nat.lt_of_le_of_lt Nat.and_le_left h1, Nat.lt_of_le_of_lt Nat.and_le_left h2, ?_⟩
    unfold fnRun bb_law_row S0
    simp [shl_p hn, mod_p, div_p hn, q_mod, q_div, h, e1, e2, e3, e4, e5, bAnd, sizeLine]
  · refine ⟨s, x, z, h5, h1, h2, ?_⟩
    unfold fnRun bb_law_row S0
    simp [shl_p hn, mod_p, div_p hn, q_mod, q_div, h, e1, e2, e3, e4, e5, bAnd, sizeLine]
end
end TW
/-! TM1: rows of signs, in plain numbers. -/
namespace TW
structure Rw where
  s : Nat
  x : Nat
  z : Nat
deriving DecidableEq
structure Rw.Ok (n : Nat) (r : Rw) : Prop where
  s : r.s < 2
  x : r.x < 2 ^ n
  z : r.z < 2 ^ n
/-- counts of wires that tell whether two go beside one another: even -/
def bp (n : Nat) (a b : Rw) : Nat := pc n (a.x &&& b.z) + pc n (a.z &&& b.x)
def bes (n : Nat) (a b : Rw) : Bool := decide (bp n a b % 2 = 0)
/-- the quarter turns of a row where it starts from b -/
def ph (n : Nat) (r : Rw) (b : Nat) : Nat := 2 * r.s + 2 * pc n (r.z &&& b) + pc n (r.x &&& r.z)
def mulS (n : Nat) (a b : Rw) : Nat := if ((pc n (a.x &&& a.z) : Int) + pc n (b.x &&& b.z) - pc n ((a.x ^^^ b.x) &&& (a.z ^^^ b.z)) + 2 * pc n (a.z &&& b.x)) % 4 = 2 then (a.s ^^^ b.s) ^^^ 1 else a.s ^^^ b.s
def mul (n : Nat) (a b : Rw) : Rw := ⟨mulS n a b, a.x ^^^ b.x, a.z ^^^ b.z⟩
theorem bt01 (m k : Nat) : bt m k = 0 ∨ bt m k = 1 := by have := bt_le m k; omega
theorem sm_le {f g : Nat → Nat} : ∀ {n : Nat}, (∀ k, k < n → f k ≤ g k) → sm n f ≤ sm n g
  | 0, _ => Nat.le_refl _
  | n + 1, h => by
    have h1 := sm_le (n := n) fun k hk => h k (by omega)
    have h2 := h n (by omega)
    show sm n f + f n ≤ sm n g + g n
    omega
theorem pc_le (n m : Nat) : pc n m ≤ n := by
  have := sm_le (n := n) (f := bt m) (g := fun _ => 1) fun k _ => bt_le m k
  have h : ∀ n, sm n (fun _ => 1) = n := fun n => by
    induction n with
    | zero => rfl
    | succ n ih => rw [sm, ih]
  rw [h] at this
  exact this
theorem pc_comm {n a b : Nat} : pc n (a &&& b) = pc n (b &&& a) := by rw [Nat.and_comm]
/-- xor counts as a sum without what both have -/
theorem pc_xor (n a b : Nat) : pc n (a ^^^ b) + 2 * pc n (a &&& b) = pc n a + pc n b := by
  unfold pc
  rw [← sm_mul, ← sm_add, ← sm_add]
  refine sm_congr fun k _ => ?_
  rw [bt_xor, bt_and]
  rcases bt01 a k with h | h <;> rcases bt01 b k with h' | h' <;> rw [h, h']
theorem pc_xor2 (n a b : Nat) : pc n (a ^^^ b) % 2 = (pc n a + pc n b) % 2 := by
  have := pc_xor n a b
  omega
theorem xor_lt2 {a b : Nat} (h : a < 2) (h' : b < 2) : a ^^^ b < 2 := Nat.xor_lt_two_pow (n := 1) h h'
theorem xor_s {a b : Nat} (h : a < 2) (h' : b < 2) : a ^^^ b = (a + b) % 2 := by
  rcases (show a = 0 ∨ a = 1 by omega) with h | h <;> rcases (show b = 0 ∨ b = 1 by omega) with h' | h' <;> subst h <;> subst h' <;> rfl
theorem and_xor {a b c : Nat} : a &&& (b ^^^ c) = (a &&& b) ^^^ (a &&& c) := Nat.and_xor_distrib_left
theorem xor_and {a b c : Nat} : (a ^^^ b) &&& c = (a &&& c) ^^^ (b &&& c) := Nat.and_xor_distrib_right
theorem bp_comm {n : Nat} {a b : Rw} : bp n a b = bp n b a := by
  unfold bp
  rw [pc_comm (a := a.x), pc_comm (a := a.z), Nat.add_comm]
theorem bes_comm {n : Nat} {a b : Rw} : bes n a b = bes n b a := by
  unfold bes
  rw [bp_comm]
theorem bes_iff {n : Nat} {a b : Rw} : bes n a b = true ↔ bp n a b % 2 = 0 := by simp [bes]
theorem bp_self {n : Nat} {a : Rw} : bp n a a % 2 = 0 := by
  unfold bp
  rw [pc_comm (a := a.z)]
  omega
/-- mod 4 what the counts of letters y come to -/
theorem y_xor (n a b c d : Nat) : (pc n ((a ^^^ b) &&& (c ^^^ d)) + pc n (a &&& c) + pc n (b &&& d)) % 2 = (pc n (a &&& d) + pc n (b &&& c)) % 2 := by
  rw [xor_and, and_xor, and_xor]
  have h1 := pc_xor2 n (a &&& c ^^^ a &&& d) (b &&& c ^^^ b &&& d)
  have h2 := pc_xor2 n (a &&& c) (a &&& d)
  have h3 := pc_xor2 n (b &&& c) (b &&& d)
  omega
theorem mulS_lt {n : Nat} {a b : Rw} (ha : a.s < 2) (hb : b.s < 2) : mulS n a b < 2 := by
  unfold mulS
  have := xor_lt2 ha hb
  split
  · exact xor_lt2 this (by decide)
  · exact this
theorem mul_ok {n : Nat} {a b : Rw} (ha : a.Ok n) (hb : b.Ok n) : (mul n a b).Ok n := ⟨mulS_lt ha.s hb.s, Nat.xor_lt_two_pow ha.x hb.x, Nat.xor_lt_two_pow ha.z hb.z⟩
/-- what the product does: first a, then b -/
theorem mul_q {n : Nat} {a b : Rw} (ha : a.s < 2) (hb : b.s < 2) (h : bp n a b % 2 = 0) : (2 * (mul n a b).s + pc n ((mul n a b).x &&& (mul n a b).z)) % 4 = (2 * a.s + pc n (a.x &&& a.z) + (2 * b.s + pc n (b.x &&& b.z)) + 2 * pc n (b.z &&& a.x)) % 4 := by
  have e := y_xor n a.x b.x a.z b.z
  have h : (pc n (a.x &&& b.z) + pc n (a.z &&& b.x)) % 2 = 0 := h
  have c1 : pc n (b.x &&& a.z) = pc n (a.z &&& b.x) := pc_comm
  have c2 : pc n (b.z &&& a.x) = pc n (a.x &&& b.z) := pc_comm
  show (2 * mulS n a b + pc n ((a.x ^^^ b.x) &&& (a.z ^^^ b.z))) % 4 = _
  unfold mulS
  rw [c2]
  have hx := xor_s ha hb
  have hy : (a.s ^^^ b.s) ^^^ 1 = ((a.s ^^^ b.s) + 1) % 2 := xor_s (xor_lt2 ha hb) (by decide)
  split <;> omega
theorem ph_q {n : Nat} {r : Rw} {b : Nat} : ph n r b = 2 * r.s + pc n (r.x &&& r.z) + 2 * pc n (r.z &&& b) := by unfold ph; omega
theorem mul_ph {n : Nat} {a b : Rw} (ha : a.s < 2) (hb : b.s < 2) (h : bp n a b % 2 = 0) (c : Nat) : ph n (mul n a b) c % 4 = (ph n a c + ph n b (c ^^^ a.x)) % 4 := by
  have e := mul_q ha hb h
  rw [ph_q, ph_q, ph_q]
  have h1 : (mul n a b).z &&& c = (a.z &&& c) ^^^ (b.z &&& c) := xor_and
  have h2 := pc_xor2 n (a.z &&& c) (b.z &&& c)
  have h3 := pc_xor2 n (b.z &&& c) (b.z &&& a.x)
  rw [h1, and_xor (a := b.z)]
  omega
theorem Rw.ext' {a b : Rw} (h1 : a.s = b.s) (h2 : a.x = b.x) (h3 : a.z = b.z) : a = b := by
  cases a; cases b; simp_all
theorem ph_ext {n : Nat} {a b : Rw} (ha : a.s < 2) (hb : b.s < 2) (h2 : a.x = b.x) (h3 : a.z = b.z) (c : Nat) (h : ph n a c % 4 = ph n b c % 4) : a = b := by
  refine Rw.ext' ?_ h2 h3
  unfold ph at h
  rw [h2, h3] at h
  omega
theorem mul_comm' {n : Nat} {a b : Rw} (ha : a.s < 2) (hb : b.s < 2) (h : bp n a b % 2 = 0) : mul n a b = mul n b a := by
  refine ph_ext (n := n) (mulS_lt ha hb) (mulS_lt hb ha) (Nat.xor_comm _ _) (Nat.xor_comm _ _) 0 ?_
  rw [mul_ph ha hb h, mul_ph hb ha (by rw [bp_comm]; exact h)]
  have h : (pc n (a.x &&& b.z) + pc n (a.z &&& b.x)) % 2 = 0 := h
  have c1 : pc n (b.x &&& a.z) = pc n (a.z &&& b.x) := pc_comm
  have c2 : pc n (b.z &&& a.x) = pc n (a.x &&& b.z) := pc_comm
  rw [ph_q, ph_q, ph_q, ph_q]
  simp only [Nat.zero_xor, Nat.and_zero, pc_zero]
  omega
def one : Rw := ⟨0, 0, 0⟩
theorem one_ok (n : Nat) : one.Ok n := ⟨by decide, Nat.two_pow_pos n, Nat.two_pow_pos n⟩
theorem mul_self {n : Nat} {a : Rw} (ha : a.s < 2) : mul n a a = one := by
  refine Rw.ext' ?_ (Nat.xor_self _) (Nat.xor_self _)
  show mulS n a a = 0
  unfold mulS
  rw [Nat.xor_self, Nat.xor_self, Nat.xor_self, Nat.zero_and, pc_zero, pc_comm (a := a.z)]
  rw [if_neg (by omega)]
theorem mul_one' {n : Nat} {a : Rw} : mul n a one = a := by
  refine Rw.ext' ?_ (Nat.xor_zero _) (Nat.xor_zero _)
  show mulS n a one = a.s
  unfold mulS one
  simp only [Nat.xor_zero, Nat.and_zero, pc_zero]
  rw [if_neg (by omega)]
theorem bp_mul {n : Nat} {a b c : Rw} : bp n (mul n a b) c % 2 = (bp n a c + bp n b c) % 2 := by
  unfold bp mul
  dsimp only
  rw [xor_and, xor_and]
  have h1 := pc_xor2 n (a.x &&& c.z) (b.x &&& c.z)
  have h2 := pc_xor2 n (a.z &&& c.x) (b.z &&& c.x)
  omega
theorem mul_assoc' {n : Nat} {a b c : Rw} (ha : a.s < 2) (hb : b.s < 2) (hc : c.s < 2) (h1 : bp n a b % 2 = 0) (h2 : bp n a c % 2 = 0) (h3 : bp n b c % 2 = 0) : mul n (mul n a b) c = mul n a (mul n b c) := by
  have e1 : bp n (mul n a b) c % 2 = 0 := by rw [bp_mul]; omega
  have e2 : bp n a (mul n b c) % 2 = 0 := by
    rw [bp_comm, bp_mul, bp_comm (a := b), bp_comm (a := c)]
    omega
  refine ph_ext (n := n) (mulS_lt (mulS_lt ha hb) hc) (mulS_lt ha (mulS_lt hb hc)) (Nat.xor_assoc _ _ _) (Nat.xor_assoc _ _ _) 0 ?_
  rw [mul_ph (mulS_lt ha hb) hc e1, mul_ph ha (mulS_lt hb hc) e2, Nat.add_mod, mul_ph ha hb h1, ← Nat.add_mod, Nat.add_mod (ph n a 0), mul_ph hb hc h3, ← Nat.add_mod]
  show (ph n a 0 + ph n b (0 ^^^ a.x) + ph n c (0 ^^^ (a.x ^^^ b.x))) % 4 = (ph n a 0 + (ph n b (0 ^^^ a.x) + ph n c (0 ^^^ a.x ^^^ b.x))) % 4
  rw [Nat.xor_assoc]
  omega
end TW
/-! TM2: deeds on rows, and on wholes as functions. -/
namespace TW
inductive Dd where
  | over (k : Nat) | quarter (k : Nat) | back (k : Nat) | both (k : Nat) | whr (j k : Nat) | swap (j k : Nat)
deriving DecidableEq
def Dd.Ok (n : Nat) : Dd → Prop
  | .over k => k < n
  | .quarter k => k < n
  | .back k => k < n
  | .both k => k < n
  | .whr j k => j < n ∧ k < n ∧ j ≠ k
  | .swap j k => j < n ∧ k < n ∧ j ≠ k
def exch (j k m : Nat) : Nat := if bt m j = bt m k then m else m ^^^ 2 ^ j ^^^ 2 ^ k
def dRow : Dd → Rw → Rw
  | .over k, r => ⟨r.s ^^^ bt r.z k, r.x, r.z⟩
  | .quarter k, r => ⟨r.s ^^^ (bt r.x k &&& bt r.z k), r.x, r.z ^^^ bt r.x k * 2 ^ k⟩
  | .back k, r => ⟨r.s ^^^ (bt r.x k &&& (1 ^^^ bt r.z k)), r.x, r.z ^^^ bt r.x k * 2 ^ k⟩
  | .both k, r => ⟨r.s ^^^ (bt r.x k &&& bt r.z k), r.x ^^^ (bt r.x k ^^^ bt r.z k) * 2 ^ k, r.z ^^^ (bt r.x k ^^^ bt r.z k) * 2 ^ k⟩
  | .whr j k, r => ⟨if bt r.x j &&& bt r.z k = 1 ∧ bt r.x k = bt r.z j then r.s ^^^ 1 else r.s, r.x ^^^ bt r.x j * 2 ^ k, r.z ^^^ bt r.z k * 2 ^ j⟩
  | .swap j k, r => ⟨r.s, exch j k r.x, exch j k r.z⟩
/-! ### counts with one or two wires apart -/
def pcO (n k m : Nat) : Nat := sm n fun j => if j = k then 0 else bt m j
def pcT (n j k m : Nat) : Nat := sm n fun i => if i = j then 0 else if i = k then 0 else bt m i
theorem sm_one {n k v : Nat} (h : k < n) : sm n (fun j => if j = k then v else 0) = v := by
  induction n with
  | zero => omega
  | succ n ih =>
    rw [sm]
    by_cases e : k = n
    · subst e
      rw [if_pos rfl, sm_congr (g := fun _ => 0) (fun j hj => if_neg (by omega)), sm_zero]
      omega
    · rw [if_neg (by omega), ih (by omega)]
      rfl
theorem pc_O {n k : Nat} (h : k < n) (m : Nat) : pc n m = bt m k + pcO n k m := by
  rw [← sm_one (v := bt m k) h]
  unfold pc pcO
  rw [← sm_add]
  refine sm_congr fun j _ => ?_
  by_cases e : j = k
  · subst e
    rw [if_pos rfl, if_pos rfl]
    rfl
  · rw [if_neg e, if_neg e]
    omega
theorem pc_T {n j k : Nat} (h : j < n) (h' : k < n) (ne : j ≠ k) (m : Nat) : pc n m = bt m j + bt m k + pcT n j k m := by
  rw [pc_O h, Nat.add_assoc]
  congr 1
  rw [← sm_one (v := bt m k) h']
  unfold pcO pcT
  rw [← sm_add]
  refine sm_congr fun i _ => ?_
  by_cases e : i = k
  · subst e
    rw [if_pos rfl, if_neg (fun q => ne q.symm), if_pos rfl]
    split <;> rfl
  · rw [if_neg e, if_neg e]
    split <;> omega
theorem pcO_congr {n k m m' : Nat} (h : ∀ i, i ≠ k → bt m i = bt m' i) : pcO n k m = pcO n k m' := sm_congr fun i _ => by
  split
  · rfl
  · rename_i q
    exact h i q
theorem pcT_congr {n j k m m' : Nat} (h : ∀ i, i ≠ j → i ≠ k → bt m i = bt m' i) : pcT n j k m = pcT n j k m' := sm_congr fun i _ => by
  split
  · rfl
  · split
    · rfl
    · rename_i q q'
      exact h i q q'
theorem bt_pow {i k : Nat} : bt (2 ^ k) i = if i = k then 1 else 0 := by
  rw [bt_tb, Nat.testBit_two_pow]
  by_cases h : i = k
  · subst h
    simp
  · rw [if_neg h, if_neg (by simp; omega)]
theorem bt_vpow {v i k : Nat} (h : v ≤ 1) : bt (v * 2 ^ k) i = if i = k then v else 0 := by
  rcases (show v = 0 ∨ v = 1 by omega) with e | e
  · subst e
    rw [Nat.zero_mul]
    split <;> simp [bt]
  · subst e
    rw [Nat.one_mul, bt_pow]
theorem bt_flip {m v i k : Nat} (h : v ≤ 1) : bt (m ^^^ v * 2 ^ k) i = if i = k then (bt m k + v) % 2 else bt m i := by
  rw [bt_xor, bt_vpow h]
  have := bt_le m i
  split
  · rename_i e
    subst e
    rfl
  · omega
theorem bt_flip1 {m i k : Nat} : bt (m ^^^ 2 ^ k) i = if i = k then (bt m k + 1) % 2 else bt m i := by
  have := bt_flip (m := m) (v := 1) (i := i) (k := k) (by omega)
  rwa [Nat.one_mul] at this
theorem bt_exch {j k m i : Nat} : bt (exch j k m) i = if i = j then bt m k else if i = k then bt m j else bt m i := by
  unfold exch
  have h1 := bt_le m j
  have h2 := bt_le m k
  by_cases e : bt m j = bt m k
  · rw [if_pos e]
    split
    · rename_i q; subst q; exact e
    · split
      · rename_i q; subst q; exact e.symm
      · rfl
  · rw [if_neg e]
    have ne : j ≠ k := fun q => e (by rw [q])
    rw [bt_flip1, bt_flip1, bt_flip1]
    by_cases q : i = j
    · subst q
      rw [if_neg ne, if_pos rfl, if_pos rfl]
      omega
    · rw [if_neg q, if_neg q]
      by_cases q' : i = k
      · rw [if_pos q', if_pos q', if_neg (fun z => ne z.symm)]
        omega
      · rw [if_neg q', if_neg q']
theorem bt_ext {m m' : Nat} (h : ∀ i, bt m i = bt m' i) : m = m' := by
  refine Nat.eq_of_testBit_eq fun i => ?_
  have := h i
  rw [bt_tb, bt_tb] at this
  cases h1 : m.testBit i <;> cases h2 : m'.testBit i <;> simp_all
theorem and01 {a b : Nat} (ha : a ≤ 1) (hb : b ≤ 1) : a &&& b = a * b := by
  rcases (show a = 0 ∨ a = 1 by omega) with h | h <;> rcases (show b = 0 ∨ b = 1 by omega) with h' | h' <;> subst h <;> subst h' <;> rfl
theorem xor01 {a b : Nat} (ha : a ≤ 1) (hb : b ≤ 1) : a ^^^ b = (a + b) % 2 := by
  rcases (show a = 0 ∨ a = 1 by omega) with h | h <;> rcases (show b = 0 ∨ b = 1 by omega) with h' | h' <;> subst h <;> subst h' <;> rfl
theorem pow_lt {k n : Nat} (h : k < n) : 2 ^ k < 2 ^ n := Nat.pow_lt_pow_right (by decide) h
theorem vpow_lt {v k n : Nat} (hv : v ≤ 1) (h : k < n) : v * 2 ^ k < 2 ^ n := by
  have := pow_lt h
  rcases (show v = 0 ∨ v = 1 by omega) with e | e <;> subst e
  · rw [Nat.zero_mul]
    exact Nat.two_pow_pos n
  · rwa [Nat.one_mul]
theorem exch_lt {j k m n : Nat} (hj : j < n) (hk : k < n) (h : m < 2 ^ n) : exch j k m < 2 ^ n := by
  unfold exch
  split
  · exact h
  · exact Nat.xor_lt_two_pow (Nat.xor_lt_two_pow h (pow_lt hj)) (pow_lt hk)
theorem dRow_ok {n : Nat} {d : Dd} {r : Rw} (hd : d.Ok n) (hr : r.Ok n) : (dRow d r).Ok n := by
  have h01 : ∀ {v : Nat}, v ≤ 1 → r.s ^^^ v < 2 := fun h => xor_lt2 hr.s (by omega)
  cases d with
  | over k => exact ⟨h01 (bt_le _ _), hr.x, hr.z⟩
  | quarter k => exact ⟨h01 (Nat.le_trans Nat.and_le_left (bt_le _ _)), hr.x, Nat.xor_lt_two_pow hr.z (vpow_lt (bt_le _ _) hd)⟩
  | back k => exact ⟨h01 (Nat.le_trans Nat.and_le_left (bt_le _ _)), hr.x, Nat.xor_lt_two_pow hr.z (vpow_lt (bt_le _ _) hd)⟩
  | both k =>
    have : bt r.x k ^^^ bt r.z k ≤ 1 := by rw [xor01 (bt_le _ _) (bt_le _ _)]; omega
    exact ⟨h01 (Nat.le_trans Nat.and_le_left (bt_le _ _)), Nat.xor_lt_two_pow hr.x (vpow_lt this hd), Nat.xor_lt_two_pow hr.z (vpow_lt this hd)⟩
  | whr j k =>
    obtain ⟨h1, h2, _⟩ := hd
    refine ⟨?_, Nat.xor_lt_two_pow hr.x (vpow_lt (bt_le _ _) h2), Nat.xor_lt_two_pow hr.z (vpow_lt (bt_le _ _) h1)⟩
    show (if _ then _ else _) < 2
    split
    · exact h01 (Nat.le_refl 1)
    · exact hr.s
  | swap j k =>
    obtain ⟨h1, h2, _⟩ := hd
    exact ⟨hr.s, exch_lt h1 h2 hr.x, exch_lt h1 h2 hr.z⟩

/-! ### numbers of two parts, wholes as functions -/
abbrev GI := Int × Int
def ga (a b : GI) : GI := (a.1 + b.1, a.2 + b.2)
def gn (a : GI) : GI := (-a.1, -a.2)
def rot (q : Nat) (g : GI) : GI := if q % 4 = 0 then g else if q % 4 = 1 then (-g.2, g.1) else if q % 4 = 2 then (-g.1, -g.2) else (g.2, -g.1)
theorem rot_mod {q q' : Nat} (h : q % 4 = q' % 4) (g : GI) : rot q g = rot q' g := by
  unfold rot
  rw [h]
theorem q4 (q : Nat) : q % 4 = 0 ∨ q % 4 = 1 ∨ q % 4 = 2 ∨ q % 4 = 3 := by omega
theorem rot_add {a b : Nat} {g : GI} : rot a (rot b g) = rot (a + b) g := by
  have e : rot (a + b) g = rot (a % 4 + b % 4) g := rot_mod (by omega) g
  have e1 : rot a (rot b g) = rot (a % 4) (rot (b % 4) g) := by rw [rot_mod (q := a) (q' := a % 4) (by omega), rot_mod (q := b) (q' := b % 4) (by omega)]
  rw [e, e1]
  rcases q4 a with h | h | h | h <;> rcases q4 b with h' | h' | h' | h' <;> rw [h, h'] <;> simp [rot]
theorem rot_ga {q : Nat} {g h : GI} : rot q (ga g h) = ga (rot q g) (rot q h) := by
  unfold rot ga
  split
  · rfl
  · split
    · simp; omega
    · split <;> simp <;> omega
theorem rot_gn {q : Nat} {g : GI} : rot q (gn g) = gn (rot q g) := by
  unfold rot gn
  split
  · rfl
  · split
    · simp
    · split <;> simp
theorem rot_two {g : GI} : rot 2 g = gn g := rfl
theorem rot_zero {g : GI} : rot 0 g = g := rfl
theorem gn_gn {g : GI} : gn (gn g) = g := by simp [gn]
theorem ga_comm {g h : GI} : ga g h = ga h g := by unfold ga; rw [Int.add_comm, Int.add_comm g.2]
theorem ga_assoc {a b c : GI} : ga (ga a b) c = ga a (ga b c) := by unfold ga; simp; omega
abbrev Wh := Nat → GI
def actF (n : Nat) (r : Rw) (ψ : Wh) : Wh := fun b => rot (ph n r (b ^^^ r.x)) (ψ (b ^^^ r.x))
def deedF : Dd → Wh → Wh
  | .over k, ψ => fun b => ψ (b ^^^ 2 ^ k)
  | .quarter k, ψ => fun b => if bt b k = 1 then rot 1 (ψ b) else ψ b
  | .back k, ψ => fun b => if bt b k = 1 then rot 3 (ψ b) else ψ b
  | .both k, ψ => fun b => if bt b k = 1 then ga (ψ (b ^^^ 2 ^ k)) (gn (ψ b)) else ga (ψ b) (ψ (b ^^^ 2 ^ k))
  | .whr j k, ψ => fun b => ψ (b ^^^ bt b j * 2 ^ k)
  | .swap j k, ψ => fun b => ψ (exch j k b)
/-- phases by the bits at one wire -/
theorem ph_O {n k : Nat} (h : k < n) (r : Rw) (b : Nat) : ph n r b = 2 * r.s + 2 * (bt r.z k * bt b k + pcO n k (r.z &&& b)) + (bt r.x k * bt r.z k + pcO n k (r.x &&& r.z)) := by
  unfold ph
  rw [pc_O h, pc_O h (r.x &&& r.z), bt_and, bt_and]
theorem ph_T {n j k : Nat} (h : j < n) (h' : k < n) (ne : j ≠ k) (r : Rw) (b : Nat) : ph n r b = 2 * r.s + 2 * (bt r.z j * bt b j + bt r.z k * bt b k + pcT n j k (r.z &&& b)) + (bt r.x j * bt r.z j + bt r.x k * bt r.z k + pcT n j k (r.x &&& r.z)) := by
  unfold ph
  rw [pc_T h h' ne, pc_T h h' ne (r.x &&& r.z), bt_and, bt_and, bt_and, bt_and]
theorem pcO_and {n k a a' b b' : Nat} (h : ∀ i, i ≠ k → bt a i = bt a' i) (h' : ∀ i, i ≠ k → bt b i = bt b' i) : pcO n k (a &&& b) = pcO n k (a' &&& b') := pcO_congr fun i hi => by rw [bt_and, bt_and, h i hi, h' i hi]
theorem pcT_and {n j k a a' b b' : Nat} (h : ∀ i, i ≠ j → i ≠ k → bt a i = bt a' i) (h' : ∀ i, i ≠ j → i ≠ k → bt b i = bt b' i) : pcT n j k (a &&& b) = pcT n j k (a' &&& b') := pcT_congr fun i hi hk => by rw [bt_and, bt_and, h i hi hk, h' i hi hk]
theorem bt_flip' {m v i k : Nat} (h : v ≤ 1) (ne : i ≠ k) : bt (m ^^^ v * 2 ^ k) i = bt m i := by rw [bt_flip h, if_neg ne]
theorem bt_flip1' {m i k : Nat} (ne : i ≠ k) : bt (m ^^^ 2 ^ k) i = bt m i := by rw [bt_flip1, if_neg ne]
theorem bt_exch' {j k m i : Nat} (h : i ≠ j) (h' : i ≠ k) : bt (exch j k m) i = bt m i := by rw [bt_exch, if_neg h, if_neg h']
end TW
/-! TM3: to do a row and then a deed is to do the deed and then what the row becomes. -/
namespace TW
theorem xor_self_right {a b : Nat} : a ^^^ b ^^^ b = a := by rw [Nat.xor_assoc, Nat.xor_self, Nat.xor_zero]
theorem xor_swap {a b c : Nat} : a ^^^ b ^^^ c = a ^^^ c ^^^ b := by rw [Nat.xor_assoc, Nat.xor_comm b, Nat.xor_assoc]
theorem s01 {s : Nat} (h : s < 2) : s = 0 ∨ s = 1 := by omega
theorem conj_over {n k : Nat} {r : Rw} (hk : k < n) (hs : r.s < 2) (ψ : Wh) (b : Nat) : deedF (.over k) (actF n r ψ) b = actF n (dRow (.over k) r) (deedF (.over k) ψ) b := by
  show rot (ph n r (b ^^^ 2 ^ k ^^^ r.x)) (ψ (b ^^^ 2 ^ k ^^^ r.x)) = rot (ph n _ (b ^^^ r.x)) (ψ (b ^^^ r.x ^^^ 2 ^ k))
  rw [xor_swap (b := 2 ^ k)]
  generalize b ^^^ r.x = c
  refine rot_mod ?_ _
  rw [ph_O hk, ph_O hk]
  dsimp only [dRow]
  rw [pcO_and (a' := r.z) (b' := c) (fun i _ => rfl) (fun i hi => bt_flip1' hi), bt_flip1, if_pos rfl, xor01 (by omega) (bt_le _ _)]
  rcases bt01 r.z k with h1 | h1 <;> rcases bt01 c k with h2 | h2 <;> rcases s01 hs with h3 | h3 <;> rw [h1, h2, h3] <;> omega
theorem conj_quarter {n k : Nat} {r : Rw} (hk : k < n) (hs : r.s < 2) (ψ : Wh) (b : Nat) : deedF (.quarter k) (actF n r ψ) b = actF n (dRow (.quarter k) r) (deedF (.quarter k) ψ) b := by
  show (if bt b k = 1 then rot 1 (rot (ph n r (b ^^^ r.x)) (ψ (b ^^^ r.x))) else rot (ph n r (b ^^^ r.x)) (ψ (b ^^^ r.x))) = rot (ph n _ (b ^^^ r.x)) (if bt (b ^^^ r.x) k = 1 then rot 1 (ψ (b ^^^ r.x)) else ψ (b ^^^ r.x))
  have hb : bt b k = (bt (b ^^^ r.x) k + bt r.x k) % 2 := by
    rw [bt_xor]
    have := bt_le b k
    omega
  generalize b ^^^ r.x = c at *
  rw [hb, rot_add]
  have key : ∀ u v : Nat, (u + ph n r c) % 4 = (ph n (dRow (.quarter k) r) c + v) % 4 → rot (u + ph n r c) (ψ c) = rot (ph n (dRow (.quarter k) r) c + v) (ψ c) := fun u v h => rot_mod h _
  have e : ((if (bt c k + bt r.x k) % 2 = 1 then 1 else 0) + ph n r c) % 4 = (ph n (dRow (.quarter k) r) c + (if bt c k = 1 then 1 else 0)) % 4 := by
    rw [ph_O hk, ph_O hk]
    dsimp only [dRow]
    rw [pcO_and (a := r.z ^^^ _) (a' := r.z) (b' := c) (fun i hi => bt_flip' (bt_le _ _) hi) (fun i _ => rfl), pcO_and (b := r.z ^^^ _) (a' := r.x) (b' := r.z) (fun i hi => rfl) (fun i hi => bt_flip' (bt_le _ _) hi), bt_flip (bt_le _ _), if_pos rfl, and01 (bt_le _ _) (bt_le _ _)]
    rcases bt01 r.z k with h1 | h1 <;> rcases bt01 c k with h2 | h2 <;> rcases bt01 r.x k with h3 | h3 <;> rcases s01 hs with h4 | h4 <;> rw [h1, h2, h3, h4] <;> simp <;> omega
  have := key _ _ e
  by_cases h1 : (bt c k + bt r.x k) % 2 = 1 <;> by_cases h2 : bt c k = 1
  · rw [if_pos h1, if_pos h2] at this
    rw [if_pos h1, if_pos h2, rot_add]
    exact this
  · rw [if_pos h1, if_neg h2] at this
    rw [if_pos h1, if_neg h2]
    exact this
  · rw [if_neg h1, if_pos h2, Nat.zero_add] at this
    rw [if_neg h1, if_pos h2, rot_add]
    exact this
  · rw [if_neg h1, if_neg h2, Nat.zero_add] at this
    rw [if_neg h1, if_neg h2]
    exact this
theorem conj_back {n k : Nat} {r : Rw} (hk : k < n) (hs : r.s < 2) (ψ : Wh) (b : Nat) : deedF (.back k) (actF n r ψ) b = actF n (dRow (.back k) r) (deedF (.back k) ψ) b := by
  show (if bt b k = 1 then rot 3 (rot (ph n r (b ^^^ r.x)) (ψ (b ^^^ r.x))) else rot (ph n r (b ^^^ r.x)) (ψ (b ^^^ r.x))) = rot (ph n _ (b ^^^ r.x)) (if bt (b ^^^ r.x) k = 1 then rot 3 (ψ (b ^^^ r.x)) else ψ (b ^^^ r.x))
  have hb : bt b k = (bt (b ^^^ r.x) k + bt r.x k) % 2 := by
    rw [bt_xor]
    have := bt_le b k
    omega
  generalize b ^^^ r.x = c at *
  rw [hb, rot_add]
  have key : ∀ u v : Nat, (u + ph n r c) % 4 = (ph n (dRow (.back k) r) c + v) % 4 → rot (u + ph n r c) (ψ c) = rot (ph n (dRow (.back k) r) c + v) (ψ c) := fun u v h => rot_mod h _
  have e : ((if (bt c k + bt r.x k) % 2 = 1 then 3 else 0) + ph n r c) % 4 = (ph n (dRow (.back k) r) c + (if bt c k = 1 then 3 else 0)) % 4 := by
    rw [ph_O hk, ph_O hk]
    dsimp only [dRow]
    rw [pcO_and (a := r.z ^^^ _) (a' := r.z) (b' := c) (fun i hi => bt_flip' (bt_le _ _) hi) (fun i _ => rfl), pcO_and (b := r.z ^^^ _) (a' := r.x) (b' := r.z) (fun i hi => rfl) (fun i hi => bt_flip' (bt_le _ _) hi), bt_flip (bt_le _ _), if_pos rfl]
    rcases bt01 r.z k with h1 | h1 <;> rcases bt01 c k with h2 | h2 <;> rcases bt01 r.x k with h3 | h3 <;> rcases s01 hs with h4 | h4 <;> rw [h1, h2, h3, h4] <;> simp <;> omega
  have := key _ _ e
  by_cases h1 : (bt c k + bt r.x k) % 2 = 1 <;> by_cases h2 : bt c k = 1
  · rw [if_pos h1, if_pos h2] at this
    rw [if_pos h1, if_pos h2, rot_add]
    exact this
  · rw [if_pos h1, if_neg h2] at this
    rw [if_pos h1, if_neg h2]
    exact this
  · rw [if_neg h1, if_pos h2, Nat.zero_add] at this
    rw [if_neg h1, if_pos h2, rot_add]
    exact this
  · rw [if_neg h1, if_neg h2, Nat.zero_add] at this
    rw [if_neg h1, if_neg h2]
    exact this
set_option maxHeartbeats 2000000 in
theorem conj_whr {n j k : Nat} {r : Rw} (hj : j < n) (hk : k < n) (ne : j ≠ k) (hs : r.s < 2) (ψ : Wh) (b : Nat) : deedF (.whr j k) (actF n r ψ) b = actF n (dRow (.whr j k) r) (deedF (.whr j k) ψ) b := by
  show rot (ph n r (b ^^^ bt b j * 2 ^ k ^^^ r.x)) (ψ (b ^^^ bt b j * 2 ^ k ^^^ r.x)) = rot (ph n (dRow (.whr j k) r) (b ^^^ (r.x ^^^ bt r.x j * 2 ^ k))) (ψ (b ^^^ (r.x ^^^ bt r.x j * 2 ^ k) ^^^ bt (b ^^^ (r.x ^^^ bt r.x j * 2 ^ k)) j * 2 ^ k))
  have hi : b ^^^ (r.x ^^^ bt r.x j * 2 ^ k) ^^^ bt (b ^^^ (r.x ^^^ bt r.x j * 2 ^ k)) j * 2 ^ k = b ^^^ bt b j * 2 ^ k ^^^ r.x := bt_ext fun i => by
    have hle : ∀ m : Nat, m % 2 ≤ 1 := fun m => by omega
    rw [bt_flip (bt_le _ _)]
    simp only [bt_xor, bt_vpow (bt_le _ _)]
    have h1 := bt_le b i
    have h2 := bt_le r.x i
    have h3 := bt_le b j
    have h4 := bt_le r.x j
    simp only [if_neg ne]
    by_cases q : i = k
    · subst q
      simp only [if_true]
      omega
    · simp only [if_neg q]
      omega
  rw [hi]
  have hc : b ^^^ (r.x ^^^ bt r.x j * 2 ^ k) = (b ^^^ bt b j * 2 ^ k ^^^ r.x) ^^^ (bt (b ^^^ bt b j * 2 ^ k ^^^ r.x) j) * 2 ^ k := bt_ext fun i => by
    rw [bt_flip (bt_le _ _)]
    simp only [bt_xor, bt_vpow (bt_le _ _)]
    have h1 := bt_le b i
    have h2 := bt_le r.x i
    have h3 := bt_le b j
    have h4 := bt_le r.x j
    simp only [if_neg ne]
    by_cases q : i = k
    · subst q
      simp only [if_true]
      omega
    · simp only [if_neg q]
      omega
  rw [hc]
  generalize b ^^^ bt b j * 2 ^ k ^^^ r.x = c
  refine rot_mod ?_ _
  rw [ph_T hj hk ne, ph_T hj hk ne]
  dsimp only [dRow]
  rw [pcT_and (a := r.z ^^^ _) (a' := r.z) (b := c ^^^ _) (b' := c) (fun i hi hi' => bt_flip' (bt_le _ _) hi) (fun i hi hi' => bt_flip' (bt_le _ _) hi'), pcT_and (a := r.x ^^^ _) (a' := r.x) (b := r.z ^^^ _) (b' := r.z) (fun i hi hi' => bt_flip' (bt_le _ _) hi') (fun i hi hi' => bt_flip' (bt_le _ _) hi)]
  simp only [bt_flip (bt_le _ _), if_pos rfl, if_neg ne, if_neg (fun q => ne q.symm : k ≠ j), and01 (bt_le r.x j) (bt_le r.z k), xor01 (show r.s ≤ 1 by omega) (Nat.le_refl 1), if_true]
  generalize pcT n j k (r.z &&& c) = P1
  generalize pcT n j k (r.x &&& r.z) = P2
  rcases bt01 r.z j with h1 | h1 <;> rcases bt01 r.z k with h2 | h2 <;> rcases bt01 r.x j with h3 | h3 <;> rcases bt01 r.x k with h4 | h4 <;> rcases bt01 c j with h5 | h5 <;> rcases bt01 c k with h6 | h6 <;> rcases s01 hs with h7 | h7 <;> rw [h1, h2, h3, h4, h5, h6, h7] <;> simp <;> omega
theorem conj_swap {n j k : Nat} {r : Rw} (hj : j < n) (hk : k < n) (ne : j ≠ k) (hs : r.s < 2) (ψ : Wh) (b : Nat) : deedF (.swap j k) (actF n r ψ) b = actF n (dRow (.swap j k) r) (deedF (.swap j k) ψ) b := by
  show rot (ph n r (exch j k b ^^^ r.x)) (ψ (exch j k b ^^^ r.x)) = rot (ph n (dRow (.swap j k) r) (b ^^^ exch j k r.x)) (ψ (exch j k (b ^^^ exch j k r.x)))
  have hi : exch j k (b ^^^ exch j k r.x) = exch j k b ^^^ r.x := bt_ext fun i => by
    simp only [bt_xor, bt_exch]
    by_cases q : i = j
    · subst q
      simp [if_neg ne, if_neg (fun q => ne q.symm : k ≠ i)]
    · by_cases q' : i = k
      · subst q'
        simp [q]
      · simp [q, q']
  have hc : b ^^^ exch j k r.x = exch j k (exch j k b ^^^ r.x) := bt_ext fun i => by
    simp only [bt_xor, bt_exch]
    by_cases q : i = j
    · subst q
      simp [if_neg ne, if_neg (fun q => ne q.symm : k ≠ i)]
    · by_cases q' : i = k
      · subst q'
        simp [q]
      · simp [q, q']
  rw [hi, hc]
  generalize exch j k b ^^^ r.x = c
  refine rot_mod ?_ _
  rw [ph_T hj hk ne, ph_T hj hk ne]
  dsimp only [dRow]
  rw [pcT_and (a := exch j k r.z) (a' := r.z) (b := exch j k c) (b' := c) (fun i hi hi' => bt_exch' hi hi') (fun i hi hi' => bt_exch' hi hi'), pcT_and (a := exch j k r.x) (a' := r.x) (b := exch j k r.z) (b' := r.z) (fun i hi hi' => bt_exch' hi hi') (fun i hi hi' => bt_exch' hi hi')]
  simp only [bt_exch, if_pos rfl, if_neg (fun q => ne q.symm : k ≠ j), if_true]
  omega

theorem rot_ga2 {a b q : Nat} {g h : GI} (h1 : a % 4 = q % 4) (h2 : b % 4 = q % 4) : ga (rot a g) (rot b h) = rot q (ga g h) := by
  rw [rot_mod h1, rot_mod h2, rot_ga]
theorem gn_rot {q : Nat} {g : GI} : gn (rot q g) = rot (2 + q) g := by rw [← rot_two, rot_add]
theorem conj_both {n k : Nat} {r : Rw} (hk : k < n) (hs : r.s < 2) (ψ : Wh) (b : Nat) : deedF (.both k) (actF n r ψ) b = actF n (dRow (.both k) r) (deedF (.both k) ψ) b := by
  obtain ⟨v, hv⟩ : ∃ v, v = bt r.x k ^^^ bt r.z k := ⟨_, rfl⟩
  have hv1 : v ≤ 1 := by rw [hv, xor01 (bt_le _ _) (bt_le _ _)]; omega
  have hv2 : v = (bt r.x k + bt r.z k) % 2 := by rw [hv, xor01 (bt_le _ _) (bt_le _ _)]
  show (if bt b k = 1 then ga (rot (ph n r (b ^^^ 2 ^ k ^^^ r.x)) (ψ (b ^^^ 2 ^ k ^^^ r.x))) (gn (rot (ph n r (b ^^^ r.x)) (ψ (b ^^^ r.x)))) else ga (rot (ph n r (b ^^^ r.x)) (ψ (b ^^^ r.x))) (rot (ph n r (b ^^^ 2 ^ k ^^^ r.x)) (ψ (b ^^^ 2 ^ k ^^^ r.x)))) =
    rot (ph n (dRow (.both k) r) (b ^^^ (r.x ^^^ (bt r.x k ^^^ bt r.z k) * 2 ^ k))) (if bt (b ^^^ (r.x ^^^ (bt r.x k ^^^ bt r.z k) * 2 ^ k)) k = 1 then ga (ψ (b ^^^ (r.x ^^^ (bt r.x k ^^^ bt r.z k) * 2 ^ k) ^^^ 2 ^ k)) (gn (ψ (b ^^^ (r.x ^^^ (bt r.x k ^^^ bt r.z k) * 2 ^ k)))) else ga (ψ (b ^^^ (r.x ^^^ (bt r.x k ^^^ bt r.z k) * 2 ^ k))) (ψ (b ^^^ (r.x ^^^ (bt r.x k ^^^ bt r.z k) * 2 ^ k) ^^^ 2 ^ k)))
  have hb : bt b k = (bt (b ^^^ r.x) k + bt r.x k) % 2 := by
    rw [bt_xor]
    have := bt_le b k
    omega
  rw [xor_swap (b := 2 ^ k), ← hv, ← Nat.xor_assoc, hb]
  generalize b ^^^ r.x = c at *
  have e1 : ∀ e : Nat, ph n r e = 2 * r.s + 2 * (bt r.z k * bt e k + pcO n k (r.z &&& e)) + (bt r.x k * bt r.z k + pcO n k (r.x &&& r.z)) := fun e => ph_O hk r e
  have e2 : ∀ e : Nat, (∀ i, i ≠ k → bt e i = bt c i) → ph n (dRow (.both k) r) e % 4 = (2 * r.s + 2 * (bt r.x k * bt r.z k) + 2 * (bt r.x k * bt e k + pcO n k (r.z &&& c)) + (bt r.x k * bt r.z k + pcO n k (r.x &&& r.z))) % 4 := fun e he => by
    rw [ph_O hk]
    dsimp only [dRow]
    rw [← hv, pcO_and (a := r.z ^^^ _) (a' := r.z) (b' := c) (fun i hi => bt_flip' hv1 hi) he, pcO_and (a := r.x ^^^ _) (a' := r.x) (b' := r.z) (fun i hi => bt_flip' hv1 hi) (fun i hi => bt_flip' hv1 hi), bt_flip hv1, bt_flip hv1, if_pos rfl, if_pos rfl, and01 (bt_le _ _) (bt_le _ _), hv2]
    rcases bt01 r.z k with h1 | h1 <;> rcases bt01 (e) k with h2 | h2 <;> rcases bt01 r.x k with h3 | h3 <;> rcases s01 hs with h4 | h4 <;> rw [h1, h2, h3, h4] <;> simp <;> omega
  have e3 : pcO n k (r.z &&& (c ^^^ 2 ^ k)) = pcO n k (r.z &&& c) := pcO_and (fun i _ => rfl) (fun i hi => bt_flip1' hi)
  have f1 := e1 c
  have f2 := e1 (c ^^^ 2 ^ k)
  rw [e3, bt_flip1, if_pos rfl] at f2
  have g1 := e2 c (fun i _ => rfl)
  have g2 := e2 (c ^^^ 2 ^ k) (fun i hi => bt_flip1' hi)
  rw [bt_flip1, if_pos rfl] at g2
  generalize ph n r c = P1 at *
  generalize ph n r (c ^^^ 2 ^ k) = P2 at *
  rcases (show v = 0 ∨ v = 1 by omega) with hv0 | hv0
  · rw [hv0, Nat.zero_mul, Nat.xor_zero]
    generalize ph n (dRow (.both k) r) c = Q1 at *
    generalize pcO n k (r.z &&& c) = a1 at *
    generalize pcO n k (r.x &&& r.z) = a2 at *
    rcases bt01 r.z k with h1 | h1 <;> rcases bt01 c k with h2 | h2 <;> rcases bt01 r.x k with h3 | h3 <;> rw [h1, h3, hv0] at hv2 <;> first | (exfalso; omega) | skip
    all_goals (rw [h1, h2, h3] at f1 f2; rw [h1, h2, h3] at g1; rw [h2, h3])
    all_goals try simp only [Nat.add_zero, Nat.zero_add, Nat.reduceAdd, Nat.reduceMod, Nat.one_ne_zero, if_true, if_false, Nat.zero_ne_one]
    all_goals try simp only [← rot_two (g := ψ _), gn_rot]
    all_goals simp only [rot_ga, rot_add]
    all_goals first | exact congr (congrArg ga (rot_mod (by omega) _)) (rot_mod (by omega) _) | (rw [ga_comm]; exact congr (congrArg ga (rot_mod (by omega) _)) (rot_mod (by omega) _))
  · rw [hv0, Nat.one_mul, xor_self_right]
    generalize ph n (dRow (.both k) r) (c ^^^ 2 ^ k) = Q1 at *
    generalize pcO n k (r.z &&& c) = a1 at *
    generalize pcO n k (r.x &&& r.z) = a2 at *
    rw [bt_flip1, if_pos rfl]
    rcases bt01 r.z k with h1 | h1 <;> rcases bt01 c k with h2 | h2 <;> rcases bt01 r.x k with h3 | h3 <;> rw [h1, h3, hv0] at hv2 <;> first | (exfalso; omega) | skip
    all_goals (rw [h1, h2, h3] at f1 f2; rw [h1, h2, h3] at g2; rw [h2, h3])
    all_goals try simp only [Nat.add_zero, Nat.zero_add, Nat.reduceAdd, Nat.reduceMod, Nat.one_ne_zero, if_true, if_false, Nat.zero_ne_one]
    all_goals try simp only [← rot_two (g := ψ _), gn_rot]
    all_goals simp only [rot_ga, rot_add]
    all_goals first | exact congr (congrArg ga (rot_mod (by omega) _)) (rot_mod (by omega) _) | (rw [ga_comm]; exact congr (congrArg ga (rot_mod (by omega) _)) (rot_mod (by omega) _))
theorem conj {n : Nat} {d : Dd} {r : Rw} (hd : d.Ok n) (hs : r.s < 2) (ψ : Wh) : deedF d (actF n r ψ) = actF n (dRow d r) (deedF d ψ) := funext fun b => by
  cases d with
  | over k => exact conj_over hd hs ψ b
  | quarter k => exact conj_quarter hd hs ψ b
  | back k => exact conj_back hd hs ψ b
  | both k => exact conj_both hd hs ψ b
  | whr j k => exact conj_whr hd.1 hd.2.1 hd.2.2 hs ψ b
  | swap j k => exact conj_swap hd.1 hd.2.1 hd.2.2 hs ψ b
/-- the wires of a deed -/
def Dd.wires : Dd → List Nat
  | .over k => [k]
  | .quarter k => [k]
  | .back k => [k]
  | .both k => [k]
  | .whr j k => [j, k]
  | .swap j k => [j, k]
theorem dRow_far {d : Dd} {r : Rw} {i : Nat} (h : i ∉ d.wires) : bt (dRow d r).x i = bt r.x i ∧ bt (dRow d r).z i = bt r.z i := by
  cases d with
  | over k => exact ⟨rfl, rfl⟩
  | quarter k =>
    have h : i ≠ k := fun z => h (by simp [Dd.wires, z])
    exact ⟨rfl, bt_flip' (bt_le _ _) h⟩
  | back k =>
    have h : i ≠ k := fun z => h (by simp [Dd.wires, z])
    exact ⟨rfl, bt_flip' (bt_le _ _) h⟩
  | both k =>
    have h : i ≠ k := fun z => h (by simp [Dd.wires, z])
    have hv : bt r.x k ^^^ bt r.z k ≤ 1 := by rw [xor01 (bt_le _ _) (bt_le _ _)]; omega
    exact ⟨bt_flip' hv h, bt_flip' hv h⟩
  | whr j k =>
    have h1 : i ≠ k := fun z => h (by simp [Dd.wires, z])
    have h2 : i ≠ j := fun z => h (by simp [Dd.wires, z])
    exact ⟨bt_flip' (bt_le _ _) h1, bt_flip' (bt_le _ _) h2⟩
  | swap j k =>
    have h1 : i ≠ k := fun z => h (by simp [Dd.wires, z])
    have h2 : i ≠ j := fun z => h (by simp [Dd.wires, z])
    exact ⟨bt_exch' h2 h1, bt_exch' h2 h1⟩
end TW
/-! TS: more plain steps; rows. -/
namespace TW
open PySem PySem.Spec L2 PyProof.Rows
section
variable {S S1 S2 : DS} {f g h : DS → Out} {e e' e'' : DS → Res RV} {i j : Nat} {d d' : D} {r : RV} {α β : Type}
@[simp] theorem q_unp {is : List Nat} : oUnp is e S = (e S).toOut fun r S1 => match r with
  | .val d => (tgTup is d S1).toOut fun _ S2 => .next S2
  | _ => .stk := (rfl)
@[simp] theorem q_tgTup {is : List Nat} {ds : List D} : tgTup is (.tup ds) S = tgs is ds S := (rfl)
@[simp] theorem q_tgs0 : tgs [] [] S = .ok () S := (rfl)
@[simp] theorem q_tgs {is : List Nat} {ds : List D} : tgs (i :: is) (d :: ds) S = tgs is ds { S with sl := S.sl.set i (some (.val d)) } := (rfl)
@[simp] theorem q_tgName : tgName i d S = .ok () { S with sl := S.sl.set i (some (.val d)) } := (rfl)
@[simp] theorem q_par {es : DS → Res (List D)} : oPar i j es S = (es S).toOut fun ds S1 => match ds with
  | [d, e] => .next { S1 with sl := (S1.sl.set i (some (.val d))).set j (some (.val e)) }
  | _ => .stk := (rfl)
@[simp] theorem q_chain {u v : D → D → R} : dChain u v e e' e'' S = (e S).bind fun r1 S1 => (e' S1).bind fun r2 S2 => match peek S2 r1.frz, peek S2 r2.frz with
  | some d1, some d2 => (match u d1 d2 with
    | .val (.bl true) => (e'' S2).bind fun r3 S3 => (match peek S3 r2.frz, peek S3 r3 with
      | some e2, some e3 => (v e2 e3).lift S3
      | _, _ => .stk)
    | .val (.bl false) => .ok (.val (.bl false)) S2
    | _ => .stk)
  | _, _ => .stk := (rfl)
@[simp] theorem q_isE {kit : Str → Option Bool} : dIsE i kit S = (match S.sl[i]? with
  | some (some (.exc cn)) => (match kit cn with
    | some b => .ok (.val (.bl b)) S
    | none => .stk)
  | _ => .stk) := (rfl)
@[simp] theorem q_try {sub : Str → Option Bool} {g : Str → DS → Out} : oTryAs i sub f g S = (match f S with
  | .exc cn S1 => (match sub cn with
    | some true => if S1.sl.all notExc = true then tryEnd i (g cn { S1 with sl := S1.sl.set i (some (.exc cn)) }) else .stk
    | some false => .exc cn S1
    | none => .stk)
  | o => o) := (rfl)
@[simp] theorem q_seq_try {sub : Str → Option Bool} {g : Str → DS → Out} : oSeq (oTryAs i sub f g) h S = (oTryAs i sub f g S).then_ h := (rfl)
@[simp] theorem q_notExc0 : notExc none = true := (rfl)
@[simp] theorem q_notExc1 : notExc (some (.val d)) = true := (rfl)
@[simp] theorem q_notExc2 {c : Cont} {l : Bool} : notExc (some (.own c l)) = true := (rfl)
@[simp] theorem q_notExc3 {c : Str} : notExc (some (.exc c)) = false := (rfl)
@[simp] theorem q_tryEnd {S : DS} : tryEnd i (.next S) = endNext i .next S := (rfl)
@[simp] theorem q_endNext {k : DS → Out} : endNext i k S = if (S.sl.set i none).all notExc = true then k { S with sl := S.sl.set i none } else .stk := (rfl)
@[simp] theorem q_lift_exc {c : Str} : (R.exc c).lift S = .exc c S := (rfl)
@[simp] theorem q_iftrue {x y : Out} : (if True then x else y) = x := if_pos trivial
@[simp] theorem q_seq0 : dSeq e S = (e S).bind fun r S1 => match r with
  | .val (.lst ds) => .ok ⟨ds, .no⟩ S1
  | .val (.scr ds) => .ok ⟨ds, .no⟩ S1
  | .val (.tup ds) => .ok ⟨ds, .no⟩ S1
  | .own (.lst ds) => .ok ⟨ds, .no⟩ S1
  | .plc j => (match S1.sl[j]? with
    | some (some (.own (.lst ds) lk)) => .ok ⟨ds, .slot j ds lk⟩ { S1 with sl := S1.sl.set j (some (.own (.lst ds) true)) }
    | _ => .stk)
  | .val (.ref k) => (match S1.L[k]? with
    | some (.con (.lst ds) lk) => .ok ⟨ds, .heap k ds lk⟩ { S1 with L := S1.L.set k (.con (.lst ds) true) }
    | _ => .stk)
  | _ => .stk := (rfl)
@[simp] theorem q_eqs {a b : Str} : gCmp .Eq (.str a) (.str b) = .val (.bl (decide (a = b))) := (rfl)
@[simp] theorem q_nes {a b : Str} : gCmp .NotEq (.str a) (.str b) = .val (.bl (!decide (a = b))) := (rfl)
@[simp] theorem q_isnon {b : Int} : gCmp .Is (.int b) .non = .val (.bl false) := (rfl)
@[simp] theorem q_isnotnon {b : Int} : gCmp .IsNot (.int b) .non = .val (.bl true) := (rfl)
theorem q_mul {a b : Int} (ha : a.natAbs < 2 ^ 1000) (hb : b.natAbs < 2 ^ 1000) : gBin .Mult (.int a) (.int b) = .val (.int (a * b)) := by
  have h : ∀ z : Int, z.natAbs < 2 ^ 1000 → (Builtin.Int.intBits z : Int) ≤ 1000 := fun z hz => by
    unfold Builtin.Int.intBits
    split
    · omega
    · rename_i h0
      have : z.natAbs.log2 < 1000 := (Nat.log2_lt (by simp at h0; omega)).mpr hz
      omega
  have h1 := h a ha
  have h2 := h b hb
  show (if CMulX a b then R.val (.int (a * b)) else .stk) = _
  rw [if_pos]
  show (Builtin.Int.intBits a : Int) + (Builtin.Int.intBits b : Int) ≤ 134217728
  omega
theorem q_mul2 {b : Int} (hb : b.natAbs < 2 ^ 100) : gBin .Mult (.int 2) (.int b) = .val (.int (2 * b)) := q_mul (by decide) (Nat.lt_of_lt_of_le hb (Nat.pow_le_pow_right (by decide) (by decide)))
theorem q_shl {a : Int} {k : Nat} (ha : a.natAbs < 2 ^ 1000) (hk : k ≤ 1000) : gBin .LShift (.int a) (.int k) = .val (.int (a * 2 ^ k)) := by
  show (if CShl a k then R.val (.int (a * 2 ^ (k : Int).toNat)) else .stk) = _
  rw [if_pos, Int.toNat_natCast]
  refine ⟨by omega, ?_⟩
  have : (Builtin.Int.intBits a : Int) ≤ 1000 := by
    unfold Builtin.Int.intBits
    split
    · omega
    · rename_i h0
      have : a.natAbs.log2 < 1000 := (Nat.log2_lt (by simp at h0; omega)).mpr ha
      omega
  omega
theorem shl_bt {m i k : Nat} (hk : k ≤ 1000) : gBin .LShift (.int (bt m i : Nat)) (.int k) = .val (.int ((bt m i * 2 ^ k : Nat) : Int)) := by
  rw [q_shl (by have := bt_le m i; omega) hk]
  simp
end
/-! ### loops that may be left -/
section
variable {A : List Nat} {src : DS → Res Src} {tg : D → DS → Res Unit} {body g : DS → Out} {S S0 : DS} {s : Src}
def Out.leaves : Out → Bool
  | .ret _ _ => true
  | .exc _ _ => true
  | _ => false
theorem forLoop_exit {Q : Out → Prop} : ∀ {xs : List D} {S : DS} (P : Nat → DS → Prop) (_ : ∀ k (hk : k < xs.length) S, P k S → ∃ S1, tg xs[k] S = .ok () S1 ∧ ((∃ S2, (body S1 = .next S2 ∨ body S1 = .cont S2) ∧ P (k + 1) S2) ∨ ((body S1).leaves = true ∧ Q (body S1)))) (_ : P 0 S),
    (∃ S', forLoop tg body xs S = .next S' ∧ P xs.length S') ∨ ((forLoop tg body xs S).leaves = true ∧ Q (forLoop tg body xs S))
  | [], S, P, h, h0 => .inl ⟨S, rfl, h0⟩
  | x :: xs, S, P, h, h0 => by
    obtain ⟨S1, e1, e2⟩ := h 0 (Nat.zero_lt_succ _) S h0
    have e1 : tg x S = .ok () S1 := e1
    rcases e2 with ⟨S2, e2, e3⟩ | ⟨e2, e3⟩
    · have key := forLoop_exit (Q := Q) (xs := xs) (S := S2) (fun k => P (k + 1)) (fun k hk S hS => h (k + 1) (Nat.succ_lt_succ hk) S hS) e3
      have : forLoop tg body (x :: xs) S = forLoop tg body xs S2 := by
        rw [forLoop, e1]
        rcases e2 with e2 | e2 <;> (dsimp only; rw [e2])
      rw [this]
      exact key
    · have : forLoop tg body (x :: xs) S = body S1 := by
        rw [forLoop, e1]
        dsimp only
        cases hb : body S1 <;> rw [hb] at e2 <;> first | rfl | cases e2
      rw [this]
      exact .inr ⟨e2, e3⟩
/-- a loop that may be left by return or raise -/
theorem for_exit {xs : List D} (Q : Out → Prop) (P : Nat → DS → Prop) (h1 : src S = .ok ⟨xs, .no⟩ S0) (h3 : P 0 S0) (h4 : ∀ k (hk : k < xs.length) S, P k S → ∃ S1, tg xs[k] S = .ok () S1 ∧ ((∃ S2, (body S1 = .next S2 ∨ body S1 = .cont S2) ∧ P (k + 1) S2) ∨ ((body S1).leaves = true ∧ Q (body S1))))
    (h5 : ∀ S', P xs.length S' → Q (g S')) : Q (oSeq (oFor A src tg body) g S) := by
  have : oSeq (oFor A src tg body) g S = (forLoop tg body xs S0).then_ g := by
    unfold oSeq oFor
    rw [h1]
    rfl
  rw [this]
  rcases forLoop_exit P h4 h3 with ⟨S', e1, e2⟩ | ⟨e1, e2⟩
  · rw [e1]
    exact h5 S' e2
  · cases ho : forLoop tg body xs S0 <;> rw [ho] at e1 e2 <;> first | exact e2 | cases e1
end
/-! ### texts, instances, methods -/
@[simp] theorem ofString_inj {a b : String} : (Str.ofString a = Str.ofString b) = (a = b) := by
  apply propext
  constructor
  · intro h
    rw [Str.ofString_eq_toList, Str.ofString_eq_toList] at h
    have h1 : a.toList.map Char.toNat = b.toList.map Char.toNat := by
      have := congrArg (fun s : Str => s.cps.toList) h
      simpa using this
    have h2 : a.toList = b.toList := by
      have inj : ∀ {x y : List Char}, x.map Char.toNat = y.map Char.toNat → x = y := fun {x} => by
        induction x with
        | nil => intro y h; cases y <;> simp_all
        | cons c x ih =>
          intro y h
          cases y with
          | nil => simp at h
          | cons d y =>
            simp only [List.map_cons, List.cons.injEq] at h
            rw [Char.toNat_inj.mp h.1, ih h.2]
      exact inj h1
    exact String.toList_inj.mp h2
  · intro h
    rw [h]
section
variable {S : DS} {e : DS → Res RV} {es : DS → Res (List RV)} {d : D} {rs : List RV} {r : RV} {C : Str} {fs : List (Str × D)}
@[simp] theorem q_insAt {S : DS} : insAt (.val (.ins C fs)) S = some (C, fs, .ins C fs) := (rfl)
@[simp] theorem q_insAtR {S : DS} {k : Nat} : insAt (.val (.ref k)) S = (match S.L[k]? with
    | some (.ins C fs) => some (C, fs, .ref k)
    | _ => none) := (rfl)
@[simp] theorem q_meth {m : Str} {n : Nat} {tbl : Str → Option ME} : dMeth m n tbl e es S = (e S).bind fun r S1 => match insAt r S1 with
  | none => .stk
  | some (C, fs, self) => (match tbl C with
    | none => .stk
    | some e => (match e.pick n with
      | none => .stk
      | some dfl => if (fs.lookup m).isNone = true then (es S1).bind fun rs S2 => e.run dfl (.val self :: rs) S2 else .stk)) := (rfl)
@[simp] theorem q_pick {φ : List D → R} {n np : Nat} : (ME.pure φ np []).pick n = if n + 1 = np then some [] else if n + 1 + 0 = np ∧ 0 ≤ 1 then some [] else none := (rfl)
@[simp] theorem q_pickH {φ : List LO → List D → RH} {n np : Nat} : (ME.heap φ np []).pick n = if n + 1 = np then some [] else if n + 1 + 0 = np ∧ 0 ≤ 1 then some [] else none := (rfl)
@[simp] theorem q_run {φ : List D → R} {n : Nat} {dfl dfl' : List D} : (ME.pure φ n dfl).run dfl' rs S = (match peekAll S rs with
  | some ds => if D.noRefs (ds ++ dfl') = true then (if (φ (ds ++ dfl')).clean = true then (φ (ds ++ dfl')).lift S else (settleAll rs S).bind fun es S2 => if D.noRefs (es ++ dfl') = true then (φ (es ++ dfl')).lift S2 else .stk) else .stk
  | none => .stk) := (rfl)
@[simp] theorem q_runH {φ : List LO → List D → RH} {n : Nat} {dfl dfl' : List D} : (ME.heap φ n dfl).run dfl' rs S = (settleAll rs S).bind fun ds S2 => if S2.sl.all noLkD = true then (φ S2.L (ds ++ dfl')).lift S2 else .stk := (rfl)
@[simp] theorem q_peek_ins : peek S (.val (.ins C fs)) = some (.ins C fs) := (rfl)
@[simp] theorem q_nr_ins : D.noRef (.ins C fs) = D.noRefF fs := (rfl)
@[simp] theorem q_nrF0 : D.noRefF [] = true := (rfl)
@[simp] theorem q_nrF {k : Str} : D.noRefF ((k, d) :: fs) = (d.noRef && D.noRefF fs) := (rfl)
@[simp] theorem q_fl_ins : D.flat (.ins C fs) = false := (rfl)
@[simp] theorem q_fl_lst {ds : List D} : D.flat (.lst ds) = false := (rfl)
@[simp] theorem q_sa0 : settleAll [] S = .ok [] S := (rfl)
@[simp] theorem q_sa : settleAll (r :: rs) S = (settle r S).bind fun d S1 => (settleAll rs S1).bind fun ds S2 => .ok (d :: ds) S2 := (rfl)
@[simp] theorem q_new {x : Str} {c : CE} : dNew x c es S = (es S).bind fun rs S1 => (settleAll rs S1).bind fun ds S2 => if S2.sl.all noLkD = true ∧ (c.frz = true → S2.L = []) then newEnd x c.frz S2 (c.φ (S2.L ++ [.ins x []]) (.ref S2.L.length :: ds)) else .stk := (rfl)
@[simp] theorem q_newEnd {x : Str} {S : DS} : newEnd x true S (.val .non [.ins C fs]) = (match S.L with
  | [] => if C = x ∧ D.noRefF fs = true then .ok (.val (.ins C fs)) S else .stk
  | _ => .stk) := by
  obtain ⟨sl, L⟩ := S
  cases L <;> rfl
@[simp] theorem q_newEndF {x : Str} {S : DS} {L : List LO} : newEnd x false S (.val .non L) = .ok (.val (.ref S.L.length)) { S with L := L } := (rfl)
@[simp] theorem q_nl0 : noLkD none = true := (rfl)
@[simp] theorem q_nl1 : noLkD (some (.val d)) = true := (rfl)
@[simp] theorem q_nl2 {ds : List D} {l : Bool} : noLkD (some (.own (.lst ds) l)) = true := (rfl)
@[simp] theorem q_nl3 {ds : List (Key × D)} {l : Bool} : noLkD (some (.own (.dic ds) l)) = !l := by cases l <;> rfl
@[simp] theorem q_nl4 {c : Str} : noLkD (some (.exc c)) = true := (rfl)
@[simp] theorem q_isO {kit : Str → Option Bool} : dIsO kit e S = (e S).bind fun r S1 => match insAt r S1 with
  | some (C, _, _) => (match kit C with
    | some b => .ok (.val (.bl b)) S1
    | none => .stk)
  | none => .stk := (rfl)
@[simp] theorem q_fld {f : Str} : dFld f e S = (e S).bind fun r S1 => match r with
  | .val (.ins _ fs) => (match fs.lookup f with
    | some d => .ok (.val d) S1
    | none => .stk)
  | .val (.ref k) => (match S1.L[k]? with
    | some (.ins _ fs) => (match fs.lookup f with
      | some d => .ok (.val d) S1
      | none => .stk)
    | _ => .stk)
  | _ => .stk := (rfl)
@[simp] theorem q_fldSet {f : Str} {box : Bool} {e' : DS → Res RV} : oFld f box e e' S = (e' S).toOut fun r S1 => (keepV box r S1).toOut fun d S2 => (e S2).toOut fun r2 S3 => match r2 with
  | .val (.ref k) => (match S3.L[k]? with
    | some (.ins C fs) => if fs.length < 1000 then .next { S3 with L := S3.L.set k (.ins C (fput f d fs)) } else .stk
    | _ => .stk)
  | _ => .stk := (rfl)
@[simp] theorem q_keepF : keepV false r S = settle r S := by cases r <;> rfl
@[simp] theorem q_keepO {c : Cont} : keepV true (.own c) S = .ok (.ref S.L.length) { S with L := S.L ++ [.con c false] } := (rfl)
@[simp] theorem q_keepV : keepV true (.val d) S = .ok d S := (rfl)
@[simp] theorem q_keepP {i : Nat} : keepV true (.plc i) S = settle (.plc i) S := (rfl)
@[simp] theorem q_seq_fld {f : Str} {box : Bool} {e' : DS → Res RV} {g : DS → Out} : oSeq (oFld f box e e') g S = (oFld f box e e' S).then_ g := (rfl)
@[simp] theorem q_outRH_val {L : List LO} {sl : List (Option Sl)} : outRH (.ret (.val d) ⟨sl, L⟩) = .val d L := (rfl)
@[simp] theorem q_outRH_own {c : Cont} {L : List LO} {sl : List (Option Sl)} : outRH (.ret (.own c) ⟨sl, L⟩) = .own c L := (rfl)
@[simp] theorem q_outRH_next {L : List LO} {sl : List (Option Sl)} : outRH (.next ⟨sl, L⟩) = .val .non L := (rfl)
@[simp] theorem q_outRH_exc {c : Str} {L : List LO} {sl : List (Option Sl)} : outRH (.exc c ⟨sl, L⟩) = .exc c L := (rfl)
@[simp] theorem q_liftH_val {L : List LO} {S : DS} : (RH.val d L).lift S = .ok (.val d) { S with L := L } := (rfl)
@[simp] theorem q_liftH_own {c : Cont} {L : List LO} {S : DS} : (RH.own c L).lift S = .ok (.own c) { S with L := L } := (rfl)
@[simp] theorem q_liftH_exc {c : Str} {L : List LO} {S : DS} : (RH.exc c L).lift S = .exc c { S with L := L } := (rfl)
@[simp] theorem q_callH {φ : List LO → List D → RH} {dfl : List D} : dCallH φ dfl es S = (es S).bind fun rs S1 => (settleAll rs S1).bind fun ds S2 => if S2.sl.all noLkD = true then (φ S2.L (ds ++ dfl)).lift S2 else .stk := (rfl)
theorem tb_cons {C C' m m' : Str} {e : ME} {l : List ((Str × Str) × ME)} : tb (((C', m'), e) :: l) m C = if C = C' ∧ m = m' then some e else tb l m C := by
  unfold tb
  rw [List.lookup_cons]
  by_cases h : C = C' ∧ m = m'
  · obtain ⟨rfl, rfl⟩ := h
    simp
  · rw [if_neg h]
    have : ((C, m) == (C', m')) = false := by
      simp only [beq_eq_false_iff_ne, ne_eq, Prod.mk.injEq]
      exact h
    rw [this]
end
/-! ### rows -/
abbrev Rw.d (r : Rw) : D := rowD r.s r.x r.z
theorem and_shr1 {v m k : Nat} (hv : v ≤ 1) : Builtin.bitAnd (Builtin.bitAnd (v : Int) ((m : Int) / 2 ^ k)) 1 = ((v * bt m k : Nat) : Int) := by
  have e : (m : Int) / 2 ^ k = ((m / 2 ^ k : Nat) : Int) := by simp
  have h1 : ((1 : Nat) : Int) = 1 := rfl
  rw [e, bAnd, ← h1, bAnd]
  congr 1
  have h2 : (v &&& m / 2 ^ k) &&& 1 = (v &&& m / 2 ^ k) % 2 := by rw [Nat.and_one_is_mod]
  rw [h2]
  have h3 : (v &&& m / 2 ^ k) % 2 = v % 2 * (m / 2 ^ k % 2) := by
    have := bt_and v (m / 2 ^ k) 0
    rwa [bt_0, bt_0, bt_0] at this
  rw [h3]
  show v % 2 * bt m k = v * bt m k
  rw [Nat.mod_eq_of_lt (by omega)]
theorem bt_mod {m i k : Nat} : bt (m % 2 ^ k) i = if i < k then bt m i else 0 := by
  rw [bt_tb, bt_tb, Nat.testBit_mod_two_pow]
  by_cases h : i < k <;> simp [h]
theorem mod_succ {m k : Nat} : m % 2 ^ (k + 1) = m % 2 ^ k ^^^ bt m k * 2 ^ k := bt_ext fun i => by
  rw [bt_mod, bt_flip (bt_le _ _), bt_mod, bt_mod, if_neg (Nat.lt_irrefl k)]
  have := bt_le m k
  by_cases h : i = k
  · subst h
    rw [if_pos (by omega), if_pos rfl]
    omega
  · rw [if_neg h]
    by_cases h2 : i < k
    · rw [if_pos h2, if_pos (by omega)]
    · rw [if_neg h2, if_neg (by omega)]
theorem mod_one' (m : Nat) : m % 2 ^ 0 = 0 := by simp [Nat.mod_one]
theorem bt_xor_low {b m k : Nat} : bt (b ^^^ m % 2 ^ k) k = bt b k := by
  rw [bt_xor, bt_mod, if_neg (Nat.lt_irrefl k)]
  have := bt_le b k
  omega
theorem ph_succ {k : Nat} {r : Rw} {b : Nat} : ph (k + 1) r b = ph k r b + 2 * (bt r.z k * bt b k) + bt r.x k * bt r.z k := by
  show 2 * r.s + 2 * (pc k (r.z &&& b) + bt (r.z &&& b) k) + (pc k (r.x &&& r.z) + bt (r.x &&& r.z) k) = _
  rw [bt_and, bt_and]
  unfold ph
  omega
theorem ph_le {k : Nat} {r : Rw} {b : Nat} (hs : r.s < 2) : ph k r b ≤ 3 * k + 2 := by
  have h1 := pc_le k (r.z &&& b)
  have h2 := pc_le k (r.x &&& r.z)
  unfold ph
  omega
theorem mul01 {a b : Nat} (ha : a ≤ 1) (hb : b ≤ 1) : a * b ≤ 1 := by
  rcases (show a = 0 ∨ a = 1 by omega) with h | h <;> subst h <;> omega
@[simp] theorem bAnd_s (a b : Nat) : Builtin.bitAnd (a : Int) (b : Int) = ((a &&& b : Nat) : Int) := bAnd a b
@[simp] theorem bOr_s (a b : Nat) : Builtin.bitOr (a : Int) (b : Int) = ((a ||| b : Nat) : Int) := bOr a b
@[simp] theorem bXor_s (a b : Nat) : Builtin.bitXor (a : Int) (b : Int) = ((a ^^^ b : Nat) : Int) := bXor a b
@[simp] theorem bXorM {a v k : Nat} : Builtin.bitXor (a : Int) ((v : Int) * 2 ^ k) = ((a ^^^ v * 2 ^ k : Nat) : Int) := by
  rw [← bXor]; simp
@[simp] theorem bXorP2 {a k : Nat} : Builtin.bitXor (a : Int) (2 ^ k) = ((a ^^^ 2 ^ k : Nat) : Int) := by
  rw [← bXor]; simp
@[simp] theorem bAndP2 {a k : Nat} : Builtin.bitAnd (a : Int) (2 ^ k) = ((a &&& 2 ^ k : Nat) : Int) := by
  rw [← bAnd]; simp
@[simp] theorem bOrP2 {a k : Nat} : Builtin.bitOr (a : Int) (2 ^ k) = ((a ||| 2 ^ k : Nat) : Int) := by
  rw [← bOr]; simp
@[simp] theorem bOrM {a v k : Nat} : Builtin.bitOr (a : Int) ((v : Int) * 2 ^ k) = ((a ||| v * 2 ^ k : Nat) : Int) := by
  rw [← bOr]; simp
@[simp] theorem bXor1 {a : Nat} : Builtin.bitXor (a : Int) 1 = ((a ^^^ 1 : Nat) : Int) := bXor a 1
@[simp] theorem b1Xor {a : Nat} : Builtin.bitXor 1 (a : Int) = ((1 ^^^ a : Nat) : Int) := bXor 1 a
@[simp] theorem bAnd1 {a : Nat} : Builtin.bitAnd (a : Int) 1 = ((a &&& 1 : Nat) : Int) := bAnd a 1
theorem shr_nat {m k : Nat} : (m : Int) / 2 ^ k = ((m / 2 ^ k : Nat) : Int) := by simp
theorem and1 {m : Nat} : m &&& 1 = m % 2 := Nat.and_one_is_mod m
end TW
/-! TL: the program's defs on rows. -/
namespace LP
open PySem PySem.Spec L2 TW PyProof.Rows
noncomputable section
def b_ones : DS → Out := (oSeq (oSet 1 (dConst (.int 0))) (oSeq (oWhile wF (asB (dPure2 (gCmp .Gt) (dVar 0) (dConst (.int 0)))) (oSeq (oAug 0 (gIop .BitAnd) (dPure2 (gBin .Sub) (dVar 0) (dConst (.int 1)))) (oSeq (oAug 1 (gIop .Add) (dConst (.int 1))) oNext))) (oSeq (oRet (dVar 1)) oNext)))
def f_ones : List D → R := fnRun 2 b_ones
def b_goes_beside : DS → Out := (oSeq (oRet (dPure2 (gCmp .Eq) (dPure2 (gBin .Mod) (dPure2 (gBin .Add) (dCall f_ones [] (dArgs [(dPure2 (gBin .BitAnd) (dPure2 gIx (dVar 0) (dConst (.int 1))) (dPure2 gIx (dVar 1) (dConst (.int 2))))])) (dCall f_ones [] (dArgs [(dPure2 (gBin .BitAnd) (dPure2 gIx (dVar 0) (dConst (.int 2))) (dPure2 gIx (dVar 1) (dConst (.int 1))))]))) (dConst (.int 2))) (dConst (.int 0)))) oNext)
def f_goes_beside : List D → R := fnRun 2 b_goes_beside
def b_times : DS → Out := (oSeq (oIf (dNot (dTruth (dCall f_goes_beside [] (dArgs [(dVar 0), (dVar 1)])))) (oSeq (oRaise "NoProduct") oNext) oNext) (oSeq (oSet 2 (dPure2 (gBin .BitXor) (dPure2 gIx (dVar 0) (dConst (.int 1))) (dPure2 gIx (dVar 1) (dConst (.int 1))))) (oSeq (oSet 3 (dPure2 (gBin .BitXor) (dPure2 gIx (dVar 0) (dConst (.int 2))) (dPure2 gIx (dVar 1) (dConst (.int 2))))) (oSeq (oSet 4 (dPure2 (gBin .Sub) (dPure2 (gBin .Add) (dCall f_ones [] (dArgs [(dPure2 (gBin .BitAnd) (dPure2 gIx (dVar 0) (dConst (.int 1))) (dPure2 gIx (dVar 0) (dConst (.int 2))))])) (dCall f_ones [] (dArgs [(dPure2 (gBin .BitAnd) (dPure2 gIx (dVar 1) (dConst (.int 1))) (dPure2 gIx (dVar 1) (dConst (.int 2))))]))) (dCall f_ones [] (dArgs [(dPure2 (gBin .BitAnd) (dVar 2) (dVar 3))])))) (oSeq (oAug 4 (gIop .Add) (dPure2 (gBin .Mult) (dConst (.int 2)) (dCall f_ones [] (dArgs [(dPure2 (gBin .BitAnd) (dPure2 gIx (dVar 0) (dConst (.int 2))) (dPure2 gIx (dVar 1) (dConst (.int 1))))])))) (oSeq (oSet 5 (dPure2 (gBin .BitXor) (dPure2 gIx (dVar 0) (dConst (.int 0))) (dPure2 gIx (dVar 1) (dConst (.int 0))))) (oSeq (oIf (asB (dPure2 (gCmp .Eq) (dPure2 (gBin .Mod) (dVar 4) (dConst (.int 4))) (dConst (.int 2)))) (oSeq (oAug 5 (gIop .BitXor) (dConst (.int 1))) oNext) oNext) (oSeq (oRet (dTup (dVals [(dVar 5), (dVar 2), (dVar 3)]))) oNext))))))))
def f_times : List D → R := fnRun 6 b_times
theorem ones_ {m n : Nat} (h : m < 2 ^ n) (hn : n ≤ 60) : f_ones [.int m] = .val (.int (pc n m)) := ones_eq h hn
theorem and_lt {a b n : Nat} (h : a < 2 ^ n) : a &&& b < 2 ^ n := Nat.lt_of_le_of_lt Nat.and_le_left h
theorem beside_ {a b : Rw} {n : Nat} (hn : n ≤ 60) (ha : a.Ok n) : f_goes_beside [a.d, b.d] = .val (.bl (bes n a b)) := by
  unfold f_goes_beside fnRun b_goes_beside S0
  simp [bAnd, ones_ (and_lt ha.x) hn, ones_ (and_lt ha.z) hn, q_mod, bes, bp]
  exact decide_eq_decide.mpr (by omega)
theorem times_ {a b : Rw} {n : Nat} (hn : n ≤ 60) (ha : a.Ok n) (hb : b.Ok n) : f_times [a.d, b.d] = if bes n a b = true then .val (mul n a b).d else .exc "NoProduct" := by
  have hx : a.x ^^^ b.x < 2 ^ n := Nat.xor_lt_two_pow ha.x hb.x
  unfold f_times fnRun b_times S0
  by_cases h : bes n a b = true
  · rw [if_pos h]
    have p1 := pc_le n (a.z &&& b.x)
    have m1 : gBin .Mult (.int 2) (.int (pc n (a.z &&& b.x))) = .val (.int (2 * pc n (a.z &&& b.x))) := q_mul2 (by omega)
    by_cases hq : ((pc n (a.x &&& a.z) : Int) + pc n (b.x &&& b.z) - pc n ((a.x ^^^ b.x) &&& (a.z ^^^ b.z)) + 2 * pc n (a.z &&& b.x)) % 4 = 2
    · have e : (mul n a b).s = a.s ^^^ b.s ^^^ 1 := by show mulS n a b = _; unfold mulS; rw [if_pos hq]
      have x1 : Builtin.bitXor ((a.s ^^^ b.s : Nat) : Int) 1 = ((a.s ^^^ b.s ^^^ 1 : Nat) : Int) := bXor _ 1
      simp [beside_ hn ha, h, bAnd, bXor, ones_ (and_lt ha.x) hn, ones_ (and_lt ha.z) hn, ones_ (and_lt hb.x) hn, ones_ (and_lt hx) hn, m1, q_mod, hq, x1, e]
      exact ⟨rfl, rfl⟩
    · have e : (mul n a b).s = a.s ^^^ b.s := by show mulS n a b = _; unfold mulS; rw [if_neg hq]
      simp [beside_ hn ha, h, bAnd, bXor, ones_ (and_lt ha.x) hn, ones_ (and_lt ha.z) hn, ones_ (and_lt hb.x) hn, ones_ (and_lt hx) hn, m1, q_mod, hq, e]
      exact ⟨rfl, rfl⟩
  · rw [if_neg h]
    simp [beside_ hn ha, h]
end
end LP
/-! TD: deeds as values. -/
namespace TW
open PySem PySem.Spec L2 PyProof.Rows
def Dd.d : Dd → D
  | .over k => .tup [.str "over", .int k]
  | .quarter k => .tup [.str "quarter", .int k]
  | .back k => .tup [.str "back", .int k]
  | .both k => .tup [.str "both", .int k]
  | .whr j k => .tup [.str "where", .int j, .int k]
  | .swap j k => .tup [.str "swap", .int j, .int k]
def Dd.cls : Dd → Str
  | .over _ => "Over"
  | .quarter _ => "Quarter"
  | .back _ => "Back"
  | .both _ => "Both"
  | .whr _ _ => "Where"
  | .swap _ _ => "Swap"
abbrev Dd.obj (d : Dd) : D := .ins d.cls [("told", d.d)]
theorem Dd.d_flat (d : Dd) : d.d.flat = true := by cases d <;> rfl
theorem Dd.d_noRef (d : Dd) : d.d.noRef = true := by cases d <;> rfl
@[simp] theorem q_peek_dd {S : DS} {d : Dd} : peek S (.val d.d) = some d.d := by cases d <;> rfl
theorem shl_small {v k : Nat} (hv : v ≤ 1) (hk : k ≤ 1000) : gBin .LShift (.int v) (.int k) = .val (.int ((v : Int) * 2 ^ k)) := q_shl (by omega) hk
/- lists that stand there: walked one by one -/
section
variable {S : DS} {tg : D → DS → Res Unit} {body g : DS → Out} {x : D} {xs acc : List D} {src : DS → Res Src} {tt : DS → Res Bool} {te : DS → Res RV} {vs : List Nat} {A : List Nat}
theorem w_for {items : List D} {S0 : DS} (h : src S = .ok ⟨items, .no⟩ S0) : oSeq (oFor A src tg body) g S = (forLoop tg body items S0).then_ g := by
  unfold oSeq oFor
  rw [h]
  rfl
@[simp] theorem w_for0 : forLoop tg body [] S = .next S := (rfl)
@[simp] theorem w_for1 : forLoop tg body (x :: xs) S = (match tg x S with
    | .ok _ S1 => (match body S1 with
      | .next S2 => forLoop tg body xs S2
      | .cont S2 => forLoop tg body xs S2
      | .brk S2 => .next S2
      | o => o)
    | _ => .stk) := (rfl)
theorem w_forU : oSeq (oFor A src tg body) g S = (src S).toOut fun s S1 => (match s.lk with
  | .no => forLoop tg body s.items S1
  | .heap _ _ _ => forLoopA s tg body s.items S1
  | .slot j _ _ => if A.contains j = true then .stk else forLoopA s tg body s.items S1).then_ g := by
  unfold oSeq oFor Res.toOut
  cases src S <;> rfl
theorem w_lc : dLc src tg tt te vs S = (src S).bind fun s S1 =>
  if (vs.all fun v => notOwn (S1.sl[v]?.join)) = true ∧ (∀ j, s.at_ = some j → j ∉ vs) then
    (lcLoop s tg tt te vs s.items [] { S1 with sl := wipeS vs S1.sl }).quiet.bind fun ds S2 => .ok (.own (.lst ds)) (unlock s { S2 with sl := backS S1.sl vs S2.sl })
  else .stk := (rfl)
@[simp] theorem w_at {its : List D} : Src.at_ ⟨its, .no⟩ = none := (rfl)
@[simp] theorem w_unl {its : List D} : unlock ⟨its, .no⟩ S = S := (rfl)
@[simp] theorem w_lc0 {its : List D} : lcLoop ⟨its, .no⟩ tg tt te vs [] acc S = .ok acc S := by
  rw [lcLoop, if_pos (alive_no _ _)]
@[simp] theorem w_lc1 {its : List D} : lcLoop ⟨its, .no⟩ tg tt te vs (x :: xs) acc S = (tg x S).bind fun _ S1 => (tt S1).bind fun b S2 => if b = true then
      ((te S2).bind fun r S3 => (settle r S3).bind fun d S4 => if acc.length < sizeLine then lcLoop ⟨its, .no⟩ tg tt te vs xs (acc ++ [d]) { S4 with sl := wipeS vs S4.sl } else .stk)
      else lcLoop ⟨its, .no⟩ tg tt te vs xs acc { S2 with sl := wipeS vs S2.sl } := by
  rw [lcLoop, if_pos (alive_no _ _)]
@[simp] theorem w_quiet {ds : List D} : (Res.ok ds S).quiet = .ok ds S := (rfl)
@[simp] theorem w_quietE {c : Str} : (Res.exc c S : Res (List D)).quiet = .stk := (rfl)
@[simp] theorem w_wipe0 {sl : List (Option Sl)} : wipeS [] sl = sl := (rfl)
@[simp] theorem w_wipe {v : Nat} {sl : List (Option Sl)} : wipeS (v :: vs) sl = (wipeS vs sl).set v none := (rfl)
@[simp] theorem w_back0 {old sl : List (Option Sl)} : backS old [] sl = sl := (rfl)
@[simp] theorem w_back {v : Nat} {old sl : List (Option Sl)} : backS old (v :: vs) sl = (backS old vs sl).set v (old[v]?.join) := (rfl)
@[simp] theorem w_notOwn0 : notOwn none = true := (rfl)
@[simp] theorem w_notOwn1 {d : D} : notOwn (some (.val d)) = true := (rfl)
@[simp] theorem sz0' : 0 < sizeLine := by unfold sizeLine; omega
@[simp] theorem sz1' : 1 < sizeLine := by unfold sizeLine; omega
@[simp] theorem sz2' : 2 < sizeLine := by unfold sizeLine; omega
@[simp] theorem sz3' : 3 < sizeLine := by unfold sizeLine; omega
@[simp] theorem sz0 : 0 ≤ sizeLine := by unfold sizeLine; omega
end
theorem gSl_tup {ds : List D} {lo hi : Option Int} : gSl (.tup ds) lo hi = .val (.tup (cutD ds lo hi)) := (rfl)
@[simp] theorem cut1_2 {a b : D} : gSl (.tup [a, b]) (some 1) none = .val (.tup [b]) := by
  rw [gSl_tup]
  rfl
@[simp] theorem cut1_3 {a b c : D} : gSl (.tup [a, b, c]) (some 1) none = .val (.tup [b, c]) := by
  rw [gSl_tup]
  rfl
@[simp] theorem q_isi_str {b : Str} : gIsi "str" (.str b) = .val (.bl true) := (rfl)
@[simp] theorem q_isi_tup2 {b : List D} : gIsi "list" (.tup b) = .val (.bl false) := (rfl)
@[simp] theorem q_gAll {bs : List D} : gAll [.lst bs] = (match blsOf bs with
    | some ns => .val (.bl (ns.all id))
    | none => .stk) := by
  unfold gAll gOne
  simp only
  cases h : blsOf bs <;> simp only
@[simp] theorem q_bls0 : blsOf [] = some [] := (rfl)
@[simp] theorem q_bls {b : Bool} {ds : List D} : blsOf (.bl b :: ds) = (blsOf ds).map (b :: ·) := (rfl)
@[simp] theorem q_gMax1 {ds : List D} : gMax [.tup ds] = (match intsOf ds with
    | some ns => if ns = [] then .stk else .val (.int (maxL ns))
    | none => .stk) := (rfl)
@[simp] theorem q_gMinT {ds : List D} : gMinD [.tup ds] = gMin [.tup ds] := (rfl)
@[simp] theorem q_gMin1 {ds : List D} : gMin [.tup ds] = (match intsOf ds with
    | some ns => if ns = [] then .stk else .val (.int (minL ns))
    | none => .stk) := (rfl)
@[simp] theorem q_ints0 : intsOf [] = some [] := (rfl)
@[simp] theorem q_ints {b : Int} {ds : List D} : intsOf (.int b :: ds) = (intsOf ds).map (b :: ·) := (rfl)
@[simp] theorem q_maxL1 {a : Int} : maxL [a] = a := (rfl)
@[simp] theorem q_maxL2 {a b : Int} : maxL [a, b] = max a b := (rfl)
@[simp] theorem q_minL1 {a : Int} : minL [a] = a := (rfl)
@[simp] theorem q_minL2 {a b : Int} : minL [a, b] = min a b := (rfl)
theorem in_strs {x : Str} {xs : List Str} : gCmp .In (.str x) (.tup (xs.map D.str)) = .val (.bl (decide (x ∈ xs))) := by
  have h1 : (xs.map D.str).all flatD = true := by simp [flatD]
  show oB (inD (.str x) (.tup (xs.map D.str))) = _
  unfold inD
  simp only
  rw [if_pos ⟨rfl, h1⟩]
  show R.val (.bl ((xs.map D.str).any fun e => eqFlat e (.str x))) = _
  congr 2
  induction xs with
  | nil => rfl
  | cons y ys ih =>
    rw [List.map_cons, List.any_cons, ih (by simp [flatD])]
    show (y == x || _) = _
    by_cases h : y = x
    · subst h; simp
    · have h' : ¬ x = y := fun z => h z.symm
      simp [h, h']
@[simp] theorem in_strs2 {x a b : Str} : gCmp .In (.str x) (.tup [.str a, .str b]) = .val (.bl (decide (x = a ∨ x = b))) := by
  have := in_strs (x := x) (xs := [a, b])
  simpa using this
@[simp] theorem in_strs4 {x a b c d : Str} : gCmp .In (.str x) (.tup [.str a, .str b, .str c, .str d]) = .val (.bl (decide (x = a ∨ x = b ∨ x = c ∨ x = d))) := by
  have := in_strs (x := x) (xs := [a, b, c, d])
  simpa using this
def Dd.top : Dd → Nat
  | .over k => k
  | .quarter k => k
  | .back k => k
  | .both k => k
  | .whr j k => max j k
  | .swap j k => max j k
theorem Dd.top_ok {d : Dd} {n : Nat} (h : d.Ok n) : d.Ok (1 + d.top) := by
  cases d <;> simp only [Dd.Ok, Dd.top] at h ⊢ <;> omega
@[simp] theorem q_opt1 {S : DS} {f : DS → Res RV} : dOpt (some f) S = (f S).bind fun r S1 => match r with
  | .val (.int i) => .ok (some i) S1
  | _ => .stk := (rfl)
theorem and_any (z : Nat) (i : Int) : ∃ z' : Nat, Builtin.bitAnd (z : Int) i = (z' : Int) ∧ z' ≤ z := by
  obtain ⟨h1, h2⟩ := bitAnd_range i (y := (z : Int)) (by omega)
  rw [bitAnd_comm] at h1 h2
  generalize Builtin.bitAnd (z : Int) i = y at *
  exact ⟨y.toNat, by omega, by omega⟩
theorem q_shlS {a : Int} {k : Nat} (ha : a.natAbs < 2 ^ 100) (hk : k ≤ 1000) : gBin .LShift (.int a) (.int k) = .val (.int (a * 2 ^ k)) := q_shl (Nat.lt_of_lt_of_le ha (Nat.pow_le_pow_right (by decide) (by decide))) hk
end TW
/-! TM4: works; what undoes them. -/
namespace TW
def dUndo : Dd → Dd
  | .quarter k => .back k
  | .back k => .quarter k
  | d => d
def rowB (ds : List Dd) (r : Rw) : Rw := ds.foldl (fun r d => dRow d r) r
def undoW (ds : List Dd) : List Dd := (ds.map dUndo).reverse
theorem dUndo_ok {n : Nat} {d : Dd} (h : d.Ok n) : (dUndo d).Ok n := by cases d <;> exact h
theorem dUndo_dUndo {d : Dd} : dUndo (dUndo d) = d := by cases d <;> rfl
theorem rowB_nil {r : Rw} : rowB [] r = r := rfl
theorem rowB_cons {d : Dd} {ds : List Dd} {r : Rw} : rowB (d :: ds) r = rowB ds (dRow d r) := rfl
theorem rowB_append {ds es : List Dd} {r : Rw} : rowB (ds ++ es) r = rowB es (rowB ds r) := by
  unfold rowB
  rw [List.foldl_append]
theorem rowB_ok {n : Nat} : ∀ {ds : List Dd} {r : Rw}, (∀ d ∈ ds, d.Ok n) → r.Ok n → (rowB ds r).Ok n
  | [], _, _, hr => hr
  | d :: ds, r, h, hr => rowB_ok (ds := ds) (r := dRow d r) (fun e he => h e (List.mem_cons_of_mem _ he)) (dRow_ok (h d List.mem_cons_self) hr)
theorem flip_flip {m v k : Nat} : m ^^^ v * 2 ^ k ^^^ v * 2 ^ k = m := xor_self_right
theorem s_flip {s a : Nat} : s ^^^ a ^^^ a = s := xor_self_right
theorem exch_exch {j k m : Nat} : exch j k (exch j k m) = m := bt_ext fun i => by
  simp only [bt_exch]
  by_cases h : i = j
  · subst h
    by_cases h' : k = i
    · subst h'; simp
    · simp [h']
  · by_cases h' : i = k
    · subst h'
      simp [h]
    · simp [h, h']
theorem dRow_undo {n : Nat} {d : Dd} {r : Rw} (hd : d.Ok n) (hs : r.s < 2) : dRow (dUndo d) (dRow d r) = r := by
  cases d with
  | over k => exact Rw.ext' s_flip rfl rfl
  | quarter k =>
    refine Rw.ext' ?_ rfl flip_flip
    show r.s ^^^ (bt r.x k &&& bt r.z k) ^^^ (bt r.x k &&& (1 ^^^ bt (r.z ^^^ bt r.x k * 2 ^ k) k)) = r.s
    rw [bt_flip (bt_le _ _), if_pos rfl]
    rcases bt01 r.x k with h1 | h1 <;> rcases bt01 r.z k with h2 | h2 <;> rcases (show r.s = 0 ∨ r.s = 1 by omega) with h3 | h3 <;> rw [h1, h2, h3] <;> rfl
  | back k =>
    refine Rw.ext' ?_ rfl flip_flip
    show r.s ^^^ (bt r.x k &&& (1 ^^^ bt r.z k)) ^^^ (bt r.x k &&& bt (r.z ^^^ bt r.x k * 2 ^ k) k) = r.s
    rw [bt_flip (bt_le _ _), if_pos rfl]
    rcases bt01 r.x k with h1 | h1 <;> rcases bt01 r.z k with h2 | h2 <;> rcases (show r.s = 0 ∨ r.s = 1 by omega) with h3 | h3 <;> rw [h1, h2, h3] <;> rfl
  | both k =>
    have hle : bt r.x k ^^^ bt r.z k ≤ 1 := by rw [xor01 (bt_le _ _) (bt_le _ _)]; omega
    have hx : bt (r.x ^^^ (bt r.x k ^^^ bt r.z k) * 2 ^ k) k = bt r.z k := by
      rw [bt_flip hle, if_pos rfl]
      rcases bt01 r.x k with h1 | h1 <;> rcases bt01 r.z k with h2 | h2 <;> rw [h1, h2] <;> rfl
    have hz : bt (r.z ^^^ (bt r.x k ^^^ bt r.z k) * 2 ^ k) k = bt r.x k := by
      rw [bt_flip hle, if_pos rfl]
      rcases bt01 r.x k with h1 | h1 <;> rcases bt01 r.z k with h2 | h2 <;> rw [h1, h2] <;> rfl
    refine Rw.ext' ?_ ?_ ?_
    · show r.s ^^^ (bt r.x k &&& bt r.z k) ^^^ (bt (r.x ^^^ (bt r.x k ^^^ bt r.z k) * 2 ^ k) k &&& bt (r.z ^^^ (bt r.x k ^^^ bt r.z k) * 2 ^ k) k) = r.s
      rw [hx, hz, Nat.and_comm (bt r.z k)]
      exact s_flip
    · show r.x ^^^ (bt r.x k ^^^ bt r.z k) * 2 ^ k ^^^ (bt (r.x ^^^ (bt r.x k ^^^ bt r.z k) * 2 ^ k) k ^^^ bt (r.z ^^^ (bt r.x k ^^^ bt r.z k) * 2 ^ k) k) * 2 ^ k = r.x
      rw [hx, hz, Nat.xor_comm (bt r.z k)]
      exact flip_flip
    · show r.z ^^^ (bt r.x k ^^^ bt r.z k) * 2 ^ k ^^^ (bt (r.x ^^^ (bt r.x k ^^^ bt r.z k) * 2 ^ k) k ^^^ bt (r.z ^^^ (bt r.x k ^^^ bt r.z k) * 2 ^ k) k) * 2 ^ k = r.z
      rw [hx, hz, Nat.xor_comm (bt r.z k)]
      exact flip_flip
  | whr j k =>
    obtain ⟨hj, hk, ne⟩ := hd
    have ne' : k ≠ j := fun q => ne q.symm
    have h1 : bt (r.x ^^^ bt r.x j * 2 ^ k) j = bt r.x j := bt_flip' (bt_le _ _) ne
    have h2 : bt (r.z ^^^ bt r.z k * 2 ^ j) k = bt r.z k := bt_flip' (bt_le _ _) ne'
    have h3 : bt (r.x ^^^ bt r.x j * 2 ^ k) k = (bt r.x k + bt r.x j) % 2 := by rw [bt_flip (bt_le _ _), if_pos rfl]
    have h4 : bt (r.z ^^^ bt r.z k * 2 ^ j) j = (bt r.z j + bt r.z k) % 2 := by rw [bt_flip (bt_le _ _), if_pos rfl]
    refine Rw.ext' ?_ ?_ ?_
    · show (if bt (r.x ^^^ bt r.x j * 2 ^ k) j &&& bt (r.z ^^^ bt r.z k * 2 ^ j) k = 1 ∧ bt (r.x ^^^ bt r.x j * 2 ^ k) k = bt (r.z ^^^ bt r.z k * 2 ^ j) j then (if bt r.x j &&& bt r.z k = 1 ∧ bt r.x k = bt r.z j then r.s ^^^ 1 else r.s) ^^^ 1 else (if bt r.x j &&& bt r.z k = 1 ∧ bt r.x k = bt r.z j then r.s ^^^ 1 else r.s)) = r.s
      rw [h1, h2, h3, h4]
      rcases bt01 r.x j with a | a <;> rcases bt01 r.z k with b | b <;> rcases bt01 r.x k with c | c <;> rcases bt01 r.z j with d | d <;> rcases (show r.s = 0 ∨ r.s = 1 by omega) with e | e <;> rw [a, b, c, d, e] <;> rfl
    · show r.x ^^^ bt r.x j * 2 ^ k ^^^ bt (r.x ^^^ bt r.x j * 2 ^ k) j * 2 ^ k = r.x
      rw [h1]
      exact flip_flip
    · show r.z ^^^ bt r.z k * 2 ^ j ^^^ bt (r.z ^^^ bt r.z k * 2 ^ j) k * 2 ^ j = r.z
      rw [h2]
      exact flip_flip
  | swap j k => exact Rw.ext' rfl exch_exch exch_exch
theorem rowB_undo {n : Nat} : ∀ {ds : List Dd} {r : Rw}, (∀ d ∈ ds, d.Ok n) → r.Ok n → rowB (undoW ds) (rowB ds r) = r
  | [], _, _, _ => rfl
  | d :: ds, r, h, hr => by
    have h1 := h d List.mem_cons_self
    unfold undoW
    rw [List.map_cons, List.reverse_cons, rowB_append, rowB_cons (ds := ds)]
    have := rowB_undo (ds := ds) (r := dRow d r) (fun e he => h e (List.mem_cons_of_mem _ he)) (dRow_ok h1 hr)
    unfold undoW at this
    rw [this]
    exact dRow_undo h1 hr.s
theorem undoW_ok {n : Nat} {ds : List Dd} (h : ∀ d ∈ ds, d.Ok n) : ∀ d ∈ undoW ds, d.Ok n := fun d hd => by
  unfold undoW at hd
  rw [List.mem_reverse, List.mem_map] at hd
  obtain ⟨e, he, rfl⟩ := hd
  exact dUndo_ok (h e he)
theorem undoW_undoW {ds : List Dd} : undoW (undoW ds) = ds := by
  unfold undoW
  rw [← List.map_reverse, List.reverse_reverse, List.map_map]
  have : dUndo ∘ dUndo = id := funext fun d => dUndo_dUndo
  rw [this, List.map_id]
theorem undoW_len {ds : List Dd} : (undoW ds).length = ds.length := by
  unfold undoW
  rw [List.length_reverse, List.length_map]
theorem rowB_undo' {n : Nat} {ds : List Dd} {r : Rw} (h : ∀ d ∈ ds, d.Ok n) (hr : r.Ok n) : rowB ds (rowB (undoW ds) r) = r := by
  have := rowB_undo (undoW_ok h) hr
  rwa [undoW_undoW] at this
end TW
/-! TE: == of plain values. -/
namespace TW
open PySem PySem.Spec L2 PyProof.Rows
def D.okD : Nat → D → Bool
  | _, .int _ => true
  | _, .str x => PyData.strOk x
  | n + 1, .tup ds => ds.all (D.okD n)
  | n + 1, .lst ds => ds.all (D.okD n)
  | _, _ => false
theorem pys_eq : ∀ ds : List D, D.pys ds = ds.map D.py
  | [] => rfl
  | d :: ds => by rw [D.pys, pys_eq ds]; rfl
theorem canLayAll_eq : ∀ xs : List PyData, PyData.canLayAll0 xs = xs.all PyData.canLay0
  | [] => rfl
  | x :: xs => by rw [PyData.canLayAll0, canLayAll_eq xs]; rfl
theorem depthAll_le {n : Nat} : ∀ xs : List PyData, (∀ x ∈ xs, x.depth ≤ n) → PyData.depthAll xs ≤ n
  | [], _ => Nat.zero_le _
  | x :: xs, h => by
    rw [PyData.depthAll]
    exact Nat.max_le.mpr ⟨h x List.mem_cons_self, depthAll_le xs fun y hy => h y (List.mem_cons_of_mem _ hy)⟩
theorem okD_lay : ∀ (n : Nat) (d : D), d.okD n = true → d.py.canLay0 = true ∧ d.py.depth ≤ n
  | _, .int _, _ => ⟨rfl, Nat.zero_le _⟩
  | _, .str x, h => ⟨by unfold D.okD at h; exact h, Nat.zero_le _⟩
  | 0, .tup ds, h => by simp [D.okD] at h
  | 0, .lst ds, h => by simp [D.okD] at h
  | n + 1, .tup ds, h => by
    have h : ∀ x ∈ ds, x.okD n = true := by simpa [D.okD] using h
    rw [D.py, pys_eq]
    constructor
    · rw [PyData.canLay0, canLayAll_eq, List.all_map, List.all_eq_true]
      exact fun x hx => (okD_lay n x (h x hx)).1
    · rw [PyData.depth]
      refine Nat.succ_le_succ (depthAll_le _ fun y hy => ?_)
      obtain ⟨x, hx, rfl⟩ := List.mem_map.mp hy
      exact (okD_lay n x (h x hx)).2
  | n + 1, .lst ds, h => by
    have h : ∀ x ∈ ds, x.okD n = true := by simpa [D.okD] using h
    rw [D.py, pys_eq]
    constructor
    · rw [PyData.canLay0, canLayAll_eq, List.all_map, List.all_eq_true]
      exact fun x hx => (okD_lay n x (h x hx)).1
    · rw [PyData.depth]
      refine Nat.succ_le_succ (depthAll_le _ fun y hy => ?_)
      obtain ⟨x, hx, rfl⟩ := List.mem_map.mp hy
      exact (okD_lay n x (h x hx)).2
  | n, .non, h => by cases n <;> simp [D.okD] at h
  | n, .bl _, h => by cases n <;> simp [D.okD] at h
  | n, .scr _, h => by cases n <;> simp [D.okD] at h
  | n, .dic _, h => by cases n <;> simp [D.okD] at h
  | n, .ins _ _, h => by cases n <;> simp [D.okD] at h
  | n, .ref _, h => by cases n <;> simp [D.okD] at h
  | n, .exn _, h => by cases n <;> simp [D.okD] at h
theorem okD_kind : ∀ {n : Nat} {d : D}, d.okD n = true → (∃ i, d = .int i) ∨ (∃ x, d = .str x) ∨ (∃ m ds, n = m + 1 ∧ d = .tup ds ∧ ∀ x ∈ ds, x.okD m = true) ∨ (∃ m ds, n = m + 1 ∧ d = .lst ds ∧ ∀ x ∈ ds, x.okD m = true) := fun {n d} h => by
  cases d with
  | int i => exact .inl ⟨_, rfl⟩
  | str x => exact .inr (.inl ⟨_, rfl⟩)
  | tup ds =>
    cases n with
    | zero => simp [D.okD] at h
    | succ m => exact .inr (.inr (.inl ⟨m, ds, rfl, rfl, by simpa [D.okD] using h⟩))
  | lst ds =>
    cases n with
    | zero => simp [D.okD] at h
    | succ m => exact .inr (.inr (.inr ⟨m, ds, rfl, rfl, by simpa [D.okD] using h⟩))
  | _ => cases n <;> simp [D.okD] at h
theorem okD_eqv : ∀ (n : Nat) (d e : D), d.okD n = true → e.okD n = true → (PyData.eqv d.py e.py = true ↔ d = e) := fun n => by
  have all : ∀ m : Nat, (∀ d e : D, d.okD m = true → e.okD m = true → (PyData.eqv d.py e.py = true ↔ d = e)) → ∀ xs ys : List D, (∀ x ∈ xs, x.okD m = true) → (∀ x ∈ ys, x.okD m = true) → (PyData.eqvAll (xs.map D.py) (ys.map D.py) = true ↔ xs = ys) := fun m ih xs => by
    induction xs with
    | nil => intro ys _ _; cases ys <;> simp [PyData.eqvAll]
    | cons x xs ih2 =>
      intro ys hx hy
      cases ys with
      | nil => simp [PyData.eqvAll]
      | cons y ys =>
        rw [List.map_cons, List.map_cons, PyData.eqvAll, Bool.and_eq_true, ih x y (hx x List.mem_cons_self) (hy y List.mem_cons_self), ih2 ys (fun z hz => hx z (List.mem_cons_of_mem _ hz)) (fun z hz => hy z (List.mem_cons_of_mem _ hz))]
        simp
  induction n with
  | zero =>
    intro d e hd he
    rcases okD_kind hd with ⟨i, rfl⟩ | ⟨x, rfl⟩ | ⟨m, ds, h, _⟩ | ⟨m, ds, h, _⟩ <;> first | (omega; done) | skip
    all_goals rcases okD_kind he with ⟨j, rfl⟩ | ⟨y, rfl⟩ | ⟨m, es, h, _⟩ | ⟨m, es, h, _⟩ <;> first | (omega; done) | simp [D.py, PyData.eqv]
  | succ n ih =>
    intro d e hd he
    rcases okD_kind hd with ⟨i, rfl⟩ | ⟨x, rfl⟩ | ⟨m, ds, hm, rfl, h1⟩ | ⟨m, ds, hm, rfl, h1⟩ <;> rcases okD_kind he with ⟨j, rfl⟩ | ⟨y, rfl⟩ | ⟨m', es, hm', rfl, h2⟩ | ⟨m', es, hm', rfl, h2⟩ <;> first
      | (simp [D.py, PyData.eqv]; done)
      | (have e1 : m = n := by omega
         have e2 : m' = n := by omega
         subst e1; subst e2
         simp only [D.py, PyData.eqv, pys_eq]
         rw [all _ ih ds es h1 h2]
         simp)
open Classical in
theorem eq_ok {n : Nat} {d e : D} (hd : d.okD n = true) (he : e.okD n = true) (hn : n ≤ 64) : eqD d e = some (decide (d = e)) := by
  obtain ⟨a1, a2⟩ := okD_lay n d hd
  obtain ⟨b1, b2⟩ := okD_lay n e he
  have s1 : SeqAt.shaped d.py = true := by unfold SeqAt.shaped; rw [a1, Bool.true_and]; exact decide_eq_true (by omega)
  have s2 : SeqAt.shaped e.py = true := by unfold SeqAt.shaped; rw [b1, Bool.true_and]; exact decide_eq_true (by omega)
  have key : PyData.eqv d.py e.py = decide (d = e) := by
    have := okD_eqv n d e hd he
    by_cases h : d = e
    · rw [this.mpr h, decide_eq_true h]
    · rw [decide_eq_false h]
      cases hh : PyData.eqv d.py e.py
      · rfl
      · exact absurd (this.mp hh) h
  unfold eqD
  cases hs : scalD d e with
  | none =>
    simp only
    rw [if_pos ⟨s1, s2⟩, key]
  | some b =>
    simp only
    congr 1
    rcases okD_kind hd with ⟨i, rfl⟩ | ⟨x, rfl⟩ | ⟨m, ds, hm, rfl, h1⟩ | ⟨m, ds, hm, rfl, h1⟩ <;> rcases okD_kind he with ⟨j, rfl⟩ | ⟨y, rfl⟩ | ⟨m', es, hm', rfl, h2⟩ | ⟨m', es, hm', rfl, h2⟩ <;> simp [scalD] at hs <;> subst hs <;> simp
theorem eqX0_of {n : Nat} {d e : D} (hd : d.okD n = true) : eqX0 d e = eqD d e := by
  cases d with
  | dic ks => cases n <;> simp [D.okD] at hd
  | _ => rfl
theorem eqX_of {n : Nat} {d e : D} (hd : d.okD n = true) : eqX d e = eqD d e := by
  rw [← eqX0_of hd]
  cases d with
  | dic ks => cases n <;> simp [D.okD] at hd
  | tup ds =>
    cases ds with
    | nil => rfl
    | cons x xs =>
      cases x with
      | dic ks =>
        cases n with
        | zero => simp [D.okD] at hd
        | succ n => cases n <;> simp [D.okD] at hd
      | _ => rfl
  | _ => rfl
open Classical in
theorem gEq_ok {n : Nat} {d e : D} (hd : d.okD n = true) (he : e.okD n = true) (hn : n ≤ 64) : gCmp .Eq d e = .val (.bl (decide (d = e))) := by
  show oB (eqX d e) = _
  rw [eqX_of hd, eq_ok hd he hn]
  rfl
open Classical in
theorem gNe_ok {n : Nat} {d e : D} (hd : d.okD n = true) (he : e.okD n = true) (hn : n ≤ 64) : gCmp .NotEq d e = .val (.bl (!decide (d = e))) := by
  show oB ((eqX0 d e).map (! ·)) = _
  rw [eqX0_of hd, eq_ok hd he hn]
  rfl
theorem Rw.d_ok (r : Rw) : r.d.okD 1 = true := by simp [D.okD]
theorem Rw.d_inj {a b : Rw} : a.d = b.d ↔ a = b := by
  constructor
  · intro h
    cases a; cases b
    simp only [D.tup.injEq, List.cons.injEq, D.int.injEq, Int.natCast_inj, and_true] at h
    simp [h]
  · intro h
    rw [h]
theorem Dd.d_ok (d : Dd) : d.d.okD 1 = true := by cases d <;> simp [Dd.d, D.okD] <;> decide +kernel
theorem Dd.d_inj {a b : Dd} : a.d = b.d ↔ a = b := by
  constructor
  · intro h
    cases a <;> cases b <;> simp [Dd.d, Int.natCast_inj] at h ⊢ <;> exact h
  · intro h
    rw [h]
theorem okD_mono : ∀ {n : Nat} {d : D}, d.okD n = true → ∀ {m : Nat}, n ≤ m → d.okD m = true := fun {n} => by
  induction n with
  | zero =>
    intro d h m hm
    rcases okD_kind h with ⟨i, rfl⟩ | ⟨x, rfl⟩ | ⟨k, ds, hk, _⟩ | ⟨k, ds, hk, _⟩
    · cases m <;> rfl
    · cases m <;> exact h
    · omega
    · omega
  | succ n ih =>
    intro d h m hm
    obtain ⟨m, rfl⟩ : ∃ k, m = k + 1 := ⟨m - 1, by omega⟩
    rcases okD_kind h with ⟨i, rfl⟩ | ⟨x, rfl⟩ | ⟨k, ds, hk, rfl, h1⟩ | ⟨k, ds, hk, rfl, h1⟩
    · rfl
    · exact h
    · have : k = n := by omega
      subst this
      simp only [D.okD, List.all_eq_true]
      exact fun x hx => ih (h1 x hx) (by omega)
    · have : k = n := by omega
      subst this
      simp only [D.okD, List.all_eq_true]
      exact fun x hx => ih (h1 x hx) (by omega)
theorem okD_lst {α : Type} {f : α → D} {n : Nat} (h : ∀ a, (f a).okD n = true) (xs : List α) : (D.lst (xs.map f)).okD (n + 1) = true := by
  simp [D.okD, h]
theorem okD_tup {α : Type} {f : α → D} {n : Nat} (h : ∀ a, (f a).okD n = true) (xs : List α) : (D.tup (xs.map f)).okD (n + 1) = true := by
  simp [D.okD, h]
theorem map_inj_of {α : Type} {f : α → D} (h : ∀ {a b}, f a = f b ↔ a = b) {xs ys : List α} : xs.map f = ys.map f ↔ xs = ys := by
  constructor
  · intro e
    induction xs generalizing ys with
    | nil => cases ys <;> simp_all
    | cons x xs ih =>
      cases ys with
      | nil => simp at e
      | cons y ys =>
        simp only [List.map_cons, List.cons.injEq] at e
        rw [h.mp e.1, ih e.2]
  · intro e
    rw [e]
theorem dec_iff {p q : Prop} [Decidable p] [Decidable q] (h : p ↔ q) : decide p = decide q := by by_cases h' : q <;> simp [h, h']
theorem gEq_iff {n : Nat} {d e : D} {p : Prop} [Decidable p] (hd : d.okD n = true) (he : e.okD n = true) (hn : n ≤ 64) (h : d = e ↔ p) : gCmp .Eq d e = .val (.bl (decide p)) := by
  rw [gEq_ok hd he hn]
  exact congrArg (fun b => R.val (.bl b)) (@dec_iff _ _ (Classical.propDecidable _) _ h)
theorem gNe_iff {n : Nat} {d e : D} {p : Prop} [Decidable p] (hd : d.okD n = true) (he : e.okD n = true) (hn : n ≤ 64) (h : d = e ↔ p) : gCmp .NotEq d e = .val (.bl (!decide p)) := by
  rw [gNe_ok hd he hn]
  exact congrArg (fun b => R.val (.bl (!b))) (@dec_iff _ _ (Classical.propDecidable _) _ h)
@[simp] theorem nr_ints (ns : List Int) : D.noRefs (ns.map D.int) = true := noRefs_map (fun _ => rfl) ns
@[simp] theorem fl_ints (ns : List Int) : D.flats (ns.map D.int) = true := flats_map (fun _ => rfl) ns
@[simp] theorem nr_rows (ns : List Rw) : D.noRefs (ns.map Rw.d) = true := noRefs_map (fun _ => rfl) ns
@[simp] theorem fl_rows (ns : List Rw) : D.flats (ns.map Rw.d) = true := flats_map (fun _ => rfl) ns
@[simp] theorem nr_dd (d : Dd) : d.d.noRef = true := Dd.d_noRef d
@[simp] theorem fl_dd (d : Dd) : d.d.flat = true := Dd.d_flat d
@[simp] theorem nr_work (ns : List Dd) : D.noRefs (ns.map Dd.d) = true := noRefs_map (fun d => Dd.d_noRef d) ns
@[simp] theorem fl_work (ns : List Dd) : D.flats (ns.map Dd.d) = true := flats_map (fun d => Dd.d_flat d) ns
/-- rows, lists of rows, works -/
theorem eqRow {a b : Rw} : gCmp .Eq a.d b.d = .val (.bl (decide (a = b))) := gEq_iff a.d_ok b.d_ok (by omega) Rw.d_inj
theorem neRow {a b : Rw} : gCmp .NotEq a.d b.d = .val (.bl (!decide (a = b))) := gNe_iff a.d_ok b.d_ok (by omega) Rw.d_inj
theorem lst_iff {α : Type} {f : α → D} (h : ∀ {a b}, f a = f b ↔ a = b) {xs ys : List α} : D.lst (xs.map f) = D.lst (ys.map f) ↔ xs = ys := by
  rw [D.lst.injEq]
  exact map_inj_of h
theorem eqRows {a b : List Rw} : gCmp .Eq (.lst (a.map Rw.d)) (.lst (b.map Rw.d)) = .val (.bl (decide (a = b))) := gEq_iff (okD_lst Rw.d_ok a) (okD_lst Rw.d_ok b) (by omega) (lst_iff Rw.d_inj)
theorem neRows {a b : List Rw} : gCmp .NotEq (.lst (a.map Rw.d)) (.lst (b.map Rw.d)) = .val (.bl (!decide (a = b))) := gNe_iff (okD_lst Rw.d_ok a) (okD_lst Rw.d_ok b) (by omega) (lst_iff Rw.d_inj)
theorem eqWork {a b : List Dd} : gCmp .Eq (.lst (a.map Dd.d)) (.lst (b.map Dd.d)) = .val (.bl (decide (a = b))) := gEq_iff (okD_lst Dd.d_ok a) (okD_lst Dd.d_ok b) (by omega) (lst_iff Dd.d_inj)
theorem neWork {a b : List Dd} : gCmp .NotEq (.lst (a.map Dd.d)) (.lst (b.map Dd.d)) = .val (.bl (!decide (a = b))) := gNe_iff (okD_lst Dd.d_ok a) (okD_lst Dd.d_ok b) (by omega) (lst_iff Dd.d_inj)
@[simp] theorem eqRow_self {a : Rw} : gCmp .Eq a.d a.d = .val (.bl true) := by rw [eqRow]; simp
@[simp] theorem neRow_self {a : Rw} : gCmp .NotEq a.d a.d = .val (.bl false) := by rw [neRow]; simp
@[simp] theorem eqWork_self {a : List Dd} : gCmp .Eq (.lst (a.map Dd.d)) (.lst (a.map Dd.d)) = .val (.bl true) := by rw [eqWork]; simp
@[simp] theorem neWork_self {a : List Dd} : gCmp .NotEq (.lst (a.map Dd.d)) (.lst (a.map Dd.d)) = .val (.bl false) := by rw [neWork]; simp
@[simp] theorem q_gList {ds : List D} : gList [.lst ds] = .own (.lst ds) := (rfl)
@[simp] theorem q_gListS {ds : List D} : gList [.scr ds] = .own (.lst ds) := (rfl)
@[simp] theorem q_gListT {ds : List D} : gList [.tup ds] = .own (.lst ds) := (rfl)
@[simp] theorem q_isi_lst2 {ds : List D} : gIsi "tuple" (.lst ds) = .val (.bl false) := (rfl)
@[simp] theorem q_mClear {ds : List D} : mClear (.lst ds) [] = some (.lst [], .non) := (rfl)
/- plain things: == with (), `in` among words -/
def D.atom : D → Bool
  | .int _ => true
  | .str x => PyData.strOk x
  | .bl _ => true
  | .non => true
  | _ => false
theorem atom_lay {d : D} (h : d.atom = true) : d.py.canLay0 = true ∧ d.py.depth = 0 := by
  cases d <;> simp [D.atom] at h <;> first | exact ⟨rfl, rfl⟩ | exact ⟨h, rfl⟩
theorem atoms_shaped {ds : List D} (h : ds.all D.atom = true) : SeqAt.shaped (D.tup ds).py = true := by
  unfold SeqAt.shaped
  rw [List.all_eq_true] at h
  have h1 : (D.tup ds).py.canLay0 = true := by
    rw [D.py, pys_eq, PyData.canLay0, canLayAll_eq, List.all_map, List.all_eq_true]
    exact fun x hx => (atom_lay (h x hx)).1
  have h2 : (D.tup ds).py.depth ≤ 1 := by
    rw [D.py, pys_eq, PyData.depth]
    refine Nat.succ_le_succ (depthAll_le _ fun y hy => ?_)
    obtain ⟨x, hx, rfl⟩ := List.mem_map.mp hy
    exact Nat.le_of_eq (atom_lay (h x hx)).2
  rw [h1, Bool.true_and]
  exact decide_eq_true (by omega)
theorem eq_unit {x : D} {xs : List D} (h : (x :: xs).all D.atom = true) : gCmp .Eq (.tup (x :: xs)) (.tup []) = .val (.bl false) := by
  rw [gEq_tup (atoms_shaped h) rfl]
  simp [D.py, D.pys, PyData.eqv, PyData.eqvAll]
@[simp] theorem eq_unit0 : gCmp .Eq (.tup []) (.tup []) = .val (.bl true) := by
  rw [gEq_tup rfl rfl]
  simp [D.py, D.pys, PyData.eqv, PyData.eqvAll]
theorem notin_of {d : D} {b : Bool} {c : D} (h : gCmp .In d c = .val (.bl b)) : gCmp .NotIn d c = .val (.bl (!b)) := by
  have h : oB (inD d c) = .val (.bl b) := h
  show oB ((inD d c).map (! ·)) = _
  cases hh : inD d c with
  | none => rw [hh] at h; cases h
  | some a => rw [hh] at h; cases h; rfl
@[simp] theorem notin_strs6 {x a b c d e f : Str} : gCmp .NotIn (.str x) (.tup [.str a, .str b, .str c, .str d, .str e, .str f]) = .val (.bl (!decide (x = a ∨ x = b ∨ x = c ∨ x = d ∨ x = e ∨ x = f))) := by
  have := in_strs (x := x) (xs := [a, b, c, d, e, f])
  exact notin_of (by simpa using this)
theorem in_strsI {x : Int} {xs : List Str} : gCmp .In (.int x) (.tup (xs.map D.str)) = .val (.bl false) := by
  have h1 : (xs.map D.str).all flatD = true := by simp [flatD]
  show oB (inD (.int x) (.tup (xs.map D.str))) = _
  unfold inD
  simp only
  rw [if_pos ⟨rfl, h1⟩]
  show R.val (.bl ((xs.map D.str).any fun e => eqFlat e (.int x))) = _
  congr 2
  induction xs with
  | nil => rfl
  | cons y ys ih =>
    rw [List.map_cons, List.any_cons, ih (by simp [flatD])]
    rfl
@[simp] theorem notin_strsI6 {x : Int} {a b c d e f : Str} : gCmp .NotIn (.int x) (.tup [.str a, .str b, .str c, .str d, .str e, .str f]) = .val (.bl true) := by
  have := in_strsI (x := x) (xs := [a, b, c, d, e, f])
  exact notin_of (by simpa using this)
@[simp] theorem q_gInt_b {b : Bool} : gInt [.bl b] = .val (.int (if b then 1 else 0)) := (rfl)
@[simp] theorem q_gIsi_tup_n : gIsi "tuple" .non = .val (.bl false) := (rfl)
@[simp] theorem q_gIsi_tup_i {i : Int} : gIsi "tuple" (.int i) = .val (.bl false) := (rfl)
@[simp] theorem q_gIsi_tup_s {i : Str} : gIsi "tuple" (.str i) = .val (.bl false) := (rfl)
@[simp] theorem q_gIsi_str_i {i : Int} : gIsi "str" (.int i) = .val (.bl false) := (rfl)
@[simp] theorem q_gIsi_int_s {i : Str} : gIsi "int" (.str i) = .val (.bl false) := (rfl)
@[simp] theorem q_gIsi_int_n : gIsi "int" .non = .val (.bl false) := (rfl)
@[simp] theorem q_gIsi_int_b {b : Bool} : gIsi "int" (.bl b) = .val (.bl true) := (rfl)
@[simp] theorem q_gIsi_bool_s {i : Str} : gIsi "bool" (.str i) = .val (.bl false) := (rfl)
@[simp] theorem q_gIsi_bool_n : gIsi "bool" .non = .val (.bl false) := (rfl)
/- a walk over a list of one's own that stands there -/
section
variable {S : DS} {tg : D → DS → Res Unit} {x : D} {xs acc its : List D} {tt : DS → Res Bool} {te : DS → Res RV} {vs : List Nat} {j : Nat} {lk : Bool}
@[simp] theorem w_atS : Src.at_ ⟨its, .slot j xs lk⟩ = some j := (rfl)
@[simp] theorem w_unlS {ds : List D} : unlock ⟨its, .slot j ds lk⟩ S = { S with sl := S.sl.set j (some (.own (.lst ds) lk)) } := (rfl)
@[simp] theorem w_lcS0 {ds : List D} (h : S.sl[j]? = some (some (.own (.lst ds) true))) : lcLoop ⟨its, .slot j ds lk⟩ tg tt te vs [] acc S = .ok acc S := by
  rw [lcLoop, if_pos (show Alive ⟨its, .slot j ds lk⟩ S from h)]
@[simp] theorem w_lcS1 {ds : List D} (h : S.sl[j]? = some (some (.own (.lst ds) true))) : lcLoop ⟨its, .slot j ds lk⟩ tg tt te vs (x :: xs) acc S = (tg x S).bind fun _ S1 => (tt S1).bind fun b S2 => if b = true then
      ((te S2).bind fun r S3 => (settle r S3).bind fun d S4 => if acc.length < sizeLine then lcLoop ⟨its, .slot j ds lk⟩ tg tt te vs xs (acc ++ [d]) { S4 with sl := wipeS vs S4.sl } else .stk)
      else lcLoop ⟨its, .slot j ds lk⟩ tg tt te vs xs acc { S2 with sl := wipeS vs S2.sl } := by
  rw [lcLoop, if_pos (show Alive ⟨its, .slot j ds lk⟩ S from h)]
end
@[simp] theorem notin_i1 {a b : Int} : gCmp .NotIn (.int a) (.tup [.int b]) = .val (.bl (!decide (a = b))) := by
  refine notin_of (?_ : oB (inD (.int a) (.tup [.int b])) = _)
  unfold inD
  simp only
  rw [if_pos ⟨rfl, rfl⟩]
  show R.val (.bl ((b == a) || false)) = _
  by_cases h : a = b
  · subst h; simp
  · have : ¬ b = a := fun z => h z.symm
    simp [h, this]
@[simp] theorem notin_i2 {a b c : Int} : gCmp .NotIn (.int a) (.tup [.int b, .int c]) = .val (.bl (!decide (a = b ∨ a = c))) := by
  refine notin_of (?_ : oB (inD (.int a) (.tup [.int b, .int c])) = _)
  unfold inD
  simp only
  rw [if_pos ⟨rfl, rfl⟩]
  show R.val (.bl ((b == a) || ((c == a) || false))) = _
  by_cases h : a = b
  · subst h; simp
  · have : ¬ b = a := fun z => h z.symm
    by_cases h' : a = c
    · subst h'; simp
    · have h2 : ¬ c = a := fun z => h' z.symm
      simp [h, this, h', h2]
end TW
/-! TH: wholes as dicts. -/
namespace TW
open PySem PySem.Spec L2 PyProof.Rows
abbrev WL := List (Nat × GI)
def pr (g : GI) : D := .tup [.int g.1, .int g.2]
def wk (l : WL) : List (Key × D) := l.map fun p => (.inl (p.1 : Int), pr p.2)
def wget (l : WL) (b : Nat) : Option GI := (l.find? fun p => decide (p.1 = b)).map (·.2)
def wv (l : WL) : Wh := fun b => (wget l b).getD (0, 0)
def wput (l : WL) (b : Nat) (g : GI) : WL := if (l.any fun p => decide (p.1 = b)) = true then l.map fun p => if p.1 = b then (p.1, g) else p else l ++ [(b, g)]
def Nod (l : WL) : Prop := (l.map Prod.fst).Nodup
def NZ (l : WL) : Prop := ∀ p ∈ l, p.2 ≠ (0, 0)
theorem key_eq {a b : Nat} : ((Sum.inl (a : Int) : Key) = .inl (b : Int)) ↔ a = b := by
  constructor
  · intro h
    injection h with h
    exact Int.natCast_inj.mp h
  · intro h
    rw [h]
theorem dget_wk {l : WL} {b : Nat} : dget (wk l) (.inl (b : Int)) = (wget l b).map pr := by
  unfold dget wget wk
  induction l with
  | nil => rfl
  | cons p l ih =>
    rw [List.map_cons, List.find?_cons, List.find?_cons]
    by_cases h : p.1 = b
    · rw [decide_eq_true (key_eq.mpr h), decide_eq_true h]
      rfl
    · rw [decide_eq_false (fun z => h (key_eq.mp z)), decide_eq_false h]
      exact ih
theorem dput_wk {l : WL} {b : Nat} {g : GI} : dput (wk l) (.inl (b : Int)) (pr g) = wk (wput l b g) := by
  have h1 : ((wk l).any fun kv => decide (kv.1 = .inl (b : Int))) = l.any fun p => decide (p.1 = b) := by
    unfold wk
    rw [List.any_map]
    congr 1
    funext p
    show decide (_ = _) = decide _
    rw [decide_eq_decide]
    exact key_eq
  unfold dput wput
  rw [h1]
  split
  · unfold wk
    rw [List.map_map, List.map_map]
    refine List.map_congr_left fun p _ => ?_
    show (if (Sum.inl (p.1 : Int) : Key) = .inl (b : Int) then _ else _) = _
    by_cases h : p.1 = b
    · rw [if_pos (key_eq.mpr h)]
      show _ = (_, _)
      simp [h]
    · rw [if_neg (fun z => h (key_eq.mp z))]
      simp [h]
  · unfold wk
    rw [List.map_append]
    rfl
theorem wget_none {l : WL} {b : Nat} : wget l b = none ↔ b ∉ l.map Prod.fst := by
  unfold wget
  rw [Option.map_eq_none_iff, List.find?_eq_none]
  simp only [decide_eq_true_eq, List.mem_map, not_exists, not_and]
theorem wget_mem {l : WL} (h : Nod l) {p : Nat × GI} (hp : p ∈ l) : wget l p.1 = some p.2 := by
  induction l with
  | nil => cases hp
  | cons q l ih =>
    unfold Nod at h
    rw [List.map_cons, List.nodup_cons] at h
    unfold wget
    rw [List.find?_cons]
    rcases List.mem_cons.mp hp with e | e
    · subst e
      rw [decide_eq_true rfl]
      rfl
    · by_cases z : q.1 = p.1
      · exact absurd (List.mem_map.mpr ⟨p, e, z.symm⟩) h.1
      · rw [decide_eq_false z]
        exact ih h.2 e
theorem wget_some {l : WL} {b : Nat} {g : GI} (h : wget l b = some g) : (b, g) ∈ l := by
  unfold wget at h
  rw [Option.map_eq_some_iff] at h
  obtain ⟨p, h1, h2⟩ := h
  have := List.find?_some h1
  simp only [decide_eq_true_eq] at this
  have h3 := List.mem_of_find?_eq_some h1
  subst this
  subst h2
  exact h3
theorem wget_put {l : WL} {b c : Nat} {g : GI} : wget (wput l b g) c = if c = b then some g else wget l c := by
  unfold wput
  by_cases h : (l.any fun p => decide (p.1 = b)) = true
  · rw [if_pos h]
    unfold wget
    induction l with
    | nil => simp at h
    | cons p l ih =>
      rw [List.map_cons, List.find?_cons, List.find?_cons]
      by_cases e : p.1 = b
      · rw [if_pos e]
        by_cases q : c = b
        · rw [if_pos q, decide_eq_true (show (p.1, g).1 = c by rw [q]; exact e)]
          rfl
        · rw [if_neg q, decide_eq_false (show ¬ p.1 = c from fun z => q (z.symm.trans e))]
          simp only
          by_cases hh : (l.any fun p => decide (p.1 = b)) = true
          · have := ih hh
            rwa [if_neg q] at this
          · have : (l.map fun p => if p.1 = b then (p.1, g) else p) = l := by
              refine (List.map_congr_left fun x hx => ?_).trans (List.map_id l)
              rw [if_neg]
              · rfl
              · intro z
                exact hh (List.any_eq_true.mpr ⟨x, hx, decide_eq_true z⟩)
            rw [this]
      · rw [if_neg e]
        have hh : (l.any fun p => decide (p.1 = b)) = true := by
          rw [List.any_cons, decide_eq_false e, Bool.false_or] at h
          exact h
        by_cases q : p.1 = c
        · rw [decide_eq_true q]
          simp only
          rw [if_neg (fun z => e (q.trans z))]
        · rw [decide_eq_false q]
          exact ih hh
  · rw [if_neg h]
    have nb : ∀ p ∈ l, p.1 ≠ b := fun p hp z => h (List.any_eq_true.mpr ⟨p, hp, decide_eq_true z⟩)
    unfold wget
    rw [List.find?_append]
    by_cases q : c = b
    · subst q
      rw [if_pos rfl]
      have : (l.find? fun p => decide (p.1 = c)) = none := List.find?_eq_none.mpr fun x hx => by simpa using nb x hx
      rw [this]
      simp
    · rw [if_neg q]
      have : ([(b, g)].find? fun p => decide (p.1 = c)) = none := by
        rw [List.find?_cons, decide_eq_false (fun z => q z.symm)]
        rfl
      rw [this, Option.or_none]
theorem wv_put {l : WL} {b c : Nat} {g : GI} : wv (wput l b g) c = if c = b then g else wv l c := by
  unfold wv
  rw [wget_put]
  split <;> rfl
theorem keys_put {l : WL} {b : Nat} {g : GI} : (wput l b g).map Prod.fst = if b ∈ l.map Prod.fst then l.map Prod.fst else l.map Prod.fst ++ [b] := by
  unfold wput
  have e : ((l.any fun p => decide (p.1 = b)) = true) ↔ b ∈ l.map Prod.fst := by
    rw [List.any_eq_true, List.mem_map]
    constructor
    · rintro ⟨p, h1, h2⟩
      exact ⟨p, h1, of_decide_eq_true h2⟩
    · rintro ⟨p, h1, h2⟩
      exact ⟨p, h1, decide_eq_true h2⟩
  by_cases h : b ∈ l.map Prod.fst
  · rw [if_pos (e.mpr h), if_pos h, List.map_map]
    refine List.map_congr_left fun p _ => ?_
    show (if p.1 = b then (p.1, g) else p).1 = p.1
    split <;> rfl
  · rw [if_neg (fun z => h (e.mp z)), if_neg h, List.map_append]
    rfl
theorem Nod.put {l : WL} (h : Nod l) {b : Nat} {g : GI} : Nod (wput l b g) := by
  unfold Nod
  rw [keys_put]
  split
  · exact h
  · rename_i q
    rw [List.nodup_append]
    refine ⟨h, by simp, fun x hx y hy => ?_⟩
    rw [List.mem_singleton] at hy
    subst hy
    intro z
    subst z
    exact q hx
theorem len_put {l : WL} {b : Nat} {g : GI} : (wput l b g).length ≤ l.length + 1 := by
  unfold wput
  split
  · rw [List.length_map]; omega
  · rw [List.length_append]; exact Nat.le_refl _
theorem mem_put {l : WL} {b : Nat} {g : GI} {p : Nat × GI} (h : p ∈ wput l b g) : p = (b, g) ∨ p ∈ l := by
  unfold wput at h
  split at h
  · obtain ⟨q, h1, h2⟩ := List.mem_map.mp h
    split at h2
    · rename_i e
      subst e
      exact .inl h2.symm
    · subst h2
      exact .inr h1
  · rcases List.mem_append.mp h with h | h
    · exact .inr h
    · exact .inl (List.mem_singleton.mp h)
theorem NZ.put {l : WL} (h : NZ l) {b : Nat} {g : GI} (hg : g ≠ (0, 0)) : NZ (wput l b g) := fun p hp => by
  rcases mem_put hp with e | e
  · subst e; exact hg
  · exact h p e
/-- alike as functions: alike as dicts -/
theorem sub_of {l m : WL} (hl : Nod l) (hz : NZ l) (h : ∀ b, wv l b = wv m b) : ∀ p ∈ l, wget m p.1 = some p.2 := fun p hp => by
  have h1 := wget_mem hl hp
  have h2 := h p.1
  unfold wv at h2
  rw [h1] at h2
  cases h3 : wget m p.1 with
  | none => rw [h3] at h2; exact absurd h2 (hz p hp)
  | some g => rw [h3] at h2; exact congrArg some h2.symm
theorem len_sub : ∀ {l m : List Nat}, l.Nodup → (∀ x ∈ l, x ∈ m) → l.length ≤ m.length
  | [], m, _, _ => Nat.zero_le _
  | a :: l, m, h, hs => by
    rw [List.nodup_cons] at h
    have ha := hs a List.mem_cons_self
    have := len_sub (m := m.erase a) h.2 fun x hx => (List.mem_erase_of_ne (show x ≠ a from fun z => h.1 (by rw [← z]; exact hx))).mpr (hs x (List.mem_cons_of_mem _ hx))
    rw [List.length_erase_of_mem ha] at this
    have : 0 < m.length := List.length_pos_of_mem ha
    rw [List.length_cons]
    omega
theorem len_of {l m : WL} (hl : Nod l) (hz : NZ l) (h : ∀ b, wv l b = wv m b) : l.length ≤ m.length := by
  have : (l.map Prod.fst).length ≤ (m.map Prod.fst).length := by
    refine len_sub hl fun b hb => ?_
    obtain ⟨p, hp, rfl⟩ := List.mem_map.mp hb
    exact List.mem_map.mpr ⟨_, wget_some (sub_of hl hz h p hp), rfl⟩
  simpa using this
theorem pr_sh {g : GI} : shD (pr g) = true := rfl
theorem eqv_pr {g h : GI} : PyData.eqv (pr g).py (pr h).py = decide (g = h) := by
  unfold pr
  simp only [D.py, D.pys, PyData.eqv, PyData.eqvAll, Bool.and_true]
  rw [Bool.eq_iff_iff]
  simp [Prod.ext_iff]
theorem eqDic_wk {l m : WL} : eqDic (wk l) (wk m) = some (l.length == m.length && l.all fun p => decide (wget m p.1 = some p.2)) := by
  have s : ∀ l : WL, ((wk l).all fun p => shD p.2) = true := fun l => by
    unfold wk
    rw [List.all_map, List.all_eq_true]
    exact fun x _ => pr_sh
  unfold eqDic
  rw [s, s]
  simp only [Bool.and_self, if_true]
  congr 1
  have e1 : ∀ l : WL, (wk l).length = l.length := fun l => by unfold wk; rw [List.length_map]
  rw [e1, e1]
  congr 1
  conv => lhs; unfold wk
  rw [List.all_map]
  congr 1
  funext p
  show (match dget (wk m) (.inl (p.1 : Int)) with | some e => PyData.eqv (pr p.2).py e.py | none => false) = _
  rw [dget_wk]
  cases wget m p.1 with
  | none => simp
  | some g =>
    show PyData.eqv (pr p.2).py (pr g).py = _
    rw [eqv_pr]
    simp only [Option.some.injEq]
    rw [decide_eq_decide]
    exact eq_comm
theorem eqDic_of {l m : WL} (hl : Nod l) (hm : Nod m) (zl : NZ l) (zm : NZ m) (h : ∀ b, wv l b = wv m b) : eqDic (wk l) (wk m) = some true := by
  rw [eqDic_wk]
  have h1 := len_of hl zl h
  have h2 := len_of hm zm fun b => (h b).symm
  have h3 : l.length = m.length := by omega
  rw [h3]
  simp only [beq_self_eq_true, Bool.true_and]
  congr 1
  rw [List.all_eq_true]
  exact fun p hp => decide_eq_true (sub_of hl zl h p hp)
theorem eqW {l m : WL} (hl : Nod l) (hm : Nod m) (zl : NZ l) (zm : NZ m) (h : ∀ b, wv l b = wv m b) : gCmp .Eq (.dic (wk l)) (.dic (wk m)) = .val (.bl true) := by
  show oB (eqDic (wk l) (wk m)) = _
  rw [eqDic_of hl hm zl zm h]
  rfl
theorem neW {l m : WL} (hl : Nod l) (hm : Nod m) (zl : NZ l) (zm : NZ m) (h : ∀ b, wv l b = wv m b) : gCmp .NotEq (.dic (wk l)) (.dic (wk m)) = .val (.bl false) := by
  show oB ((eqDic (wk l) (wk m)).map (! ·)) = _
  rw [eqDic_of hl hm zl zm h]
  rfl
/-- one number's part -/
def dl (b : Nat) (g : GI) : Wh := fun c => if c = b then g else (0, 0)
def fa (ψ φ : Wh) : Wh := fun c => ga (ψ c) (φ c)
theorem ga_zero {g : GI} : ga g (0, 0) = g := by unfold ga; simp
theorem zero_ga {g : GI} : ga (0, 0) g = g := by unfold ga; simp
theorem wv_nil : wv [] = fun _ => (0, 0) := rfl
theorem wv_snoc {l : WL} {b : Nat} {g : GI} (h : b ∉ l.map Prod.fst) : wv (l ++ [(b, g)]) = fa (wv l) (dl b g) := funext fun c => by
  unfold fa dl wv wget
  rw [List.find?_append]
  by_cases e : c = b
  · subst e
    have : (l.find? fun p => decide (p.1 = c)) = none := List.find?_eq_none.mpr fun x hx z => h (List.mem_map.mpr ⟨x, hx, by simpa using z⟩)
    rw [this]
    simp [ga]
  · have : ([(b, g)].find? fun p => decide (p.1 = c)) = none := by
      rw [List.find?_cons, decide_eq_false (fun z => e z.symm)]
      rfl
    rw [this, Option.or_none, if_neg e, ga_zero]
def addL (l : WL) (b : Nat) (g : GI) : WL := wput l b (ga (wv l b) g)
theorem wv_add {l : WL} {b : Nat} {g : GI} : wv (addL l b g) = fa (wv l) (dl b g) := funext fun c => by
  unfold addL fa dl
  rw [wv_put]
  by_cases h : c = b
  · subst h
    rw [if_pos rfl, if_pos rfl]
  · rw [if_neg h, if_neg h, ga_zero]
theorem gn_ga {a b : GI} : gn (ga a b) = ga (gn a) (gn b) := by unfold gn ga; simp; omega
theorem deedF_fa {d : Dd} {ψ φ : Wh} : deedF d (fa ψ φ) = fa (deedF d ψ) (deedF d φ) := funext fun b => by
  have key : ∀ a b c e : GI, ga (ga a b) (ga c e) = ga (ga a c) (ga b e) := fun a b c e => by unfold ga; simp; omega
  cases d with
  | over k => rfl
  | quarter k =>
    show (if _ then _ else _) = ga (if _ then _ else _) (if _ then _ else _)
    split
    · exact rot_ga
    · rfl
  | back k =>
    show (if _ then _ else _) = ga (if _ then _ else _) (if _ then _ else _)
    split
    · exact rot_ga
    · rfl
  | both k =>
    show (if _ then _ else _) = ga (if _ then _ else _) (if _ then _ else _)
    split
    · show ga (ga _ _) (gn (ga _ _)) = _
      rw [gn_ga, key]
    · show ga (ga _ _) (ga _ _) = _
      rw [key]
  | whr j k => rfl
  | swap j k => rfl
theorem actF_fa {n : Nat} {r : Rw} {ψ φ : Wh} : actF n r (fa ψ φ) = fa (actF n r ψ) (actF n r φ) := funext fun b => rot_ga
end TW
/-! TH2: deeds on wholes as dicts, number by number; steps. -/
namespace TW
open PySem PySem.Spec L2 PyProof.Rows
/- steps -/
section
variable {S : DS} {k : Nat} {kvs : List (Key × D)} {lk : Bool} {fo fk fv fx : DS → Res RV} {rk : RV} {key : Key} {dx d : D} {i : Nat} {g : DS → Out}
@[simp] theorem q_keyI {i : Int} : keyOf (.int i) = some (.inl i) := (rfl)
@[simp] theorem q_keyS {i : Str} : keyOf (.str i) = some (.inr i) := (rfl)
theorem dget2_ref (h1 : fo S = .ok (.val (.ref k)) S) (h2 : S.L[k]? = some (.con (.dic kvs) lk)) (h3 : fk S = .ok rk S) (h4 : (peek S rk).bind keyOf = some key) (h5 : fx S = .ok (.val dx) S) : dDGet2 fo fk fx S = .ok (.val ((dget kvs key).getD dx)) S := by
  have h6 : dicOf (.val (.ref k)) S = some kvs := by simp [dicOf, peek, deref, h2, Cont.toD]
  unfold dDGet2
  rw [h1]
  dsimp only [Res.bind]
  rw [h6]
  simp only [RV.still, if_true, h3, Res.bind, h4, h5, settle, h6]
theorem dset_ref (h1 : fv S = .ok (.val d) S) (h0 : fo S = .ok (.val (.ref k)) S) (h2 : S.L[k]? = some (.con (.dic kvs) false)) (h3 : fk S = .ok rk S) (h4 : (peek S rk).bind keyOf = some key) (hs : kvs.length < sizeLine) : oDSet fo fk fv S = .next { S with L := S.L.set k (.con (.dic (dput kvs key d)) false) } := by
  have h6 : dictOf (.val (.ref k)) S = some kvs := by simp [dictOf, contAt, h2]
  have h7 : freeAt (.val (.ref k)) S = true := by simp [freeAt, h2]
  unfold oDSet
  rw [h1]
  simp only [Res.toOut, settle, h0, h3, h6, h4, h7, RV.still, hs, and_self, if_true, putAt]
theorem dset_plc (h1 : fv S = .ok (.val d) S) (h0 : fo S = .ok (.plc i) S) (h2 : S.sl[i]? = some (some (.own (.dic kvs) false))) (h3 : fk S = .ok rk S) (h4 : (peek S rk).bind keyOf = some key) (hs : kvs.length < sizeLine) : oDSet fo fk fv S = .next { S with sl := S.sl.set i (some (.own (.dic (dput kvs key d)) false)) } := by
  have h6 : dictOf (.plc i) S = some kvs := by simp [dictOf, contAt, h2]
  have h7 : freeAt (.plc i) S = true := by simp [freeAt, h2]
  unfold oDSet
  rw [h1]
  simp only [Res.toOut, settle, h0, h3, h6, h4, h7, RV.still, hs, and_self, if_true, putAt]
theorem q_seq_dset : oSeq (oDSet fo fk fv) g S = (oDSet fo fk fv S).then_ g := (rfl)
@[simp] theorem q_dic1 : dDic1 fk fv S = (fk S).bind fun rk S1 => match (peek S1 rk).bind keyOf with
  | some k => (fv S1).bind fun r S2 => (settle r S2).bind fun d S3 => .ok (.own (.dic [(k, d)])) S3
  | none => .stk := (rfl)
@[simp] theorem q_peek_ownD {kvs : List (Key × D)} : peek S (.own (.dic kvs)) = some (.dic kvs) := (rfl)
@[simp] theorem q_toD_dic {kvs : List (Key × D)} : (Cont.dic kvs).toD = .dic kvs := (rfl)
@[simp] theorem q_nr_dic {kvs : List (Key × D)} : (D.dic kvs).noRef = D.noRefK kvs := (rfl)
@[simp] theorem q_nr_k0 : D.noRefK [] = true := (rfl)
@[simp] theorem q_nr_k1 {k : Key} {kvs : List (Key × D)} : D.noRefK ((k, d) :: kvs) = (d.noRef && D.noRefK kvs) := (rfl)
@[simp] theorem q_dic0 : dDic0 S = .ok (.own (.dic [])) S := (rfl)
theorem box_ {f : DS → Res RV} {c : Cont} (h : f S = .ok (.own c) S) : oSeq (oBox i f) g S = g ⟨S.sl.set i (some (.val (.ref S.L.length))), S.L ++ [.con c false]⟩ := by
  unfold oSeq oBox
  rw [h]
  rfl
theorem box_dic0 : oSeq (oBox i dDic0) g S = g ⟨S.sl.set i (some (.val (.ref S.L.length))), S.L ++ [.con (.dic []) false]⟩ := (rfl)
theorem pr_noRef (x : GI) : (pr x).noRef = true := rfl
@[simp] theorem nr_wk (l : WL) : D.noRefK (wk l) = true := by
  unfold wk
  induction l with
  | nil => rfl
  | cons p l ih =>
    rw [List.map_cons, D.noRefK, ih]
    rfl
@[simp] theorem nr_dicD (l : WL) : (D.dic (wk l)).noRef = true := nr_wk l
@[simp] theorem nr_dicC (l : WL) : (Cont.dic (wk l)).noRef = true := nr_wk l
@[simp] theorem q_outR_ownW (l : WL) : outR (.ret (.own (.dic (wk l))) S) = .own (.dic (wk l)) := by
  show (if (Cont.dic (wk l)).noRef = true then R.own (.dic (wk l)) else .stk) = _
  rw [if_pos (nr_dicC l)]
@[simp] theorem items_len (l : WL) : (itemsD (wk l)).length = l.length := by simp [itemsD, wk]
theorem items_get {l : WL} {k : Nat} (h : k < (itemsD (wk l)).length) : (itemsD (wk l))[k] = .tup [.int ((l[k]'(by simpa using h)).1 : Int), .tup [.int (l[k]'(by simpa using h)).2.1, .int (l[k]'(by simpa using h)).2.2]] := by simp [itemsD, wk, keyD, pr]
/-- a walk over a dict that stands in a slot -/
theorem forD_seq {A : List Nat} {sel : List (Key × D) → List D} {tg : D → DS → Res Unit} {body : DS → Out} {S0 : DS} (Q : Out → Prop) (P : Nat → DS → Prop) (hl : lockD i S = some (S0, none)) (h0 : dAt i S0 = some kvs) (h3 : P 0 S0) (h4 : ∀ k (hk : k < (sel kvs).length) S, P k S → ∃ S1 S2, tg (sel kvs)[k] S = .ok () S1 ∧ (body S1 = .next S2 ∨ body S1 = .cont S2) ∧ P (k + 1) S2)
    (h5 : ∀ S', P (sel kvs).length S' → Q (g S')) : Q (oSeq (oLock i (oFor A (dWalk sel i) tg body)) g S) := by
  have e : ∀ h : DS → Out, oSeq (oLock i (oFor A (dWalk sel i) tg body)) h S = ((oFor A (dWalk sel i) tg body S0).noExc).then_ h := fun h => by
    unfold oSeq oLock
    rw [hl]
    rfl
  rw [e]
  have e1 : dWalk sel i S0 = .ok ⟨sel kvs, .no⟩ S0 := by unfold dWalk; rw [h0]
  obtain ⟨S', g1, g2⟩ := forLoop_inv P h4 h3
  have : oFor A (dWalk sel i) tg body S0 = .next S' := by
    unfold oFor
    rw [e1]
    simp only [Res.toOut]
    exact g1
  rw [this]
  exact h5 S' g2
/-- a walk over a dict that stands in the logical heap -/
theorem forH_seq {A : List Nat} {sel : List (Key × D) → List D} {tg : D → DS → Res Unit} {body : DS → Out} {S0 : DS} {k0 : Nat} {kv0 : List (Key × D)} (Q : Out → Prop) (P : Nat → DS → Prop) (hl : lockD i S = some (S0, some (k0, kv0))) (h0 : dAt i S0 = some kvs) (h3 : P 0 S0) (h4 : ∀ k (hk : k < (sel kvs).length) S, P k S → ∃ S1 S2, tg (sel kvs)[k] S = .ok () S1 ∧ (body S1 = .next S2 ∨ body S1 = .cont S2) ∧ P (k + 1) S2)
    (hs : ∀ S', P (sel kvs).length S' → stillD k0 S' = true) (h5 : ∀ S', P (sel kvs).length S' → Q (g (TW.unl k0 S'))) : Q (oSeq (oLock i (oFor A (dWalk sel i) tg body)) g S) := by
  have e : ∀ h : DS → Out, oSeq (oLock i (oFor A (dWalk sel i) tg body)) h S = ((oFor A (dWalk sel i) tg body S0).unl k0).then_ h := fun h => by
    unfold oSeq oLock
    rw [hl]
    rfl
  rw [e]
  have e1 : dWalk sel i S0 = .ok ⟨sel kvs, .no⟩ S0 := by unfold dWalk; rw [h0]
  obtain ⟨S', g1, g2⟩ := forLoop_inv P h4 h3
  have : oFor A (dWalk sel i) tg body S0 = .next S' := by
    unfold oFor
    rw [e1]
    simp only [Res.toOut]
    exact g1
  have u : (Out.next S').unl k0 = .next (TW.unl k0 S') := if_pos (hs S' g2)
  rw [this, u]
  exact h5 S' g2
theorem dget2_plc (h1 : fo S = .ok (.plc i) S) (h2 : S.sl[i]? = some (some (.own (.dic kvs) lk))) (h3 : fk S = .ok rk S) (h4 : (peek S rk).bind keyOf = some key) (h5 : fx S = .ok (.val dx) S) : dDGet2 fo fk fx S = .ok (.val ((dget kvs key).getD dx)) S := by
  have h6 : dicOf (.plc i) S = some kvs := by simp [dicOf, peek, h2, Cont.toD]
  unfold dDGet2
  rw [h1]
  dsimp only [Res.bind]
  rw [h6]
  simp only [RV.still, if_true, h3, Res.bind, h4, h5, settle, h6]
@[simp] theorem q_isi_dic : gIsi "dict" (.dic kvs) = .val (.bl true) := (rfl)
theorem dclear_plc (h0 : fo S = .ok (.plc i) S) (h2 : S.sl[i]? = some (some (.own (.dic kvs) false))) : dDClear fo S = .ok (.val .non) { S with sl := S.sl.set i (some (.own (.dic []) false)) } := by
  have h6 : dictOf (.plc i) S = some kvs := by simp [dictOf, contAt, h2]
  have h7 : freeAt (.plc i) S = true := by simp [freeAt, h2]
  unfold dDClear
  rw [h0]
  dsimp only [Res.bind]
  rw [h6]
  simp only [h7, if_true, putAt]
end
/- what a deed does to one number's part -/
def oneL : Dd → WL → Nat → GI → WL
  | .over k, l, b, g => addL l (b ^^^ 2 ^ k) g
  | .quarter k, l, b, g => addL l b (if bt b k = 1 then rot 1 g else g)
  | .back k, l, b, g => addL l b (if bt b k = 1 then rot 3 g else g)
  | .both k, l, b, g => addL (addL l (b - bt b k * 2 ^ k) g) (b - bt b k * 2 ^ k + 2 ^ k) (if bt b k = 1 then gn g else g)
  | .whr j k, l, b, g => addL l (b ^^^ bt b j * 2 ^ k) g
  | .swap j k, l, b, g => addL l (exch j k b) g
def lenD : Dd → Nat
  | .both _ => 2
  | _ => 1
theorem pow_le_bit {b k : Nat} (h : bt b k = 1) : 2 ^ k ≤ b := by
  refine Nat.le_of_not_lt fun z => ?_
  rw [bt_zero z (Nat.le_refl _)] at h
  cases h
theorem flip_add {b k : Nat} (h : bt b k = 0) : b ^^^ 2 ^ k = b + 2 ^ k := by
  obtain ⟨n, hn⟩ : ∃ n, n = b + k + 1 := ⟨_, rfl⟩
  have h1 : b < 2 ^ n := Nat.lt_trans (show b < n by omega) Nat.lt_two_pow_self
  have h2 : b ^^^ 2 ^ k < 2 ^ n := Nat.xor_lt_two_pow h1 (pow_lt (by omega))
  have e1 := sm_bits n _ h1
  have e2 := sm_bits n _ h2
  have e3 : sm n (fun j => if j = k then 2 ^ k else 0) = 2 ^ k := sm_one (by omega)
  have : sm n (fun j => bt (b ^^^ 2 ^ k) j * 2 ^ j) = sm n (fun j => bt b j * 2 ^ j + if j = k then 2 ^ k else 0) := sm_congr fun j _ => by
    rw [bt_flip1]
    by_cases e : j = k
    · subst e
      rw [if_pos rfl, if_pos rfl, h]
      omega
    · rw [if_neg e, if_neg e]
      rfl
  rw [sm_add, e1, e2, e3] at this
  exact this
theorem flip_sub {b k : Nat} (h : bt b k = 1) : b ^^^ 2 ^ k = b - 2 ^ k := by
  have h0 : bt (b ^^^ 2 ^ k) k = 0 := by rw [bt_flip1, if_pos rfl, h]
  have := flip_add h0
  rw [Nat.xor_assoc, Nat.xor_self, Nat.xor_zero] at this
  omega
theorem clear_ {b k : Nat} : b - bt b k * 2 ^ k = if bt b k = 1 then b ^^^ 2 ^ k else b := by
  rcases bt01 b k with h | h <;> rw [h]
  · simp
  · rw [if_pos rfl, flip_sub h, Nat.one_mul]
theorem set_ {b k : Nat} : b - bt b k * 2 ^ k + 2 ^ k = if bt b k = 1 then b else b ^^^ 2 ^ k := by
  rcases bt01 b k with h | h <;> rw [h]
  · rw [flip_add h]; simp
  · have := pow_le_bit h
    rw [if_pos rfl, Nat.one_mul]
    omega
theorem xor_iff {c t b : Nat} : c ^^^ t = b ↔ c = b ^^^ t := by
  constructor
  · intro h; rw [← h, Nat.xor_assoc, Nat.xor_self, Nat.xor_zero]
  · intro h; rw [h, Nat.xor_assoc, Nat.xor_self, Nat.xor_zero]
theorem exch_iff {j k c b : Nat} : exch j k c = b ↔ c = exch j k b := by
  constructor
  · intro h; rw [← h, exch_exch]
  · intro h; rw [h, exch_exch]
theorem exch_sum {i j : Nat} (ne : i ≠ j) (b : Nat) : (b : Int) - (bt b i : Int) * 2 ^ i - (bt b j : Int) * 2 ^ j + (bt b j : Int) * 2 ^ i + (bt b i : Int) * 2 ^ j = (exch i j b : Int) := by
  unfold exch
  by_cases e : bt b i = bt b j
  · rw [if_pos e, e]
    omega
  · rw [if_neg e]
    have p1 := pow_nat i
    have p2 := pow_nat j
    rcases bt01 b i with h | h <;> rcases bt01 b j with h' | h' <;> rw [h, h'] at e
    · exact absurd rfl e
    · have c1 := flip_add h
      have c2 := flip_sub (b := b ^^^ 2 ^ i) (k := j) (by rw [bt_flip1' ne.symm]; exact h')
      have c3 := pow_le_bit (b := b ^^^ 2 ^ i) (k := j) (by rw [bt_flip1' ne.symm]; exact h')
      rw [h, h']
      omega
    · have c1 := flip_sub h
      have c0 := pow_le_bit h
      have c2 := flip_add (b := b ^^^ 2 ^ i) (k := j) (by rw [bt_flip1' ne.symm]; exact h')
      rw [h, h']
      omega
    · exact absurd rfl e
theorem rot0 {q : Nat} : rot q (0, 0) = (0, 0) := by
  unfold rot
  split
  · rfl
  · split
    · rfl
    · split <;> rfl
theorem fa_assoc {a b c : Wh} : fa (fa a b) c = fa a (fa b c) := funext fun x => ga_assoc
theorem wv_one {d : Dd} {n : Nat} (hd : d.Ok n) {l : WL} {b : Nat} {g : GI} : wv (oneL d l b g) = fa (wv l) (deedF d (dl b g)) := by
  cases d with
  | over k =>
    show wv (addL _ _ _) = _
    rw [wv_add]
    congr 1
    funext c
    show (if c = b ^^^ 2 ^ k then g else _) = if c ^^^ 2 ^ k = b then g else _
    simp only [xor_iff]
  | quarter k =>
    show wv (addL _ _ _) = _
    rw [wv_add]
    congr 1
    funext c
    show (if c = b then (if bt b k = 1 then rot 1 g else g) else _) = if bt c k = 1 then rot 1 (if c = b then g else (0, 0)) else (if c = b then g else (0, 0))
    by_cases h : c = b
    · subst h; simp
    · simp [h, rot0]
  | back k =>
    show wv (addL _ _ _) = _
    rw [wv_add]
    congr 1
    funext c
    show (if c = b then (if bt b k = 1 then rot 3 g else g) else _) = if bt c k = 1 then rot 3 (if c = b then g else (0, 0)) else (if c = b then g else (0, 0))
    by_cases h : c = b
    · subst h; simp
    · simp [h, rot0]
  | both k =>
    show wv (addL (addL _ _ _) _ _) = _
    rw [wv_add, wv_add, fa_assoc]
    congr 1
    funext c
    have n0 : ∀ x : Nat, x ^^^ 2 ^ k ≠ x := fun x z => by
      have := congrArg (fun m => bt m k) z
      simp only [bt_flip1, if_pos] at this
      rcases bt01 x k with h | h <;> rw [h] at this <;> omega
    have nn : gn ((0, 0) : GI) = (0, 0) := rfl
    show ga (if c = b - bt b k * 2 ^ k then g else (0, 0)) (if c = b - bt b k * 2 ^ k + 2 ^ k then (if bt b k = 1 then gn g else g) else (0, 0)) = if bt c k = 1 then ga (if c ^^^ 2 ^ k = b then g else (0, 0)) (gn (if c = b then g else (0, 0))) else ga (if c = b then g else (0, 0)) (if c ^^^ 2 ^ k = b then g else (0, 0))
    rw [set_, clear_]
    simp only [xor_iff]
    have nb := n0 b
    by_cases e1 : c = b
    · subst e1
      rcases bt01 c k with h | h
      · simp [h, nb, nb.symm, ga]
      · simp [h, nb, nb.symm, ga]
    · by_cases e2 : c = b ^^^ 2 ^ k
      · subst e2
        have h2 : bt (b ^^^ 2 ^ k) k = (bt b k + 1) % 2 := by rw [bt_flip1, if_pos rfl]
        rcases bt01 b k with h | h
        · rw [h2, h]; simp [nb, nb.symm, ga, gn]
        · rw [h2, h]; simp [nb, nb.symm, ga, gn]
      · rcases bt01 b k with h | h <;> simp [e1, e2, h, ga, gn]
  | whr j k =>
    show wv (addL _ _ _) = _
    rw [wv_add]
    congr 1
    funext c
    show (if c = b ^^^ bt b j * 2 ^ k then g else _) = if c ^^^ bt c j * 2 ^ k = b then g else _
    have e : (c ^^^ bt c j * 2 ^ k = b) ↔ c = b ^^^ bt b j * 2 ^ k := by
      have key : ∀ x : Nat, bt (x ^^^ bt x j * 2 ^ k) j = bt x j := fun x => bt_flip' (bt_le _ _) hd.2.2
      constructor
      · intro h
        have := key c
        rw [h] at this
        rw [this]
        exact xor_iff.mp h
      · intro h
        have := key b
        rw [← h] at this
        rw [this]
        exact xor_iff.mpr h
    simp only [e]
  | swap j k =>
    show wv (addL _ _ _) = _
    rw [wv_add]
    congr 1
    funext c
    show (if c = exch j k b then g else _) = if exch j k c = b then g else _
    simp only [exch_iff]
theorem Nod.add {l : WL} (h : Nod l) {b : Nat} {g : GI} : Nod (addL l b g) := h.put
theorem Nod.one {l : WL} (h : Nod l) {d : Dd} {b : Nat} {g : GI} : Nod (oneL d l b g) := by
  cases d <;> first | exact h.add | exact h.add.add
theorem len_one {l : WL} {d : Dd} {b : Nat} {g : GI} : (oneL d l b g).length ≤ l.length + 2 := by
  have key : ∀ {l : WL} {b : Nat} {g : GI}, (addL l b g).length ≤ l.length + 1 := len_put
  cases d with
  | both k => exact Nat.le_trans key (Nat.succ_le_succ key)
  | _ => exact Nat.le_trans key (by omega)
def deedL (d : Dd) (l : WL) : WL := l.foldl (fun acc p => oneL d acc p.1 p.2) []
theorem deedL_snoc {d : Dd} {l : WL} {p : Nat × GI} : deedL d (l ++ [p]) = oneL d (deedL d l) p.1 p.2 := by unfold deedL; rw [List.foldl_append]; rfl
/-- from behind -/
theorem snoc_ind {P : WL → Prop} (h0 : P []) (h1 : ∀ l p, P l → P (l ++ [p])) : ∀ l, P l := fun l => by
  have : ∀ m : WL, P m.reverse := fun m => by
    induction m with
    | nil => exact h0
    | cons p m ih => rw [List.reverse_cons]; exact h1 _ _ ih
  have := this l.reverse
  rwa [List.reverse_reverse] at this
theorem Nod.snoc {l : WL} {p : Nat × GI} (h : Nod (l ++ [p])) : Nod l ∧ p.1 ∉ l.map Prod.fst := by
  unfold Nod at h
  rw [List.map_append, List.nodup_append] at h
  refine ⟨h.1, fun hm => h.2.2 _ hm _ (List.mem_singleton.mpr rfl) rfl⟩
theorem deedF_nil {d : Dd} : deedF d (fun _ => (0, 0)) = fun _ => (0, 0) := funext fun b => by
  cases d with
  | over k => rfl
  | quarter k => show (if _ then _ else _) = _; rw [rot0]; simp
  | back k => show (if _ then _ else _) = _; rw [rot0]; simp
  | both k => show (if _ then _ else _) = _; simp [ga, gn]
  | whr j k => rfl
  | swap j k => rfl
theorem deedL_nod {d : Dd} : ∀ l : WL, Nod (deedL d l) := snoc_ind List.nodup_nil fun l p h => by rw [deedL_snoc]; exact h.one
theorem deedL_wv {d : Dd} {n : Nat} (hd : d.Ok n) : ∀ l : WL, Nod l → wv (deedL d l) = deedF d (wv l) := snoc_ind (fun _ => by
    show wv [] = deedF d (wv [])
    rw [wv_nil, deedF_nil]) fun l p ih h => by
  obtain ⟨h1, h2⟩ := h.snoc
  rw [deedL_snoc, wv_one hd, ih h1]
  have : wv (l ++ [p]) = fa (wv l) (dl p.1 p.2) := wv_snoc h2
  rw [this, deedF_fa]
theorem deedL_len {d : Dd} : ∀ l : WL, (deedL d l).length ≤ 2 * l.length := snoc_ind (Nat.le_refl _) fun l p ih => by
  rw [deedL_snoc]
  have := len_one (l := deedL d l) (d := d) (b := p.1) (g := p.2)
  rw [List.length_append, List.length_singleton]
  omega
/- rows -/
def rowL (n : Nat) (r : Rw) (l : WL) : WL := l.foldl (fun acc p => wput acc (p.1 ^^^ r.x) (rot (ph n r p.1) p.2)) []
theorem rowL_snoc {n : Nat} {r : Rw} {l : WL} {p : Nat × GI} : rowL n r (l ++ [p]) = wput (rowL n r l) (p.1 ^^^ r.x) (rot (ph n r p.1) p.2) := by unfold rowL; rw [List.foldl_append]; rfl
theorem rowL_nod {n : Nat} {r : Rw} : ∀ l : WL, Nod (rowL n r l) := snoc_ind List.nodup_nil fun l p h => by rw [rowL_snoc]; exact h.put
theorem rot_nz {q : Nat} {g : GI} (h : g ≠ (0, 0)) : rot q g ≠ (0, 0) := fun z => by
  apply h
  unfold rot at z
  obtain ⟨a, b⟩ := g
  split at z
  · exact z
  · split at z
    · simp at z ⊢; omega
    · split at z
      · simp at z ⊢; omega
      · simp at z ⊢; omega
theorem gn_nz {g : GI} (h : g ≠ (0, 0)) : gn g ≠ (0, 0) := rot_nz (q := 2) h
theorem rowL_nz {n : Nat} {r : Rw} : ∀ l : WL, NZ l → NZ (rowL n r l) := snoc_ind (fun h => h) fun l p ih h => by
  rw [rowL_snoc]
  exact (ih fun q hq => h q (List.mem_append_left _ hq)).put (rot_nz (h p (List.mem_append_right _ (List.mem_singleton.mpr rfl))))
theorem rowL_len {n : Nat} {r : Rw} : ∀ l : WL, (rowL n r l).length ≤ l.length := snoc_ind (Nat.le_refl _) fun l p ih => by
  rw [rowL_snoc]
  have := len_put (l := rowL n r l) (b := p.1 ^^^ r.x) (g := rot (ph n r p.1) p.2)
  rw [List.length_append, List.length_singleton]
  omega
theorem rowL_wv {n : Nat} {r : Rw} : ∀ l : WL, Nod l → wv (rowL n r l) = actF n r (wv l) := snoc_ind (fun _ => by
    funext b
    show (0, 0) = rot _ (0, 0)
    rw [rot0]) fun l p ih h => by
  obtain ⟨h1, h2⟩ := h.snoc
  have e : wv (l ++ [p]) = fa (wv l) (dl p.1 p.2) := wv_snoc h2
  rw [rowL_snoc, e]
  funext c
  rw [wv_put, ih h1]
  show _ = rot (ph n r (c ^^^ r.x)) (ga (wv l (c ^^^ r.x)) (if c ^^^ r.x = p.1 then p.2 else (0, 0)))
  by_cases h : c = p.1 ^^^ r.x
  · have h' : c ^^^ r.x = p.1 := xor_iff.mpr h
    rw [if_pos h, if_pos h', h']
    have : wv l p.1 = (0, 0) := by unfold wv; rw [wget_none.mpr h2]; rfl
    rw [this, zero_ga]
  · have h' : ¬ c ^^^ r.x = p.1 := fun z => h (xor_iff.mp z)
    rw [if_neg h, if_neg h', ga_zero]
    rfl
/-- one number alone -/
theorem one_nz {d : Dd} {n : Nat} (hd : d.Ok n) {b : Nat} {g : GI} (hg : g ≠ (0, 0)) : NZ (deedL d [(b, g)]) := by
  have e0 : NZ [] := fun p hp => by cases hp
  have key : ∀ {l : WL} {c : Nat} {h : GI}, NZ l → wv l c = (0, 0) → h ≠ (0, 0) → NZ (addL l c h) := fun hl hz hh => by
    unfold addL
    rw [hz, zero_ga]
    exact hl.put hh
  show NZ (oneL d [] b g)
  cases d with
  | over k => exact key e0 rfl hg
  | quarter k => refine key e0 rfl ?_; split; exact rot_nz hg; exact hg
  | back k => refine key e0 rfl ?_; split; exact rot_nz hg; exact hg
  | both k =>
    refine key (key e0 rfl hg) ?_ ?_
    · rw [wv_add]
      unfold fa dl
      have := Nat.two_pow_pos k
      rw [if_neg (by omega)]
      rfl
    · split
      · exact gn_nz hg
      · exact hg
  | whr j k => exact key e0 rfl hg
  | swap j k => exact key e0 rfl hg
/- the program's own way: pairs to which a number's part is moved, then what is nothing is left out -/
def mvL : Dd → Nat → GI → WL
  | .over k, b, g => [(b ^^^ 2 ^ k, g)]
  | .quarter k, b, g => [(b, if bt b k = 1 then rot 1 g else g)]
  | .back k, b, g => [(b, if bt b k = 1 then rot 3 g else g)]
  | .both k, b, g => if bt b k = 1 then [(b ^^^ 2 ^ k, g), (b, gn g)] else [(b, g), (b ||| 2 ^ k, g)]
  | .whr j k, b, g => [(b ^^^ bt b j * 2 ^ k, g)]
  | .swap j k, b, g => [(exch j k b, g)]
theorem or_add {b k : Nat} (h : bt b k = 0) : b ||| 2 ^ k = b + 2 ^ k := by
  rw [← flip_add h]
  refine bt_ext fun i => ?_
  rw [bt_or, bt_flip1, bt_pow]
  have := bt_le b i
  by_cases e : i = k
  · subst e; simp [h]
  · rw [if_neg e, if_neg e]
    rcases bt01 b i with h | h <;> simp [h]
theorem mvL_one {d : Dd} {l : WL} {b : Nat} {g : GI} : (mvL d b g).foldl (fun acc p => addL acc p.1 p.2) l = oneL d l b g := by
  cases d with
  | both k =>
    show List.foldl _ l (if bt b k = 1 then [(b ^^^ 2 ^ k, g), (b, gn g)] else [(b, g), (b ||| 2 ^ k, g)]) = addL (addL l (b - bt b k * 2 ^ k) g) (b - bt b k * 2 ^ k + 2 ^ k) (if bt b k = 1 then gn g else g)
    rw [set_, clear_]
    rcases bt01 b k with h | h
    · rw [h, or_add h, flip_add h]
      rfl
    · rw [h]
      rfl
  | _ => rfl
theorem mvL_len {d : Dd} {b : Nat} {g : GI} : (mvL d b g).length ≤ 2 := by
  cases d with
  | both k => show (if bt b k = 1 then [(b ^^^ 2 ^ k, g), (b, gn g)] else [(b, g), (b ||| 2 ^ k, g)]).length ≤ 2; split <;> exact Nat.le_refl _
  | _ => exact Nat.le_succ _
def nzL (l : WL) : WL := l.filter fun p => decide (p.2 ≠ (0, 0))
theorem nzL_nz {l : WL} : NZ (nzL l) := fun p hp => of_decide_eq_true (List.mem_filter.mp hp).2
theorem nzL_nod {l : WL} (h : Nod l) : Nod (nzL l) := List.Nodup.sublist (List.Sublist.map _ List.filter_sublist) h
theorem nzL_wv {l : WL} (h : Nod l) : wv (nzL l) = wv l := funext fun b => by
  unfold wv
  cases h1 : wget l b with
  | none =>
    have : wget (nzL l) b = none := wget_none.mpr fun z => wget_none.mp h1 (by
      obtain ⟨p, hp, e⟩ := List.mem_map.mp z
      exact List.mem_map.mpr ⟨p, (List.mem_filter.mp hp).1, e⟩)
    rw [this]
  | some g =>
    by_cases hg : g = (0, 0)
    · have : wget (nzL l) b = none := wget_none.mpr fun z => by
        obtain ⟨p, hp, e⟩ := List.mem_map.mp z
        obtain ⟨q1, q2⟩ := List.mem_filter.mp hp
        have := wget_mem h q1
        rw [e, h1] at this
        cases this
        exact of_decide_eq_true q2 hg
      rw [this, hg]
      rfl
    · have : wget (nzL l) b = some g := wget_mem (nzL_nod h) (p := (b, g)) (List.mem_filter.mpr ⟨wget_some h1, decide_eq_true hg⟩)
      rw [this]
theorem nzL_len {l : WL} : (nzL l).length ≤ l.length := List.length_filter_le _ _
theorem ddrop_wk {l : WL} {b : Nat} : ddrop (wk l) (.inl (b : Int)) = wk (l.filter fun p => decide (p.1 ≠ b)) := by
  unfold ddrop wk
  rw [List.filter_map]
  congr 1
  refine List.filter_congr fun p _ => ?_
  show decide (_ ≠ _) = decide _
  rw [decide_eq_decide]
  refine not_congr ?_
  exact key_eq
def zsL (l : WL) : List Nat := (l.filter fun p => decide (p.2 = (0, 0))).map Prod.fst
theorem nzL_zs {l : WL} (h : Nod l) : (l.filter fun p => decide (p.1 ∉ zsL l)) = nzL l := by
  refine List.filter_congr fun p hp => ?_
  rw [decide_eq_decide]
  refine not_congr ?_
  constructor
  · intro z
    obtain ⟨q, hq, e⟩ := List.mem_map.mp z
    obtain ⟨q1, q2⟩ := List.mem_filter.mp hq
    have h1 := wget_mem h hp
    have h2 := wget_mem h q1
    rw [e, h1] at h2
    exact (Option.some.inj h2).trans (of_decide_eq_true q2)
  · intro z
    exact List.mem_map.mpr ⟨p, List.mem_filter.mpr ⟨hp, decide_eq_true z⟩, rfl⟩
/-- the whole behind a deed, as the program makes it -/
def wholeL (d : Dd) (l : WL) : WL := nzL (deedL d l)
theorem wholeL_nod {d : Dd} {l : WL} : Nod (wholeL d l) := nzL_nod (deedL_nod l)
theorem wholeL_nz {d : Dd} {l : WL} : NZ (wholeL d l) := nzL_nz
theorem wholeL_wv {d : Dd} {n : Nat} {l : WL} (hd : d.Ok n) (h : Nod l) : wv (wholeL d l) = deedF d (wv l) := (nzL_wv (deedL_nod l)).trans (deedL_wv hd l h)
section
variable {S : DS} {k : Nat} {kvs : List (Key × D)} {lk : Bool} {fo fk fv fx : DS → Res RV} {rk : RV} {key : Key} {dx d : D} {i : Nat} {g : DS → Out}
theorem dpop_ref (h0 : fo S = .ok (.val (.ref k)) S) (h2 : S.L[k]? = some (.con (.dic kvs) false)) (h3 : fk S = .ok rk S) (h4 : (peek S rk).bind keyOf = some key) (h5 : dget kvs key = some d) : dDPop1 fo fk S = .ok (.val d) { S with L := S.L.set k (.con (.dic (ddrop kvs key)) false) } := by
  have h6 : dictOf (.val (.ref k)) S = some kvs := by simp [dictOf, contAt, h2]
  have h7 : freeAt (.val (.ref k)) S = true := by simp [freeAt, h2]
  have h8 : dicOf (.val (.ref k)) S = some kvs := by simp [dicOf, peek, deref, h2, Cont.toD]
  unfold dDPop1
  rw [h0]
  dsimp only [Res.bind]
  rw [h8]
  simp only [RV.still, if_true, h3, Res.bind, h4, h6, h7, h5, putAt]
theorem q_ix_dic {i : Int} : gIx (.dic kvs) (.int i) = (match dget kvs (.inl i) with
    | some d => .val d
    | none => .stk) := (rfl)
end
theorem adds_len : ∀ (ms acc : WL), (ms.foldl (fun acc p => addL acc p.1 p.2) acc).length ≤ acc.length + ms.length
  | [], acc => Nat.le_refl _
  | m :: ms, acc => by
    have h1 := adds_len ms (addL acc m.1 m.2)
    have h2 : (addL acc m.1 m.2).length ≤ acc.length + 1 := len_put
    rw [List.foldl_cons, List.length_cons]
    omega
theorem keysD_wk {l : WL} : keysD (wk l) = l.map fun p => D.int (p.1 : Int) := by simp [keysD, wk, keyD]
@[simp] theorem clean_wk (l : WL) : (R.own (.dic (wk l))).clean = true := by
  show flatK (wk l) = true
  unfold wk
  induction l with
  | nil => rfl
  | cons p l ih =>
    rw [List.map_cons]
    show (D.flat (pr p.2) && flatK _) = true
    rw [ih]
    rfl
@[simp] theorem clean_dicV (kvs : List (Key × D)) : (R.val (.dic kvs)).clean = false := (rfl)
@[simp] theorem flat_dicV (kvs : List (Key × D)) : (D.dic kvs).flat = false := (rfl)
theorem eqW_self {l : WL} (hl : Nod l) (zl : NZ l) : gCmp .Eq (.dic (wk l)) (.dic (wk l)) = .val (.bl true) := eqW hl hl zl zl fun _ => rfl
theorem neW_self {l : WL} (hl : Nod l) (zl : NZ l) : gCmp .NotEq (.dic (wk l)) (.dic (wk l)) = .val (.bl false) := neW hl hl zl zl fun _ => rfl
theorem nzL_snoc {l : WL} {p : Nat × GI} : nzL (l ++ [p]) = if p.2 = (0, 0) then nzL l else nzL l ++ [p] := by
  unfold nzL
  rw [List.filter_append]
  by_cases h : p.2 = (0, 0)
  · rw [if_pos h, List.filter_cons_of_neg (by simp [h]), List.filter_nil, List.append_nil]
  · rw [if_neg h, List.filter_cons_of_pos (by simp [h])]
    rfl
theorem put_new {l : WL} {b : Nat} {g : GI} (h : b ∉ l.map Prod.fst) : wput l b g = l ++ [(b, g)] := by
  unfold wput
  rw [if_neg]
  intro z
  obtain ⟨p, h1, h2⟩ := List.any_eq_true.mp z
  exact h (List.mem_map.mpr ⟨p, h1, of_decide_eq_true h2⟩)
@[simp] theorem gDict_wk {l : WL} : gDict [.dic (wk l)] = .own (.dic (wk l)) := (rfl)
end TW
/-! TM5: what rows do tells the rows; deeds keep products and who goes beside whom. -/
namespace TW
theorem actF_mul {n : Nat} {a b : Rw} (ha : a.s < 2) (hb : b.s < 2) (h : bp n a b % 2 = 0) (ψ : Wh) : actF n (mul n a b) ψ = actF n b (actF n a ψ) := funext fun e => by
  show rot (ph n (mul n a b) (e ^^^ (a.x ^^^ b.x))) (ψ (e ^^^ (a.x ^^^ b.x))) = rot (ph n b (e ^^^ b.x)) (rot (ph n a (e ^^^ b.x ^^^ a.x)) (ψ (e ^^^ b.x ^^^ a.x)))
  have e1 : e ^^^ (a.x ^^^ b.x) = e ^^^ b.x ^^^ a.x := by rw [Nat.xor_comm a.x, Nat.xor_assoc]
  have e2 : e ^^^ b.x ^^^ a.x ^^^ a.x = e ^^^ b.x := xor_self_right
  rw [e1, rot_add]
  have := mul_ph ha hb h (e ^^^ b.x ^^^ a.x)
  rw [e2] at this
  exact rot_mod (by omega) _
theorem ph_xor {n : Nat} {a : Rw} {c t : Nat} : ph n a (c ^^^ t) % 4 = (ph n a c + 2 * pc n (a.z &&& t)) % 4 := by
  rw [ph_q, ph_q, and_xor]
  have := pc_xor2 n (a.z &&& c) (a.z &&& t)
  omega
/-- a number's part at a number, more than nothing -/
def rl (k : Nat) : GI := ((k : Int) + 1, 0)
theorem rot_rl {k p q : Nat} (h : rot p (rl k) = rot q (rl k)) : p % 4 = q % 4 := by
  unfold rot rl at h
  rcases q4 p with a | a | a | a <;> rcases q4 q with b | b | b | b <;> rw [a, b] at h <;> simp at h <;> omega
theorem rl_nz {k : Nat} : rl k ≠ (0, 0) := fun h => by
  have := congrArg Prod.fst h
  simp [rl] at this
  omega
theorem act_dl {n : Nat} {a : Rw} {c : Nat} {g : GI} : actF n a (dl c g) = dl (c ^^^ a.x) (rot (ph n a c) g) := funext fun e => by
  show rot (ph n a (e ^^^ a.x)) (if e ^^^ a.x = c then g else (0, 0)) = if e = c ^^^ a.x then _ else (0, 0)
  by_cases h : e = c ^^^ a.x
  · have h' : e ^^^ a.x = c := xor_iff.mpr h
    rw [if_pos h, if_pos h', h']
  · rw [if_neg h, if_neg (fun z => h (xor_iff.mp z)), rot0]
theorem dl_inj {c c' : Nat} {g g' : GI} (hg : g ≠ (0, 0)) (h : dl c g = dl c' g') : c = c' ∧ g = g' := by
  have h1 := congrFun h c
  unfold dl at h1
  rw [if_pos rfl] at h1
  by_cases e : c = c'
  · rw [if_pos e] at h1
    exact ⟨e, h1⟩
  · rw [if_neg e] at h1
    exact absurd h1 hg
theorem faith {n : Nat} {a b : Rw} (ha : a.Ok n) (hb : b.Ok n) {k : Nat} (h : ∀ c, actF n a (dl c (rl k)) = actF n b (dl c (rl k))) : a = b := by
  have hx : a.x = b.x := by
    have := h 0
    rw [act_dl, act_dl] at this
    have := (dl_inj (rot_nz rl_nz) this).1
    simpa using this
  have hp : ∀ c, ph n a c % 4 = ph n b c % 4 := fun c => by
    have := h c
    rw [act_dl, act_dl] at this
    exact rot_rl (dl_inj (rot_nz rl_nz) this).2
  have hz : a.z = b.z := bt_ext fun i => by
    by_cases hi : i < n
    · have h0 := hp 0
      have h1 := hp (2 ^ i)
      have e : ∀ r : Rw, ph n r (2 ^ i) % 4 = (ph n r 0 + 2 * bt r.z i) % 4 := fun r => by
        have := ph_xor (n := n) (a := r) (c := 0) (t := 2 ^ i)
        rw [Nat.zero_xor] at this
        rw [this]
        have : pc n (r.z &&& 2 ^ i) = bt r.z i := by
          rw [← sm_one (n := n) (k := i) (v := bt r.z i) hi]
          refine sm_congr fun j _ => ?_
          rw [bt_and, bt_pow]
          by_cases q : j = i
          · subst q; simp
          · simp [q]
        rw [this]
      rw [e, e] at h1
      have := bt_le a.z i
      have := bt_le b.z i
      omega
    · rw [bt_zero ha.z (by omega), bt_zero hb.z (by omega)]
  exact ph_ext ha.s hb.s hx hz 0 (hp 0)
theorem comm_iff {n : Nat} {a b : Rw} {c k : Nat} : actF n a (actF n b (dl c (rl k))) = actF n b (actF n a (dl c (rl k))) ↔ bes n a b = true := by
  rw [act_dl, act_dl, act_dl, act_dl, rot_add, rot_add, bes_iff]
  have e1 : c ^^^ b.x ^^^ a.x = c ^^^ a.x ^^^ b.x := by rw [Nat.xor_assoc, Nat.xor_comm b.x, Nat.xor_assoc]
  have h1 := ph_xor (n := n) (a := a) (c := c) (t := b.x)
  have h2 := ph_xor (n := n) (a := b) (c := c) (t := a.x)
  have hb : bp n a b = pc n (a.z &&& b.x) + pc n (b.z &&& a.x) ∨ bp n a b = pc n (a.x &&& b.z) + pc n (a.z &&& b.x) := .inr rfl
  have h3 : pc n (a.x &&& b.z) = pc n (b.z &&& a.x) := pc_comm
  constructor
  · intro h
    have := rot_rl (dl_inj (rot_nz rl_nz) h).2
    omega
  · intro h
    rw [e1]
    congr 1
    exact rot_mod (by omega) _
/-- undone: itself, or twice itself -/
theorem deedF_undo {n : Nat} {d : Dd} (hd : d.Ok n) : ∃ k, ∀ c, deedF d (deedF (dUndo d) (dl c (rl 0))) = dl c (rl k) := by
  have r13 : ∀ g : GI, rot 1 (rot 3 g) = g := fun g => by rw [rot_add]; rfl
  have r31 : ∀ g : GI, rot 3 (rot 1 g) = g := fun g => by rw [rot_add]; rfl
  cases d with
  | over k =>
    refine ⟨0, fun c => funext fun e => ?_⟩
    show dl c (rl 0) (e ^^^ 2 ^ k ^^^ 2 ^ k) = _
    rw [xor_self_right]
  | quarter k =>
    refine ⟨0, fun c => funext fun e => ?_⟩
    show (if bt e k = 1 then rot 1 (if bt e k = 1 then rot 3 (dl c (rl 0) e) else dl c (rl 0) e) else (if bt e k = 1 then rot 3 (dl c (rl 0) e) else dl c (rl 0) e)) = _
    split
    · exact r13 _
    · rfl
  | back k =>
    refine ⟨0, fun c => funext fun e => ?_⟩
    show (if bt e k = 1 then rot 3 (if bt e k = 1 then rot 1 (dl c (rl 0) e) else dl c (rl 0) e) else (if bt e k = 1 then rot 1 (dl c (rl 0) e) else dl c (rl 0) e)) = _
    split
    · exact r31 _
    · rfl
  | both k =>
    refine ⟨1, fun c => funext fun e => ?_⟩
    have tw : dl c (rl 1) e = ga (dl c (rl 0) e) (dl c (rl 0) e) := by
      unfold dl
      split
      · rfl
      · rfl
    rw [tw]
    obtain ⟨ψ, hψ⟩ : ∃ ψ, ψ = dl c (rl 0) := ⟨_, rfl⟩
    rw [← hψ]
    show (if bt e k = 1 then ga (if bt (e ^^^ 2 ^ k) k = 1 then ga (ψ (e ^^^ 2 ^ k ^^^ 2 ^ k)) (gn (ψ (e ^^^ 2 ^ k))) else ga (ψ (e ^^^ 2 ^ k)) (ψ (e ^^^ 2 ^ k ^^^ 2 ^ k))) (gn (if bt e k = 1 then ga (ψ (e ^^^ 2 ^ k)) (gn (ψ e)) else ga (ψ e) (ψ (e ^^^ 2 ^ k)))) else ga (if bt e k = 1 then ga (ψ (e ^^^ 2 ^ k)) (gn (ψ e)) else ga (ψ e) (ψ (e ^^^ 2 ^ k))) (if bt (e ^^^ 2 ^ k) k = 1 then ga (ψ (e ^^^ 2 ^ k ^^^ 2 ^ k)) (gn (ψ (e ^^^ 2 ^ k))) else ga (ψ (e ^^^ 2 ^ k)) (ψ (e ^^^ 2 ^ k ^^^ 2 ^ k)))) = _
    rw [xor_self_right, bt_flip1, if_pos rfl]
    rcases bt01 e k with h | h <;> rw [h] <;> simp [ga, gn] <;> omega
  | whr j k =>
    refine ⟨0, fun c => funext fun e => ?_⟩
    show dl c (rl 0) (e ^^^ bt e j * 2 ^ k ^^^ bt (e ^^^ bt e j * 2 ^ k) j * 2 ^ k) = _
    rw [bt_flip' (bt_le _ _) hd.2.2, xor_self_right]
  | swap j k =>
    refine ⟨0, fun c => funext fun e => ?_⟩
    show dl c (rl 0) (exch j k (exch j k e)) = _
    rw [exch_exch]
theorem bes_dRow1 {n : Nat} {d : Dd} {a b : Rw} (hd : d.Ok n) (ha : a.s < 2) (hb : b.s < 2) (h : bes n a b = true) : bes n (dRow d a) (dRow d b) = true := by
  obtain ⟨k, hk⟩ := deedF_undo hd
  rw [← comm_iff (c := 0) (k := k), ← hk]
  have cm : ∀ ψ : Wh, actF n a (actF n b ψ) = actF n b (actF n a ψ) := fun ψ => by
    have h1 := actF_mul ha hb (bes_iff.mp h) ψ
    have h2 := actF_mul hb ha (bes_iff.mp (by rw [bes_comm]; exact h)) ψ
    rw [← h1, ← h2, mul_comm' ha hb (bes_iff.mp h)]
  rw [← conj hd hb, ← conj hd ha, ← conj hd ha, ← conj hd hb, cm]
theorem dRow_s {n : Nat} {d : Dd} {a : Rw} (hd : d.Ok n) (ha : a.Ok n) : (dRow d a).s < 2 := (dRow_ok hd ha).s
theorem bes_dRow {n : Nat} {d : Dd} {a b : Rw} (hd : d.Ok n) (ha : a.Ok n) (hb : b.Ok n) : bes n (dRow d a) (dRow d b) = bes n a b := by
  cases h : bes n a b with
  | true => exact bes_dRow1 hd ha.s hb.s h
  | false =>
    cases h2 : bes n (dRow d a) (dRow d b) with
    | false => rfl
    | true =>
      have := bes_dRow1 (dUndo_ok hd) (dRow_s hd ha) (dRow_s hd hb) h2
      rw [dRow_undo hd ha.s, dRow_undo hd hb.s, h] at this
      cases this
theorem mul_dRow {n : Nat} {d : Dd} {a b : Rw} (hd : d.Ok n) (ha : a.Ok n) (hb : b.Ok n) (h : bes n a b = true) : mul n (dRow d a) (dRow d b) = dRow d (mul n a b) := by
  have h' : bes n (dRow d a) (dRow d b) = true := (bes_dRow hd ha hb).trans h
  have mo := mul_ok (n := n) ha hb
  obtain ⟨k, hk⟩ := deedF_undo hd
  have key : ∀ ψ : Wh, actF n (mul n (dRow d a) (dRow d b)) (deedF d ψ) = actF n (dRow d (mul n a b)) (deedF d ψ) := fun ψ => by
    rw [actF_mul (dRow_s hd ha) (dRow_s hd hb) (bes_iff.mp h'), ← conj hd mo.s, actF_mul ha.s hb.s (bes_iff.mp h), conj hd hb.s, conj hd ha.s]
  exact faith (mul_ok (dRow_ok hd ha) (dRow_ok hd hb)) (dRow_ok hd mo) (k := k) fun c => by rw [← hk]; exact key _
theorem dRow_xz {d : Dd} {a b : Rw} (hx : a.x = b.x) (hz : a.z = b.z) : (dRow d a).x = (dRow d b).x ∧ (dRow d a).z = (dRow d b).z := by
  cases d <;> simp only [dRow, hx, hz, and_self]
theorem dRow_xz_iff {n : Nat} {d : Dd} {a b : Rw} (hd : d.Ok n) (ha : a.s < 2) (hb : b.s < 2) : ((dRow d a).x = (dRow d b).x ∧ (dRow d a).z = (dRow d b).z) ↔ (a.x = b.x ∧ a.z = b.z) := by
  constructor
  · rintro ⟨h1, h2⟩
    have := dRow_xz (d := dUndo d) h1 h2
    rwa [dRow_undo hd ha, dRow_undo hd hb] at this
  · rintro ⟨h1, h2⟩
    exact dRow_xz h1 h2
/- works -/
theorem bes_rowB {n : Nat} : ∀ {ds : List Dd} {a b : Rw}, (∀ d ∈ ds, d.Ok n) → a.Ok n → b.Ok n → bes n (rowB ds a) (rowB ds b) = bes n a b
  | [], _, _, _, _, _ => rfl
  | d :: ds, a, b, h, ha, hb => by
    have hd := h d List.mem_cons_self
    rw [rowB_cons, rowB_cons, bes_rowB (fun e he => h e (List.mem_cons_of_mem _ he)) (dRow_ok hd ha) (dRow_ok hd hb), bes_dRow hd ha hb]
theorem mul_rowB {n : Nat} : ∀ {ds : List Dd} {a b : Rw}, (∀ d ∈ ds, d.Ok n) → a.Ok n → b.Ok n → bes n a b = true → mul n (rowB ds a) (rowB ds b) = rowB ds (mul n a b)
  | [], _, _, _, _, _, _ => rfl
  | d :: ds, a, b, h, ha, hb, hs => by
    have hd := h d List.mem_cons_self
    rw [rowB_cons, rowB_cons, rowB_cons, mul_rowB (fun e he => h e (List.mem_cons_of_mem _ he)) (dRow_ok hd ha) (dRow_ok hd hb) ((bes_dRow hd ha hb).trans hs), mul_dRow hd ha hb hs]
theorem xz_rowB {n : Nat} : ∀ {ds : List Dd} {a b : Rw}, (∀ d ∈ ds, d.Ok n) → a.Ok n → b.Ok n → (((rowB ds a).x = (rowB ds b).x ∧ (rowB ds a).z = (rowB ds b).z) ↔ (a.x = b.x ∧ a.z = b.z))
  | [], _, _, _, _, _ => Iff.rfl
  | d :: ds, a, b, h, ha, hb => by
    have hd := h d List.mem_cons_self
    rw [rowB_cons, rowB_cons]
    exact (xz_rowB (fun e he => h e (List.mem_cons_of_mem _ he)) (dRow_ok hd ha) (dRow_ok hd hb)).trans (dRow_xz_iff hd ha.s hb.s)
/-- a work on a whole -/
def workF (ds : List Dd) (ψ : Wh) : Wh := ds.foldl (fun ψ d => deedF d ψ) ψ
theorem conj_work {n : Nat} : ∀ {ds : List Dd} {r : Rw}, (∀ d ∈ ds, d.Ok n) → r.Ok n → ∀ ψ : Wh, workF ds (actF n r ψ) = actF n (rowB ds r) (workF ds ψ)
  | [], _, _, _, _ => rfl
  | d :: ds, r, h, hr, ψ => by
    have hd := h d List.mem_cons_self
    show workF ds (deedF d (actF n r ψ)) = actF n (rowB ds (dRow d r)) (workF ds (deedF d ψ))
    rw [conj hd hr.s, conj_work (fun e he => h e (List.mem_cons_of_mem _ he)) (dRow_ok hd hr)]
/-- as dicts -/
def workL (ds : List Dd) (l : WL) : WL := ds.foldl (fun l d => wholeL d l) l
theorem workL_snoc {ds : List Dd} {d : Dd} {l : WL} : workL (ds ++ [d]) l = wholeL d (workL ds l) := by unfold workL; rw [List.foldl_append]; rfl
theorem workL_wv {n : Nat} : ∀ {ds : List Dd} {l : WL}, (∀ d ∈ ds, d.Ok n) → Nod l → wv (workL ds l) = workF ds (wv l)
  | [], _, _, _ => rfl
  | d :: ds, l, h, hl => by
    show wv (workL ds (wholeL d l)) = workF ds (deedF d (wv l))
    rw [workL_wv (fun e he => h e (List.mem_cons_of_mem _ he)) wholeL_nod, wholeL_wv (h d List.mem_cons_self) hl]
theorem workL_nod : ∀ {ds : List Dd} {l : WL}, Nod l → Nod (workL ds l)
  | [], _, h => h
  | d :: ds, l, _ => workL_nod (ds := ds) (l := wholeL d l) wholeL_nod
theorem workL_nz : ∀ {ds : List Dd} {l : WL}, NZ l → NZ (workL ds l)
  | [], _, h => h
  | d :: ds, l, _ => workL_nz (ds := ds) (l := wholeL d l) wholeL_nz
/-- numbers of so many wires alone -/
def Bel (n : Nat) (l : WL) : Prop := ∀ p ∈ l, p.1 < 2 ^ n
theorem bel_len {n : Nat} {l : WL} (h : Nod l) (hb : Bel n l) : l.length ≤ 2 ^ n := by
  have : (l.map Prod.fst).length ≤ (List.range (2 ^ n)).length := len_sub h fun b hb' => by
    obtain ⟨p, hp, rfl⟩ := List.mem_map.mp hb'
    exact List.mem_range.mpr (hb p hp)
  simpa using this
theorem Bel.put {n : Nat} {l : WL} {b : Nat} {g : GI} (h : Bel n l) (hb : b < 2 ^ n) : Bel n (wput l b g) := fun p hp => by
  rcases mem_put hp with e | e
  · subst e; exact hb
  · exact h p e
theorem Bel.one {n : Nat} {d : Dd} {l : WL} {b : Nat} {g : GI} (hd : d.Ok n) (h : Bel n l) (hb : b < 2 ^ n) : Bel n (oneL d l b g) := by
  cases d with
  | over k => exact h.put (Nat.xor_lt_two_pow hb (pow_lt hd))
  | quarter k => exact h.put hb
  | back k => exact h.put hb
  | both k =>
    have e1 : b - bt b k * 2 ^ k < 2 ^ n := by omega
    have e2 : b - bt b k * 2 ^ k + 2 ^ k < 2 ^ n := by
      rw [set_]
      split
      · exact hb
      · exact Nat.xor_lt_two_pow hb (pow_lt hd)
    exact (h.put e1).put e2
  | whr j k => exact h.put (Nat.xor_lt_two_pow hb (vpow_lt (bt_le _ _) hd.2.1))
  | swap j k => exact h.put (exch_lt hd.1 hd.2.1 hb)
theorem Bel.deed {n : Nat} {d : Dd} (hd : d.Ok n) : ∀ l : WL, Bel n l → Bel n (deedL d l) := snoc_ind (fun _ p hp => by cases hp) fun l p ih h => by
  rw [deedL_snoc]
  exact (ih fun q hq => h q (List.mem_append_left _ hq)).one hd (h p (List.mem_append_right _ (List.mem_singleton.mpr rfl)))
theorem Bel.whole {n : Nat} {d : Dd} {l : WL} (hd : d.Ok n) (h : Bel n l) : Bel n (wholeL d l) := fun p hp => Bel.deed hd l h p (List.mem_filter.mp hp).1
theorem Bel.work {n : Nat} : ∀ {ds : List Dd} {l : WL}, (∀ d ∈ ds, d.Ok n) → Bel n l → Bel n (workL ds l)
  | [], _, _, h => h
  | d :: ds, l, hd, h => Bel.work (ds := ds) (l := wholeL d l) (fun e he => hd e (List.mem_cons_of_mem _ he)) (h.whole (hd d List.mem_cons_self))
theorem Bel.row {n : Nat} {r : Rw} (hr : r.Ok n) : ∀ l : WL, Bel n l → Bel n (rowL n r l) := snoc_ind (fun _ p hp => by cases hp) fun l p ih h => by
  rw [rowL_snoc]
  exact (ih fun q hq => h q (List.mem_append_left _ hq)).put (Nat.xor_lt_two_pow (h p (List.mem_append_right _ (List.mem_singleton.mpr rfl))) hr.x)
section
open PySem PySem.Spec L2 PyProof.Rows
/- a list made by walking a list of one's own -/
theorem lcMapS_go {α : Type} {S0 : DS} {v j : Nat} {ds : List D} {lk : Bool} {g : α → D} {tt : DS → Res Bool} {te : DS → Res RV} {p : α → Bool} {f : α → D} (hj : S0.sl[j]? = some (some (.own (.lst ds) true))) (ne : j ≠ v) : ∀ {xs : List α} {acc : List D} (_ : ∀ a ∈ xs, tt (S0.at_ v (g a)) = .ok (p a) (S0.at_ v (g a)) ∧ (p a = true → ∃ r, te (S0.at_ v (g a)) = .ok r (S0.at_ v (g a)) ∧ settle r (S0.at_ v (g a)) = .ok (f a) (S0.at_ v (g a)))) (_ : acc.length + xs.length ≤ sizeLine) {its : List D},
    lcLoop ⟨its, .slot j ds lk⟩ (tgName v) tt te [v] (xs.map g) acc { S0 with sl := S0.sl.set v none } = .ok (acc ++ (xs.filter p).map f) { S0 with sl := S0.sl.set v none }
  | [], acc, h, hl, its => by
    rw [List.map_nil, w_lcS0 (by
      show (S0.sl.set v none)[j]? = _
      rw [List.getElem?_set_ne (fun z => ne z.symm)]
      exact hj)]
    simp
  | x :: xs, acc, h, hl, its => by
    obtain ⟨e2, e3⟩ := h x List.mem_cons_self
    have e1 : tgName v (g x) { S0 with sl := S0.sl.set v none } = .ok () (S0.at_ v (g x)) := by
      unfold tgName DS.at_
      simp
    rw [List.map_cons, w_lcS1 (by
      show (S0.sl.set v none)[j]? = _
      rw [List.getElem?_set_ne (fun z => ne z.symm)]
      exact hj), e1, Res.bind, e2, Res.bind]
    rw [List.length_cons] at hl
    have ew : ({ S0.at_ v (g x) with sl := wipeS [v] (S0.at_ v (g x)).sl } : DS) = { S0 with sl := S0.sl.set v none } := by
      unfold DS.at_ wipeS wipeS
      simp
    cases hp : p x with
    | true =>
      obtain ⟨r, e5, e6⟩ := e3 hp
      rw [if_pos rfl, e5, Res.bind, e6, Res.bind, if_pos (by omega), ew, lcMapS_go hj ne (fun y hy => h y (List.mem_cons_of_mem _ hy)) (by rw [List.length_append, List.length_singleton]; omega), List.filter_cons_of_pos hp]
      simp
    | false =>
      rw [if_neg (by simp), ew, lcMapS_go hj ne (fun y hy => h y (List.mem_cons_of_mem _ hy)) (by omega), List.filter_cons_of_neg (by simp [hp])]
theorem lc_mapS {α : Type} {S S0 : DS} {v j : Nat} {o : Option Sl} {ds : List D} {lk : Bool} {src : DS → Res Src} {tt : DS → Res Bool} {te : DS → Res RV} (xs : List α) (g : α → D) (p : α → Bool) (f : α → D) (hs : src S = .ok ⟨xs.map g, .slot j ds lk⟩ S0) (hj : S0.sl[j]? = some (some (.own (.lst ds) true))) (ne : j ≠ v) (hv : S0.sl[v]? = some o) (hn : notOwn o = true)
    (h : ∀ a ∈ xs, tt (S0.at_ v (g a)) = .ok (p a) (S0.at_ v (g a)) ∧ (p a = true → ∃ r, te (S0.at_ v (g a)) = .ok r (S0.at_ v (g a)) ∧ settle r (S0.at_ v (g a)) = .ok (f a) (S0.at_ v (g a)))) (hl : xs.length ≤ sizeLine) :
    dLc src (tgName v) tt te [v] S = .ok (.own (.lst ((xs.filter p).map f))) { S0 with sl := S0.sl.set j (some (.own (.lst ds) lk)) } := by
  have hg := lcMapS_go (lk := lk) (acc := []) (its := xs.map g) hj ne h (by simpa using hl)
  unfold dLc
  rw [hs, q_bind_ok, if_pos ⟨by simp [hv, hn], fun i e => by
    have : j = i := by
      have e : some j = some i := e
      exact Option.some.inj e
    simp [← this, ne]⟩]
  have : wipeS [v] S0.sl = S0.sl.set v none := rfl
  rw [this, hg]
  have hb : backS S0.sl [v] (S0.sl.set v none) = S0.sl := by
    unfold backS backS
    obtain ⟨hlt, he⟩ := List.getElem?_eq_some_iff.mp hv
    rw [List.set_set, hv]
    simp only [Option.join_some]
    rw [← he, List.set_getElem_self]
  simp only [Res.quiet, q_bind_ok, unlock, List.nil_append]
  rw [hb]
end
end TW
/-! TM6: weights; rows one behind the other. -/
namespace TW
open PySem PySem.Spec L2 PyProof.Rows
theorem act_one {n : Nat} {ψ : Wh} : actF n one ψ = ψ := funext fun e => by
  have e0 : ∀ b, ph n one b = 0 := fun b => by
    show 2 * 0 + 2 * pc n (0 &&& b) + pc n (0 &&& 0) = 0
    rw [Nat.zero_and, Nat.zero_and, pc_zero]
  show rot (ph n one (e ^^^ 0)) (ψ (e ^^^ 0)) = ψ e
  rw [Nat.xor_zero, e0, rot_zero]
theorem act_twice {n : Nat} {a : Rw} (ha : a.s < 2) {ψ : Wh} : actF n a (actF n a ψ) = ψ := by
  rw [← actF_mul ha ha bp_self, mul_self ha, act_one]
theorem act_comm {n : Nat} {a b : Rw} (ha : a.s < 2) (hb : b.s < 2) (h : bes n a b = true) {ψ : Wh} : actF n b (actF n a ψ) = actF n a (actF n b ψ) := by
  have h1 := bes_iff.mp h
  have h2 : bp n b a % 2 = 0 := by rw [bp_comm]; exact h1
  rw [← actF_mul ha hb h1, ← actF_mul hb ha h2, mul_comm' ha hb h1]
def fn (ψ : Wh) : Wh := fun b => gn (ψ b)
theorem act_anti {n : Nat} {a b : Rw} (h : bes n a b = false) {ψ : Wh} : actF n b (actF n a ψ) = fn (actF n a (actF n b ψ)) := funext fun e => by
  show rot (ph n b (e ^^^ b.x)) (rot (ph n a (e ^^^ b.x ^^^ a.x)) (ψ (e ^^^ b.x ^^^ a.x))) = rot 2 (rot (ph n a (e ^^^ a.x)) (rot (ph n b (e ^^^ a.x ^^^ b.x)) (ψ (e ^^^ a.x ^^^ b.x))))
  have e1 : e ^^^ a.x ^^^ b.x = e ^^^ b.x ^^^ a.x := by rw [Nat.xor_assoc, Nat.xor_comm a.x, ← Nat.xor_assoc]
  rw [e1, rot_add, rot_add, rot_add]
  refine rot_mod ?_ _
  have h1 : bp n a b % 2 = 1 := by
    have : ¬ bp n a b % 2 = 0 := fun z => by rw [bes_iff.mpr z] at h; cases h
    omega
  have h1 : (pc n (a.x &&& b.z) + pc n (a.z &&& b.x)) % 2 = 1 := h1
  have x1 := ph_xor (n := n) (a := b) (c := e ^^^ b.x) (t := a.x)
  have x2 := ph_xor (n := n) (a := a) (c := e ^^^ a.x) (t := b.x)
  rw [e1] at x2
  have c1 : pc n (b.z &&& a.x) = pc n (a.x &&& b.z) := pc_comm
  omega
def sq (g : GI) : Int := g.1 * g.1 + g.2 * g.2
def wt (l : WL) : Int := (l.map fun p => sq p.2).sum
theorem sq_rot {q : Nat} {g : GI} : sq (rot q g) = sq g := by
  rw [rot_mod (q' := q % 4) (by omega)]
  have : q % 4 = 0 ∨ q % 4 = 1 ∨ q % 4 = 2 ∨ q % 4 = 3 := by omega
  unfold sq
  rcases this with z | z | z | z <;> rw [z]
  · rfl
  · show -g.2 * -g.2 + g.1 * g.1 = _
    rw [Int.neg_mul_neg, Int.add_comm]
  · show -g.1 * -g.1 + -g.2 * -g.2 = _
    rw [Int.neg_mul_neg, Int.neg_mul_neg]
  · show g.2 * g.2 + -g.1 * -g.1 = _
    rw [Int.neg_mul_neg, Int.add_comm]
def rowM (n : Nat) (r : Rw) (p : Nat × GI) : Nat × GI := (p.1 ^^^ r.x, rot (ph n r p.1) p.2)
theorem rowL_map {n : Nat} {r : Rw} : ∀ l : WL, Nod l → rowL n r l = l.map (rowM n r) := snoc_ind (fun _ => rfl) fun l p ih h => by
  obtain ⟨h1, h2⟩ := h.snoc
  rw [rowL_snoc, ih h1, List.map_append]
  refine put_new fun z => h2 ?_
  rw [List.map_map] at z
  obtain ⟨q, hq, e⟩ := List.mem_map.mp z
  have e : q.1 ^^^ r.x = p.1 ^^^ r.x := e
  have : q.1 = p.1 := by
    have := congrArg (· ^^^ r.x) e
    simpa [Nat.xor_assoc] using this
  exact List.mem_map.mpr ⟨q, hq, this⟩
theorem wt_row {n : Nat} {r : Rw} {l : WL} (h : Nod l) : wt (rowL n r l) = wt l := by
  rw [rowL_map l h]
  unfold wt
  rw [List.map_map]
  congr 1
  exact List.map_congr_left fun p _ => sq_rot
def Small (M : Nat) (l : WL) : Prop := ∀ p ∈ l, p.2.1.natAbs ≤ M ∧ p.2.2.natAbs ≤ M
theorem rot_small {M q : Nat} {g : GI} (h : g.1.natAbs ≤ M ∧ g.2.natAbs ≤ M) : (rot q g).1.natAbs ≤ M ∧ (rot q g).2.natAbs ≤ M := by
  unfold rot
  split
  · exact h
  · split
    · exact ⟨by rw [Int.natAbs_neg]; exact h.2, h.1⟩
    · split
      · exact ⟨by rw [Int.natAbs_neg]; exact h.1, by rw [Int.natAbs_neg]; exact h.2⟩
      · exact ⟨h.2, by rw [Int.natAbs_neg]; exact h.1⟩
theorem Small.row {M n : Nat} {r : Rw} {l : WL} (hn : Nod l) (h : Small M l) : Small M (rowL n r l) := fun p hp => by
  rw [rowL_map l hn] at hp
  obtain ⟨q, hq, rfl⟩ := List.mem_map.mp hp
  exact rot_small (h q hq)
theorem Small.put {M : Nat} {l : WL} {b : Nat} {g : GI} (h : Small M l) (hg : g.1.natAbs ≤ M ∧ g.2.natAbs ≤ M) : Small M (wput l b g) := fun p hp => by
  rcases mem_put hp with rfl | h1
  · exact hg
  · exact h p h1
theorem cut_at {ns : List Int} {a b : Nat} : ∃ cs : List Int, cutD (ns.map D.int) (some (a : Int)) (some (b : Int)) = cs.map D.int ∧ cs.length ≤ b - a ∧ ∀ z ∈ cs, z ∈ ns := by
  unfold cutD
  rw [← List.map_drop, ← List.map_take, HT.sIx_nat, HT.sIx_nat, List.length_map]
  refine ⟨_, rfl, ?_, fun z hz => List.mem_of_mem_drop (List.mem_of_mem_take hz)⟩
  rw [List.length_take, List.length_drop]
  omega
theorem negL_nod {l : WL} (h : Nod l) : Nod (l.map fun p => (p.1, gn p.2)) := by
  unfold Nod
  rw [List.map_map]
  exact h
theorem negL_nz {l : WL} (h : NZ l) : NZ (l.map fun p => (p.1, gn p.2)) := fun p hp => by
  obtain ⟨q, hq, rfl⟩ := List.mem_map.mp hp
  exact gn_nz (h q hq)
theorem negL_wv {l : WL} : wv (l.map fun p => (p.1, gn p.2)) = fn (wv l) := funext fun b => by
  unfold wv wget fn
  rw [List.find?_map, Option.map_map]
  have : ((fun p : Nat × GI => decide (p.1 = b)) ∘ fun p : Nat × GI => (p.1, gn p.2)) = fun p => decide (p.1 = b) := rfl
  rw [this]
  show _ = gn ((Option.map (fun x => x.2) (l.find? fun p => decide (p.1 = b))).getD (0, 0))
  cases l.find? fun p => decide (p.1 = b) with
  | none => rfl
  | some p => rfl
theorem pairs_items : ∀ l : WL, pairsOf (itemsD (wk l)) = some (wk l)
  | [] => rfl
  | p :: l => by
    have ih := pairs_items l
    show (match keyOf (keyD (.inl (p.1 : Int))), pairsOf (itemsD (wk l)) with
      | some k, some r => some ((k, pr p.2) :: r)
      | _, _ => none) = _
    rw [ih]
    rfl
theorem merge_wk {l : WL} (h : Nod l) : mergeD [] (wk l) = wk l := by
  have : ∀ l : WL, Nod l → mergeD [] (wk l) = wk l := snoc_ind (fun _ => rfl) fun l p ih h => by
    obtain ⟨h1, h2⟩ := h.snoc
    have e : wk (l ++ [p]) = wk l ++ [(.inl (p.1 : Int), pr p.2)] := by unfold wk; rw [List.map_append]; rfl
    have : mergeD [] (wk l ++ [(.inl (p.1 : Int), pr p.2)]) = dput (mergeD [] (wk l)) (.inl (p.1 : Int)) (pr p.2) := by
      unfold mergeD
      rw [List.foldl_append]
      rfl
    rw [e, this, ih h1, dput_wk, put_new h2, ← e]
  exact this l h
theorem gDict_items {l : WL} (h : Nod l) : gDict [.lst (itemsD (wk l))] = .own (.dic (wk l)) := by
  show (match pairsOf (itemsD (wk l)) with
    | some kvs => R.own (.dic (mergeD [] kvs))
    | none => .stk) = _
  rw [pairs_items]
  show R.own (.dic (mergeD [] (wk l))) = _
  rw [merge_wk h]
end TW
/-! TM7: deeds but both move numbers. -/
namespace TW
open PySem PySem.Spec L2 PyProof.Rows
/-- where a deed (but both) brings a number -/
def kf : Dd → Nat → Nat
  | .over k, b => b ^^^ 2 ^ k
  | .whr j k, b => b ^^^ bt b j * 2 ^ k
  | .swap j k, b => exch j k b
  | _, b => b
def qf : Dd → Nat → GI → GI
  | .quarter k, b, g => if bt b k = 1 then rot 1 g else g
  | .back k, b, g => if bt b k = 1 then rot 3 g else g
  | _, _, g => g
def isBoth : Dd → Bool
  | .both _ => true
  | _ => false
theorem kf_kf {d : Dd} {n b : Nat} (h : d.Ok n) : kf d (kf d b) = b := by
  cases d with
  | over k => show b ^^^ 2 ^ k ^^^ 2 ^ k = b; rw [Nat.xor_assoc, Nat.xor_self, Nat.xor_zero]
  | quarter k => rfl
  | back k => rfl
  | both k => rfl
  | whr j k =>
    have hne : j ≠ k := h.2.2
    show b ^^^ bt b j * 2 ^ k ^^^ bt (b ^^^ bt b j * 2 ^ k) j * 2 ^ k = b
    have e : bt (b ^^^ bt b j * 2 ^ k) j = bt b j := by
      rw [bt_xor, bt_vpow (bt_le _ _), if_neg hne]
      have := bt_le b j
      omega
    rw [e, Nat.xor_assoc, Nat.xor_self, Nat.xor_zero]
  | swap j k => exact (exch_iff.mp rfl).symm
theorem oneL_kf {d : Dd} {l : WL} {b : Nat} {g : GI} (h : isBoth d = false) : oneL d l b g = addL l (kf d b) (qf d b g) := by
  cases d <;> first | rfl | cases h
theorem add_new {l : WL} {b : Nat} {g : GI} (h : b ∉ l.map Prod.fst) : addL l b g = l ++ [(b, g)] := by
  have : wv l b = (0, 0) := by
    unfold wv
    rw [wget_none.mpr h]
    rfl
  unfold addL
  rw [this, zero_ga, put_new h]
def mv1 (d : Dd) (p : Nat × GI) : Nat × GI := (kf d p.1, qf d p.1 p.2)
theorem mv1_fresh {d : Dd} {n : Nat} {l : WL} {b : Nat} (hd : d.Ok n) (h : b ∉ l.map Prod.fst) : kf d b ∉ (l.map (mv1 d)).map Prod.fst := fun z => by
  rw [List.map_map] at z
  obtain ⟨q, hq, e⟩ := List.mem_map.mp z
  have e : kf d q.1 = kf d b := e
  have : q.1 = b := by rw [← kf_kf (b := q.1) hd, e, kf_kf hd]
  exact h (List.mem_map.mpr ⟨q, hq, this⟩)
theorem deedL_mv {d : Dd} {n : Nat} (hd : d.Ok n) (hb : isBoth d = false) : ∀ l : WL, Nod l → deedL d l = l.map (mv1 d) := snoc_ind (fun _ => rfl) fun l p ih h => by
  obtain ⟨h1, h2⟩ := h.snoc
  rw [deedL_snoc, ih h1, oneL_kf hb, List.map_append]
  exact add_new (mv1_fresh hd h2)
theorem qf_nz {d : Dd} {b : Nat} {g : GI} (h : g ≠ (0, 0)) : qf d b g ≠ (0, 0) := by
  cases d with
  | quarter k => show (if _ then _ else _) ≠ _; split; exact rot_nz h; exact h
  | back k => show (if _ then _ else _) ≠ _; split; exact rot_nz h; exact h
  | _ => exact h
theorem wholeL_mv {d : Dd} {n : Nat} {l : WL} (hd : d.Ok n) (hb : isBoth d = false) (h : Nod l) (hz : NZ l) : wholeL d l = l.map (mv1 d) := by
  unfold wholeL
  rw [deedL_mv hd hb l h]
  refine List.filter_eq_self.mpr fun p hp => ?_
  obtain ⟨q, hq, rfl⟩ := List.mem_map.mp hp
  exact decide_eq_true (qf_nz (hz q hq))
/-- a step of such a deed, put -/
theorem mv_step {d : Dd} {n k : Nat} {l : WL} (hd : d.Ok n) (h : Nod l) (hk : k < l.length) : (l.take (k + 1)).map (mv1 d) = wput ((l.take k).map (mv1 d)) (kf d l[k].1) (qf d l[k].1 l[k].2) := by
  rw [List.take_succ_eq_append_getElem hk, List.map_append]
  refine (put_new (mv1_fresh hd ?_)).symm
  have : Nod (l.take k ++ [l[k]]) := by
    rw [← List.take_succ_eq_append_getElem hk]
    exact List.Nodup.sublist (List.Sublist.map _ (List.take_sublist _ _)) h
  exact this.snoc.2
theorem nzL_gt {l : WL} : (l.filter fun p => decide (p.2 ≠ (0, 0))) = nzL l := rfl
def nzJ : D → Bool
  | .tup [_, .tup [.int a, .int b]] => !(decide (a = 0) && decide (b = 0))
  | _ => false
theorem items_nzJ : ∀ l : WL, (itemsD (wk l)).filter nzJ = itemsD (wk (nzL l))
  | [] => rfl
  | p :: l => by
    have ih := items_nzJ l
    have e : itemsD (wk (p :: l)) = .tup [.int (p.1 : Int), .tup [.int p.2.1, .int p.2.2]] :: itemsD (wk l) := rfl
    have c : nzJ (.tup [.int (p.1 : Int), .tup [.int p.2.1, .int p.2.2]]) = decide (p.2 ≠ (0, 0)) := by
      show (!(decide (p.2.1 = 0) && decide (p.2.2 = 0))) = _
      rw [← Bool.decide_and, ← decide_not, decide_eq_decide]
      refine not_congr ?_
      constructor
      · rintro ⟨h1, h2⟩
        exact Prod.ext h1 h2
      · intro h
        rw [h]
        exact ⟨rfl, rfl⟩
    rw [e]
    by_cases h : p.2 = (0, 0)
    · rw [List.filter_cons_of_neg (by rw [c]; simp [h]), ih]
      unfold nzL
      rw [List.filter_cons_of_neg (by simp [h])]
    · rw [List.filter_cons_of_pos (by rw [c]; simp [h]), ih]
      unfold nzL
      rw [List.filter_cons_of_pos (by simp [h])]
      rfl
theorem forLoop_step {tg : D → DS → Res Unit} {body : DS → Out} {x : D} {xs : List D} {S S1 S2 : DS} (h1 : tg x S = .ok () S1) (h2 : body S1 = .next S2) : forLoop tg body (x :: xs) S = forLoop tg body xs S2 := by
  show (match tg x S with
    | .ok _ S1 => (match body S1 with
      | .next S2 => forLoop tg body xs S2
      | .cont S2 => forLoop tg body xs S2
      | .brk S2 => .next S2
      | o => o)
    | _ => .stk) = _
  rw [h1]
  dsimp only
  rw [h2]
theorem oFor_list {A : List Nat} {src : DS → Res Src} {tg : D → DS → Res Unit} {body : DS → Out} {xs : List D} {S S1 : DS} (h : src S = .ok ⟨xs, .no⟩ S1) : oFor A src tg body S = forLoop tg body xs S1 := by
  unfold oFor
  rw [h]
  rfl
theorem seq_next {f g : DS → Out} {S S1 : DS} (h : f S = .next S1) : oSeq f g S = g S1 := by
  unfold oSeq
  rw [h]
theorem set_dic0 {i : Nat} {g : DS → Out} {S : DS} : oSeq (oSet i dDic0) g S = g ⟨S.sl.set i (some (.own (.dic []) false)), S.L⟩ := rfl
theorem lset_plc {S S1 : DS} {i j : Nat} {z : Int} {r rk : RV} {d : D} {ds : List D} {fo fk fv : DS → Res RV} (h1 : fv S = .ok r S1) (h1' : settle r S1 = .ok d S) (h0 : fo S = .ok (.plc i) S) (h2 : S.sl[i]? = some (some (.own (.lst ds) false))) (h3 : fk S = .ok rk S) (h4 : peek S rk = some (.int z)) (h5 : L2.ixN ds.length z = some j) : oLSet fo fk fv S = .next { S with sl := S.sl.set i (some (.own (.lst (ds.set j d)) false)) } := by
  have h6 : lstOf (.plc i) S = some ds := by simp [lstOf, contAt, h2]
  have h7 : freeAt (.plc i) S = true := by simp [freeAt, h2]
  unfold oLSet
  rw [h1]
  simp only [Res.toOut, h1', h0, h3, h6, h4, h5, h7, RV.still, and_self, if_true, putAt]
theorem q_seq_lset {fo fk fv : DS → Res RV} {g : DS → Out} {S : DS} : oSeq (oLSet fo fk fv) g S = (oLSet fo fk fv S).then_ g := (rfl)
theorem enum_ints : ∀ (cs : List Int) (k : Nat), enumD k (cs.map D.int) = (cs.zipIdx k).map fun p => D.tup [.int (p.2 : Nat), .int p.1]
  | [], _ => rfl
  | c :: cs, k => by
    show D.tup [.int (k : Nat), .int c] :: enumD (k + 1) (cs.map D.int) = _
    rw [enum_ints cs (k + 1), List.zipIdx_cons, List.map_cons]
/-- numbers at most so great, by the function -/
theorem small_iff {M : Nat} {l : WL} (hn : Nod l) : Small M l ↔ ∀ b, (wv l b).1.natAbs ≤ M ∧ (wv l b).2.natAbs ≤ M := by
  constructor
  · intro h b
    unfold wv
    cases e : wget l b with
    | none => exact ⟨Nat.zero_le _, Nat.zero_le _⟩
    | some g => exact h (b, g) (wget_some e)
  · intro h p hp
    have := h p.1
    unfold wv at this
    rw [wget_mem hn hp] at this
    exact this
def SmallF (M : Nat) (ψ : Wh) : Prop := ∀ b, (ψ b).1.natAbs ≤ M ∧ (ψ b).2.natAbs ≤ M
theorem ga_small {M N : Nat} {g h : GI} (hg : g.1.natAbs ≤ M ∧ g.2.natAbs ≤ M) (hh : h.1.natAbs ≤ N ∧ h.2.natAbs ≤ N) : (ga g h).1.natAbs ≤ M + N ∧ (ga g h).2.natAbs ≤ M + N := by
  unfold ga
  dsimp only
  omega
theorem SmallF.deed {M : Nat} {ψ : Wh} (h : SmallF M ψ) (d : Dd) : SmallF (M + M) (deedF d ψ) := fun b => by
  have up : ∀ c, (ψ c).1.natAbs ≤ M + M ∧ (ψ c).2.natAbs ≤ M + M := fun c => ⟨Nat.le_trans (h c).1 (by omega), Nat.le_trans (h c).2 (by omega)⟩
  cases d with
  | over k => exact up _
  | quarter k =>
    show (if _ then _ else _ : GI).1.natAbs ≤ _ ∧ (if _ then _ else _ : GI).2.natAbs ≤ _
    split
    · exact rot_small (up b)
    · exact up b
  | back k =>
    show (if _ then _ else _ : GI).1.natAbs ≤ _ ∧ (if _ then _ else _ : GI).2.natAbs ≤ _
    split
    · exact rot_small (up b)
    · exact up b
  | both k =>
    show (if _ then _ else _ : GI).1.natAbs ≤ _ ∧ (if _ then _ else _ : GI).2.natAbs ≤ _
    split
    · exact ga_small (h _) (rot_small (q := 2) (h b))
    · exact ga_small (h _) (h _)
  | whr j k => exact up _
  | swap j k => exact up _
theorem Small.whole {M n : Nat} {d : Dd} {l : WL} (hd : d.Ok n) (nd : Nod l) (h : Small M l) : Small (M + M) (wholeL d l) := by
  rw [small_iff wholeL_nod, wholeL_wv hd nd]
  exact SmallF.deed ((small_iff nd).mp h) d
theorem Bel.len {n : Nat} {l : WL} (nd : Nod l) (h : Bel n l) : l.length ≤ 2 ^ n := by
  have := len_sub (m := List.range (2 ^ n)) nd (fun x hx => by
    obtain ⟨p, hp, rfl⟩ := List.mem_map.mp hx
    exact List.mem_range.mpr (h p hp))
  simpa using this
/-- an exact machine's whole, t deeds on -/
structure WInv (n t : Nat) (l : WL) : Prop where
  nd : Nod l
  nz : NZ l
  be : Bel n l
  sm : Small (2 ^ t) l
theorem WInv.start {n : Nat} : WInv n 0 [(0, ((1, 0) : GI))] := ⟨by simp [Nod], fun p hp => by rw [List.mem_singleton] at hp; rw [hp]; exact (by decide : ((1, 0) : GI) ≠ (0, 0)), fun p hp => by rw [List.mem_singleton] at hp; rw [hp]; exact Nat.two_pow_pos n, fun p hp => by rw [List.mem_singleton] at hp; rw [hp]; exact ⟨by decide, by decide⟩⟩
theorem WInv.up {n s t : Nat} {l : WL} (h : WInv n s l) (e : s ≤ t) : WInv n t l := ⟨h.nd, h.nz, h.be, fun p hp => ⟨Nat.le_trans (h.sm p hp).1 (Nat.pow_le_pow_right (by decide) e), Nat.le_trans (h.sm p hp).2 (Nat.pow_le_pow_right (by decide) e)⟩⟩
theorem WInv.deed {n t : Nat} {l : WL} {d : Dd} (h : WInv n t l) (hd : d.Ok n) : WInv n (t + 1) (wholeL d l) := ⟨wholeL_nod, wholeL_nz, Bel.whole hd h.be, by
  have := Small.whole hd h.nd h.sm
  rwa [Nat.pow_succ, Nat.mul_two]⟩
theorem WInv.len {n t : Nat} {l : WL} (h : WInv n t l) (hn : n ≤ 6) : l.length ≤ 64 := Nat.le_trans (Bel.len h.nd h.be) (Nat.pow_le_pow_right (by decide) hn)
theorem WInv.s50 {n t : Nat} {l : WL} (h : WInv n t l) (ht : t ≤ 100) : Small (10 ^ 50) l := fun p hp => by
  have e : 2 ^ t ≤ 10 ^ 50 := Nat.le_trans (Nat.pow_le_pow_right (by decide) ht) (by decide +kernel)
  exact ⟨Nat.le_trans (h.sm p hp).1 e, Nat.le_trans (h.sm p hp).2 e⟩
/-- a way that goes on -/
def QN (P : DS → Prop) (o : Out) : Prop := ∃ S2, o = .next S2 ∧ P S2
theorem step_of {tg : D → DS → Res Unit} {body : DS → Out} {P : DS → Prop} {x : D} {S S1 : DS} (h : tg x S = .ok () S1) (hq : QN P (body S1)) : ∃ S1 S2, tg x S = .ok () S1 ∧ (body S1 = .next S2 ∨ body S1 = .cont S2) ∧ P S2 := by
  obtain ⟨S2, h1, h2⟩ := hq
  exact ⟨_, _, h, .inl h1, h2⟩
theorem QN.set {P : DS → Prop} {f : DS → Res RV} {g : DS → Out} {i : Nat} {S : DS} {d : D} (h : f S = .ok (.val d) S) (hq : QN P (g ⟨S.sl.set i (some (.val d)), S.L⟩)) : QN P (oSeq (oSet i f) g S) := by
  have : oSeq (oSet i f) g S = g ⟨S.sl.set i (some (.val d)), S.L⟩ := by
    unfold oSeq oSet
    rw [h]
    rfl
  rw [this]
  exact hq
theorem enum_src {cs : List Int} {S S' : DS} {f : DS → Res RV} (h : f S = .ok (.own (.lst (cs.map D.int))) S') : dOver (enumD 0) (dVals [f]) S = .ok ⟨(cs.zipIdx 0).map fun p => D.tup [.int (p.2 : Nat), .int p.1], .no⟩ S' := by
  have e : dVals [f] S = .ok [.lst (cs.map D.int)] S' := by
    show (f S).bind _ = _
    rw [h]
    rfl
  unfold dOver
  rw [e]
  show Res.ok (⟨enumD 0 (cs.map D.int), .no⟩ : Src) S' = _
  rw [enum_ints]
end TW
/-! TM8: sums over all numbers of ups and downs; wholes that each row leaves, turns or stands across. -/
namespace TW
open PySem PySem.Spec L2 PyProof.Rows
def Sg (n : Nat) (f : Nat → Int) : Int := ((List.range (2 ^ n)).map f).sum
theorem sum_perm {l m : List Int} (h : l.Perm m) : l.sum = m.sum := by
  induction h with
  | nil => rfl
  | cons x _ ih => simp [ih]
  | swap x y l => simp only [List.sum_cons]; omega
  | trans _ _ h1 h2 => exact h1.trans h2
theorem sum_filter {f : Nat → Int} {p : Nat → Bool} : ∀ {l : List Nat}, (∀ x ∈ l, p x = false → f x = 0) → ((l.filter p).map f).sum = (l.map f).sum
  | [], _ => rfl
  | a :: l, h => by
    have ih := sum_filter (l := l) (p := p) (f := f) fun x hx => h x (List.mem_cons_of_mem _ hx)
    cases hp : p a with
    | true => rw [List.filter_cons_of_pos hp, List.map_cons, List.map_cons, List.sum_cons, List.sum_cons, ih]
    | false => rw [List.filter_cons_of_neg (by rw [hp]; simp), List.map_cons, List.sum_cons, ih, h a List.mem_cons_self hp]; omega
theorem sum_sub {n : Nat} {ks : List Nat} {f : Nat → Int} (h1 : ks.Nodup) (h2 : ∀ k ∈ ks, k < 2 ^ n) (h3 : ∀ b, b < 2 ^ n → b ∉ ks → f b = 0) : (ks.map f).sum = Sg n f := by
  have e : ks.Perm ((List.range (2 ^ n)).filter fun b => decide (b ∈ ks)) := by
    refine (List.perm_ext_iff_of_nodup h1 (List.Nodup.sublist List.filter_sublist List.nodup_range)).mpr fun a => ?_
    rw [List.mem_filter, List.mem_range]
    exact ⟨fun h => ⟨h2 a h, decide_eq_true h⟩, fun h => of_decide_eq_true h.2⟩
  unfold Sg
  rw [sum_perm (e.map f), sum_filter]
  intro x hx hp
  exact h3 x (List.mem_range.mp hx) (of_decide_eq_false hp)
theorem Sg_congr {n : Nat} {f g : Nat → Int} (h : ∀ b, b < 2 ^ n → f b = g b) : Sg n f = Sg n g := by
  unfold Sg
  rw [List.map_congr_left fun b hb => h b (List.mem_range.mp hb)]
theorem sum_add {f g : Nat → Int} : ∀ l : List Nat, (l.map fun b => f b + g b).sum = (l.map f).sum + (l.map g).sum
  | [] => rfl
  | a :: l => by
    rw [List.map_cons, List.map_cons, List.map_cons, List.sum_cons, List.sum_cons, List.sum_cons, sum_add l]
    omega
theorem Sg_add {n : Nat} {f g : Nat → Int} : Sg n (fun b => f b + g b) = Sg n f + Sg n g := sum_add _
theorem sum_neg {f : Nat → Int} : ∀ l : List Nat, (l.map fun b => - f b).sum = -(l.map f).sum
  | [] => rfl
  | a :: l => by
    rw [List.map_cons, List.map_cons, List.sum_cons, List.sum_cons, sum_neg l]
    omega
theorem Sg_neg {n : Nat} {f : Nat → Int} : Sg n (fun b => - f b) = -Sg n f := sum_neg _
theorem Sg_zero {n : Nat} : Sg n (fun _ => 0) = 0 := by
  have : Sg n (fun _ => 0) = Sg n (fun _ => 0) + Sg n (fun _ => 0) := by
    rw [← Sg_add]
    rfl
  omega
theorem Sg_inv {n : Nat} {f : Nat → Int} {σ : Nat → Nat} (h1 : ∀ b, b < 2 ^ n → σ b < 2 ^ n) (h2 : ∀ b, σ (σ b) = b) : Sg n (fun b => f (σ b)) = Sg n f := by
  have inj : ∀ a b, σ a = σ b → a = b := fun a b e => by rw [← h2 a, e, h2]
  have := sum_sub (n := n) (ks := (List.range (2 ^ n)).map σ) (f := f) (List.Pairwise.map _ (fun a b h e => h (inj a b e)) List.nodup_range) (fun k hk => by
    obtain ⟨b, hb, rfl⟩ := List.mem_map.mp hk
    exact h1 b (List.mem_range.mp hb)) (fun b hb hn => absurd (List.mem_map.mpr ⟨σ b, List.mem_range.mpr (h1 b hb), h2 b⟩) hn)
  rw [← this, List.map_map]
  rfl
def dot (g h : GI) : Int := g.1 * h.1 + g.2 * h.2
def ip (n : Nat) (ψ φ : Wh) : Int := Sg n fun b => dot (ψ b) (φ b)
theorem dot_comm (g h : GI) : dot g h = dot h g := by
  unfold dot
  rw [Int.mul_comm g.1, Int.mul_comm g.2]
theorem dot_ga (a b c : GI) : dot (ga a b) c = dot a c + dot b c := by
  unfold dot ga
  dsimp only
  rw [Int.add_mul, Int.add_mul]
  omega
theorem dot_gn (a b : GI) : dot (gn a) b = -dot a b := by
  unfold dot gn
  dsimp only
  rw [Int.neg_mul, Int.neg_mul]
  omega
theorem dot_rot {q : Nat} {g h : GI} : dot (rot q g) (rot q h) = dot g h := by
  rw [rot_mod (q' := q % 4) (by omega), rot_mod (q' := q % 4) (by omega) h]
  have : q % 4 = 0 ∨ q % 4 = 1 ∨ q % 4 = 2 ∨ q % 4 = 3 := by omega
  unfold dot
  rcases this with z | z | z | z <;> rw [z]
  · rfl
  · show -g.2 * -h.2 + g.1 * h.1 = _
    rw [Int.neg_mul_neg, Int.add_comm]
  · show -g.1 * -h.1 + -g.2 * -h.2 = _
    rw [Int.neg_mul_neg, Int.neg_mul_neg]
  · show g.2 * h.2 + -g.1 * -h.1 = _
    rw [Int.neg_mul_neg, Int.add_comm]
theorem ip_comm {n : Nat} {ψ φ : Wh} : ip n ψ φ = ip n φ ψ := Sg_congr fun b _ => dot_comm _ _
theorem ip_fa {n : Nat} {a b c : Wh} : ip n (fa a b) c = ip n a c + ip n b c := by
  unfold ip
  rw [← Sg_add]
  exact Sg_congr fun e _ => dot_ga _ _ _
theorem ip_fn {n : Nat} {a b : Wh} : ip n (fn a) b = -ip n a b := by
  unfold ip
  rw [← Sg_neg]
  exact Sg_congr fun e _ => dot_gn _ _
theorem ip_fa' {n : Nat} {a b c : Wh} : ip n a (fa b c) = ip n a b + ip n a c := by rw [ip_comm, ip_fa, ip_comm, ip_comm (ψ := c)]
theorem ip_fn' {n : Nat} {a b : Wh} : ip n a (fn b) = -ip n a b := by rw [ip_comm, ip_fn, ip_comm]
theorem ip_act {n : Nat} {r : Rw} (hx : r.x < 2 ^ n) {ψ φ : Wh} : ip n (actF n r ψ) (actF n r φ) = ip n ψ φ := by
  unfold ip
  have : Sg n (fun b => dot (actF n r ψ b) (actF n r φ b)) = Sg n (fun b => (fun c => dot (ψ c) (φ c)) (b ^^^ r.x)) := Sg_congr fun b _ => dot_rot
  rw [this]
  exact Sg_inv (f := fun c => dot (ψ c) (φ c)) (σ := fun b => b ^^^ r.x) (fun b hb => Nat.xor_lt_two_pow hb hx) (fun b => by show b ^^^ r.x ^^^ r.x = b; rw [Nat.xor_assoc, Nat.xor_self, Nat.xor_zero])
/-- a row moves over -/
theorem ip_over {n : Nat} {r : Rw} (hr : r.Ok n) {ψ φ : Wh} : ip n (actF n r ψ) φ = ip n ψ (actF n r φ) := by
  rw [← ip_act hr.x (ψ := ψ), act_twice hr.s]
theorem kf_lt {d : Dd} {n b : Nat} (hd : d.Ok n) (hb : b < 2 ^ n) : kf d b < 2 ^ n := by
  have p : ∀ {k}, k < n → 2 ^ k < 2 ^ n := fun h => Nat.pow_lt_pow_right (by decide) h
  cases d with
  | over k => exact Nat.xor_lt_two_pow hb (p hd)
  | quarter k => exact hb
  | back k => exact hb
  | both k => exact hb
  | whr j k =>
    refine Nat.xor_lt_two_pow hb ?_
    rcases bt01 b j with z | z <;> rw [z]
    · rw [Nat.zero_mul]; exact Nat.two_pow_pos n
    · rw [Nat.one_mul]; exact p hd.2.1
  | swap j k =>
    show (if _ then _ else _) < _
    split
    · exact hb
    · exact Nat.xor_lt_two_pow (Nat.xor_lt_two_pow hb (p hd.1)) (p hd.2.1)
theorem ip_deed {n : Nat} {d : Dd} (hd : d.Ok n) : ∃ c : Int, 0 < c ∧ ∀ ψ φ : Wh, ip n (deedF d ψ) (deedF d φ) = c * ip n ψ φ := by
  cases d with
  | over k => exact ⟨1, by decide, fun ψ φ => by rw [Int.one_mul]; exact Sg_inv (σ := kf (.over k)) (f := fun b => dot (ψ b) (φ b)) (fun b hb => kf_lt hd hb) (fun b => kf_kf hd)⟩
  | quarter k => exact ⟨1, by decide, fun ψ φ => by
      rw [Int.one_mul]
      refine Sg_congr fun b _ => ?_
      show dot (if _ then _ else _) (if _ then _ else _) = _
      split
      · exact dot_rot
      · rfl⟩
  | back k => exact ⟨1, by decide, fun ψ φ => by
      rw [Int.one_mul]
      refine Sg_congr fun b _ => ?_
      show dot (if _ then _ else _) (if _ then _ else _) = _
      split
      · exact dot_rot
      · rfl⟩
  | whr j k => exact ⟨1, by decide, fun ψ φ => by rw [Int.one_mul]; exact Sg_inv (σ := kf (.whr j k)) (f := fun b => dot (ψ b) (φ b)) (fun b hb => kf_lt hd hb) (fun b => kf_kf hd)⟩
  | swap j k => exact ⟨1, by decide, fun ψ φ => by rw [Int.one_mul]; exact Sg_inv (σ := kf (.swap j k)) (f := fun b => dot (ψ b) (φ b)) (fun b hb => kf_lt hd hb) (fun b => kf_kf hd)⟩
  | both k =>
    refine ⟨2, by decide, fun ψ φ => ?_⟩
    have hk : k < n := hd
    have s1 : ∀ f : Nat → Int, Sg n (fun b => f (b ^^^ 2 ^ k)) = Sg n f := fun f => Sg_inv (σ := kf (.over k)) (f := f) (fun b hb => kf_lt (d := .over k) hk hb) (fun b => kf_kf (d := .over k) (n := n) hk)
    have key : ∀ b, dot (deedF (.both k) ψ b) (deedF (.both k) φ b) + dot (deedF (.both k) ψ (b ^^^ 2 ^ k)) (deedF (.both k) φ (b ^^^ 2 ^ k)) = (dot (ψ b) (φ b) + dot (ψ b) (φ b)) + (dot (ψ (b ^^^ 2 ^ k)) (φ (b ^^^ 2 ^ k)) + dot (ψ (b ^^^ 2 ^ k)) (φ (b ^^^ 2 ^ k))) := fun b => by
      have e1 : ∀ χ : Wh, deedF (.both k) χ b = if bt b k = 1 then ga (χ (b ^^^ 2 ^ k)) (gn (χ b)) else ga (χ b) (χ (b ^^^ 2 ^ k)) := fun χ => rfl
      have e2 : ∀ χ : Wh, deedF (.both k) χ (b ^^^ 2 ^ k) = if bt b k = 1 then ga (χ (b ^^^ 2 ^ k)) (χ b) else ga (χ b) (gn (χ (b ^^^ 2 ^ k))) := fun χ => by
        show (if bt (b ^^^ 2 ^ k) k = 1 then ga (χ (b ^^^ 2 ^ k ^^^ 2 ^ k)) (gn (χ (b ^^^ 2 ^ k))) else ga (χ (b ^^^ 2 ^ k)) (χ (b ^^^ 2 ^ k ^^^ 2 ^ k))) = _
        rw [xor_self_right, bt_flip1, if_pos rfl]
        rcases bt01 b k with z | z <;> rw [z] <;> rfl
      rw [e1, e1, e2, e2]
      have g1 : ∀ a b c d : GI, dot (ga a (gn b)) (ga c (gn d)) + dot (ga a b) (ga c d) = (dot a c + dot a c) + (dot b d + dot b d) := fun a b c d => by
        simp only [dot, ga, gn, Int.add_mul, Int.mul_add, Int.neg_mul, Int.mul_neg, Int.neg_neg]
        omega
      split
      · rw [g1]
        omega
      · rw [Int.add_comm, g1]
    have t1 : Sg n (fun b => dot (deedF (.both k) ψ b) (deedF (.both k) φ b) + dot (deedF (.both k) ψ (b ^^^ 2 ^ k)) (deedF (.both k) φ (b ^^^ 2 ^ k))) = ip n (deedF (.both k) ψ) (deedF (.both k) φ) + ip n (deedF (.both k) ψ) (deedF (.both k) φ) := by
      rw [Sg_add, s1 (fun b => dot (deedF (.both k) ψ b) (deedF (.both k) φ b))]
      rfl
    have t2 : Sg n (fun b => (dot (ψ b) (φ b) + dot (ψ b) (φ b)) + (dot (ψ (b ^^^ 2 ^ k)) (φ (b ^^^ 2 ^ k)) + dot (ψ (b ^^^ 2 ^ k)) (φ (b ^^^ 2 ^ k)))) = (ip n ψ φ + ip n ψ φ) + (ip n ψ φ + ip n ψ φ) := by
      rw [Sg_add, Sg_add, s1 (fun b => dot (ψ b) (φ b) + dot (ψ b) (φ b)), Sg_add]
      rfl
    have := t1.symm.trans ((Sg_congr fun b _ => key b).trans t2)
    omega
/-- each row leaves it, turns it about, or stands across -/
def PS (n : Nat) (ψ : Wh) : Prop := ∀ r : Rw, r.Ok n → actF n r ψ = ψ ∨ actF n r ψ = fn ψ ∨ ip n ψ (actF n r ψ) = 0
theorem deedF_fn {d : Dd} {ψ : Wh} : deedF d (fn ψ) = fn (deedF d ψ) := by
  have h := deedF_fa (d := d) (ψ := ψ) (φ := fn ψ)
  have z : fa ψ (fn ψ) = fun _ => (0, 0) := funext fun b => by show ga _ (gn _) = _; unfold ga gn; simp; exact ⟨Int.add_right_neg _, Int.add_right_neg _⟩
  rw [z, deedF_nil] at h
  funext b
  have hb := congrFun h b
  have h1 := congrArg Prod.fst hb
  have h2 := congrArg Prod.snd hb
  have h1 : (0 : Int) = (deedF d ψ b).1 + (deedF d (fn ψ) b).1 := h1
  have h2 : (0 : Int) = (deedF d ψ b).2 + (deedF d (fn ψ) b).2 := h2
  refine Prod.ext ?_ ?_
  · show _ = -(deedF d ψ b).1
    omega
  · show _ = -(deedF d ψ b).2
    omega
theorem actF_fn {n : Nat} {r : Rw} {ψ : Wh} : actF n r (fn ψ) = fn (actF n r ψ) := funext fun b => by
  show rot _ (rot 2 _) = rot 2 (rot _ _)
  rw [rot_add, rot_add, Nat.add_comm]
theorem PS.deed {n : Nat} {ψ : Wh} {d : Dd} (hd : d.Ok n) (h : PS n ψ) : PS n (deedF d ψ) := fun r hr => by
  obtain ⟨r', hr', e⟩ : ∃ r', r'.Ok n ∧ dRow d r' = r := ⟨dRow (dUndo d) r, dRow_ok (dUndo_ok hd) hr, by
    have := dRow_undo (d := dUndo d) (dUndo_ok hd) hr.s
    rwa [dUndo_dUndo] at this⟩
  have c := conj hd hr'.s (ψ := ψ)
  rw [e] at c
  rw [← c]
  rcases h r' hr' with h | h | h
  · rw [h]; exact .inl rfl
  · rw [h, deedF_fn]; exact .inr (.inl rfl)
  · obtain ⟨k, _, hc⟩ := ip_deed hd
    rw [hc, h]
    exact .inr (.inr (Int.mul_zero _))
theorem fa_comm {a b : Wh} : fa a b = fa b a := funext fun x => by show ga _ _ = ga _ _; unfold ga; rw [Int.add_comm, Int.add_comm (a x).2]
theorem fn_fa {a b : Wh} : fa (fn a) (fn b) = fn (fa a b) := funext fun x => (gn_ga).symm
theorem PS.cut {n : Nat} {ψ : Wh} {s : Rw} (hs : s.Ok n) (h : PS n ψ) : PS n (fa ψ (actF n s ψ)) := fun r hr => by
  have m1 : ip n (actF n s ψ) (actF n r ψ) = ip n ψ (actF n s (actF n r ψ)) := ip_over hs
  have m2 : ip n (actF n s ψ) (actF n s (actF n r ψ)) = ip n ψ (actF n r ψ) := ip_act hs.x
  rw [actF_fa]
  cases hb : bes n s r with
  | true =>
    rw [act_comm hs.s hr.s hb]
    rcases h r hr with h1 | h1 | h1
    · rw [h1]; exact .inl rfl
    · rw [h1, actF_fn, fn_fa]; exact .inr (.inl rfl)
    · have hb' : bp n r s % 2 = 0 := by rw [bp_comm]; exact bes_iff.mp hb
      have hm := actF_mul hr.s hs.s hb' ψ
      rcases h (mul n r s) (mul_ok hr hs) with h2 | h2 | h2
      · rw [hm] at h2
        have : actF n r ψ = actF n s ψ := by rw [← act_twice (n := n) hs.s (ψ := actF n r ψ), h2]
        rw [h2, this, fa_comm]
        exact .inl rfl
      · rw [hm] at h2
        have : actF n r ψ = fn (actF n s ψ) := by rw [← act_twice (n := n) hs.s (ψ := actF n r ψ), h2, actF_fn]
        rw [h2, this, fa_comm, fn_fa]
        exact .inr (.inl rfl)
      · rw [hm] at h2
        refine .inr (.inr ?_)
        rw [ip_fa, ip_fa', ip_fa', m1, m2, h1, h2]
        rfl
  | false =>
    rw [act_anti hb]
    refine .inr (.inr ?_)
    rw [ip_fa, ip_fa', ip_fa', ip_fn', ip_fn', m1, m2]
    omega
theorem PS.start {n : Nat} : PS n (wv [(0, ((1, 0) : GI))]) := fun r hr => by
  have e : wv [(0, ((1, 0) : GI))] = dl 0 (1, 0) := funext fun b => by
    unfold wv wget dl
    by_cases h : b = 0
    · subst h; rfl
    · rw [if_neg h, List.find?_cons_of_neg (by simp; exact fun q => h q.symm)]
      rfl
  rw [e]
  have a1 : ∀ c, actF n r (dl 0 (1, 0)) c = if c = r.x then rot (ph n r 0) (1, 0) else (0, 0) := fun c => by
    show rot (ph n r (c ^^^ r.x)) (dl 0 (1, 0) (c ^^^ r.x)) = _
    unfold dl
    by_cases h : c = r.x
    · rw [h, Nat.xor_self, if_pos rfl, if_pos rfl]
    · have : ¬ c ^^^ r.x = 0 := fun z => h (by
        have := congrArg (· ^^^ r.x) z
        simpa [Nat.xor_assoc] using this)
      rw [if_neg this, if_neg h, rot0]
  by_cases hx : r.x = 0
  · have hp : ph n r 0 = 2 * r.s := by
      show 2 * r.s + 2 * pc n (r.z &&& 0) + pc n (r.x &&& r.z) = _
      rw [hx, Nat.and_zero, Nat.zero_and, pc_zero]
      omega
    rcases s01 hr.s with hs | hs
    · refine .inl (funext fun c => ?_)
      rw [a1, hp, hs, hx]
      rfl
    · refine .inr (.inl (funext fun c => ?_))
      rw [a1, hp, hs, hx]
      show _ = gn (dl 0 (1, 0) c)
      unfold dl
      split <;> rfl
  · refine .inr (.inr ?_)
    unfold ip
    refine (Sg_congr fun c _ => ?_).trans (Sg_zero (n := n))
    rw [a1]
    unfold dl dot
    by_cases h : c = 0
    · have : ¬ c = r.x := fun z => hx (by rw [← z, h])
      rw [if_neg this]
      simp
    · rw [if_neg h]
      simp
/-- weights by the function -/
theorem wt_ip {n : Nat} {l : WL} (nd : Nod l) (be : Bel n l) : wt l = ip n (wv l) (wv l) := by
  have e : wt l = ((l.map Prod.fst).map fun b => dot (wv l b) (wv l b)).sum := by
    unfold wt
    rw [List.map_map]
    congr 1
    refine List.map_congr_left fun p hp => ?_
    show sq p.2 = dot (wv l p.1) (wv l p.1)
    unfold wv
    rw [wget_mem nd hp]
    rfl
  rw [e]
  refine sum_sub nd (fun k hk => ?_) fun b _ hb => ?_
  · obtain ⟨p, hp, rfl⟩ := List.mem_map.mp hk
    exact be p hp
  · unfold wv
    rw [wget_none.mpr hb]
    rfl
theorem ip_two {n : Nat} {a b : Wh} : ip n (fa a b) (fa a b) = ip n a a + ip n b b + (ip n a b + ip n a b) := by
  rw [ip_fa, ip_fa', ip_fa', ip_comm (ψ := b) (φ := a)]
  omega
/-- a whole laid on another one -/
def sc (s : Int) (g : GI) : GI := (s * g.1, s * g.2)
def addsL (s : Int) (one other : WL) : WL := other.foldl (fun acc p => addL acc p.1 (sc s p.2)) one
def layL (s : Int) (one other : WL) : WL := nzL (addsL s one other)
theorem addsL_snoc {s : Int} {one l : WL} {p : Nat × GI} : addsL s one (l ++ [p]) = addL (addsL s one l) p.1 (sc s p.2) := by unfold addsL; rw [List.foldl_append]; rfl
theorem addsL_nod {s : Int} {one : WL} (h : Nod one) : ∀ l : WL, Nod (addsL s one l) := snoc_ind h fun l p ih => by rw [addsL_snoc]; exact ih.add
theorem addsL_len {s : Int} {one : WL} : ∀ l : WL, (addsL s one l).length ≤ one.length + l.length := snoc_ind (Nat.le_refl _) fun l p ih => by
  rw [addsL_snoc, List.length_append, List.length_singleton]
  unfold addL
  have := len_put (l := addsL s one l) (b := p.1) (g := ga (wv (addsL s one l) p.1) (sc s p.2))
  omega
theorem addsL_bel {s : Int} {n : Nat} {one : WL} (h : Bel n one) : ∀ l : WL, Bel n l → Bel n (addsL s one l) := snoc_ind (fun _ => h) fun l p ih hb => by
  rw [addsL_snoc]
  exact (ih fun q hq => hb q (List.mem_append_left _ hq)).put (hb p (List.mem_append_right _ List.mem_cons_self))
theorem sc_ga {s : Int} {a b : GI} : sc s (ga a b) = ga (sc s a) (sc s b) := by
  unfold sc ga
  dsimp only
  rw [Int.mul_add, Int.mul_add]
theorem addsL_wv {s : Int} {one : WL} : ∀ l : WL, Nod l → wv (addsL s one l) = fa (wv one) (fun b => sc s (wv l b)) := snoc_ind (fun _ => funext fun b => by
    show wv one b = ga (wv one b) (s * 0, s * 0)
    rw [Int.mul_zero, ga_zero]) fun l p ih h => by
  obtain ⟨h1, h2⟩ := h.snoc
  rw [addsL_snoc, wv_add, ih h1]
  funext b
  show ga (ga (wv one b) (sc s (wv l b))) (dl p.1 (sc s p.2) b) = ga (wv one b) (sc s (wv (l ++ [p]) b))
  have e : wv (l ++ [p]) = fa (wv l) (dl p.1 p.2) := wv_snoc h2
  rw [e]
  show _ = ga (wv one b) (sc s (ga (wv l b) (dl p.1 p.2 b)))
  rw [sc_ga, ← ga_assoc]
  congr 1
  unfold dl
  split
  · rfl
  · show ((0, 0) : GI) = (s * 0, s * 0)
    rw [Int.mul_zero]
theorem sc_one {ψ : Wh} : (fun b => sc 1 (ψ b)) = ψ := funext fun b => by
  show (1 * (ψ b).1, 1 * (ψ b).2) = _
  rw [Int.one_mul, Int.one_mul]
theorem sc_neg {ψ : Wh} : (fun b => sc (-1) (ψ b)) = fn ψ := funext fun b => by
  show (-1 * (ψ b).1, -1 * (ψ b).2) = (-(ψ b).1, -(ψ b).2)
  rw [Int.neg_mul, Int.neg_mul, Int.one_mul, Int.one_mul]
theorem layL_nod {s : Int} {one l : WL} (h : Nod one) : Nod (layL s one l) := nzL_nod (addsL_nod h l)
theorem layL_nz {s : Int} {one l : WL} : NZ (layL s one l) := nzL_nz
theorem layL_bel {s : Int} {n : Nat} {one l : WL} (h : Bel n one) (hl : Bel n l) : Bel n (layL s one l) := fun p hp => addsL_bel h l hl p (List.mem_filter.mp hp).1
theorem layL_len {s : Int} {one l : WL} : (layL s one l).length ≤ one.length + l.length := Nat.le_trans nzL_len (addsL_len l)
theorem layL_wv {s : Int} {one l : WL} (h : Nod one) (hl : Nod l) : wv (layL s one l) = fa (wv one) (fun b => sc s (wv l b)) := (nzL_wv (addsL_nod h l)).trans (addsL_wv l hl)
theorem lay1_wv {one l : WL} (h : Nod one) (hl : Nod l) : wv (layL 1 one l) = fa (wv one) (wv l) := by rw [layL_wv h hl, sc_one]
theorem layN_wv {one l : WL} (h : Nod one) (hl : Nod l) : wv (layL (-1) one l) = fa (wv one) (fn (wv l)) := by rw [layL_wv h hl, sc_neg]
theorem lay_small {s : Int} {M : Nat} {one l : WL} (hs : s = 1 ∨ s = -1) (h : Nod one) (hl : Nod l) (h1 : Small M one) (h2 : Small M l) : Small (M + M) (layL s one l) := by
  rw [small_iff (layL_nod h), layL_wv h hl]
  intro b
  have s1 := (small_iff h).mp h1 b
  have s2 := (small_iff hl).mp h2 b
  refine ga_small s1 ?_
  rcases hs with rfl | rfl
  · show (1 * (wv l b).1).natAbs ≤ M ∧ (1 * (wv l b).2).natAbs ≤ M
    rw [Int.one_mul, Int.one_mul]
    exact s2
  · show (-1 * (wv l b).1).natAbs ≤ M ∧ (-1 * (wv l b).2).natAbs ≤ M
    rw [Int.neg_mul, Int.neg_mul, Int.one_mul, Int.one_mul, Int.natAbs_neg, Int.natAbs_neg]
    exact s2
theorem q_pow2 {a : Int} (ha : a.natAbs < 2 ^ 1000) : gBin .Pow (.int a) (.int 2) = .val (.int (a * a)) := by
  have h1 : (Builtin.Int.intBits a : Int) ≤ 1000 := by
    unfold Builtin.Int.intBits
    split
    · omega
    · rename_i h0
      have : a.natAbs.log2 < 1000 := (Nat.log2_lt (by simp at h0; omega)).mpr ha
      omega
  show (if CPowX a 2 then R.val (.int (a ^ (2 : Int).toNat)) else .stk) = _
  rw [if_pos ⟨by decide, by omega⟩]
  show R.val (.int (a ^ 2)) = _
  rw [Int.pow_succ, Int.pow_succ, Int.pow_zero, Int.one_mul]
theorem dget2_val {S : DS} {i : Nat} {fo fk fx : DS → Res RV} {kvs : List (Key × D)} {rk : RV} {key : Key} {dx : D} (h1 : fo S = .ok (.plc i) S) (h2 : S.sl[i]? = some (some (.val (.dic kvs)))) (h3 : fk S = .ok rk S) (h4 : (peek S rk).bind keyOf = some key) (h5 : fx S = .ok (.val dx) S) : dDGet2 fo fk fx S = .ok (.val ((dget kvs key).getD dx)) S := by
  have h6 : dicOf (.plc i) S = some kvs := by simp [dicOf, peek, h2]
  unfold dDGet2
  rw [h1]
  dsimp only [Res.bind]
  rw [h6]
  simp only [RV.still, if_true, h3, Res.bind, h4, h5, settle, h6]
theorem dget2_v {S : DS} {fo fk fx : DS → Res RV} {kvs : List (Key × D)} {rk : RV} {key : Key} {dx : D} (h1 : fo S = .ok (.val (.dic kvs)) S) (h3 : fk S = .ok rk S) (h4 : (peek S rk).bind keyOf = some key) (h5 : fx S = .ok (.val dx) S) : dDGet2 fo fk fx S = .ok (.val ((dget kvs key).getD dx)) S := by
  have h6 : dicOf (.val (.dic kvs)) S = some kvs := rfl
  unfold dDGet2
  rw [h1]
  dsimp only [Res.bind]
  rw [h6]
  simp only [RV.still, if_true, h3, Res.bind, h4, h5, settle, h6]
theorem dhas_wk {l : WL} {b : Nat} : (dget (wk l) (.inl (b : Int))).isSome = decide (b ∈ l.map Prod.fst) := by
  rw [dget_wk, Option.isSome_map]
  by_cases h : b ∈ l.map Prod.fst
  · cases e : wget l b with
    | none => exact absurd h (wget_none.mp e)
    | some g => simp [h]
  · rw [wget_none.mpr h]
    simp [h]
theorem wt_small {M : Nat} : ∀ {l : WL}, Small M l → (wt l).natAbs ≤ l.length * (2 * (M * M))
  | [], _ => by simp [wt]
  | p :: l, h => by
    have ih := wt_small (l := l) fun q hq => h q (List.mem_cons_of_mem _ hq)
    obtain ⟨h1, h2⟩ := h p List.mem_cons_self
    have e : wt (p :: l) = sq p.2 + wt l := rfl
    have s : (sq p.2).natAbs ≤ 2 * (M * M) := by
      unfold sq
      have a1 : (p.2.1 * p.2.1).natAbs ≤ M * M := by rw [Int.natAbs_mul]; exact Nat.mul_le_mul h1 h1
      have a2 : (p.2.2 * p.2.2).natAbs ≤ M * M := by rw [Int.natAbs_mul]; exact Nat.mul_le_mul h2 h2
      omega
    rw [e, List.length_cons, Nat.succ_mul]
    omega
theorem act_flip {n : Nat} {r : Rw} (hs : r.s < 2) {ψ : Wh} : actF n ⟨1 - r.s, r.x, r.z⟩ ψ = fn (actF n r ψ) := funext fun b => by
  show rot (2 * (1 - r.s) + 2 * pc n (r.z &&& (b ^^^ r.x)) + pc n (r.x &&& r.z)) (ψ (b ^^^ r.x)) = rot 2 (rot (2 * r.s + 2 * pc n (r.z &&& (b ^^^ r.x)) + pc n (r.x &&& r.z)) (ψ (b ^^^ r.x)))
  rw [rot_add]
  exact rot_mod (by omega) _
theorem fn_fn' {ψ : Wh} : fn (fn ψ) = ψ := funext fun b => by show gn (gn _) = _; rw [gn_gn]
section
variable {n : Nat} {l : WL} {r : Rw}
/-- both halves -/
theorem half_pos (nd : Nod l) (be : Bel n l) (hr : r.Ok n) : wt (layL 1 l (rowL n r l)) = ip n (wv l) (wv l) + ip n (wv l) (wv l) + (ip n (wv l) (actF n r (wv l)) + ip n (wv l) (actF n r (wv l))) := by
  rw [wt_ip (n := n) (layL_nod nd) (layL_bel be (Bel.row hr l be)), lay1_wv nd (rowL_nod l), rowL_wv _ nd, ip_two, ip_act hr.x]
theorem half_neg (nd : Nod l) (be : Bel n l) (hr : r.Ok n) : wt (layL (-1) l (rowL n r l)) = ip n (wv l) (wv l) + ip n (wv l) (wv l) - (ip n (wv l) (actF n r (wv l)) + ip n (wv l) (actF n r (wv l))) := by
  rw [wt_ip (n := n) (layL_nod nd) (layL_bel be (Bel.row hr l be)), layN_wv nd (rowL_nod l), rowL_wv _ nd, ip_two, ip_fn, ip_fn', ip_fn', ip_act hr.x]
  omega
end
/-- the machine of rows at the start -/
def rows0 (n : Nat) : List Rw := (List.range n).map fun k => ⟨0, 0, 2 ^ k⟩
theorem rows0_len (n : Nat) : (rows0 n).length = n := by simp [rows0]
theorem rows0_ok {n : Nat} : ∀ r ∈ rows0 n, r.Ok n := fun r hr => by
  obtain ⟨k, hk, rfl⟩ := List.mem_map.mp hr
  exact ⟨by show 0 < 2; decide, Nat.two_pow_pos n, Nat.pow_lt_pow_right (by decide) (List.mem_range.mp hk)⟩
/-- z at a wire leaves all wires up as they are -/
theorem rows0_leave {n : Nat} : ∀ r ∈ rows0 n, actF n r (wv [(0, ((1, 0) : GI))]) = wv [(0, ((1, 0) : GI))] := fun r hr => by
  obtain ⟨k, hk, rfl⟩ := List.mem_map.mp hr
  have e : wv [(0, ((1, 0) : GI))] = dl 0 (1, 0) := funext fun b => by
    unfold wv wget dl
    by_cases h : b = 0
    · subst h; rfl
    · rw [if_neg h, List.find?_cons_of_neg (by simp; exact fun q => h q.symm)]
      rfl
  rw [e, act_dl]
  have hp : ph n ⟨0, 0, 2 ^ k⟩ 0 = 0 := by
    show 2 * 0 + 2 * pc n (2 ^ k &&& 0) + pc n (0 &&& 2 ^ k) = 0
    rw [Nat.and_zero, Nat.zero_and, pc_zero]
  rw [hp, rot_zero, Nat.xor_zero]
/-- .. and behind a deed what it becomes leaves the whole -/
theorem leave_deed {n : Nat} {d : Dd} {ψ : Wh} {rs : List Rw} (hd : d.Ok n) (hr : ∀ r ∈ rs, r.Ok n ∧ actF n r ψ = ψ) : ∀ r ∈ rs.map (dRow d), r.Ok n ∧ actF n r (deedF d ψ) = deedF d ψ := fun r h => by
  obtain ⟨q, hq, rfl⟩ := List.mem_map.mp h
  obtain ⟨h1, h2⟩ := hr q hq
  refine ⟨dRow_ok hd h1, ?_⟩
  rw [← conj hd h1.s, h2]
end TW
/-! TM9: works made shorter. -/
namespace TW
def touch (d e : Dd) : Bool := d.wires.any fun i => decide (i ∈ e.wires)
/-- swaps told one way -/
def nm : Dd → Dd
  | .swap j k => .swap (min j k) (max j k)
  | d => d
def undoesB (d e : Dd) : Bool := decide (nm e = nm (dUndo d))
theorem nm_wires {d : Dd} {i : Nat} : i ∈ (nm d).wires ↔ i ∈ d.wires := by
  cases d with
  | swap j k =>
    show i ∈ [min j k, max j k] ↔ i ∈ [j, k]
    simp only [List.mem_cons, List.not_mem_nil, or_false]
    rcases Nat.le_total j k with h | h
    · rw [Nat.min_eq_left h, Nat.max_eq_right h]
    · rw [Nat.min_eq_right h, Nat.max_eq_left h]
      exact Or.comm
  | _ => exact Iff.rfl
theorem undo_wires {d : Dd} : (dUndo d).wires = d.wires := by cases d <;> rfl
theorem nm_undo {d : Dd} : nm (dUndo d) = dUndo (nm d) := by cases d <;> rfl
theorem undoes_iff {d e : Dd} : undoesB d e = true ↔ nm e = nm (dUndo d) := by simp [undoesB]
theorem undoes_symm {d e : Dd} : undoesB d e = true ↔ nm d = nm (dUndo e) := by
  rw [undoes_iff, nm_undo, nm_undo]
  constructor
  · intro h
    rw [h, dUndo_dUndo]
  · intro h
    rw [h, dUndo_dUndo]
theorem undoes_mem {d e : Dd} (h : undoesB d e = true) {i : Nat} : i ∈ d.wires ↔ i ∈ e.wires := by
  rw [undoes_iff] at h
  rw [← nm_wires (d := e), h, nm_wires, undo_wires]
theorem wires_ne (d : Dd) : ∃ i, i ∈ d.wires := by
  cases d <;> exact ⟨_, List.mem_cons_self⟩
theorem touch_iff {d e : Dd} : touch d e = true ↔ ∃ i, i ∈ d.wires ∧ i ∈ e.wires := by
  unfold touch
  rw [List.any_eq_true]
  constructor
  · rintro ⟨i, h1, h2⟩
    exact ⟨i, h1, of_decide_eq_true h2⟩
  · rintro ⟨i, h1, h2⟩
    exact ⟨i, h1, decide_eq_true h2⟩
theorem touch_no {d e : Dd} : touch d e = false ↔ ∀ i, i ∈ d.wires → i ∉ e.wires := by
  constructor
  · intro h i h1 h2
    rw [touch_iff.mpr ⟨i, h1, h2⟩] at h
    cases h
  · intro h
    cases q : touch d e with
    | false => rfl
    | true =>
      obtain ⟨i, h1, h2⟩ := touch_iff.mp q
      exact absurd h2 (h i h1)
theorem touch_comm {d e : Dd} : touch d e = touch e d := by
  cases h : touch e d with
  | false =>
    rw [touch_no] at h ⊢
    exact fun i h1 h2 => h i h2 h1
  | true =>
    rw [touch_iff] at h ⊢
    obtain ⟨i, h1, h2⟩ := h
    exact ⟨i, h2, h1⟩
theorem touch_same {d e f : Dd} (h : ∀ i, i ∈ e.wires ↔ i ∈ f.wires) : touch d e = touch d f := by
  cases q : touch d f with
  | false =>
    rw [touch_no] at q ⊢
    exact fun i h1 h2 => q i h1 ((h i).mp h2)
  | true =>
    rw [touch_iff] at q ⊢
    obtain ⟨i, h1, h2⟩ := q
    exact ⟨i, h1, (h i).mpr h2⟩
theorem undoes_touch {d e : Dd} (h : undoesB d e = true) : touch d e = true := by
  obtain ⟨i, hi⟩ := wires_ne d
  exact touch_iff.mpr ⟨i, hi, (undoes_mem h).mp hi⟩
/-- the place of the last one that touches -/
def lastT (w : Dd) : List Dd → Option Nat
  | [] => none
  | d :: s => match lastT w s with
    | some k => some (k + 1)
    | none => if touch d w = true then some 0 else none
theorem lastT_none {w : Dd} : ∀ {s : List Dd}, lastT w s = none ↔ ∀ d ∈ s, touch d w = false
  | [] => by simp [lastT]
  | d :: s => by
    rw [lastT]
    cases h : lastT w s with
    | some k =>
      have : ¬ ∀ d ∈ s, touch d w = false := fun z => by
        have := lastT_none.mpr z
        rw [h] at this
        cases this
      simp only [List.mem_cons, forall_eq_or_imp]
      constructor
      · intro z; cases z
      · intro z; exact absurd z.2 this
    | none =>
      have := lastT_none.mp h
      by_cases q : touch d w = true
      · simp [q]
      · simp only [q]
        simp
        exact ⟨by simpa using q, this⟩
theorem lastT_some {w : Dd} : ∀ {a : List Dd} {u : Dd} {b : List Dd}, touch u w = true → (∀ d ∈ b, touch d w = false) → lastT w (a ++ u :: b) = some a.length
  | [], u, b, h1, h2 => by
    rw [List.nil_append, lastT, lastT_none.mpr h2]
    simp [h1]
  | d :: a, u, b, h1, h2 => by
    rw [List.cons_append, lastT, lastT_some h1 h2]
    rfl
theorem lastT_get {w : Dd} : ∀ {s : List Dd} {k : Nat}, lastT w s = some k → ∃ a u b, s = a ++ u :: b ∧ a.length = k ∧ touch u w = true ∧ ∀ d ∈ b, touch d w = false
  | [], k, h => by simp [lastT] at h
  | d :: s, k, h => by
    rw [lastT] at h
    cases q : lastT w s with
    | some j =>
      rw [q] at h
      cases h
      obtain ⟨a, u, b, h1, h2, h3, h4⟩ := lastT_get q
      exact ⟨d :: a, u, b, by rw [h1]; rfl, by rw [List.length_cons, h2], h3, h4⟩
    | none =>
      rw [q] at h
      by_cases t : touch d w = true
      · simp [t] at h
        subst h
        exact ⟨[], d, s, rfl, rfl, t, lastT_none.mp q⟩
      · simp [t] at h
def stepS (s : List Dd) (w : Dd) : List Dd := match lastT w s with
  | some k => if ((s[k]?).any fun u => undoesB u w) = true then s.eraseIdx k else s ++ [w]
  | none => s ++ [w]
theorem step_pop {a : List Dd} {u w : Dd} {b : List Dd} (hu : undoesB u w = true) (hb : ∀ d ∈ b, touch d w = false) : stepS (a ++ u :: b) w = a ++ b := by
  unfold stepS
  rw [lastT_some (undoes_touch hu) hb]
  have e : (a ++ u :: b)[a.length]? = some u := by
    rw [List.getElem?_append_right (Nat.le_refl _), Nat.sub_self]
    rfl
  simp only [e, Option.any_some, hu, if_true]
  rw [List.eraseIdx_append_of_length_le (Nat.le_refl _), Nat.sub_self]
  rfl
theorem step_app {s : List Dd} {w : Dd} (h : ∀ a u b, s = a ++ u :: b → (∀ d ∈ b, touch d w = false) → undoesB u w = false) : stepS s w = s ++ [w] := by
  unfold stepS
  cases q : lastT w s with
  | none => rfl
  | some k =>
    obtain ⟨a, u, b, h1, h2, h3, h4⟩ := lastT_get q
    have e : s[k]? = some u := by
      rw [h1, ← h2, List.getElem?_append_right (Nat.le_refl _), Nat.sub_self]
      rfl
    simp only [e, Option.any_some, h a u b h1 h4]
    simp
theorem step_cases (s : List Dd) (w : Dd) : (∃ a u b, s = a ++ u :: b ∧ undoesB u w = true ∧ (∀ d ∈ b, touch d w = false) ∧ stepS s w = a ++ b) ∨ (stepS s w = s ++ [w] ∧ ∀ a u b, s = a ++ u :: b → (∀ d ∈ b, touch d w = false) → undoesB u w = false) := by
  by_cases h : ∃ a u b, s = a ++ u :: b ∧ undoesB u w = true ∧ (∀ d ∈ b, touch d w = false)
  · obtain ⟨a, u, b, h1, h2, h3⟩ := h
    exact .inl ⟨a, u, b, h1, h2, h3, by rw [h1, step_pop h2 h3]⟩
  · have h' : ∀ a u b, s = a ++ u :: b → (∀ d ∈ b, touch d w = false) → undoesB u w = false := fun a u b h1 h3 => by
      cases q : undoesB u w with
      | false => rfl
      | true => exact absurd ⟨a, u, b, h1, q, h3⟩ h
    exact .inr ⟨step_app h', h'⟩
/-- none undoes another one with nothing on a wire of theirs in between -/
def Red (s : List Dd) : Prop := ∀ a u b v c, s = a ++ u :: (b ++ v :: c) → (∀ d ∈ b, touch d u = false) → undoesB u v = false
theorem Red.nil : Red [] := fun a u b v c h => by
  have := congrArg List.length h
  simp at this
theorem Red.pre {s t : List Dd} (h : Red (s ++ t)) : Red s := fun a u b v c e hb => h a u b v (c ++ t) (by rw [e]; simp) hb
/-- a list cut at two places -/
theorem split_app {α : Type} : ∀ {a c : List α} {u : α} {b d : List α}, a ++ u :: b = c ++ d → (∃ e, c = a ++ u :: e ∧ b = e ++ d) ∨ (∃ e, a = c ++ e ∧ d = e ++ u :: b)
  | [], [], u, b, d, h => .inr ⟨[], rfl, h.symm⟩
  | [], x :: c, u, b, d, h => by
    simp at h
    obtain ⟨rfl, rfl⟩ := h
    exact .inl ⟨c, rfl, rfl⟩
  | x :: a, [], u, b, d, h => .inr ⟨x :: a, rfl, h.symm⟩
  | x :: a, y :: c, u, b, d, h => by
    simp at h
    obtain ⟨rfl, h⟩ := h
    rcases split_app h with ⟨e, h1, h2⟩ | ⟨e, h1, h2⟩
    · exact .inl ⟨e, by rw [h1]; rfl, h2⟩
    · exact .inr ⟨e, by rw [h1]; rfl, h2⟩
theorem Red.step {s : List Dd} {w : Dd} (h : Red s) : Red (stepS s w) := by
  rcases step_cases s w with ⟨a, u, b, hs, hu, hb, e⟩ | ⟨e, hn⟩
  · rw [e]
    subst hs
    intro a' x b' y c' e' hb'
    cases q : undoesB x y with
    | false => rfl
    | true =>
      exfalso
      have e' : a' ++ x :: (b' ++ y :: c') = a ++ b := e'.symm
      rcases split_app e' with ⟨p, h1, h2⟩ | ⟨p, h1, h2⟩
      · -- x in a
        rcases split_app h2 with ⟨r, h3, h4⟩ | ⟨r, h3, h4⟩
        · -- y in a
          have := h a' x b' y (r ++ u :: b) (by rw [h1, h3]; simp) hb'
          rw [this] at q; cases q
        · -- y in b : u stood between
          have hyb : y ∈ b := by rw [h4]; simp
          by_cases t : touch u x = true
          · have : touch u y = true := by rw [← touch_same (d := u) (e := x) (f := y) fun i => undoes_mem q]; exact t
            have t3 : touch y w = touch y u := (touch_same fun i => undoes_mem hu).symm
            have t4 := hb y hyb
            rw [t3, touch_comm, this] at t4
            cases t4
          · have t : touch u x = false := by simpa using t
            have := h a' x (p ++ u :: r) y c' (by rw [h1, h4]; simp) (fun d hd => by
              rcases List.mem_append.mp hd with hd | hd
              · exact hb' d (by rw [h3]; exact List.mem_append_left _ hd)
              · rcases List.mem_cons.mp hd with rfl | hd
                · exact t
                · exact hb' d (by rw [h3]; exact List.mem_append_right _ hd))
            rw [this] at q; cases q
      · -- x in b
        have := h (a ++ u :: p) x b' y c' (by rw [h2]; simp) hb'
        rw [this] at q; cases q
  · rw [e]
    intro a' x b' y c' e' hb'
    cases q : undoesB x y with
    | false => rfl
    | true =>
      exfalso
      rcases List.eq_nil_or_concat c' with rfl | ⟨c'', z, rfl⟩
      · -- y is the last one
        have e2 : s ++ [w] = (a' ++ x :: b') ++ [y] := by rw [e']; simp
        obtain ⟨h1, h2⟩ := List.append_inj' e2 rfl
        cases h2
        have := hn a' x b' h1 (fun d hd => by rw [← touch_same (d := d) (e := x) fun i => undoes_mem q]; exact hb' d hd)
        rw [this] at q; cases q
      · have e2 : s ++ [w] = (a' ++ x :: (b' ++ y :: c'')) ++ [z] := by rw [e', List.concat_eq_append]; simp
        obtain ⟨h1, h2⟩ := List.append_inj' e2 rfl
        have := h a' x b' y c'' h1 hb'
        rw [this] at q; cases q
def shortS (ws : List Dd) : List Dd := ws.foldl stepS []
theorem shortS_snoc {ws : List Dd} {w : Dd} : shortS (ws ++ [w]) = stepS (shortS ws) w := by unfold shortS; rw [List.foldl_append]; rfl
theorem snoc_indD {P : List Dd → Prop} (h0 : P []) (h1 : ∀ l p, P l → P (l ++ [p])) : ∀ l, P l := fun l => by
  have : ∀ l : List Dd, P l.reverse := fun l => by
    induction l with
    | nil => exact h0
    | cons x l ih => rw [List.reverse_cons]; exact h1 _ _ ih
  have := this l.reverse
  rwa [List.reverse_reverse] at this
theorem shortS_red : ∀ ws : List Dd, Red (shortS ws) := snoc_indD Red.nil fun ws w ih => by rw [shortS_snoc]; exact ih.step
theorem shortS_sub : ∀ ws : List Dd, (shortS ws).Sublist ws := snoc_indD (List.Sublist.refl _) fun ws w ih => by
  rw [shortS_snoc]
  rcases step_cases (shortS ws) w with ⟨a, u, b, hs, hu, hb, e⟩ | ⟨e, hn⟩
  · rw [e]
    refine List.Sublist.trans ?_ (List.Sublist.trans ih (List.sublist_append_left _ _))
    rw [hs]
    exact List.Sublist.append_left (List.sublist_cons_self _ _) _
  · rw [e]
    exact List.Sublist.append_right ih _
theorem red_short : ∀ s : List Dd, Red s → shortS s = s := snoc_indD (fun _ => rfl) fun s w ih h => by
  rw [shortS_snoc, ih h.pre]
  refine step_app fun a u b e hb => ?_
  cases q : undoesB u w with
  | false => rfl
  | true =>
    have := h a u b w [] (by rw [e]; simp) (fun d hd => by rw [touch_same (d := d) (e := u) (f := w) fun i => undoes_mem q]; exact hb d hd)
    rw [this] at q; cases q
/-! what the wires see -/
def pj (s : List Dd) (i : Nat) : List Dd := (s.filter fun d => decide (i ∈ d.wires)).map nm
theorem pj_app {a b : List Dd} {i : Nat} : pj (a ++ b) i = pj a i ++ pj b i := by simp [pj]
theorem pj_in {d : Dd} {s : List Dd} {i : Nat} (h : i ∈ d.wires) : pj (d :: s) i = nm d :: pj s i := by simp [pj, h]
theorem pj_out {d : Dd} {s : List Dd} {i : Nat} (h : i ∉ d.wires) : pj (d :: s) i = pj s i := by simp [pj, h]
theorem pj_none {w : Dd} {b : List Dd} (h : ∀ d ∈ b, touch d w = false) {i : Nat} (hi : i ∈ w.wires) : pj b i = [] := by
  unfold pj
  rw [List.filter_eq_nil_iff.mpr fun d hd => by
    have := touch_no.mp (h d hd) i
    simp
    exact fun z => this z hi]
  rfl
/-- the last one that a wire sees -/
theorem pj_last : ∀ {s : List Dd} {i : Nat} {x : Dd}, (pj s i).getLast? = some x → ∃ a u b, s = a ++ u :: b ∧ i ∈ u.wires ∧ nm u = x ∧ ∀ d ∈ b, i ∉ d.wires := fun {s} => by
  refine snoc_indD (P := fun s => ∀ {i : Nat} {x : Dd}, (pj s i).getLast? = some x → ∃ a u b, s = a ++ u :: b ∧ i ∈ u.wires ∧ nm u = x ∧ ∀ d ∈ b, i ∉ d.wires) (fun h => by simp [pj] at h) (fun s w ih i x h => ?_) s
  by_cases hi : i ∈ w.wires
  · rw [pj_app, pj_in hi, show pj [] i = [] from rfl, List.getLast?_concat] at h
    cases h
    exact ⟨s, w, [], rfl, hi, rfl, fun d hd => by cases hd⟩
  · rw [pj_app, pj_out hi, show pj [] i = [] from rfl, List.append_nil] at h
    obtain ⟨a, u, b, h1, h2, h3, h4⟩ := ih h
    refine ⟨a, u, b ++ [w], by rw [h1]; simp, h2, h3, fun d hd => ?_⟩
    rcases List.mem_append.mp hd with hd | hd
    · exact h4 d hd
    · rw [List.mem_singleton] at hd
      rw [hd]; exact hi
theorem pop_iff {s : List Dd} {w : Dd} : (∃ a u b, s = a ++ u :: b ∧ undoesB u w = true ∧ (∀ d ∈ b, touch d w = false)) ↔ ∀ i ∈ w.wires, (pj s i).getLast? = some (nm (dUndo w)) := by
  constructor
  · rintro ⟨a, u, b, rfl, hu, hb⟩ i hi
    rw [pj_app, pj_in ((undoes_mem hu).mpr hi), pj_none hb hi, List.getLast?_concat, undoes_symm.mp hu]
  · intro h
    obtain ⟨i, hi⟩ := wires_ne w
    obtain ⟨a, u, b, h1, h2, h3, h4⟩ := pj_last (h i hi)
    have hu : undoesB u w = true := undoes_symm.mpr h3
    refine ⟨a, u, b, h1, hu, fun d hd => ?_⟩
    cases q : touch d w with
    | false => rfl
    | true =>
      exfalso
      obtain ⟨j, hj, hj2⟩ := touch_iff.mp q
      obtain ⟨a', u', b', k1, k2, k3, k4⟩ := pj_last (h j hj2)
      have hu' : undoesB u' w = true := undoes_symm.mpr k3
      have e : a ++ u :: b = a' ++ u' :: b' := by rw [← h1, ← k1]
      have iu : i ∈ u'.wires := (undoes_mem hu').mpr hi
      -- u' stands at or ahead of u, so d stands behind u'
      rcases split_app e with ⟨p, e1, e2⟩ | ⟨p, e1, e2⟩
      · -- a' = a ++ u :: p, b = p ++ u' :: b'
        exact h4 u' (by rw [e2]; simp) iu
      · -- a = a' ++ p, u' :: b' = p ++ u :: b
        cases p with
        | nil =>
          simp at e2
          exact k4 d (by rw [e2.2]; exact hd) hj
        | cons z p =>
          simp at e2
          exact k4 d (by rw [e2.2]; simp; exact .inr (.inr hd)) hj
def stepP (P : Nat → List Dd) (w : Dd) : Nat → List Dd := fun i => if ∀ j ∈ w.wires, (P j).getLast? = some (nm (dUndo w)) then (if i ∈ w.wires then (P i).dropLast else P i) else (if i ∈ w.wires then P i ++ [nm w] else P i)
theorem pj_step {s : List Dd} {w : Dd} : pj (stepS s w) = stepP (pj s) w := funext fun i => by
  unfold stepP
  by_cases h : ∀ j ∈ w.wires, (pj s j).getLast? = some (nm (dUndo w))
  · rw [if_pos h]
    obtain ⟨a, u, b, rfl, hu, hb⟩ := pop_iff.mpr h
    rw [step_pop hu hb]
    by_cases hi : i ∈ w.wires
    · rw [if_pos hi, pj_app, pj_app, pj_in ((undoes_mem hu).mpr hi), pj_none hb hi, List.append_nil, List.dropLast_concat]
    · rw [if_neg hi, pj_app, pj_app, pj_out fun z => hi ((undoes_mem hu).mp z)]
  · rw [if_neg h]
    have e : stepS s w = s ++ [w] := step_app fun a u b e hb => by
      cases q : undoesB u w with
      | false => rfl
      | true => exact absurd (pop_iff.mp ⟨a, u, b, e, q, hb⟩) h
    rw [e]
    by_cases hi : i ∈ w.wires
    · rw [if_pos hi, pj_app, pj_in hi]
      rfl
    · rw [if_neg hi, pj_app, pj_out hi]
      exact List.append_nil _
theorem pj_fold : ∀ {ws : List Dd} {s t : List Dd}, pj s = pj t → pj (ws.foldl stepS s) = pj (ws.foldl stepS t)
  | [], _, _, h => h
  | w :: ws, s, t, h => pj_fold (ws := ws) (by rw [pj_step, pj_step, h])
theorem red_back {s : List Dd} {w : Dd} (h : Red s) : pj (stepS (stepS s w) (dUndo w)) = pj s := by
  rcases step_cases s w with ⟨a, u, b, hs, hu, hb, e⟩ | ⟨e, hn⟩
  · rw [e]
    have e2 : stepS (a ++ b) (dUndo w) = a ++ b ++ [dUndo w] := by
      refine step_app fun a' u' b' e' hb' => ?_
      cases q : undoesB u' (dUndo w) with
      | false => rfl
      | true =>
        exfalso
        have tw : touch u' w = true := by
          have := undoes_touch q
          rwa [touch_same (d := u') (e := dUndo w) (f := w) fun i => by rw [undo_wires]] at this
        rcases split_app e'.symm with ⟨p, h1, h2⟩ | ⟨p, h1, h2⟩
        · have uu : undoesB u' u = true := by
            rw [undoes_iff] at q ⊢
            rw [← q]
            exact undoes_symm.mp hu
          have := h a' u' p u b (by rw [hs, h1]; simp) (fun d hd => by
            have t1 := hb' d (by rw [h2]; exact List.mem_append_left _ hd)
            rw [← t1]
            exact touch_same fun i => undoes_mem q)
          rw [this] at uu; cases uu
        · have := hb u' (by rw [h2]; simp)
          rw [this] at tw; cases tw
    rw [e2, hs]
    funext i
    by_cases hi : i ∈ w.wires
    · rw [pj_app, pj_app, pj_app, pj_in ((undoes_mem hu).mpr hi), pj_none hb hi, pj_in (by rw [undo_wires]; exact hi), undoes_symm.mp hu]
      simp [pj]
    · rw [pj_app, pj_app, pj_app, pj_out (fun z => hi ((undoes_mem hu).mp z)), pj_out (by rw [undo_wires]; exact hi)]
      simp [pj]
  · rw [e]
    have : stepS (s ++ w :: []) (dUndo w) = s ++ [] := step_pop (undoes_iff.mpr rfl) fun d hd => by cases hd
    rw [this, List.append_nil]
theorem pj_nil {s : List Dd} (h : pj s = pj []) : s = [] := by
  cases s with
  | nil => rfl
  | cons d s =>
    obtain ⟨i, hi⟩ := wires_ne d
    have := congrFun h i
    rw [pj_in hi] at this
    cases this
theorem short_undo (ws : List Dd) : shortS (ws ++ undoW ws) = [] := by
  refine pj_nil ?_
  unfold shortS
  rw [List.foldl_append]
  refine snoc_indD (P := fun ws => pj ((undoW ws).foldl stepS (ws.foldl stepS [])) = pj []) rfl (fun ws w ih => ?_) ws
  have e : undoW (ws ++ [w]) = dUndo w :: undoW ws := by simp [undoW]
  rw [e, List.foldl_cons, List.foldl_append]
  refine Eq.trans (pj_fold ?_) ih
  exact red_back (shortS_red ws)
theorem short_undo' (ws : List Dd) : shortS (undoW ws ++ ws) = [] := by
  have := short_undo (undoW ws)
  rwa [undoW_undoW] at this
/-! what rows see -/
theorem dRow_near {d : Dd} {r r' : Rw} (h : ∀ i ∈ d.wires, bt r.x i = bt r'.x i ∧ bt r.z i = bt r'.z i) :
    (∀ i ∈ d.wires, bt (dRow d r).x i = bt (dRow d r').x i ∧ bt (dRow d r).z i = bt (dRow d r').z i) ∧ (dRow d r).s ^^^ r.s = (dRow d r').s ^^^ r'.s := by
  have xs : ∀ a b : Nat, (a ^^^ b) ^^^ a = b := fun a b => by rw [Nat.xor_comm a b, xor_self_right]
  cases d with
  | over k =>
    have hk := h k (by simp [Dd.wires])
    refine ⟨fun i hi => h i hi, ?_⟩
    show (r.s ^^^ bt r.z k) ^^^ r.s = (r'.s ^^^ bt r'.z k) ^^^ r'.s
    rw [xs, xs, hk.2]
  | quarter k =>
    have hk := h k (by simp [Dd.wires])
    refine ⟨fun i hi => ?_, ?_⟩
    · simp only [Dd.wires, List.mem_singleton] at hi
      subst hi
      refine ⟨hk.1, ?_⟩
      show bt (r.z ^^^ bt r.x i * 2 ^ i) i = bt (r'.z ^^^ bt r'.x i * 2 ^ i) i
      rw [bt_flip (bt_le _ _), bt_flip (bt_le _ _), hk.1, hk.2]
    · show (r.s ^^^ (bt r.x k &&& bt r.z k)) ^^^ r.s = (r'.s ^^^ (bt r'.x k &&& bt r'.z k)) ^^^ r'.s
      rw [xs, xs, hk.1, hk.2]
  | back k =>
    have hk := h k (by simp [Dd.wires])
    refine ⟨fun i hi => ?_, ?_⟩
    · simp only [Dd.wires, List.mem_singleton] at hi
      subst hi
      refine ⟨hk.1, ?_⟩
      show bt (r.z ^^^ bt r.x i * 2 ^ i) i = bt (r'.z ^^^ bt r'.x i * 2 ^ i) i
      rw [bt_flip (bt_le _ _), bt_flip (bt_le _ _), hk.1, hk.2]
    · show (r.s ^^^ (bt r.x k &&& (1 ^^^ bt r.z k))) ^^^ r.s = (r'.s ^^^ (bt r'.x k &&& (1 ^^^ bt r'.z k))) ^^^ r'.s
      rw [xs, xs, hk.1, hk.2]
  | both k =>
    have hk := h k (by simp [Dd.wires])
    have v : ∀ r : Rw, bt r.x k ^^^ bt r.z k ≤ 1 := fun r => by rw [xor01 (bt_le _ _) (bt_le _ _)]; omega
    refine ⟨fun i hi => ?_, ?_⟩
    · simp only [Dd.wires, List.mem_singleton] at hi
      subst hi
      constructor
      · show bt (r.x ^^^ (bt r.x i ^^^ bt r.z i) * 2 ^ i) i = bt (r'.x ^^^ (bt r'.x i ^^^ bt r'.z i) * 2 ^ i) i
        rw [bt_flip (v r), bt_flip (v r'), hk.1, hk.2]
      · show bt (r.z ^^^ (bt r.x i ^^^ bt r.z i) * 2 ^ i) i = bt (r'.z ^^^ (bt r'.x i ^^^ bt r'.z i) * 2 ^ i) i
        rw [bt_flip (v r), bt_flip (v r'), hk.1, hk.2]
    · show (r.s ^^^ (bt r.x k &&& bt r.z k)) ^^^ r.s = (r'.s ^^^ (bt r'.x k &&& bt r'.z k)) ^^^ r'.s
      rw [xs, xs, hk.1, hk.2]
  | whr j k =>
    have hj := h j (by simp [Dd.wires])
    have hk := h k (by simp [Dd.wires])
    refine ⟨fun i hi => ?_, ?_⟩
    · have hi' := h i hi
      constructor
      · show bt (r.x ^^^ bt r.x j * 2 ^ k) i = bt (r'.x ^^^ bt r'.x j * 2 ^ k) i
        rw [bt_flip (bt_le _ _), bt_flip (bt_le _ _), hj.1, hk.1, hi'.1]
      · show bt (r.z ^^^ bt r.z k * 2 ^ j) i = bt (r'.z ^^^ bt r'.z k * 2 ^ j) i
        rw [bt_flip (bt_le _ _), bt_flip (bt_le _ _), hj.2, hk.2, hi'.2]
    · show (if bt r.x j &&& bt r.z k = 1 ∧ bt r.x k = bt r.z j then r.s ^^^ 1 else r.s) ^^^ r.s = (if bt r'.x j &&& bt r'.z k = 1 ∧ bt r'.x k = bt r'.z j then r'.s ^^^ 1 else r'.s) ^^^ r'.s
      rw [hj.1, hj.2, hk.1, hk.2]
      split
      · rw [xs, xs]
      · rw [Nat.xor_self, Nat.xor_self]
  | swap j k =>
    have hj := h j (by simp [Dd.wires])
    have hk := h k (by simp [Dd.wires])
    refine ⟨fun i hi => ?_, ?_⟩
    · have hi' := h i hi
      constructor
      · show bt (exch j k r.x) i = bt (exch j k r'.x) i
        rw [bt_exch, bt_exch, hj.1, hk.1, hi'.1]
      · show bt (exch j k r.z) i = bt (exch j k r'.z) i
        rw [bt_exch, bt_exch, hj.2, hk.2, hi'.2]
    · show r.s ^^^ r.s = r'.s ^^^ r'.s
      rw [Nat.xor_self, Nat.xor_self]
theorem dRow_comm {d e : Dd} {r : Rw} (h : touch d e = false) : dRow d (dRow e r) = dRow e (dRow d r) := by
  have hd : ∀ i ∈ d.wires, i ∉ e.wires := touch_no.mp h
  have he : ∀ i ∈ e.wires, i ∉ d.wires := fun i h1 h2 => hd i h2 h1
  have n1 := dRow_near (d := d) (r := dRow e r) (r' := r) fun i hi => dRow_far (hd i hi)
  have n2 := dRow_near (d := e) (r := dRow d r) (r' := r) fun i hi => dRow_far (he i hi)
  have bits : ∀ i, bt (dRow d (dRow e r)).x i = bt (dRow e (dRow d r)).x i ∧ bt (dRow d (dRow e r)).z i = bt (dRow e (dRow d r)).z i := fun i => by
    by_cases h1 : i ∈ d.wires
    · have h2 := hd i h1
      have f := dRow_far (d := e) (r := dRow d r) h2
      have g := n1.1 i h1
      exact ⟨g.1.trans f.1.symm, g.2.trans f.2.symm⟩
    · have f := dRow_far (d := d) (r := dRow e r) h1
      by_cases h2 : i ∈ e.wires
      · have g := n2.1 i h2
        exact ⟨f.1.trans g.1.symm, f.2.trans g.2.symm⟩
      · have f1 := dRow_far (d := e) (r := r) h2
        have f2 := dRow_far (d := e) (r := dRow d r) h2
        have f3 := dRow_far (d := d) (r := r) h1
        exact ⟨f.1.trans (f1.1.trans (f3.1.symm.trans f2.1.symm)), f.2.trans (f1.2.trans (f3.2.symm.trans f2.2.symm))⟩
  refine Rw.ext' ?_ (bt_ext fun i => (bits i).1) (bt_ext fun i => (bits i).2)
  have a1 := n1.2
  have a2 := n2.2
  have cancel : ∀ {a b c : Nat}, a ^^^ b = c → a = c ^^^ b := fun h => by rw [← h, xor_self_right]
  rw [cancel a1, cancel a2, Nat.xor_comm _ (dRow e r).s, Nat.xor_comm (dRow d r).s r.s, ← Nat.xor_assoc]
theorem dRow_undoes {n : Nat} {u w : Dd} {r : Rw} (h : undoesB u w = true) (hu : u.Ok n) (hs : r.s < 2) : dRow w (dRow u r) = r := by
  have e : ∀ {j k m : Nat}, exch j k m = exch k j m := fun {j k m} => bt_ext fun i => by
    rw [bt_exch, bt_exch]
    by_cases h1 : i = j <;> by_cases h2 : i = k
    · rw [if_pos h1, if_pos h2, ← h1, ← h2]
    · rw [if_pos h1, if_neg h2, if_pos h1]
    · rw [if_neg h1, if_pos h2, if_pos h2]
    · rw [if_neg h1, if_neg h2, if_neg h2, if_neg h1]
  have dd : dRow w = dRow (dUndo u) := by
    rw [undoes_iff] at h
    cases u <;> cases w <;> first | (simp [nm, dUndo] at h; done) | (simp only [nm, dUndo, Dd.over.injEq, Dd.quarter.injEq, Dd.back.injEq, Dd.both.injEq, Dd.whr.injEq] at h; simp [dUndo, h]; done) | skip
    rename_i j k j' k'
    simp only [nm, dUndo, Dd.swap.injEq] at h
    have : (j' = j ∧ k' = k) ∨ (j' = k ∧ k' = j) := by omega
    rcases this with ⟨rfl, rfl⟩ | ⟨rfl, rfl⟩
    · rfl
    · funext q
      show (⟨q.s, exch _ _ q.x, exch _ _ q.z⟩ : Rw) = ⟨q.s, exch _ _ q.x, exch _ _ q.z⟩
      rw [e, e (m := q.z)]
  rw [dd, dRow_undo hu hs]
theorem dRow_past {w : Dd} : ∀ {b : List Dd} {r : Rw}, (∀ d ∈ b, touch d w = false) → dRow w (rowB b r) = rowB b (dRow w r)
  | [], _, _ => rfl
  | d :: b, r, h => by
    rw [rowB_cons, rowB_cons, dRow_past fun x hx => h x (List.mem_cons_of_mem _ hx)]
    rw [dRow_comm (by rw [touch_comm]; exact h d List.mem_cons_self)]
theorem rowB_short {n : Nat} {r : Rw} (hr : r.Ok n) : ∀ ws : List Dd, (∀ d ∈ ws, d.Ok n) → rowB (shortS ws) r = rowB ws r := snoc_indD (fun _ => rfl) fun ws w ih h => by
  have h1 : ∀ d ∈ ws, d.Ok n := fun d hd => h d (List.mem_append_left _ hd)
  have ok : ∀ d ∈ shortS ws, d.Ok n := fun d hd => h1 d ((shortS_sub ws).subset hd)
  rw [shortS_snoc, rowB_append, ← ih h1]
  show _ = dRow w (rowB (shortS ws) r)
  rcases step_cases (shortS ws) w with ⟨a, u, b, hs, hu, hb, e⟩ | ⟨e, _⟩
  · rw [e, hs, rowB_append, rowB_append, rowB_cons, dRow_past hb]
    have oka : ∀ d ∈ a, d.Ok n := fun d hd => ok d (by rw [hs]; exact List.mem_append_left _ hd)
    rw [dRow_undoes hu (ok u (by rw [hs]; simp)) (rowB_ok oka hr).s]
  · rw [e, rowB_append]
    rfl
end TW
/-! TX: more plain steps. -/
namespace TW
open PySem PySem.Spec L2 PyProof.Rows
section
variable {S S0 : DS} {tg : D → DS → Res Unit} {body g : DS → Out} {src : DS → Res Src} {A : List Nat}
/-- how a loop that may be left by break ends -/
theorem forLoop_brk {Q : Out → Prop} : ∀ {xs : List D} {S : DS} (P : Nat → DS → Prop) (_ : ∀ k (hk : k < xs.length) S, P k S → ∃ S1, tg xs[k] S = .ok () S1 ∧ ((∃ S2, (body S1 = .next S2 ∨ body S1 = .cont S2) ∧ P (k + 1) S2) ∨ (∃ S2, body S1 = .brk S2 ∧ Q (g S2)) ∨ ((body S1).leaves = true ∧ Q (body S1)))) (_ : P 0 S) (_ : ∀ S', P xs.length S' → Q (g S')),
    (∃ S', forLoop tg body xs S = .next S' ∧ Q (g S')) ∨ ((forLoop tg body xs S).leaves = true ∧ Q (forLoop tg body xs S))
  | [], S, P, h, h0, h5 => .inl ⟨S, rfl, h5 S h0⟩
  | x :: xs, S, P, h, h0, h5 => by
    obtain ⟨S1, e1, e2⟩ := h 0 (Nat.zero_lt_succ _) S h0
    have e1 : tg x S = .ok () S1 := e1
    rcases e2 with ⟨S2, e2, e3⟩ | ⟨S2, e2, e3⟩ | ⟨e2, e3⟩
    · have key := forLoop_brk (Q := Q) (xs := xs) (S := S2) (fun k => P (k + 1)) (fun k hk S hS => h (k + 1) (Nat.succ_lt_succ hk) S hS) e3 h5
      have : forLoop tg body (x :: xs) S = forLoop tg body xs S2 := by
        rw [forLoop, e1]
        rcases e2 with e2 | e2 <;> (dsimp only; rw [e2])
      rw [this]
      exact key
    · refine .inl ⟨S2, ?_, e3⟩
      rw [forLoop, e1]
      dsimp only
      rw [e2]
    · have : forLoop tg body (x :: xs) S = body S1 := by
        rw [forLoop, e1]
        dsimp only
        cases hb : body S1 <;> rw [hb] at e2 <;> first | rfl | cases e2
      rw [this]
      exact .inr ⟨e2, e3⟩
theorem for_brk {xs : List D} (Q : Out → Prop) (P : Nat → DS → Prop) (h1 : src S = .ok ⟨xs, .no⟩ S0) (h3 : P 0 S0) (h4 : ∀ k (hk : k < xs.length) S, P k S → ∃ S1, tg xs[k] S = .ok () S1 ∧ ((∃ S2, (body S1 = .next S2 ∨ body S1 = .cont S2) ∧ P (k + 1) S2) ∨ (∃ S2, body S1 = .brk S2 ∧ Q (g S2)) ∨ ((body S1).leaves = true ∧ Q (body S1))))
    (h5 : ∀ S', P xs.length S' → Q (g S')) : Q (oSeq (oFor A src tg body) g S) := by
  have : oSeq (oFor A src tg body) g S = (forLoop tg body xs S0).then_ g := by
    unfold oSeq oFor
    rw [h1]
    rfl
  rw [this]
  rcases forLoop_brk P h4 h3 h5 with ⟨S', e1, e2⟩ | ⟨e1, e2⟩
  · rw [e1]
    exact e2
  · cases ho : forLoop tg body xs S0 <;> rw [ho] at e1 e2 <;> first | exact e2 | cases e1
end
section
variable {S S0 : DS} {tg : D → DS → Res Unit} {body g : DS → Out} {src : DS → Res Src} {A : List Nat}
/-- each way a turn may end -/
inductive Turn (P : DS → Prop) (Q : Out → Prop) (g : DS → Out) : Out → Prop
  | next {S2 : DS} (h : P S2) : Turn P Q g (.next S2)
  | cont {S2 : DS} (h : P S2) : Turn P Q g (.cont S2)
  | brk {S2 : DS} (h : Q (g S2)) : Turn P Q g (.brk S2)
  | ret {r : RV} {S2 : DS} (h : Q (.ret r S2)) : Turn P Q g (.ret r S2)
  | exc {c : Str} {S2 : DS} (h : Q (.exc c S2)) : Turn P Q g (.exc c S2)
theorem Turn.to_next {P : DS → Prop} {Q : Out → Prop} {g : DS → Out} {o : Out} (S2 : DS) (e : o = .next S2) (h : P S2) : Turn P Q g o := by rw [e]; exact .next h
theorem Turn.to_cont {P : DS → Prop} {Q : Out → Prop} {g : DS → Out} {o : Out} (S2 : DS) (e : o = .cont S2) (h : P S2) : Turn P Q g o := by rw [e]; exact .cont h
theorem Turn.to_brk {P : DS → Prop} {Q : Out → Prop} {g : DS → Out} {o : Out} (S2 : DS) (e : o = .brk S2) (h : Q (g S2)) : Turn P Q g o := by rw [e]; exact .brk h
theorem Turn.to_ret {P : DS → Prop} {Q : Out → Prop} {g : DS → Out} {o : Out} (r : RV) (S2 : DS) (e : o = .ret r S2) (h : Q (.ret r S2)) : Turn P Q g o := by rw [e]; exact .ret h
theorem Turn.to_exc {P : DS → Prop} {Q : Out → Prop} {g : DS → Out} {o : Out} (c : Str) (S2 : DS) (e : o = .exc c S2) (h : Q (.exc c S2)) : Turn P Q g o := by rw [e]; exact .exc h
theorem for_any {xs : List D} (Q : Out → Prop) (P : Nat → DS → Prop) (h1 : src S = .ok ⟨xs, .no⟩ S0) (h3 : P 0 S0) (h4 : ∀ k (hk : k < xs.length) S, P k S → ∃ S1, tg xs[k] S = .ok () S1 ∧ Turn (P (k + 1)) Q g (body S1))
    (h5 : ∀ S', P xs.length S' → Q (g S')) : Q (oSeq (oFor A src tg body) g S) := by
  refine for_brk Q P h1 h3 (fun k hk S hS => ?_) h5
  obtain ⟨S1, e1, t⟩ := h4 k hk S hS
  refine ⟨S1, e1, ?_⟩
  generalize body S1 = o at *
  cases t with
  | next h => exact .inl ⟨_, .inl rfl, h⟩
  | cont h => exact .inl ⟨_, .inr rfl, h⟩
  | brk h => exact .inr (.inl ⟨_, rfl, h⟩)
  | ret h => exact .inr (.inr ⟨rfl, h⟩)
  | exc h => exact .inr (.inr ⟨rfl, h⟩)
end
@[simp] theorem q_gAny {bs : List D} : gAny [.lst bs] = (match blsOf bs with
    | some ns => .val (.bl (ns.any id))
    | none => .stk) := by
  unfold gAny gOne
  simp only
  cases h : blsOf bs <;> simp only
theorem bls_map {α : Type} {f : α → Bool} : ∀ xs : List α, blsOf (xs.map fun a => D.bl (f a)) = some (xs.map f)
  | [] => rfl
  | x :: xs => by rw [List.map_cons, q_bls, bls_map xs]; rfl
theorem any_map {α : Type} {f : α → Bool} (xs : List α) : gAny [.lst (xs.map fun a => D.bl (f a))] = .val (.bl (xs.any f)) := by
  rw [q_gAny, bls_map]
  simp [List.any_map]
theorem all_map {α : Type} {f : α → Bool} (xs : List α) : gAll [.lst (xs.map fun a => D.bl (f a))] = .val (.bl (xs.all f)) := by
  rw [q_gAll, bls_map]
  simp [List.all_map]
def natD (i : Nat) : D := .int (i : Int)
theorem in_nats {i : Nat} (ws : List Nat) : gCmp .In (.int (i : Int)) (.tup (ws.map natD)) = .val (.bl (decide (i ∈ ws))) := by
  have h1 : (ws.map natD).all flatD = true := by simp [flatD, natD]
  show oB (inD (.int (i : Int)) (.tup (ws.map natD))) = _
  unfold inD
  simp only
  rw [if_pos ⟨rfl, h1⟩]
  show R.val (.bl ((ws.map natD).any fun e => eqFlat e (.int (i : Int)))) = _
  congr 2
  induction ws with
  | nil => rfl
  | cons y ys ih =>
    rw [List.map_cons, List.any_cons, ih (by simp [flatD, natD])]
    have e : eqFlat (natD y) (.int (i : Int)) = decide (y = i) := by
      show ((y : Int) == (i : Int)) = _
      by_cases h : y = i
      · subst h; simp
      · have : ¬ (y : Int) = (i : Int) := by omega
        simp [h, this]
    rw [e]
    by_cases h : y = i
    · subst h; simp
    · have h' : ¬ i = y := fun z => h z.symm
      simp [h, h']
def Dd.word : Dd → Str
  | .over _ => "over"
  | .quarter _ => "quarter"
  | .back _ => "back"
  | .both _ => "both"
  | .whr _ _ => "where"
  | .swap _ _ => "swap"
def Dd.w1 : Dd → Nat
  | .over k => k
  | .quarter k => k
  | .back k => k
  | .both k => k
  | .whr j _ => j
  | .swap j _ => j
theorem cutW (d : Dd) : gSl d.d (some 1) none = .val (.tup (d.wires.map natD)) := by cases d <;> simp [Dd.d, Dd.wires, natD]
theorem wd_ix0 (d : Dd) : gIx d.d (.int 0) = .val (.str d.word) := by cases d <;> simp [Dd.d, Dd.word]
theorem wd_ix1 (d : Dd) : gIx d.d (.int 1) = .val (.int d.w1) := by cases d <;> simp [Dd.d, Dd.w1]
theorem eqDd {a b : Dd} : gCmp .Eq a.d b.d = .val (.bl (decide (a = b))) := gEq_iff a.d_ok b.d_ok (by omega) Dd.d_inj
theorem neDd {a b : Dd} : gCmp .NotEq a.d b.d = .val (.bl (!decide (a = b))) := gNe_iff a.d_ok b.d_ok (by omega) Dd.d_inj
theorem wires_len (d : Dd) : d.wires.length ≤ 2 := by cases d <;> simp [Dd.wires]
theorem sortI2 {a b : Int} : sortI [a, b] = [min a b, max a b] := by
  refine (sortI_eq ?_ ?_).symm
  · rcases Int.le_total a b with h | h
    · rw [Int.min_eq_left h, Int.max_eq_right h]
    · rw [Int.min_eq_right h, Int.max_eq_left h]
      exact List.Perm.swap _ _ _
  · simp
    omega
@[simp] theorem q_sort2 {a b : Int} : gSort [.tup [.int a, .int b]] = .own (.lst [.int (min a b), .int (max a b)]) := by
  have : gSort [.tup [.int a, .int b]] = .own (.lst ((sortI [a, b]).map D.int)) := rfl
  rw [this, sortI2]
  rfl
@[simp] theorem q_eq_lst2 {a b c d : Int} : gCmp .Eq (.lst [.int a, .int b]) (.lst [.int c, .int d]) = .val (.bl (decide (a = c ∧ b = d))) := gEq_iff (n := 1) (by simp [D.okD]) (by simp [D.okD]) (by decide) (by simp)
theorem map_erase {α β : Type} {f : α → β} : ∀ {s : List α} {j : Nat}, (s.map f).eraseIdx j = (s.eraseIdx j).map f
  | [], j => by cases j <;> rfl
  | x :: s, 0 => rfl
  | x :: s, j + 1 => by
    rw [List.map_cons, List.eraseIdx_cons_succ, List.eraseIdx_cons_succ, List.map_cons, map_erase]
theorem popAt_nat {ds : List D} {j : Nat} {d : D} (h : ds[j]? = some d) (hj : j ≤ 100000) : mPopAt (.lst ds) [.int (j : Int)] = some (.lst (ds.eraseIdx j), d) := by
  have hl : j < ds.length := (List.getElem?_eq_some_iff.mp h).1
  have e : seqIndex? (j : Int) ds.length = some j := by
    have h0 : ¬ ((j : Int) < 0) := by omega
    unfold seqIndex?
    simp [h0, hl]
  unfold mPopAt
  dsimp only
  rw [if_pos (by omega), e]
  simp only [h]
@[simp] theorem notin_strs4 {x a b c d : Str} : gCmp .NotIn (.str x) (.tup [.str a, .str b, .str c, .str d]) = .val (.bl (!decide (x = a ∨ x = b ∨ x = c ∨ x = d))) := notin_of in_strs4
@[simp] theorem notin_strs2 {x a b : Str} : gCmp .NotIn (.str x) (.tup [.str a, .str b]) = .val (.bl (!decide (x = a ∨ x = b))) := notin_of in_strs2
@[simp] theorem nr_app : ∀ {a b : List D}, D.noRefs (a ++ b) = (D.noRefs a && D.noRefs b)
  | [], b => by simp
  | x :: a, b => by rw [List.cons_append, q_nrs, q_nrs, nr_app, Bool.and_assoc]
theorem rg3_down {n : Nat} (hn : n ≤ 100000) : rg3 [.int ((n : Int) - 1), .int (-1), .int (-1)] = some (rgD ((n : Int) - 1) (-1) n) := by
  unfold rg3
  have e1 : inB62 ((n : Int) - 1) = true := by unfold inB62; exact decide_eq_true (by omega)
  have e2 : inB62 (-1) = true := by decide
  dsimp only
  rw [if_pos ⟨rfl, e1, e2⟩]
  congr 2
  omega
theorem enumD_at {ds : List D} {k i : Nat} (h : i < (enumD k ds).length) : (enumD k ds)[i] = .tup [.int ((k + i : Nat) : Int), ds[i]'(by rw [enumD_length] at h; exact h)] := by
  obtain ⟨e, h1, h2⟩ := enumD_get (List.getElem?_eq_getElem h)
  have h' : i < ds.length := by rw [enumD_length] at h; exact h
  rw [List.getElem?_eq_getElem h'] at h1
  cases h1
  exact h2
/-- a comprehension without a test -/
theorem lc_m {α : Type} {S S0 : DS} {v : Nat} {o : Option Sl} {src : DS → Res Src} {te : DS → Res RV} (xs : List α) (g f : α → D) (hs : src S = .ok ⟨xs.map g, .no⟩ S0) (hv : S0.sl[v]? = some o) (hn : notOwn o = true)
    (h : ∀ a ∈ xs, ∃ r, te (S0.at_ v (g a)) = .ok r (S0.at_ v (g a)) ∧ settle r (S0.at_ v (g a)) = .ok (f a) (S0.at_ v (g a))) (hl : xs.length ≤ sizeLine) :
    dLc src (tgName v) (fun S => .ok true S) te [v] S = .ok (.own (.lst (xs.map f))) S0 := by
  have := lc_map (tt := fun S => .ok true S) (te := te) xs g (fun _ => true) f hs hv hn (fun a ha => ⟨rfl, fun _ => h a ha⟩) hl
  rwa [List.filter_eq_self.mpr fun _ _ => rfl] at this
section
variable {S S0 : DS} {tg : D → DS → Res Unit} {body g : DS → Out} {A : List Nat} {i : Nat} {kvs : List (Key × D)} {sel : List (Key × D) → List D}
/-- how a turn of a walk over a dict may end -/
inductive Turn0 (P : DS → Prop) (Q : Out → Prop) (g : DS → Out) : Out → Prop
  | next {S2 : DS} (h : P S2) : Turn0 P Q g (.next S2)
  | ret {r : RV} {S2 : DS} (h : Q (.ret r S2)) : Turn0 P Q g (.ret r S2)
theorem Turn0.to_next {P : DS → Prop} {Q : Out → Prop} {g : DS → Out} {o : Out} (S2 : DS) (e : o = .next S2) (h : P S2) : Turn0 P Q g o := by rw [e]; exact .next h
theorem Turn0.to_ret {P : DS → Prop} {Q : Out → Prop} {g : DS → Out} {o : Out} (r : RV) (S2 : DS) (e : o = .ret r S2) (h : Q (.ret r S2)) : Turn0 P Q g o := by rw [e]; exact .ret h
theorem forD_any (Q : Out → Prop) (P : Nat → DS → Prop) (hl : lockD i S = some (S0, none)) (h0 : dAt i S0 = some kvs) (h3 : P 0 S0) (h4 : ∀ k (hk : k < (sel kvs).length) S, P k S → ∃ S1, tg (sel kvs)[k] S = .ok () S1 ∧ Turn0 (P (k + 1)) Q g (body S1))
    (h5 : ∀ S', P (sel kvs).length S' → Q (g S')) : Q (oSeq (oLock i (oFor A (dWalk sel i) tg body)) g S) := by
  have e : oSeq (oLock i (oFor A (dWalk sel i) tg body)) g S = ((oFor A (dWalk sel i) tg body S0).noExc).then_ g := by
    unfold oSeq oLock
    rw [hl]
    rfl
  rw [e]
  have e1 : dWalk sel i S0 = .ok ⟨sel kvs, .no⟩ S0 := by unfold dWalk; rw [h0]
  have e2 : oFor A (dWalk sel i) tg body S0 = forLoop tg body (sel kvs) S0 := by
    unfold oFor
    rw [e1]
    rfl
  rw [e2]
  have key : ∀ (xs : List D) (S : DS) (P : Nat → DS → Prop), P 0 S → (∀ k (hk : k < xs.length) S, P k S → ∃ S1, tg xs[k] S = .ok () S1 ∧ Turn0 (P (k + 1)) Q g (body S1)) → (∀ S', P xs.length S' → Q (g S')) → Q (((forLoop tg body xs S).noExc).then_ g) := fun xs => by
    induction xs with
    | nil => exact fun S P h0 _ h5 => h5 S h0
    | cons x xs ih =>
      intro S P h0 h4 h5
      obtain ⟨S1, e1, t⟩ := h4 0 (Nat.zero_lt_succ _) S h0
      have e1 : tg x S = .ok () S1 := e1
      rw [forLoop, e1]
      dsimp only
      generalize body S1 = o at *
      cases t with
      | next h => exact ih _ (fun k => P (k + 1)) h (fun k hk S hS => h4 (k + 1) (Nat.succ_lt_succ hk) S hS) h5
      | ret h => exact h
  exact key _ _ _ h3 h4 h5
end
end TW
/-! TM10: what parts two works. -/
namespace TW
open PySem PySem.Spec L2 PyProof.Rows
theorem low_bit : ∀ m : Nat, 0 < m → ∃ o, bt m o = 1 ∧ m - (m &&& (m - 1)) = 2 ^ o := fun m => by
  induction m using Nat.strongRecOn with
  | ind m ih =>
    intro h
    have x2 : (m &&& (m - 1)) / 2 = m / 2 &&& (m - 1) / 2 := Nat.and_div_two
    have x4 : (m &&& (m - 1)) % 2 = m % 2 * ((m - 1) % 2) := by
      have := bt_and m (m - 1) 0
      rwa [bt_0, bt_0, bt_0] at this
    rcases Nat.mod_two_eq_zero_or_one m with h2 | h2
    · obtain ⟨o, h3, h4⟩ := ih (m / 2) (by omega) (by omega)
      refine ⟨o + 1, by rw [bt_half]; exact h3, ?_⟩
      rw [show (m - 1) / 2 = m / 2 - 1 by omega] at x2
      rw [h2] at x4
      have le : m / 2 &&& (m / 2 - 1) ≤ m / 2 := Nat.and_le_left
      rw [Nat.pow_succ]
      omega
    · refine ⟨0, by rw [bt_0]; exact h2, ?_⟩
      rw [show (m - 1) / 2 = m / 2 by omega, Nat.and_self] at x2
      rw [h2, show (m - 1) % 2 = 0 by omega] at x4
      show _ = 1
      omega
theorem low_int {m : Nat} (h : 0 < m) : ∃ o, bt m o = 1 ∧ Builtin.bitAnd (m : Int) (0 - (m : Int)) = ((2 ^ o : Nat) : Int) := by
  obtain ⟨o, h1, h2⟩ := low_bit m h
  refine ⟨o, h1, ?_⟩
  rw [bitAnd_pn (by omega) (by omega)]
  have e : (Builtin.bitNot (0 - (m : Int))).toNat = m - 1 := by
    unfold Builtin.bitNot
    omega
  rw [e, Int.toNat_natCast]
  have := Nat.and_le_left (n := m) (m := m - 1)
  omega
theorem bits_pow {o : Nat} : Builtin.Int.intBits ((2 ^ o : Nat) : Int) = o + 1 := by
  have p := Nat.two_pow_pos o
  unfold Builtin.Int.intBits
  rw [Int.natAbs_natCast, Nat.log2_two_pow]
  have p2 : ¬ ((2 ^ o : Nat) : Int) = 0 := by omega
  simp only [beq_iff_eq, if_neg p2]
/-- a wire's bit taken away -/
def clr (m w : Nat) : Nat := m - bt m w * 2 ^ w
theorem bt_clr {m w i : Nat} : bt (clr m w) i = if i = w then 0 else bt m i := by
  unfold clr
  rw [clear_]
  split
  · rename_i h
    rw [bt_flip1]
    by_cases e : i = w
    · rw [if_pos e, if_pos e, h]
    · rw [if_neg e, if_neg e]
  · rename_i h
    have := bt_le m w
    by_cases e : i = w
    · rw [if_pos e, e]; omega
    · rw [if_neg e]
theorem clr_int {m w : Nat} : Builtin.bitAnd (m : Int) (0 - 1 - ((2 ^ w : Nat) : Int)) = (clr m w : Int) := by
  have e : ∀ p : Nat, Builtin.bitAnd (m : Int) (0 - 1 - (p : Int)) = (m : Int) - ((m &&& p : Nat) : Int) := fun p => by
    rw [bitAnd_pn (by omega) (by omega)]
    have e : (Builtin.bitNot (0 - 1 - (p : Int))).toNat = p := by
      unfold Builtin.bitNot
      omega
    rw [e, Int.toNat_natCast]
  rw [e]
  have h : m &&& 2 ^ w = bt m w * 2 ^ w := bt_ext fun i => by
    rw [bt_and, bt_pow, bt_vpow (bt_le _ _)]
    by_cases q : i = w
    · subst q; rw [if_pos rfl, if_pos rfl, Nat.mul_one]
    · rw [if_neg q, if_neg q, Nat.mul_zero]
  rw [h]
  unfold clr
  have : bt m w * 2 ^ w ≤ m := by rw [← h]; exact Nat.and_le_left
  omega
/-- z at a wire, or x -/
def zw (w : Nat) : Rw := ⟨0, 0, 2 ^ w⟩
def xw (w : Nat) : Rw := ⟨0, 2 ^ w, 0⟩
theorem zw_ok {n w : Nat} (h : w < n) : (zw w).Ok n := ⟨Nat.zero_lt_two, Nat.two_pow_pos n, pow_lt h⟩
theorem xw_ok {n w : Nat} (h : w < n) : (xw w).Ok n := ⟨Nat.zero_lt_two, pow_lt h, Nat.two_pow_pos n⟩
theorem pc_single {n w m : Nat} (h : w < n) : pc n (2 ^ w &&& m) = bt m w := by
  have e : 2 ^ w &&& m = bt m w * 2 ^ w := bt_ext fun i => by
    rw [bt_and, bt_pow, bt_vpow (bt_le _ _)]
    by_cases q : i = w
    · subst q; rw [if_pos rfl, if_pos rfl, Nat.one_mul]
    · rw [if_neg q, if_neg q, Nat.zero_mul]
  rw [e]
  unfold pc
  rw [sm_congr (g := fun j => if j = w then bt m w else 0) (fun j _ => bt_vpow (bt_le _ _)), sm_one h]
theorem bes_zw {n w : Nat} {q : Rw} (h : w < n) : bes n (zw w) q = decide (bt q.x w = 0) := by
  unfold bes bp zw
  dsimp only
  rw [Nat.zero_and, pc_zero, pc_single h]
  have := bt_le q.x w
  congr 1
  apply propext
  omega
theorem bes_xw {n w : Nat} {q : Rw} (h : w < n) : bes n (xw w) q = decide (bt q.z w = 0) := by
  unfold bes bp xw
  dsimp only
  rw [Nat.zero_and, pc_zero, pc_single h]
  have := bt_le q.z w
  congr 1
  apply propext
  omega
theorem dRow_one {d : Dd} : dRow d one = one := by
  have z : ∀ k, bt 0 k = 0 := fun k => by simp [bt]
  cases d <;> simp [dRow, one, z, exch]
theorem rowB_one : ∀ {ds : List Dd}, rowB ds one = one
  | [] => rfl
  | d :: ds => by rw [rowB_cons, dRow_one, rowB_one]
theorem one_xz {r : Rw} : (r.x = 0 ∧ r.z = 0) ↔ (r.x = one.x ∧ r.z = one.z) := Iff.rfl
theorem rowB_letters {n : Nat} {ds : List Dd} {r : Rw} (hd : ∀ d ∈ ds, d.Ok n) (hr : r.Ok n) : ((rowB ds r).x = 0 ∧ (rowB ds r).z = 0) ↔ (r.x = 0 ∧ r.z = 0) := by
  have := xz_rowB hd hr (one_ok n)
  rw [rowB_one] at this
  exact this
/-- the wires turned over at the beginning -/
def begW (px : Bool) (w n : Nat) (q : Rw) : Nat → List Nat := fun o => (if px = true then [w] else []) ++ (if bes n (if px = true then xw w else zw w) q = true ∧ clr (q.x ||| q.z) w ≠ 0 then (if bt q.x o = 0 then [o] else []) else [])
def begS (bs : List Nat) : List Dd := bs.map Dd.both
theorem both_bits {k : Nat} {r : Rw} {i : Nat} : bt (dRow (.both k) r).x i = (if i = k then bt r.z k else bt r.x i) ∧ bt (dRow (.both k) r).z i = (if i = k then bt r.x k else bt r.z i) := by
  have h : bt r.x k ^^^ bt r.z k ≤ 1 := by rw [xor01 (bt_le _ _) (bt_le _ _)]; omega
  have a := bt_le r.x k
  have b := bt_le r.z k
  constructor
  · show bt (r.x ^^^ (bt r.x k ^^^ bt r.z k) * 2 ^ k) i = _
    rw [bt_flip h]
    split
    · rw [xor01 a b]; omega
    · rfl
  · show bt (r.z ^^^ (bt r.x k ^^^ bt r.z k) * 2 ^ k) i = _
    rw [bt_flip h]
    split
    · rw [xor01 a b]; omega
    · rfl
theorem both_s {k : Nat} {r : Rw} : (dRow (.both k) r).s = r.s ^^^ (bt r.x k &&& bt r.z k) := rfl
theorem bt_z (k : Nat) : bt 0 k = 0 := by simp [bt]
theorem both_far {k w : Nat} (h : k ≠ w) : dRow (.both k) (zw w) = zw w ∧ dRow (.both k) (xw w) = xw w := by
  constructor
  · refine Rw.ext' ?_ (bt_ext fun i => ?_) (bt_ext fun i => ?_)
    · rw [both_s]; simp [zw, bt_z]
    · rw [both_bits.1]; simp only [zw, bt_z, bt_pow]; split <;> rfl
    · rw [both_bits.2]; simp only [zw, bt_z, bt_pow]; split
      · rename_i e; subst e; rw [if_neg h]
      · rfl
  · refine Rw.ext' ?_ (bt_ext fun i => ?_) (bt_ext fun i => ?_)
    · rw [both_s]; simp [xw, bt_z]
    · rw [both_bits.1]; simp only [xw, bt_z, bt_pow]; split
      · rename_i e; subst e; rw [if_neg h]
      · rfl
    · rw [both_bits.2]; simp only [xw, bt_z, bt_pow]; split <;> rfl
theorem both_near {w : Nat} : dRow (.both w) (xw w) = zw w := by
  refine Rw.ext' ?_ (bt_ext fun i => ?_) (bt_ext fun i => ?_)
  · rw [both_s]; simp [xw, zw, bt_z]
  · rw [both_bits.1]; simp only [xw, zw, bt_z, bt_pow]; split
    · rfl
    · rename_i e; first | rfl | rw [if_neg e]
  · rw [both_bits.2]; simp only [xw, zw, bt_z, bt_pow]
    split <;> rfl
theorem undo_begS {bs : List Nat} : undoW (begS bs) = (bs.map Dd.both).reverse := by
  unfold undoW begS
  rw [List.map_map]
  rfl
/-- the one work's whole has the row -/
theorem beg_plain {px : Bool} {w n o : Nat} {q : Rw} (ho : (clr (q.x ||| q.z) w ≠ 0 → o ≠ w)) : rowB (undoW (begS (begW px w n q o))) (if px = true then xw w else zw w) = zw w := by
  rw [undo_begS]
  unfold begW
  rw [List.map_append, List.reverse_append, rowB_append]
  have e : rowB (((if bes n (if px = true then xw w else zw w) q = true ∧ clr (q.x ||| q.z) w ≠ 0 then (if bt q.x o = 0 then [o] else []) else []).map Dd.both).reverse) (if px = true then xw w else zw w) = (if px = true then xw w else zw w) := by
    by_cases h : bes n (if px = true then xw w else zw w) q = true ∧ clr (q.x ||| q.z) w ≠ 0
    · rw [if_pos h]
      by_cases h2 : bt q.x o = 0
      · rw [if_pos h2]
        have := both_far (k := o) (w := w) (ho h.2)
        cases px
        · exact this.1
        · exact this.2
      · rw [if_neg h2]
        rfl
    · rw [if_neg h]
      rfl
  rw [e]
  cases px with
  | true => exact both_near
  | false => rfl
/-- the other work's whole has it not -/
theorem beg_other {px : Bool} {w n o : Nat} {q : Rw} (hw : w < n) (hq : q.Ok n) (ho : clr (q.x ||| q.z) w ≠ 0 → bt (clr (q.x ||| q.z) w) o = 1) (hne : q ≠ (if px = true then xw w else zw w)) (hl : ¬ (q.x = 0 ∧ q.z = 0)) :
    ¬ ((rowB (undoW (begS (begW px w n q o))) q).s = 0 ∧ (rowB (undoW (begS (begW px w n q o))) q).x = 0) := by
  have how : clr (q.x ||| q.z) w ≠ 0 → o ≠ w ∧ (bt q.x o = 1 ∨ bt q.z o = 1) := fun h => by
    have := ho h
    rw [bt_clr] at this
    split at this
    · cases this
    · rename_i e
      rw [bt_or] at this
      refine ⟨e, ?_⟩
      split at this
      · assumption
      · cases this
  rintro ⟨h1, h2⟩
  rw [undo_begS] at h1 h2
  have yes : ∀ {T : List Nat}, (bes n (if px = true then xw w else zw w) q = true ∧ clr (q.x ||| q.z) w ≠ 0) → (if bt q.x o = 0 then [o] else []) = T → begW px w n q o = (if px = true then [w] else []) ++ T := fun h e => by
    unfold begW
    rw [if_pos (show bes n (if px = true then xw w else zw w) q = true ∧ clr (q.x ||| q.z) w ≠ 0 from h), e]
  have no : ¬ (bes n (if px = true then xw w else zw w) q = true ∧ clr (q.x ||| q.z) w ≠ 0) → begW px w n q o = (if px = true then [w] else []) ++ [] := fun h => by
    unfold begW
    rw [if_neg (show ¬ (bes n (if px = true then xw w else zw w) q = true ∧ clr (q.x ||| q.z) w ≠ 0) from h)]
  have app : ∀ {T : List Nat}, rowB ((((if px = true then [w] else []) ++ T).map Dd.both).reverse) q = rowB (((if px = true then [w] else []).map Dd.both).reverse) (rowB ((T.map Dd.both).reverse) q) := fun {T} => by
    rw [List.map_append, List.reverse_append, rowB_append]
  have zero : ∀ {m i : Nat}, m = 0 → bt m i = 0 := fun h => by rw [h]; exact bt_z _
  by_cases hb : bes n (if px = true then xw w else zw w) q = true
  · by_cases hr : clr (q.x ||| q.z) w ≠ 0
    · obtain ⟨o1, o2⟩ := how hr
      by_cases hx : bt q.x o = 0
      · rw [yes ⟨hb, hr⟩ (if_pos hx), app] at h2
        have hz : bt q.z o = 1 := by rcases o2 with h | h; · omega
                                     · exact h
        have b1 : bt (dRow (.both o) q).x o = 1 := by rw [both_bits.1, if_pos rfl, hz]
        cases px with
        | true =>
          have := zero (i := o) h2
          have e : bt (dRow (.both w) (dRow (.both o) q)).x o = 0 := this
          rw [both_bits.1, if_neg o1, b1] at e
          cases e
        | false =>
          have e : bt (dRow (.both o) q).x o = 0 := zero h2
          omega
      · rw [yes ⟨hb, hr⟩ (if_neg hx), app] at h2
        have h1 : bt q.x o = 1 := by have := bt_le q.x o; omega
        cases px with
        | true =>
          have e : bt (dRow (.both w) q).x o = 0 := zero h2
          rw [both_bits.1, if_neg o1] at e
          omega
        | false =>
          have e : bt q.x o = 0 := zero h2
          omega
    · have hr0 : clr (q.x ||| q.z) w = 0 := by
        rcases Nat.eq_zero_or_pos (clr (q.x ||| q.z) w) with h | h
        · exact h
        · exact absurd (by omega) hr
      rw [no (fun z => z.2 hr0), app] at h1 h2
      have far : ∀ i, i ≠ w → bt q.x i = 0 ∧ bt q.z i = 0 := fun i hi => by
        have := zero (i := i) hr0
        rw [bt_clr, if_neg hi, bt_or] at this
        have a := bt_le q.x i
        have b := bt_le q.z i
        split at this
        · cases this
        · omega
      cases px with
      | true =>
        have hb : bes n (xw w) q = true := hb
        rw [bes_xw hw] at hb
        have hzw := of_decide_eq_true hb
        have ez : q.z = 0 := bt_ext fun i => by
          rw [bt_z]
          by_cases e : i = w
          · rw [e]; exact hzw
          · exact (far i e).2
        have ex : q.x = 2 ^ w := bt_ext fun i => by
          rw [bt_pow]
          split
          · rename_i e
            rw [e]
            rcases bt01 q.x w with h | h
            · exfalso
              refine hl ⟨bt_ext fun j => ?_, ez⟩
              rw [bt_z]
              by_cases e : j = w
              · rw [e]; exact h
              · exact (far j e).1
            · exact h
          · rename_i e
            exact (far i e).1
        have es : q.s = 1 := by
          rcases s01 hq.s with h | h
          · exact absurd (Rw.ext' h ex ez) hne
          · exact h
        have e : (dRow (.both w) q).s = 0 := h1
        rw [both_s, es, ez, bt_z, Nat.and_zero] at e
        cases e
      | false =>
        have hb : bes n (zw w) q = true := hb
        rw [bes_zw hw] at hb
        have hxw := of_decide_eq_true hb
        have ex : q.x = 0 := bt_ext fun i => by
          rw [bt_z]
          by_cases e : i = w
          · rw [e]; exact hxw
          · exact (far i e).1
        have ez : q.z = 2 ^ w := bt_ext fun i => by
          rw [bt_pow]
          split
          · rename_i e
            rw [e]
            rcases bt01 q.z w with h | h
            · exfalso
              refine hl ⟨ex, bt_ext fun j => ?_⟩
              rw [bt_z]
              by_cases e : j = w
              · rw [e]; exact h
              · exact (far j e).2
            · exact h
          · rename_i e
            exact (far i e).2
        have es : q.s = 1 := by
          rcases s01 hq.s with h | h
          · exact absurd (Rw.ext' h ex ez) hne
          · exact h
        have e : q.s = 0 := h1
        omega
  · rw [no (fun z => hb z.1), app] at h2
    cases px with
    | true =>
      have hb : ¬ bes n (xw w) q = true := hb
      rw [bes_xw hw] at hb
      have hz : bt q.z w = 1 := by
        rcases bt01 q.z w with h | h
        · exact absurd (decide_eq_true h) hb
        · exact h
      have e : bt (dRow (.both w) q).x w = 0 := zero h2
      rw [both_bits.1, if_pos rfl] at e
      omega
    | false =>
      have hb : ¬ bes n (zw w) q = true := hb
      rw [bes_zw hw] at hb
      have hx : bt q.x w = 1 := by
        rcases bt01 q.x w with h | h
        · exact absurd (decide_eq_true h) hb
        · exact h
      have e : bt q.x w = 0 := zero h2
      omega
end TW
/-! TM11: wholes that are the same but for a factor. -/
namespace TW
open PySem PySem.Spec L2 PyProof.Rows
def gm (a b : GI) : GI := (a.1 * b.1 - a.2 * b.2, a.1 * b.2 + a.2 * b.1)
theorem gm_comm (a b : GI) : gm a b = gm b a := by
  unfold gm
  refine Prod.ext ?_ ?_ <;> dsimp only <;> grind
theorem gm_assoc (a b c : GI) : gm (gm a b) c = gm a (gm b c) := by
  unfold gm
  refine Prod.ext ?_ ?_ <;> dsimp only <;> grind
theorem sq_zero {a b : Int} (h : a * a + b * b = 0) : a = 0 ∧ b = 0 := by
  have h1 : 0 ≤ a * a := by
    rcases Int.le_total 0 a with h | h
    · exact Int.mul_nonneg h h
    · exact Int.mul_nonneg_of_nonpos_of_nonpos h h
  have h2 : 0 ≤ b * b := by
    rcases Int.le_total 0 b with h | h
    · exact Int.mul_nonneg h h
    · exact Int.mul_nonneg_of_nonpos_of_nonpos h h
  have e1 : a * a = 0 := by omega
  have e2 : b * b = 0 := by omega
  exact ⟨by rcases Int.mul_eq_zero.mp e1 with h | h <;> exact h, by rcases Int.mul_eq_zero.mp e2 with h | h <;> exact h⟩
theorem gm_cancel {a b c : GI} (ha : a ≠ (0, 0)) (h : gm b a = gm c a) : b = c := by
  obtain ⟨x, y⟩ := a
  obtain ⟨p, q⟩ := b
  obtain ⟨r, s⟩ := c
  unfold gm at h
  have h1 : p * x - q * y = r * x - s * y := congrArg Prod.fst h
  have h2 : p * y + q * x = r * y + s * x := congrArg Prod.snd h
  have e1 : (p - r) * (x * x + y * y) = 0 := by grind
  have e2 : (q - s) * (x * x + y * y) = 0 := by grind
  have nz : ¬ (x * x + y * y = 0) := fun z => by
    obtain ⟨z1, z2⟩ := sq_zero z
    exact ha (by rw [z1, z2])
  rcases Int.mul_eq_zero.mp e1 with h | h
  · rcases Int.mul_eq_zero.mp e2 with h' | h'
    · exact Prod.ext (by show p = r; omega) (by show q = s; omega)
    · exact absurd h' nz
  · exact absurd h nz
theorem gm_nz {a b : GI} (ha : a ≠ (0, 0)) (hb : b ≠ (0, 0)) : gm a b ≠ (0, 0) := fun z => by
  have : gm a b = gm (0, 0) b := by rw [z]; unfold gm; simp
  exact ha (gm_cancel hb this)
/-- crosswise alike with one that is not nothing: with all -/
theorem cross_all {f g : Nat → GI} {k0 : Nat} (h0 : g k0 ≠ (0, 0)) {h t : Nat} (h1 : gm (f h) (g k0) = gm (g h) (f k0)) (h2 : gm (f t) (g k0) = gm (g t) (f k0)) : gm (f h) (g t) = gm (g h) (f t) := by
  refine gm_cancel h0 ?_
  have a1 : gm (gm (f h) (g t)) (g k0) = gm (gm (f h) (g k0)) (g t) := by rw [gm_assoc, gm_comm (g t), ← gm_assoc]
  have a2 : gm (gm (g h) (f t)) (g k0) = gm (g h) (gm (f t) (g k0)) := gm_assoc _ _ _
  rw [a1, h1, a2, h2, gm_assoc, gm_comm (f k0)]
def timesL (f : GI) (l : WL) : WL := l.map fun p => (p.1, gm p.2 f)
theorem times_keys {f : GI} {l : WL} : (timesL f l).map Prod.fst = l.map Prod.fst := by unfold timesL; rw [List.map_map]; rfl
theorem times_nz {f : GI} {l : WL} (hf : f ≠ (0, 0)) (h : NZ l) : NZ (timesL f l) := fun p hp => by
  obtain ⟨q, hq, rfl⟩ := List.mem_map.mp hp
  exact gm_nz (h q hq) hf
theorem times_nod {f : GI} {l : WL} (h : Nod l) : Nod (timesL f l) := by unfold Nod; rw [times_keys]; exact h
theorem times_wget {f : GI} {l : WL} {k : Nat} : wget (timesL f l) k = (wget l k).map fun g => gm g f := by
  unfold wget timesL
  rw [List.find?_map]
  cases h : List.find? ((fun (p : Nat × GI) => decide (p.1 = k)) ∘ fun (p : Nat × GI) => (p.1, gm p.2 f)) l with
  | none =>
    have : List.find? (fun p => decide (p.1 = k)) l = none := h
    rw [this]; rfl
  | some q =>
    have : List.find? (fun p => decide (p.1 = k)) l = some q := h
    rw [this]; rfl
theorem times_small {f : GI} {l : WL} {M N : Nat} (hf : f.1.natAbs ≤ N ∧ f.2.natAbs ≤ N) (h : Small M l) : Small (2 * (M * N)) (timesL f l) := fun p hp => by
  obtain ⟨q, hq, rfl⟩ := List.mem_map.mp hp
  obtain ⟨h1, h2⟩ := h q hq
  have m : ∀ a b : Int, a.natAbs ≤ M → b.natAbs ≤ N → (a * b).natAbs ≤ M * N := fun a b ha hb => by rw [Int.natAbs_mul]; exact Nat.mul_le_mul ha hb
  have a1 := m q.2.1 f.1 h1 hf.1
  have a2 := m q.2.2 f.2 h2 hf.2
  have a3 := m q.2.1 f.2 h1 hf.2
  have a4 := m q.2.2 f.1 h2 hf.1
  constructor
  · show (q.2.1 * f.1 - q.2.2 * f.2).natAbs ≤ _
    omega
  · show (q.2.1 * f.2 + q.2.2 * f.1).natAbs ≤ _
    omega
/-- the keys, as numbers -/
def keysZ (l : WL) : List Int := l.map fun p => (p.1 : Int)
theorem keysI_wk : ∀ l : WL, keysI (wk l) = some (keysZ l)
  | [] => rfl
  | p :: l => by
    show (keysI (wk l)).map ((p.1 : Int) :: ·) = _
    rw [keysI_wk l]
    rfl
theorem sort_wk {l : WL} (h : l.length < 64) : gSort [.dic (wk l)] = .own (.lst ((sortI (keysZ l)).map D.int)) := by
  show (match keysI (wk l) with
    | some ns => if ns.length < 64 then R.own (.lst ((sortI ns).map D.int)) else .stk
    | none => .stk) = _
  rw [keysI_wk]
  dsimp only
  rw [if_pos (by unfold keysZ; rw [List.length_map]; exact h)]
theorem sortR_wk {l : WL} (h : l.length < 64) : gSortR [.dic (wk l)] = .own (.lst ((sortI (keysZ l)).reverse.map D.int)) := by
  show (match keysI (wk l) with
    | some ns => if ns.length < 64 then R.own (.lst ((sortI ns).reverse.map D.int)) else .stk
    | none => .stk) = _
  rw [keysI_wk]
  dsimp only
  rw [if_pos (by unfold keysZ; rw [List.length_map]; exact h)]
theorem sortI_perm (ns : List Int) : (sortI ns).Perm ns := List.mergeSort_perm ns _
theorem sort_eq_mem {l m : WL} (h : sortI (keysZ l) = sortI (keysZ m)) {k : Nat} : k ∈ l.map Prod.fst ↔ k ∈ m.map Prod.fst := by
  have p : (keysZ l).Perm (keysZ m) := (sortI_perm _).symm.trans (h ▸ sortI_perm _)
  have e : ∀ l : WL, (k : Int) ∈ keysZ l ↔ k ∈ l.map Prod.fst := fun l => by
    unfold keysZ
    rw [List.mem_map, List.mem_map]
    constructor
    · rintro ⟨p, hp, e⟩
      exact ⟨p, hp, by omega⟩
    · rintro ⟨p, hp, e⟩
      exact ⟨p, hp, by omega⟩
  rw [← e, ← e]
  exact p.mem_iff
theorem sort_nats (l : WL) : ∃ ks : List Nat, sortI (keysZ l) = ks.map (fun (k : Nat) => (k : Int)) ∧ ks.Perm (l.map Prod.fst) := by
  have p := sortI_perm (keysZ l)
  refine ⟨(sortI (keysZ l)).map Int.toNat, ?_, ?_⟩
  · rw [List.map_map]
    refine (List.map_id _).symm.trans (List.map_congr_left fun z hz => ?_)
    have := p.mem_iff.mp hz
    unfold keysZ at this
    obtain ⟨q, _, e⟩ := List.mem_map.mp this
    show z = ((z.toNat : Nat) : Int)
    omega
  · have := p.map Int.toNat
    unfold keysZ at this ⊢
    rw [List.map_map] at this
    exact this
theorem min_wk {l : WL} (h : l ≠ []) : ∃ k : Nat, k ∈ l.map Prod.fst ∧ gMinD [.dic (wk l)] = .val (.int (k : Int)) := by
  have hne : keysZ l ≠ [] := fun z => h (by unfold keysZ at z; exact List.map_eq_nil_iff.mp z)
  obtain ⟨m1, _⟩ := minL_mem hne
  unfold keysZ at m1
  obtain ⟨p, hp, e⟩ := List.mem_map.mp m1
  refine ⟨p.1, List.mem_map_of_mem hp, ?_⟩
  show (match keysI (wk l) with
    | some ns => if ns = [] then R.stk else .val (.int (minL ns))
    | none => .stk) = _
  rw [keysI_wk]
  dsimp only
  rw [if_neg hne]
  have e : (p.1 : Int) = minL (keysZ l) := e
  rw [← e]
theorem ix_wk {l : WL} {k : Nat} (h : k ∈ l.map Prod.fst) : gIx (.dic (wk l)) (.int (k : Int)) = .val (pr (wv l k)) := by
  have : ∃ g, wget l k = some g := by
    cases q : wget l k with
    | some g => exact ⟨g, rfl⟩
    | none => exact absurd h (wget_none.mp q)
  obtain ⟨g, hg⟩ := this
  have e : wv l k = g := by unfold wv; rw [hg]; rfl
  rw [e]
  have d := dget_wk (l := l) (b := k)
  rw [hg] at d
  unfold gIx isDic
  simp only
  rw [if_pos trivial]
  unfold gIxD
  simp only [q_keyI]
  rw [d]
  rfl
end TW
namespace K23
open PySem PySem.Spec L2 TW
noncomputable section
abbrev q0 : Facts := { glos := ("multiplied" :: "same_whole" :: "_law_cell_at" :: "_law_mixed" :: "_law_bits" :: "_law_number" :: "_law_whole" :: "_law_multiplied" :: "_law_times" :: "_law_factor" :: "_law_changed" :: "_law_due" :: "_law_alike" :: "law" :: []), nos := ("sorted" :: "min" :: "len" :: "dict" :: "isinstance" :: "bool" :: []), cints := ([]), cstrs := [], cls := [], flds := [], boxf := [], excs := [], meths := ([]), mks := [], sub := ([]), kit := ([]), kitE := ([]), bas := ([]) }
def b__law_mixed : DS → Out := (oSeq (oSet 2 (dPure2 (gBin .Mod) (dPure2 (gBin .Mult) (dPure2 (gBin .Add) (dPure2 (gBin .Add) (dPure2 (gBin .Mod) (dVar 0) (dConst (.int 2147483629))) (dPure2 (gBin .Mult) (dConst (.int 69621)) (dVar 1))) (dConst (.int 1))) (dConst (.int 48271))) (dConst (.int 2147483629)))) (oSeq (oRet (dPure2 (gBin .Mod) (dPure2 (gBin .Mult) (dVar 2) (dPure2 (gBin .Add) (dPure2 (gBin .FloorDiv) (dVar 2) (dConst (.int 1009))) (dConst (.int 69621)))) (dConst (.int 2147483629)))) oNext))
def f__law_mixed : List D → R := fnRun 3 b__law_mixed
def b__law_number : DS → Out := (oSeq (oSet 2 (dCall f__law_mixed [] (dArgs [(dVar 0), (dVar 1)]))) (oSeq (oIf (asB (dPure2 (gCmp .Eq) (dPure2 (gBin .Mod) (dVar 2) (dConst (.int 3))) (dConst (.int 0)))) (oSeq (oRet (dPure2 (gBin .Sub) (dPure2 (gBin .Mod) (dPure2 (gBin .FloorDiv) (dVar 2) (dConst (.int 3))) (dConst (.int 7))) (dConst (.int 3)))) oNext) oNext) (oSeq (oRet (dPure2 gIx (dLst (dVals [(dPure2 (gBin .Sub) (dPure2 (gBin .Mod) (dPure2 (gBin .FloorDiv) (dVar 2) (dConst (.int 3))) (dConst (.int 3))) (dConst (.int 1))), (dPure2 (gBin .Sub) (dPure2 (gBin .Mod) (dPure2 (gBin .FloorDiv) (dVar 0) (dConst (.int 3))) (dPure2 (gBin .Mult) (dConst (.int 2)) (dPure2 (gBin .Pow) (dConst (.int 10)) (dConst (.int 20))))) (dPure2 (gBin .Pow) (dConst (.int 10)) (dConst (.int 20))))])) (dPure2 (gBin .Mod) (dPure2 (gBin .FloorDiv) (dVar 2) (dConst (.int 9))) (dConst (.int 2))))) oNext)))
def f__law_number : List D → R := fnRun 3 b__law_number
def b__law_bits : DS → Out := (oSeq (oRet (dPure2 (gBin .Mod) (dCall f__law_mixed [] (dArgs [(dVar 0), (dVar 1)])) (dPure2 (gBin .LShift) (dConst (.int 1)) (dVar 2)))) oNext)
def f__law_bits : List D → R := fnRun 3 b__law_bits
def b__law_whole : DS → Out := (oSeq (oSet 1 dDic0) (oSeq (oFor [2, 3] (dSeq (dVar 0)) (tgName 2) (oSeq (oSet 3 (dTup (dVals [(dCall f__law_number [] (dArgs [(dVar 2), (dConst (.int 30))])), (dCall f__law_number [] (dArgs [(dVar 2), (dConst (.int 31))]))]))) (oSeq (oIf (asB (dPure2 (gCmp .NotEq) (dVar 3) (dTup (dVals [(dConst (.int 0)), (dConst (.int 0))])))) (oSeq (oDSet (dVar 1) (dCall f__law_bits [] (dArgs [(dVar 2), (dConst (.int 20)), (dConst (.int 6))])) (dVar 3)) oNext) oNext) oNext))) (oSeq (oIf (asB (dPure2 (gCmp .Eq) (dVar 1) dDic0)) (oSeq (oDSet (dVar 1) (dConst (.int 5)) (dTup (dVals [(dConst (.int 1)), (dConst (.int 0))]))) oNext) oNext) (oSeq (oRet (dVar 1)) oNext))))
def f__law_whole : List D → R := fnRun 4 b__law_whole
def b__law_multiplied : DS → Out := (oSeq (oRet (dTup (dVals [(dPure2 (gBin .Sub) (dPure2 (gBin .Mult) (dPure2 gIx (dVar 0) (dConst (.int 0))) (dPure2 gIx (dVar 1) (dConst (.int 0)))) (dPure2 (gBin .Mult) (dPure2 gIx (dVar 0) (dConst (.int 1))) (dPure2 gIx (dVar 1) (dConst (.int 1))))), (dPure2 (gBin .Add) (dPure2 (gBin .Mult) (dPure2 gIx (dVar 0) (dConst (.int 0))) (dPure2 gIx (dVar 1) (dConst (.int 1)))) (dPure2 (gBin .Mult) (dPure2 gIx (dVar 0) (dConst (.int 1))) (dPure2 gIx (dVar 1) (dConst (.int 0)))))]))) oNext)
def f__law_multiplied : List D → R := fnRun 2 b__law_multiplied
def b__law_times : DS → Out := (oSeq (oRet (dPureN gDict (dArgs [(dLock 0 (dLc (dWalk itemsD 0) (tgTup [2, 3]) (fun S => .ok true S) (dTup (dVals [(dVar 2), (dCall f__law_multiplied [] (dArgs [(dVar 3), (dVar 1)]))])) [2, 3]))]))) oNext)
def f__law_times : List D → R := fnRun 4 b__law_times
def b__law_factor : DS → Out := (oSeq (oSet 1 (dTup (dVals [(dCall f__law_number [] (dArgs [(dVar 0), (dConst (.int 40))])), (dCall f__law_number [] (dArgs [(dVar 0), (dConst (.int 41))]))]))) (oSeq (oIf (asB (dPure2 (gCmp .Eq) (dVar 1) (dTup (dVals [(dConst (.int 0)), (dConst (.int 0))])))) (oSeq (oRet (dTup (dVals [(dConst (.int 0)), (dPure1 gNeg (dConst (.int 1)))]))) oNext) oNext) (oSeq (oRet (dVar 1)) oNext)))
def f__law_factor : List D → R := fnRun 2 b__law_factor
def b__law_cell_at : DS → Out := (oSeq (oIf (asB (dPure2 (gCmp .Lt) (dVar 1) (dPureN gLen (dArgs [(dVar 0)])))) (oSeq (oRet (dPure2 gIx (dVar 0) (dVar 1))) oNext) oNext) (oSeq (oRet (dConst (.int 0))) oNext))
def f__law_cell_at : List D → R := fnRun 2 b__law_cell_at
def b_multiplied : DS → Out := (oSeq (oRet (dTup (dVals [(dPure2 (gBin .Sub) (dPure2 (gBin .Mult) (dPure2 gIx (dVar 0) (dConst (.int 0))) (dPure2 gIx (dVar 1) (dConst (.int 0)))) (dPure2 (gBin .Mult) (dPure2 gIx (dVar 0) (dConst (.int 1))) (dPure2 gIx (dVar 1) (dConst (.int 1))))), (dPure2 (gBin .Add) (dPure2 (gBin .Mult) (dPure2 gIx (dVar 0) (dConst (.int 0))) (dPure2 gIx (dVar 1) (dConst (.int 1)))) (dPure2 (gBin .Mult) (dPure2 gIx (dVar 0) (dConst (.int 1))) (dPure2 gIx (dVar 1) (dConst (.int 0)))))]))) oNext)
def f_multiplied : List D → R := fnRun 2 b_multiplied
def b_same_whole : DS → Out := (oSeq (oIf (asB (dPure2 (gCmp .NotEq) (dPureN gSort (dArgs [(dVar 0)])) (dPureN gSort (dArgs [(dVar 1)])))) (oSeq (oRet (dConst (.bl false))) oNext) oNext) (oSeq (oSet 2 (dPureN gMinD (dArgs [(dVar 0)]))) (oSeq (oLock 0 (oFor [3, 4] (dWalk itemsD 0) (tgTup [3, 4]) (oSeq (oIf (asB (dPure2 (gCmp .NotEq) (dCall f_multiplied [] (dArgs [(dVar 4), (dPure2 gIx (dVar 1) (dVar 2))])) (dCall f_multiplied [] (dArgs [(dPure2 gIx (dVar 1) (dVar 3)), (dPure2 gIx (dVar 0) (dVar 2))])))) (oSeq (oRet (dConst (.bl false))) oNext) oNext) oNext))) (oSeq (oRet (dConst (.bl true))) oNext))))
def f_same_whole : List D → R := fnRun 5 b_same_whole
def b__law_alike : DS → Out := (oSeq (oSet 3 (dTup (dVals [(dPureN gDict (dArgs [(dVar 0)])), (dPureN gDict (dArgs [(dVar 1)]))]))) (oSeq (oFor [4] (dSeq (dLst (dVals [(dCall f_same_whole [] (dArgs [(dPure2 gIx (dVar 3) (dConst (.int 0))), (dPure2 gIx (dVar 3) (dConst (.int 1)))])), (dCall f_same_whole [] (dArgs [(dPure2 gIx (dVar 3) (dConst (.int 1))), (dPure2 gIx (dVar 3) (dConst (.int 0)))]))]))) (tgName 4) (oSeq (oIf (dOr (dNot (dTruth (dPure1 (gIsi "bool") (dVar 4)))) (asB (dPure2 (gCmp .NotEq) (dVar 4) (dVar 2)))) (oSeq (oRet (dConst (.bl false))) oNext) oNext) oNext)) (oSeq (oRet (dPure2 (gCmp .Eq) (dVar 3) (dTup (dVals [(dVar 0), (dVar 1)])))) oNext)))
def f__law_alike : List D → R := fnRun 5 b__law_alike
def b__law_changed : DS → Out := (oSeq (oSet 2 (dPureN gDict (dArgs [(dVar 0)]))) (oSeq (oSet 3 (dPureN gSort (dArgs [(dVar 2)]))) (oSeq (oSet 4 (dPure2 gIx (dVar 3) (dPure2 (gBin .Mod) (dCall f__law_mixed [] (dArgs [(dVar 1), (dConst (.int 50))])) (dPureN gLen (dArgs [(dVar 3)]))))) (oSeq (oSet 5 (dPure2 gIx (dVar 3) (dPure2 (gBin .Mod) (dCall f__law_mixed [] (dArgs [(dVar 1), (dConst (.int 51))])) (dPureN gLen (dArgs [(dVar 3)]))))) (oSeq (oSet 6 (dPure2 (gBin .Mod) (dCall f__law_mixed [] (dArgs [(dVar 1), (dConst (.int 52))])) (dConst (.int 6)))) (oSeq (oSet 7 (dPure2 gIx (dVar 2) (dVar 4))) (oSeq (oIf (asB (dPure2 (gCmp .Eq) (dVar 6) (dConst (.int 0)))) (oSeq (oDSet (dVar 2) (dVar 4) (dTup (dVals [(dPure2 (gBin .Add) (dPure2 gIx (dVar 7) (dConst (.int 0))) (dConst (.int 1))), (dPure2 gIx (dVar 7) (dConst (.int 1)))]))) oNext) oNext) (oSeq (oIf (asB (dPure2 (gCmp .Eq) (dVar 6) (dConst (.int 1)))) (oSeq (oDSet (dVar 2) (dVar 4) (dTup (dVals [(dPure2 (gBin .Sub) (dConst (.int 0)) (dPure2 gIx (dVar 7) (dConst (.int 1)))), (dPure2 gIx (dVar 7) (dConst (.int 0)))]))) oNext) oNext) (oSeq (oIf (dAnd (asB (dPure2 (gCmp .Eq) (dVar 6) (dConst (.int 2)))) (asB (dPure2 (gCmp .Gt) (dPureN gLen (dArgs [(dVar 2)])) (dConst (.int 1))))) (oSeq (oExpr (dDPop1 (dVar 2) (dVar 4))) oNext) oNext) (oSeq (oIf (asB (dPure2 (gCmp .Eq) (dVar 6) (dConst (.int 3)))) (oSeq (oDSet (dVar 2) (dPure2 (gBin .Mod) (dCall f__law_mixed [] (dArgs [(dVar 1), (dConst (.int 53))])) (dConst (.int 64))) (dTup (dVals [(dConst (.int 1)), (dConst (.int 1))]))) oNext) oNext) (oSeq (oIf (asB (dPure2 (gCmp .Eq) (dVar 6) (dConst (.int 4)))) (oSeq (oDSet (dVar 2) (dVar 4) (dPure2 gIx (dVar 2) (dVar 5))) (oSeq (oDSet (dVar 2) (dVar 5) (dVar 7)) oNext)) oNext) (oSeq (oIf (asB (dPure2 (gCmp .Eq) (dVar 6) (dConst (.int 5)))) (oSeq (oSet 2 (dPureN gDict (dArgs [(dLc (dSeq (dVar 3)) (tgName 8) (fun S => .ok true S) (dTup (dVals [(dPure2 (gBin .BitXor) (dVar 8) (dConst (.int 1))), (dPure2 gIx (dVar 2) (dVar 8))])) [8])]))) oNext) oNext) (oSeq (oRet (dPureN gDict (dArgs [(dLc (dSeq (dPureN gSortR (dArgs [(dVar 2)]))) (tgName 8) (asB (dPure2 (gCmp .NotEq) (dPure2 gIx (dVar 2) (dVar 8)) (dTup (dVals [(dConst (.int 0)), (dConst (.int 0))])))) (dTup (dVals [(dVar 8), (dPure2 gIx (dVar 2) (dVar 8))])) [8])]))) oNext)))))))))))))
def f__law_changed : List D → R := fnRun 9 b__law_changed
def b__law_due : DS → Out := (oSeq (oIf (asB (dPure2 (gCmp .NotEq) (dPureN gSort (dArgs [(dVar 0)])) (dPureN gSort (dArgs [(dVar 1)])))) (oSeq (oRet (dConst (.bl false))) oNext) oNext) (oSeq (oLock 0 (oFor [2, 3] (dWalk keysD 0) (tgName 2) (oSeq (oLock 0 (oFor [3] (dWalk keysD 0) (tgName 3) (oSeq (oIf (asB (dPure2 (gCmp .NotEq) (dCall f__law_multiplied [] (dArgs [(dPure2 gIx (dVar 0) (dVar 2)), (dPure2 gIx (dVar 1) (dVar 3))])) (dCall f__law_multiplied [] (dArgs [(dPure2 gIx (dVar 1) (dVar 2)), (dPure2 gIx (dVar 0) (dVar 3))])))) (oSeq (oRet (dConst (.bl false))) oNext) oNext) oNext))) oNext))) (oSeq (oRet (dConst (.bl true))) oNext)))
def f__law_due : List D → R := fnRun 4 b__law_due
def b_law : DS → Out := (oSeq (oSet 1 (dCall f__law_whole [] (dArgs [(dSl (dVar 0) (some (dConst (.int 3))) (some (dConst (.int 12))))]))) (oSeq (oSet 2 (dCall f__law_times [] (dArgs [(dVar 1), (dCall f__law_factor [] (dArgs [(dCall f__law_cell_at [] (dArgs [(dVar 0), (dConst (.int 0))]))]))]))) (oSeq (oSet 3 (dCall f__law_times [] (dArgs [(dVar 1), (dCall f__law_factor [] (dArgs [(dCall f__law_cell_at [] (dArgs [(dVar 0), (dConst (.int 1))]))]))]))) (oSeq (oIf (dOr (dNot (dTruth (dCall f__law_alike [] (dArgs [(dVar 2), (dVar 3), (dConst (.bl true))])))) (dOr (dNot (dTruth (dCall f__law_alike [] (dArgs [(dVar 1), (dVar 2), (dConst (.bl true))])))) (dNot (dTruth (dCall f__law_alike [] (dArgs [(dVar 1), (dVar 1), (dConst (.bl true))])))))) (oSeq (oRet (dConst (.bl false))) oNext) oNext) (oSeq (oSet 4 (dCall f__law_changed [] (dArgs [(dVar 3), (dCall f__law_cell_at [] (dArgs [(dVar 0), (dConst (.int 2))]))]))) (oSeq (oIf (asB (dPure2 (gCmp .Eq) (dVar 4) dDic0)) (oSeq (oRet (dConst (.bl true))) oNext) oNext) (oSeq (oRet (dCall f__law_alike [] (dArgs [(dVar 2), (dVar 4), (dCall f__law_due [] (dArgs [(dVar 2), (dVar 4)]))]))) oNext)))))))
def f_law : List D → R := fnRun 5 b_law
end
end K23
namespace K23
open PySem PySem.Spec L2 TW PyProof.Rows

/-! drawn numbers (a template's text) -/
theorem sm1000 {a : Int} (h : a.natAbs < 10 ^ 60) : a.natAbs < 2 ^ 1000 := Nat.lt_trans h (by decide +kernel)
theorem mixed_ {c k : Int} (h0 : 0 ≤ k) (hk : k ≤ 1000) : ∃ m : Nat, f__law_mixed [.int c, .int k] = .val (.int m) ∧ m < 2147483629 := by
  obtain ⟨a, ea, ha⟩ := mod_nat (a := c) (show 0 < 2147483629 by decide)
  have ea : c % 2147483629 = (a : Int) := ea
  obtain ⟨b, eb, hb⟩ := mod_nat (a := ((a : Int) + 69621 * k + 1) * 48271) (show 0 < 2147483629 by decide)
  have eb : ((a : Int) + 69621 * k + 1) * 48271 % 2147483629 = (b : Int) := eb
  obtain ⟨d, ed, hd⟩ := mod_nat (a := (b : Int) * ((b : Int) / 1009 + 69621)) (show 0 < 2147483629 by decide)
  have ed : (b : Int) * ((b : Int) / 1009 + 69621) % 2147483629 = (d : Int) := ed
  have m1 : gBin .Mult (.int 69621) (.int k) = .val (.int (69621 * k)) := q_mul (by decide) (sm1000 (by omega))
  have m2 : gBin .Mult (.int ((a : Int) + 69621 * k + 1)) (.int 48271) = .val (.int (((a : Int) + 69621 * k + 1) * 48271)) := q_mul (sm1000 (by omega)) (by decide)
  have m3 : gBin .Mult (.int (b : Int)) (.int ((b : Int) / 1009 + 69621)) = .val (.int ((b : Int) * ((b : Int) / 1009 + 69621))) := q_mul (sm1000 (by omega)) (sm1000 (by omega))
  refine ⟨d, ?_, hd⟩
  unfold f__law_mixed fnRun b__law_mixed S0
  simp [q_mod, q_div, ea, m1, m2, eb, m3, ed]
theorem pow20 : gBin .Pow (.int 10) (.int 20) = .val (.int 100000000000000000000) := by
  show (if CPowX 10 20 then R.val (.int (10 ^ (20 : Int).toNat)) else .stk) = _
  rw [if_pos (by decide +kernel)]
  rfl
theorem number_ {c k : Int} (h0 : 0 ≤ k) (hk : k ≤ 900) : ∃ v : Int, f__law_number [.int c, .int k] = .val (.int v) ∧ v.natAbs ≤ 10 ^ 20 := by
  obtain ⟨m, em, hm⟩ := mixed_ (c := c) h0 (by omega)
  have m2 : gBin .Mult (.int 2) (.int 100000000000000000000) = .val (.int 200000000000000000000) := q_mul2 (by decide)
  unfold f__law_number fnRun b__law_number S0
  by_cases h3 : (m : Int) % 3 = 0
  · refine ⟨(m : Int) / 3 % 7 - 3, ?_, by omega⟩
    simp [em, q_mod, q_div, h3]
  · by_cases h9 : (m : Int) / 9 % 2 = 0
    · refine ⟨(m : Int) / 3 % 3 - 1, ?_, by omega⟩
      simp [em, q_mod, q_div, h3, pow20, m2, h9]
    · have h9 : (m : Int) / 9 % 2 = 1 := by omega
      refine ⟨c / 3 % 200000000000000000000 - 100000000000000000000, ?_, by omega⟩
      simp [em, q_mod, q_div, h3, pow20, m2, h9]
end K23
namespace K23
open PySem PySem.Spec L2 TW PyProof.Rows
theorem cell_at_ {ns : List Int} {k : Nat} : ∃ z : Int, f__law_cell_at [.scr (ns.map D.int), .int k] = .val (.int z) := by
  unfold f__law_cell_at fnRun b__law_cell_at S0
  by_cases h : k < ns.length
  · obtain ⟨z, _, e⟩ := atI_map (xs := ns) (i := (k : Int)) (by omega) (by omega)
    exact ⟨z, by simp [h, e]⟩
  · exact ⟨0, by simp [h]⟩
theorem bits1_ {c k : Int} {n : Nat} (h0 : 0 ≤ k) (hk : k ≤ 900) (hn : n ≤ 100) : ∃ m : Nat, f__law_bits [.int c, .int k, .int n] = .val (.int m) ∧ m < 2 ^ n := by
  obtain ⟨a, ea, ha⟩ := mixed_ (c := c) h0 (by omega)
  obtain ⟨m, em, hm⟩ := mod_pow (a := (a : Int)) n
  refine ⟨m, ?_, hm⟩
  unfold f__law_bits fnRun b__law_bits S0
  simp [ea, shl_p hn, mod_p, em]
/-- the bound of what is multiplied -/
theorem mul_ok_ {a b : GI} {M : Nat} (hM : M ≤ 10 ^ 100) (ha : a.1.natAbs ≤ M ∧ a.2.natAbs ≤ M) (hb : b.1.natAbs ≤ M ∧ b.2.natAbs ≤ M) : f_multiplied [pr a, pr b] = .val (pr (gm a b)) ∧ f__law_multiplied [pr a, pr b] = .val (pr (gm a b)) := by
  have big : ∀ {z : Int}, z.natAbs ≤ M → z.natAbs < 2 ^ 1000 := fun h => Nat.lt_of_le_of_lt (Nat.le_trans h hM) (by decide +kernel)
  have m : ∀ x y : Int, x.natAbs ≤ M → y.natAbs ≤ M → gBin .Mult (.int x) (.int y) = .val (.int (x * y)) := fun x y h1 h2 => q_mul (big h1) (big h2)
  have m1 := m a.1 b.1 ha.1 hb.1
  have m2 := m a.2 b.2 ha.2 hb.2
  have m3 := m a.1 b.2 ha.1 hb.2
  have m4 := m a.2 b.1 ha.2 hb.1
  constructor
  · unfold f_multiplied fnRun b_multiplied S0
    simp [pr, m1, m2, m3, m4, gm]
  · unfold f__law_multiplied fnRun b__law_multiplied S0
    simp [pr, m1, m2, m3, m4, gm]
theorem pr_ne {a b : GI} : gCmp .NotEq (pr a) (pr b) = .val (.bl (!decide (a = b))) := by
  unfold pr
  rw [q_ne_tup2]
  congr 3
  by_cases h : a = b
  · subst h; simp
  · have : ¬ (a.1 = b.1 ∧ a.2 = b.2) := fun z => h (Prod.ext z.1 z.2)
    rw [decide_eq_false h]
    by_cases h1 : a.1 = b.1
    · have h2 : ¬ a.2 = b.2 := fun z => this ⟨h1, z⟩
      simp [h2]
    · simp [h1]
theorem whole_ {ns : List Int} : ∃ cs : List Int, TW.cutD (ns.map D.int) (some 3) (some 12) = cs.map D.int ∧ ∃ l : WL, f__law_whole [.lst (cs.map D.int)] = .own (.dic (wk l)) ∧ Nod l ∧ NZ l ∧ Small (10 ^ 20) l ∧ l.length ≤ 10 ∧ l ≠ [] := by
  obtain ⟨cs, hcs, hcl, _⟩ := cut_at (ns := ns) (a := 3) (b := 12)
  have hcs : TW.cutD (ns.map D.int) (some 3) (some 12) = cs.map D.int := hcs
  have hcl : cs.length ≤ 9 := hcl
  refine ⟨cs, hcs, ?_⟩
  unfold f__law_whole fnRun b__law_whole S0
  simp
  refine for_seq (fun o => ∃ l : WL, outR o = .own (.dic (wk l)) ∧ Nod l ∧ NZ l ∧ Small (10 ^ 20) l ∧ l.length ≤ 10 ∧ l ≠ []) (fun k S => ∃ l o p, Nod l ∧ NZ l ∧ Small (10 ^ 20) l ∧ l.length ≤ k ∧ S = ⟨[some (.val (.lst (cs.map D.int))), some (.own (.dic (wk l)) false), o, p], []⟩) (xs := cs.map D.int) (S0 := ⟨[some (.val (.lst (cs.map D.int))), some (.own (.dic []) false), none, none], []⟩) (by simp) ⟨[], none, none, List.nodup_nil, (fun p hp => nomatch hp), (fun p hp => nomatch hp), Nat.le_refl _, rfl⟩ ?_ ?_
  · rintro k hk S ⟨l, o, p, h1, h2, h4, h5, rfl⟩
    rw [List.length_map] at hk
    rw [List.getElem_map]
    generalize cs[k] = z
    obtain ⟨x, ex, hx⟩ := number_ (c := z) (k := 30) (by decide) (by decide)
    obtain ⟨y, ey, hy⟩ := number_ (c := z) (k := 31) (by decide) (by decide)
    obtain ⟨b, eb, hb⟩ := bits1_ (c := z) (k := 20) (n := 6) (by decide) (by decide) (by omega)
    have eb : f__law_bits [.int z, .int 20, .int 6] = .val (.int b) := eb
    by_cases hz : ((x, y) : GI) = (0, 0)
    · refine ⟨_, _, rfl, .inl (?_ : _ = Out.next ⟨[some (.val (.lst (cs.map D.int))), some (.own (.dic (wk l)) false), some (.val (.int z)), some (.val (.tup [.int x, .int y]))], []⟩), ⟨l, _, _, h1, h2, h4, by omega, rfl⟩⟩
      have hx0 : x = 0 := congrArg Prod.fst hz
      have hy0 : y = 0 := congrArg Prod.snd hz
      simp [ex, ey, hx0, hy0]
    · have e2 := dset_plc (S := ⟨[some (.val (.lst (cs.map D.int))), some (.own (.dic (wk l)) false), some (.val (.int z)), some (.val (.tup [.int x, .int y]))], []⟩) (kvs := wk l) (key := .inl (b : Int)) (d := pr (x, y)) (fo := dVar 1) (fk := dCall f__law_bits [] (dArgs [(dVar 2), (dConst (.int 20)), (dConst (.int 6))])) (fv := dVar 3) (i := 1) (rk := .val (.int b)) rfl rfl rfl (by simp [eb]) rfl (by unfold wk sizeLine; rw [List.length_map]; omega)
      rw [dput_wk] at e2
      refine ⟨_, _, rfl, .inl (?_ : _ = Out.next ⟨[some (.val (.lst (cs.map D.int))), some (.own (.dic (wk (wput l b (x, y)))) false), some (.val (.int z)), some (.val (.tup [.int x, .int y]))], []⟩), ⟨_, _, _, h1.put, h2.put hz, h4.put ⟨hx, hy⟩, Nat.le_trans len_put (by omega), rfl⟩⟩
      have hz' : ¬ x = 0 ∨ ¬ y = 0 := Decidable.not_and_iff_not_or_not.mp fun h => hz (by rw [h.1, h.2])
      simp [ex, ey, hz', q_seq_dset]
      rw [e2]
      rfl
  · rintro S' ⟨l, o, p, h1, h2, h4, h5, rfl⟩
    rw [List.length_map] at h5
    by_cases h : l = []
    · subst h
      have e2 := dset_plc (kvs := []) (key := .inl ((5 : Nat) : Int)) (d := pr (1, 0)) (fo := dVar 1) (fk := dConst (.int 5)) (fv := dTup (dVals [(dConst (.int 1)), (dConst (.int 0))])) (S := ⟨[some (.val (.lst (cs.map D.int))), some (.own (.dic []) false), o, p], []⟩) (i := 1) (rk := .val (.int 5)) rfl rfl rfl rfl rfl (by simp)
      have eq : gCmp .Eq (.dic []) (.dic []) = .val (.bl true) := rfl
      refine ⟨[(5, (1, 0))], ?_, by simp [Nod], fun p hp => by rw [List.mem_singleton] at hp; rw [hp]; exact (by decide : ((1, 0) : GI) ≠ (0, 0)), fun p hp => by rw [List.mem_singleton] at hp; rw [hp]; exact ⟨by decide, by decide⟩, by simp, by simp⟩
      have e3 : wk [] = [] := rfl
      have e4 : dput ([] : List (Key × D)) (.inl ((5 : Nat) : Int)) (pr (1, 0)) = wk [(5, ((1, 0) : GI))] := rfl
      rw [e4] at e2
      simp [e3, eq, q_seq_dset]
      rw [e2]
      simp
    · have eq : gCmp .Eq (.dic (wk l)) (.dic []) = .val (.bl false) := by
        show oB (eqDic (wk l) (wk [])) = _
        rw [eqDic_wk]
        have : ¬ l.length = 0 := fun z => h (List.eq_nil_of_length_eq_zero z)
        simp [this, oB]
      refine ⟨l, ?_, h1, h2, h4, by omega, h⟩
      simp [eq]
theorem factor_ {c : Int} : ∃ f : GI, f__law_factor [.int c] = .val (pr f) ∧ f ≠ (0, 0) ∧ f.1.natAbs ≤ 10 ^ 20 ∧ f.2.natAbs ≤ 10 ^ 20 := by
  obtain ⟨x, ex, hx⟩ := number_ (c := c) (k := 40) (by decide) (by decide)
  obtain ⟨y, ey, hy⟩ := number_ (c := c) (k := 41) (by decide) (by decide)
  unfold f__law_factor fnRun b__law_factor S0
  by_cases hz : x = 0 ∧ y = 0
  · refine ⟨(0, -1), ?_, by decide, by decide, by decide⟩
    simp [ex, ey, hz.1, hz.2, pr]
  · refine ⟨(x, y), ?_, fun z => hz ⟨congrArg Prod.fst z, congrArg Prod.snd z⟩, hx, hy⟩
    by_cases h0 : x = 0
    · have h1 : ¬ y = 0 := fun z => hz ⟨h0, z⟩
      simp [ex, ey, h0, h1, pr]
    · simp [ex, ey, h0, pr]
def tmD (f : GI) : D → D
  | .tup [k, .tup [.int a, .int b]] => .tup [k, pr (gm (a, b) f)]
  | _ => .non
theorem items_tm {f : GI} : ∀ l : WL, (itemsD (wk l)).map (tmD f) = itemsD (wk (timesL f l))
  | [] => rfl
  | p :: l => by
    show tmD f (.tup [.int p.1, .tup [.int p.2.1, .int p.2.2]]) :: (itemsD (wk l)).map (tmD f) = _
    rw [items_tm l]
    rfl
theorem times_ {l : WL} {f : GI} (nd : Nod l) (hs : Small (10 ^ 20) l) (hl : l.length ≤ 20) (hf : f.1.natAbs ≤ 10 ^ 20 ∧ f.2.natAbs ≤ 10 ^ 20) : f__law_times [.dic (wk l), pr f] = .own (.dic (wk (timesL f l))) := by
  have e : dLc (dWalk itemsD 0) (tgTup [2, 3]) (fun S => .ok true S) (dTup (dVals [(dVar 2), (dCall f__law_multiplied [] (dArgs [(dVar 3), (dVar 1)]))])) [2, 3] ⟨[some (.val (.dic (wk l))), some (.val (pr f)), none, none], []⟩ = .ok (.own (.lst (itemsD (wk (timesL f l))))) ⟨[some (.val (.dic (wk l))), some (.val (pr f)), none, none], []⟩ := by
    have h := lc_eq (S := ⟨[some (.val (.dic (wk l))), some (.val (pr f)), none, none], []⟩) (S0 := ⟨[some (.val (.dic (wk l))), some (.val (pr f)), none, none], []⟩) (src := dWalk itemsD 0) (tg := tgTup [2, 3]) (vs := [2, 3]) (tt := fun S => .ok true S) (te := dTup (dVals [(dVar 2), (dCall f__law_multiplied [] (dArgs [(dVar 3), (dVar 1)]))])) (xs := itemsD (wk l)) (fun _ => true) (tmD f) rfl rfl (fun x hx => by
      obtain ⟨q, hq, rfl⟩ := List.mem_map.mp hx
      obtain ⟨p, hp, rfl⟩ := List.mem_map.mp hq
      obtain ⟨b, x, y⟩ := p
      have h1 := hs _ hp
      have m := (mul_ok_ (a := (x, y)) (b := f) (M := 10 ^ 20) (by decide +kernel) h1 hf).2
      have m : f__law_multiplied [.tup [.int x, .int y], pr f] = .val (pr (gm (x, y) f)) := m
      refine ⟨⟨[some (.val (.dic (wk l))), some (.val (pr f)), some (.val (.int b)), some (.val (.tup [.int x, .int y]))], []⟩, ⟨[some (.val (.dic (wk l))), some (.val (pr f)), some (.val (.int b)), some (.val (.tup [.int x, .int y]))], []⟩, rfl, rfl, fun _ => ⟨.val (.tup [.int b, pr (gm (x, y) f)]), ⟨[some (.val (.dic (wk l))), some (.val (pr f)), some (.val (.int b)), some (.val (.tup [.int x, .int y]))], []⟩, _, ?_, rfl, rfl⟩, fun h => by cases h⟩
      generalize gm (x, y) f = g at *
      simp [m, pr] at m ⊢
      try simp [m]) (by rw [items_len]; unfold sizeLine; omega)
    rw [h, List.filter_eq_self.mpr (fun _ _ => rfl), items_tm]
    rfl
  have e2 : dLock 0 (dLc (dWalk itemsD 0) (tgTup [2, 3]) (fun S => .ok true S) (dTup (dVals [(dVar 2), (dCall f__law_multiplied [] (dArgs [(dVar 3), (dVar 1)]))])) [2, 3]) ⟨[some (.val (.dic (wk l))), some (.val (pr f)), none, none], []⟩ = .ok (.own (.lst (itemsD (wk (timesL f l))))) ⟨[some (.val (.dic (wk l))), some (.val (pr f)), none, none], []⟩ := by
    unfold dLock
    show (dLc _ _ _ _ _ ⟨_, []⟩).noExc = _
    rw [e]
    rfl
  have gd := gDict_items (times_nod (f := f) nd)
  unfold f__law_times fnRun b__law_times S0
  generalize timesL f l = m at *
  simp [e2, gd]
def Due (l m : WL) : Prop := sortI (keysZ l) = sortI (keysZ m) ∧ ∀ h ∈ l.map Prod.fst, ∀ t ∈ l.map Prod.fst, gm (wv l h) (wv m t) = gm (wv m h) (wv l t)
instance (l m : WL) : Decidable (Due l m) := inferInstanceAs (Decidable (_ ∧ _))
theorem neInts {a b : List Int} : gCmp .NotEq (.lst (a.map D.int)) (.lst (b.map D.int)) = .val (.bl (!decide (a = b))) := gNe_iff (okD_lst (n := 0) (fun _ => rfl) a) (okD_lst (n := 0) (fun _ => rfl) b) (by omega) (lst_iff (by intro a b; exact ⟨fun h => by cases h; rfl, fun h => by rw [h]⟩))
theorem wv_small {l : WL} {M : Nat} (nd : Nod l) (h : Small M l) (k : Nat) : (wv l k).1.natAbs ≤ M ∧ (wv l k).2.natAbs ≤ M := (small_iff nd).mp h k
theorem wv_nz {l : WL} (h : NZ l) {k : Nat} (hk : k ∈ l.map Prod.fst) : wv l k ≠ (0, 0) := by
  cases q : wget l k with
  | none => exact absurd hk (wget_none.mp q)
  | some g =>
    have e : wv l k = g := by unfold wv; rw [q]; rfl
    rw [e]
    exact h (k, g) (wget_some q)
theorem wv_at {l : WL} (nd : Nod l) {p : Nat × GI} (hp : p ∈ l) : wv l p.1 = p.2 := by unfold wv; rw [wget_mem nd hp]; rfl
theorem same_whole_ {l m : WL} {M : Nat} (hM : M ≤ 10 ^ 100) (nl : Nod l) (nm : Nod m) (zl : NZ l) (zm : NZ m) (sl : Small M l) (sm : Small M m) (hl : l.length < 64) (hm : m.length < 64) (ne : l ≠ []) :
    f_same_whole [.dic (wk l), .dic (wk m)] = .val (.bl (decide (Due l m))) := by
  have s1 := sort_wk hl
  have s2 := sort_wk hm
  have n1 := neInts (a := sortI (keysZ l)) (b := sortI (keysZ m))
  obtain ⟨k0, hk0, mn⟩ := min_wk ne
  unfold f_same_whole fnRun b_same_whole S0
  by_cases hs : sortI (keysZ l) = sortI (keysZ m)
  · have mem := fun k => sort_eq_mem (k := k) hs
    have i1 := ix_wk (l := m) ((mem k0).mp hk0)
    have i2 := ix_wk (l := l) hk0
    generalize hA : (sortI (keysZ l)).map D.int = A at *
    generalize hB : (sortI (keysZ m)).map D.int = B at *
    have n1 : gCmp .NotEq (.lst A) (.lst B) = .val (.bl false) := by rw [n1]; simp [hs]
    simp [s1, s2, n1, mn]
    refine forD_any (fun o => outR o = .val (.bl (decide (Due l m)))) (fun k S => (∀ i (hi : i < l.length), i < k → gm l[i].2 (wv m k0) = gm (wv m l[i].1) (wv l k0)) ∧ ∃ o3 o4, S = ⟨[some (.val (.dic (wk l))), some (.val (.dic (wk m))), some (.val (.int (k0 : Int))), o3, o4], []⟩) (kvs := wk l) (S0 := ⟨[some (.val (.dic (wk l))), some (.val (.dic (wk m))), some (.val (.int (k0 : Int))), none, none], []⟩) rfl rfl ⟨fun i hi h => absurd h (Nat.not_lt_zero i), none, none, rfl⟩ ?_ ?_
    · rintro k hk S ⟨h0, o3, o4, rfl⟩
      have hk' : k < l.length := by rw [items_len] at hk; exact hk
      rw [items_get hk]
      obtain ⟨p, hp⟩ : ∃ p, p = l[k] := ⟨_, rfl⟩
      have pm : p ∈ l := by rw [hp]; exact List.getElem_mem hk'
      rw [← hp]
      have kin : p.1 ∈ l.map Prod.fst := List.mem_map_of_mem pm
      have i3 := ix_wk (l := m) ((mem p.1).mp kin)
      have m1 := (mul_ok_ (a := p.2) (b := wv m k0) hM (sl p pm) (wv_small nm sm k0)).1
      have m2 := (mul_ok_ (a := wv m p.1) (b := wv l k0) hM (wv_small nm sm p.1) (wv_small nl sl k0)).1
      have ne := pr_ne (a := gm p.2 (wv m k0)) (b := gm (wv m p.1) (wv l k0))
      have m1 : f_multiplied [.tup [.int p.2.1, .int p.2.2], pr (wv m k0)] = .val (pr (gm p.2 (wv m k0))) := m1
      generalize hX : gm p.2 (wv m k0) = X at *
      generalize hY : gm (wv m p.1) (wv l k0) = Y at *
      have pk : ∀ (S : DS) (g : GI), peek S (.val (pr g)) = some (pr g) := fun _ _ => rfl
      have fr : ∀ g : GI, (pr g).flat = true := fun _ => rfl
      have nr : ∀ g : GI, (pr g).noRef = true := fun _ => rfl
      refine ⟨_, rfl, ?_⟩
      by_cases hxy : X = Y
      · refine Turn0.to_next ⟨[some (.val (.dic (wk l))), some (.val (.dic (wk m))), some (.val (.int (k0 : Int))), some (.val (.int (p.1 : Int))), some (.val (.tup [.int p.2.1, .int p.2.2]))], []⟩ ?_ ⟨fun i hi h => ?_, _, _, rfl⟩
        · rw [decide_eq_true hxy] at ne
          simp [i1, i2, i3, m1, m2, ne, pk, fr, nr]
        · by_cases e : i = k
          · subst e
            rw [← hp, hX, hY, hxy]
          · exact h0 i hi (by omega)
      · rw [decide_eq_false hxy] at ne
        refine Turn0.to_ret (.val (.bl false)) ⟨[some (.val (.dic (wk l))), some (.val (.dic (wk m))), some (.val (.int (k0 : Int))), some (.val (.int (p.1 : Int))), some (.val (.tup [.int p.2.1, .int p.2.2]))], []⟩ ?_ ?_
        · simp [i1, i2, i3, m1, m2, ne, pk, fr, nr]
        · rw [q_outR_val rfl, decide_eq_false]
          rintro ⟨_, h⟩
          have := h p.1 kin k0 hk0
          rw [wv_at nl pm, hX, hY] at this
          exact hxy this
    · rintro S' ⟨h0, o3, o4, rfl⟩
      rw [items_len] at h0
      have all : ∀ h ∈ l.map Prod.fst, gm (wv l h) (wv m k0) = gm (wv m h) (wv l k0) := fun h hh => by
        obtain ⟨p, hp, rfl⟩ := List.mem_map.mp hh
        obtain ⟨i, hi, e⟩ := List.mem_iff_getElem.mp hp
        have := h0 i hi hi
        rw [e] at this
        rw [wv_at nl hp]
        exact this
      have d : decide (Due l m) = true := decide_eq_true ⟨hs, fun h hh t ht => cross_all (wv_nz zm ((mem k0).mp hk0)) (all h hh) (all t ht)⟩
      rw [d]
      simp
  · have d : decide (Due l m) = false := decide_eq_false fun z => hs z.1
    rw [d]
    generalize (sortI (keysZ l)).map D.int = A at *
    generalize (sortI (keysZ m)).map D.int = B at *
    have n1 : gCmp .NotEq (.lst A) (.lst B) = .val (.bl true) := by rw [n1]; simp [hs]
    simp [s1, s2, n1]
theorem keys_len (l : WL) : (keysD (wk l)).length = l.length := by simp [keysD, wk]
theorem keys_get {l : WL} {k : Nat} (h : k < (keysD (wk l)).length) : (keysD (wk l))[k] = .int ((l[k]'(by rw [keys_len] at h; exact h)).1 : Int) := by simp [keysD, wk, keyD]
theorem due_ {l m : WL} {M : Nat} (hM : M ≤ 10 ^ 100) (nl : Nod l) (nm : Nod m) (sl : Small M l) (sm : Small M m) (hl : l.length < 64) (hm : m.length < 64) :
    f__law_due [.dic (wk l), .dic (wk m)] = .val (.bl (decide (Due l m))) := by
  have s1 := sort_wk hl
  have s2 := sort_wk hm
  have n1 := neInts (a := sortI (keysZ l)) (b := sortI (keysZ m))
  unfold f__law_due fnRun b__law_due S0
  by_cases hs : sortI (keysZ l) = sortI (keysZ m)
  · have mem := fun k => sort_eq_mem (k := k) hs
    generalize hA : (sortI (keysZ l)).map D.int = A at *
    generalize hB : (sortI (keysZ m)).map D.int = B at *
    have n1 : gCmp .NotEq (.lst A) (.lst B) = .val (.bl false) := by rw [n1]; simp [hs]
    simp [s1, s2, n1]
    refine forD_any (fun o => outR o = .val (.bl (decide (Due l m)))) (fun k S => (∀ i (hi : i < l.length), i < k → ∀ t ∈ l.map Prod.fst, gm (wv l l[i].1) (wv m t) = gm (wv m l[i].1) (wv l t)) ∧ ∃ o2 o3, S = ⟨[some (.val (.dic (wk l))), some (.val (.dic (wk m))), o2, o3], []⟩) (kvs := wk l) (S0 := ⟨[some (.val (.dic (wk l))), some (.val (.dic (wk m))), none, none], []⟩) rfl rfl ⟨fun i hi h => absurd h (Nat.not_lt_zero i), none, none, rfl⟩ ?_ ?_
    · rintro k hk S ⟨h0, o2, o3, rfl⟩
      have hk' : k < l.length := by rw [keys_len] at hk; exact hk
      rw [keys_get hk]
      obtain ⟨p, hp⟩ : ∃ p, p = l[k] := ⟨_, rfl⟩
      have pm : p ∈ l := by rw [hp]; exact List.getElem_mem hk'
      rw [← hp]
      have kin : p.1 ∈ l.map Prod.fst := List.mem_map_of_mem pm
      refine ⟨_, rfl, ?_⟩
      refine forD_any (fun o => Turn0 _ _ _ o) (fun j S => (∀ i (hi : i < l.length), i < j → gm (wv l p.1) (wv m l[i].1) = gm (wv m p.1) (wv l l[i].1)) ∧ ∃ o3, S = ⟨[some (.val (.dic (wk l))), some (.val (.dic (wk m))), some (.val (.int (p.1 : Int))), o3], []⟩) (kvs := wk l) (S0 := ⟨[some (.val (.dic (wk l))), some (.val (.dic (wk m))), some (.val (.int (p.1 : Int))), o3], []⟩) rfl rfl ⟨fun i hi h => absurd h (Nat.not_lt_zero i), o3, rfl⟩ ?_ ?_
      · rintro j hj S ⟨g0, o3, rfl⟩
        have hj' : j < l.length := by rw [keys_len] at hj; exact hj
        rw [keys_get hj]
        obtain ⟨q, hq⟩ : ∃ q, q = l[j] := ⟨_, rfl⟩
        have qm : q ∈ l := by rw [hq]; exact List.getElem_mem hj'
        rw [← hq]
        have qin : q.1 ∈ l.map Prod.fst := List.mem_map_of_mem qm
        have i1 := ix_wk (l := l) kin
        have i2 := ix_wk (l := m) ((mem q.1).mp qin)
        have i3 := ix_wk (l := m) ((mem p.1).mp kin)
        have i4 := ix_wk (l := l) qin
        have m1 := (mul_ok_ (a := wv l p.1) (b := wv m q.1) hM (wv_small nl sl _) (wv_small nm sm _)).2
        have m2 := (mul_ok_ (a := wv m p.1) (b := wv l q.1) hM (wv_small nm sm _) (wv_small nl sl _)).2
        have ne := pr_ne (a := gm (wv l p.1) (wv m q.1)) (b := gm (wv m p.1) (wv l q.1))
        generalize hX : gm (wv l p.1) (wv m q.1) = X at *
        generalize hY : gm (wv m p.1) (wv l q.1) = Y at *
        have pk : ∀ (S : DS) (g : GI), peek S (.val (pr g)) = some (pr g) := fun _ _ => rfl
        have fr : ∀ g : GI, (pr g).flat = true := fun _ => rfl
        have nr : ∀ g : GI, (pr g).noRef = true := fun _ => rfl
        refine ⟨_, rfl, ?_⟩
        by_cases hxy : X = Y
        · rw [decide_eq_true hxy] at ne
          refine Turn0.to_next ⟨[some (.val (.dic (wk l))), some (.val (.dic (wk m))), some (.val (.int (p.1 : Int))), some (.val (.int (q.1 : Int)))], []⟩ (by simp [i1, i2, i3, i4, m1, m2, ne, pk, fr, nr]) ⟨fun i hi h => ?_, _, rfl⟩
          by_cases e : i = j
          · subst e
            rw [← hq, hX, hY, hxy]
          · exact g0 i hi (by omega)
        · rw [decide_eq_false hxy] at ne
          refine Turn0.to_ret (.val (.bl false)) ⟨[some (.val (.dic (wk l))), some (.val (.dic (wk m))), some (.val (.int (p.1 : Int))), some (.val (.int (q.1 : Int)))], []⟩ (by simp [i1, i2, i3, i4, m1, m2, ne, pk, fr, nr]) ?_
          refine Turn0.to_ret _ _ rfl ?_
          rw [q_outR_val rfl, decide_eq_false]
          rintro ⟨_, h⟩
          have := h p.1 kin q.1 qin
          rw [hX, hY] at this
          exact hxy this
      · rintro S' ⟨g0, o3, rfl⟩
        rw [keys_len] at g0
        refine Turn0.to_next _ rfl ⟨fun i hi h => ?_, _, _, rfl⟩
        by_cases e : i = k
        · subst e
          intro t ht
          obtain ⟨q, hq, rfl⟩ := List.mem_map.mp ht
          obtain ⟨j, hj, e⟩ := List.mem_iff_getElem.mp hq
          have := g0 j hj hj
          rw [e] at this
          rw [← hp]
          exact this
        · exact h0 i hi (by omega)
    · rintro S' ⟨h0, o2, o3, rfl⟩
      rw [keys_len] at h0
      have d : decide (Due l m) = true := decide_eq_true ⟨hs, fun h hh t ht => by
        obtain ⟨p, hp, rfl⟩ := List.mem_map.mp hh
        obtain ⟨i, hi, e⟩ := List.mem_iff_getElem.mp hp
        have := h0 i hi hi t ht
        rw [e] at this
        exact this⟩
      rw [d]
      simp
  · have d : decide (Due l m) = false := decide_eq_false fun z => hs z.1
    rw [d]
    generalize (sortI (keysZ l)).map D.int = A at *
    generalize (sortI (keysZ m)).map D.int = B at *
    have n1 : gCmp .NotEq (.lst A) (.lst B) = .val (.bl true) := by rw [n1]; simp [hs]
    simp [s1, s2, n1]
theorem Due.symm {l m : WL} (h : Due l m) : Due m l := ⟨h.1.symm, fun a ha b hb => (h.2 a ((sort_eq_mem h.1).mpr ha) b ((sort_eq_mem h.1).mpr hb)).symm⟩
theorem alike_ {l m : WL} {M : Nat} (hM : M ≤ 10 ^ 100) (nl : Nod l) (nm : Nod m) (zl : NZ l) (zm : NZ m) (sl : Small M l) (sm : Small M m) (hl : l.length < 64) (hm : m.length < 64) (ne : l ≠ []) (ne' : m ≠ []) :
    f__law_alike [.dic (wk l), .dic (wk m), .bl (decide (Due l m))] = .val (.bl true) := by
  have s1 := same_whole_ hM nl nm zl zm sl sm hl hm ne
  have s2 := same_whole_ hM nm nl zm zl sm sl hm hl ne'
  have e : decide (Due m l) = decide (Due l m) := dec_iff ⟨Due.symm, Due.symm⟩
  rw [e] at s2
  generalize decide (Due l m) = b at *
  have eq : gCmp .Eq (.tup [.dic (wk l), .dic (wk m)]) (.tup [.dic (wk l), .dic (wk m)]) = .val (.bl true) := by
    show oB (eqX _ _) = _
    have : eqTD [.dic (wk l), .dic (wk m)] [.dic (wk l), .dic (wk m)] = true := by
      show (decide (eqDic (wk l) (wk l) = some true) && (decide (eqDic (wk m) (wk m) = some true) && true)) = true
      rw [eqDic_of nl nl zl zl fun _ => rfl, eqDic_of nm nm zm zm fun _ => rfl]
      rfl
    unfold eqX
    simp only
    rw [if_pos this]
    rfl
  have nb : gCmp .NotEq (.bl b) (.bl b) = .val (.bl false) := by simp
  unfold f__law_alike fnRun b__law_alike S0
  simp
  refine for_seq (fun o => outR o = .val (.bl true)) (fun k S => ∃ o, S = ⟨[some (.val (.dic (wk l))), some (.val (.dic (wk m))), some (.val (.bl b)), some (.val (.tup [.dic (wk l), .dic (wk m)])), o], []⟩) (xs := [.bl b, .bl b]) (S0 := ⟨[some (.val (.dic (wk l))), some (.val (.dic (wk m))), some (.val (.bl b)), some (.val (.tup [.dic (wk l), .dic (wk m)])), none], []⟩) (by simp [s1, s2]) ⟨none, rfl⟩ ?_ ?_
  · rintro k hk S ⟨o, rfl⟩
    have : ([.bl b, .bl b] : List D)[k] = .bl b := by
      match k, hk with
      | 0, _ => rfl
      | 1, _ => rfl
    rw [this]
    exact ⟨_, _, rfl, .inl (by simp : _ = Out.next ⟨[some (.val (.dic (wk l))), some (.val (.dic (wk m))), some (.val (.bl b)), some (.val (.tup [.dic (wk l), .dic (wk m)])), some (.val (.bl b))], []⟩), ⟨_, rfl⟩⟩
  · rintro S' ⟨o, rfl⟩
    simp [eq]
noncomputable def finC : DS → Out := (oSeq (oRet (dPureN gDict (dArgs [(dLc (dSeq (dPureN gSortR (dArgs [(dVar 2)]))) (tgName 8) (asB (dPure2 (gCmp .NotEq) (dPure2 gIx (dVar 2) (dVar 8)) (dTup (dVals [(dConst (.int 0)), (dConst (.int 0))])))) (dTup (dVals [(dVar 8), (dPure2 gIx (dVar 2) (dVar 8))])) [8])]))) oNext)
theorem fin_ {m : WL} {M : Nat} {s0 s1 s3 s4 s5 s6 s7 : Option Sl} (nm : Nod m) (sm : Small (M + 1) m) (hm : m.length ≤ 22) : ∃ m' : WL, outR (finC ⟨[s0, s1, some (.own (.dic (wk m)) false), s3, s4, s5, s6, s7, none], []⟩) = .own (.dic (wk m')) ∧ Nod m' ∧ NZ m' ∧ Small (M + 1) m' ∧ m'.length ≤ 22 := by
  unfold finC
  obtain ⟨ks0, e0, p0⟩ := sort_nats m
  obtain ⟨ks, hks⟩ : ∃ ks, ks = ks0.reverse := ⟨_, rfl⟩
  have sr := sortR_wk (l := m) (by omega)
  have e1 : (sortI (keysZ m)).reverse.map D.int = ks.map natD := by rw [e0, hks, ← List.map_reverse, List.map_map]; rfl
  rw [e1] at sr
  have kp : ks.Perm (m.map Prod.fst) := by rw [hks]; exact (List.reverse_perm _).trans p0
  have klen : ks.length ≤ 22 := by rw [kp.length_eq, List.length_map]; exact hm
  have lc := lc_map (S := ⟨[s0, s1, some (.own (.dic (wk m)) false), s3, s4, s5, s6, s7, none], []⟩) (S0 := ⟨[s0, s1, some (.own (.dic (wk m)) false), s3, s4, s5, s6, s7, none], []⟩) (v := 8) (o := none) (src := dSeq (dPureN gSortR (dArgs [(dVar 2)]))) (tt := asB (dPure2 (gCmp .NotEq) (dPure2 gIx (dVar 2) (dVar 8)) (dTup (dVals [(dConst (.int 0)), (dConst (.int 0))])))) (te := dTup (dVals [(dVar 8), (dPure2 gIx (dVar 2) (dVar 8))])) ks natD (fun k : Nat => decide (wv m k ≠ (0, 0))) (fun k : Nat => .tup [.int (k : Int), pr (wv m k)]) (by simp [sr]) rfl rfl (fun k hk => by
    have ix := ix_wk (kp.mem_iff.mp hk)
    have ne := pr_ne (a := wv m k) (b := (0, 0))
    have pk : ∀ (S : DS) (g : GI), peek S (.val (pr g)) = some (pr g) := fun _ _ => rfl
    have ne : gCmp .NotEq (pr (wv m k)) (.tup [.int 0, .int 0]) = .val (.bl (!decide (wv m k = (0, 0)))) := ne
    have nd : decide (wv m k ≠ (0, 0)) = !decide (wv m k = (0, 0)) := decide_not
    refine ⟨by rw [nd]; simp [DS.at_, natD, ix, pk, ne], fun _ => ⟨.val (.tup [.int (k : Int), pr (wv m k)]), by simp [DS.at_, natD, ix, pk], rfl⟩⟩) (by unfold sizeLine; omega)
  obtain ⟨m', hm'⟩ : ∃ m' : WL, m' = (ks.filter fun k : Nat => decide (wv m k ≠ (0, 0))).map fun k : Nat => (k, wv m k) := ⟨_, rfl⟩
  have em : (ks.filter fun k : Nat => decide (wv m k ≠ (0, 0))).map (fun k : Nat => D.tup [.int (k : Int), pr (wv m k)]) = itemsD (wk m') := by
    rw [hm']
    unfold itemsD wk
    rw [List.map_map, List.map_map]
    rfl
  rw [em] at lc
  have nm' : Nod m' := by
    unfold Nod
    rw [hm', List.map_map, show (Prod.fst ∘ fun k : Nat => (k, wv m k)) = id from rfl, List.map_id]
    exact List.Nodup.sublist List.filter_sublist (kp.nodup_iff.mpr nm)
  have gd := gDict_items nm'
  refine ⟨m', ?_, nm', fun p hp => ?_, fun p hp => ?_, ?_⟩
  · simp [lc, gd]
  · rw [hm'] at hp
    obtain ⟨k, hk, rfl⟩ := List.mem_map.mp hp
    exact of_decide_eq_true (List.mem_filter.mp hk).2
  · rw [hm'] at hp
    obtain ⟨k, _, rfl⟩ := List.mem_map.mp hp
    exact wv_small nm sm k
  · rw [hm', List.length_map]
    exact Nat.le_trans (List.length_filter_le _ _) klen
theorem changed_ {l : WL} {c : Int} {M : Nat} (hM : 1 ≤ M) (nl : Nod l) (sl : Small M l) (hl : l.length ≤ 20) (ne : l ≠ []) :
    ∃ m : WL, f__law_changed [.dic (wk l), .int c] = .own (.dic (wk m)) ∧ Nod m ∧ NZ m ∧ Small (M + 1) m ∧ m.length ≤ 22 := by
  have s64 : l.length < 64 := by omega
  have so := sort_wk s64
  obtain ⟨ks, e0, kp⟩ := sort_nats l
  have e1 : (sortI (keysZ l)).map D.int = ks.map natD := by rw [e0, List.map_map]; rfl
  rw [e1] at so
  have kl : ks.length = l.length := by rw [kp.length_eq, List.length_map]
  have lpos : 0 < l.length := List.length_pos_iff.mpr ne
  obtain ⟨a, ea, _⟩ := mixed_ (c := c) (k := 50) (by decide) (by decide)
  obtain ⟨b, eb, _⟩ := mixed_ (c := c) (k := 51) (by decide) (by decide)
  obtain ⟨w, ew, _⟩ := mixed_ (c := c) (k := 52) (by decide) (by decide)
  obtain ⟨x, ex, _⟩ := mixed_ (c := c) (k := 53) (by decide) (by decide)
  obtain ⟨i, ei, hi⟩ := mod_nat (a := (a : Int)) (show 0 < ks.length by omega)
  obtain ⟨j, ej, hj⟩ := mod_nat (a := (b : Int)) (show 0 < ks.length by omega)
  obtain ⟨v, ev, hv⟩ := mod_nat (a := (w : Int)) (show 0 < 6 by decide)
  have ev : (w : Int) % 6 = (v : Int) := ev
  obtain ⟨y, ey, hy⟩ := mod_nat (a := (x : Int)) (show 0 < 64 by decide)
  have ey : (x : Int) % 64 = (y : Int) := ey
  have mi : gBin .Mod (.int (a : Int)) (.int (ks.length : Int)) = .val (.int i) := by rw [q_mod (by omega), ei]
  have mj : gBin .Mod (.int (b : Int)) (.int (ks.length : Int)) = .val (.int j) := by rw [q_mod (by omega), ej]
  obtain ⟨h, hh⟩ : ∃ h, h = ks[i] := ⟨_, rfl⟩
  obtain ⟨t, ht⟩ : ∃ t, t = ks[j] := ⟨_, rfl⟩
  have ix1 : gIx (.lst (ks.map natD)) (.int (i : Int)) = .val (.int (h : Int)) := by
    rw [q_ix_lst, TW.atI_nat, List.getElem?_map, List.getElem?_eq_getElem hi, ← hh]
    rfl
  have ix2 : gIx (.lst (ks.map natD)) (.int (j : Int)) = .val (.int (t : Int)) := by
    rw [q_ix_lst, TW.atI_nat, List.getElem?_map, List.getElem?_eq_getElem hj, ← ht]
    rfl
  have hin : h ∈ l.map Prod.fst := by rw [hh]; exact kp.mem_iff.mp (List.getElem_mem hi)
  have tin : t ∈ l.map Prod.fst := by rw [ht]; exact kp.mem_iff.mp (List.getElem_mem hj)
  have wh := ix_wk hin
  have wt := ix_wk tin
  obtain ⟨re, hre⟩ : ∃ re, re = (wv l h).1 := ⟨_, rfl⟩
  obtain ⟨im, him⟩ : ∃ im, im = (wv l h).2 := ⟨_, rfl⟩
  have ep : pr (wv l h) = .tup [.int re, .int im] := by rw [hre, him]; rfl
  rw [ep] at wh
  have sh := wv_small nl sl h
  rw [← hre, ← him] at sh
  have sl1 : Small (M + 1) l := fun p hp => ⟨Nat.le_succ_of_le (sl p hp).1, Nat.le_succ_of_le (sl p hp).2⟩
  have st := wv_small nl sl1 t
  have zsz : (wk l).length < sizeLine := by unfold wk sizeLine; rw [List.length_map]; omega
  have fin := fun (m : WL) (a1 : Nod m) (a2 : Small (M + 1) m) (a3 : m.length ≤ 22) => fin_ (s0 := some (.val (.dic (wk l)))) (s1 := some (.val (.int c))) (s3 := some (.own (.lst (ks.map natD)) false)) (s4 := some (.val (.int (h : Int)))) (s5 := some (.val (.int (t : Int)))) (s6 := some (.val (.int (v : Int)))) (s7 := some (.val (.tup [.int re, .int im]))) a1 a2 a3
  unfold f__law_changed fnRun b__law_changed S0
  have fc : ∀ S, finC S = (oSeq (oRet (dPureN gDict (dArgs [(dLc (dSeq (dPureN gSortR (dArgs [(dVar 2)]))) (tgName 8) (asB (dPure2 (gCmp .NotEq) (dPure2 gIx (dVar 2) (dVar 8)) (dTup (dVals [(dConst (.int 0)), (dConst (.int 0))])))) (dTup (dVals [(dVar 8), (dPure2 gIx (dVar 2) (dVar 8))])) [8])]))) oNext) S := fun _ => rfl
  rw [show (oSeq (oRet (dPureN gDict (dArgs [(dLc (dSeq (dPureN gSortR (dArgs [(dVar 2)]))) (tgName 8) (asB (dPure2 (gCmp .NotEq) (dPure2 gIx (dVar 2) (dVar 8)) (dTup (dVals [(dConst (.int 0)), (dConst (.int 0))])))) (dTup (dVals [(dVar 8), (dPure2 gIx (dVar 2) (dVar 8))])) [8])]))) oNext) = finC from rfl]
  have pk : ∀ (S : DS) (g : GI), peek S (.val (pr g)) = some (pr g) := fun _ _ => rfl
  have glen : gLen [.lst (ks.map natD)] = .val (.int (ks.length : Int)) := by rw [q_gLen_lst, List.length_map]
  rcases (show v = 0 ∨ v = 1 ∨ v = 2 ∨ v = 3 ∨ v = 4 ∨ v = 5 by omega) with hv | hv | hv | hv | hv | hv <;> subst hv
  · -- a number moved
    have e2 := dset_plc (S := ⟨[some (.val (.dic (wk l))), some (.val (.int c)), some (.own (.dic (wk l)) false), some (.own (.lst (ks.map natD)) false), some (.val (.int (h : Int))), some (.val (.int (t : Int))), some (.val (.int 0)), some (.val (.tup [.int re, .int im])), none], []⟩) (kvs := wk l) (key := .inl (h : Int)) (d := pr (re + 1, im)) (fo := dVar 2) (fk := dVar 4) (fv := dTup (dVals [(dPure2 (gBin .Add) (dPure2 gIx (dVar 7) (dConst (.int 0))) (dConst (.int 1))), (dPure2 gIx (dVar 7) (dConst (.int 1)))])) (i := 2) (rk := .val (.int (h : Int))) (by simp [pr]) rfl rfl rfl rfl zsz
    rw [dput_wk] at e2
    obtain ⟨m', g1, g2⟩ := fin (wput l h (re + 1, im)) nl.put (sl1.put (by dsimp only; omega)) (Nat.le_trans len_put (by omega))
    refine ⟨m', ?_, g2⟩
    rw [← g1]
    simp [-q_ix_lst, -q_gLen_lst, -q_gLen_dic, so, glen, ea, eb, ew, mi, mj, ix1, ix2, q_mod, ev, wh, q_seq_dset]
    rw [e2]
    simp
  · have e2 := dset_plc (S := ⟨[some (.val (.dic (wk l))), some (.val (.int c)), some (.own (.dic (wk l)) false), some (.own (.lst (ks.map natD)) false), some (.val (.int (h : Int))), some (.val (.int (t : Int))), some (.val (.int 1)), some (.val (.tup [.int re, .int im])), none], []⟩) (kvs := wk l) (key := .inl (h : Int)) (d := pr (0 - im, re)) (fo := dVar 2) (fk := dVar 4) (fv := dTup (dVals [(dPure2 (gBin .Sub) (dConst (.int 0)) (dPure2 gIx (dVar 7) (dConst (.int 1)))), (dPure2 gIx (dVar 7) (dConst (.int 0)))])) (i := 2) (rk := .val (.int (h : Int))) (by simp [pr]) rfl rfl rfl rfl zsz
    rw [dput_wk] at e2
    obtain ⟨m', g1, g2⟩ := fin (wput l h (0 - im, re)) nl.put (sl1.put (by dsimp only; omega)) (Nat.le_trans len_put (by omega))
    refine ⟨m', ?_, g2⟩
    rw [← g1]
    simp [-q_ix_lst, -q_gLen_lst, -q_gLen_dic, so, glen, ea, eb, ew, mi, mj, ix1, ix2, q_mod, ev, wh, q_seq_dset]
    rw [e2]
    simp
  · have gl : gLen [.dic (wk l)] = .val (.int (l.length : Int)) := by
      show R.val (.int ((wk l).length : Nat)) = _
      unfold wk
      rw [List.length_map]
    by_cases h1 : l.length > 1
    · have nd : Nod (l.filter fun p => decide (p.1 ≠ h)) := List.Nodup.sublist (List.Sublist.map _ List.filter_sublist) nl
      obtain ⟨m', g1, g2⟩ := fin (l.filter fun p => decide (p.1 ≠ h)) nd (fun p hp => sl1 p (List.mem_filter.mp hp).1) (Nat.le_trans (List.length_filter_le _ _) (by omega))
      refine ⟨m', ?_, g2⟩
      rw [← g1]
      have dg : ∃ x, dget (wk l) (.inl (h : Int)) = some x := by
        rw [dget_wk]
        cases q : wget l h with
        | none => exact absurd hin (wget_none.mp q)
        | some g => exact ⟨_, rfl⟩
      obtain ⟨x, dg⟩ := dg
      have pop : oExpr (dDPop1 (dVar 2) (dVar 4)) ⟨[some (.val (.dic (wk l))), some (.val (.int c)), some (.own (.dic (wk l)) false), some (.own (.lst (ks.map natD)) false), some (.val (.int (h : Int))), some (.val (.int (t : Int))), some (.val (.int 2)), some (.val (.tup [.int re, .int im])), none], []⟩ = .next ⟨[some (.val (.dic (wk l))), some (.val (.int c)), some (.own (.dic (wk (l.filter fun p => decide (p.1 ≠ h)))) false), some (.own (.lst (ks.map natD)) false), some (.val (.int (h : Int))), some (.val (.int (t : Int))), some (.val (.int 2)), some (.val (.tup [.int re, .int im])), none], []⟩ := by
        unfold oExpr dDPop1
        simp [dicOf, dictOf, contAt, freeAt, TW.putAt, RV.still, dg, keyOf, ddrop_wk]
      have qs : ∀ (f : DS → Res RV) (g : DS → Out) (S : DS), oSeq (oExpr f) g S = (oExpr f S).then_ g := fun _ _ _ => rfl
      simp [-q_ix_lst, -q_gLen_lst, -q_gLen_dic, so, glen, ea, eb, ew, mi, mj, ix1, ix2, q_mod, ev, wh, gl, h1, qs]
      rw [pop]
      have h1' : (1 : Int) < (l.length : Int) := by omega
      simp [h1']
    · obtain ⟨m', g1, g2⟩ := fin l nl sl1 (by omega)
      refine ⟨m', ?_, g2⟩
      rw [← g1]
      have h1' : ¬ (1 : Int) < (l.length : Int) := by omega
      simp [-q_ix_lst, -q_gLen_lst, -q_gLen_dic, so, glen, ea, eb, ew, mi, mj, ix1, ix2, q_mod, ev, wh, gl, h1']
  · have e2 := dset_plc (S := ⟨[some (.val (.dic (wk l))), some (.val (.int c)), some (.own (.dic (wk l)) false), some (.own (.lst (ks.map natD)) false), some (.val (.int (h : Int))), some (.val (.int (t : Int))), some (.val (.int 3)), some (.val (.tup [.int re, .int im])), none], []⟩) (kvs := wk l) (key := .inl (y : Int)) (d := pr (1, 1)) (fo := dVar 2) (fk := (dPure2 (gBin .Mod) (dCall f__law_mixed [] (dArgs [(dVar 1), (dConst (.int 53))])) (dConst (.int 64)))) (fv := dTup (dVals [(dConst (.int 1)), (dConst (.int 1))])) (i := 2) (rk := .val (.int (y : Int))) (by simp [pr]) rfl rfl (by simp [ex, q_mod, ey]) rfl zsz
    rw [dput_wk] at e2
    obtain ⟨m', g1, g2⟩ := fin (wput l y (1, 1)) nl.put (sl1.put (by dsimp only; omega)) (Nat.le_trans len_put (by omega))
    refine ⟨m', ?_, g2⟩
    rw [← g1]
    simp [-q_ix_lst, -q_gLen_lst, -q_gLen_dic, so, glen, ea, eb, ew, mi, mj, ix1, ix2, q_mod, ev, wh, q_seq_dset]
    rw [e2]
    simp
  · have e2 := dset_plc (S := ⟨[some (.val (.dic (wk l))), some (.val (.int c)), some (.own (.dic (wk l)) false), some (.own (.lst (ks.map natD)) false), some (.val (.int (h : Int))), some (.val (.int (t : Int))), some (.val (.int 4)), some (.val (.tup [.int re, .int im])), none], []⟩) (kvs := wk l) (key := .inl (h : Int)) (d := pr (wv l t)) (fo := dVar 2) (fk := dVar 4) (fv := dPure2 gIx (dVar 2) (dVar 5)) (i := 2) (rk := .val (.int (h : Int))) (by simp [wt]) rfl rfl rfl rfl zsz
    rw [dput_wk] at e2
    have zsz2 : (wk (wput l h (wv l t))).length < sizeLine := by unfold wk sizeLine; rw [List.length_map]; exact Nat.lt_of_le_of_lt len_put (by omega)
    have e3 := dset_plc (S := ⟨[some (.val (.dic (wk l))), some (.val (.int c)), some (.own (.dic (wk (wput l h (wv l t)))) false), some (.own (.lst (ks.map natD)) false), some (.val (.int (h : Int))), some (.val (.int (t : Int))), some (.val (.int 4)), some (.val (.tup [.int re, .int im])), none], []⟩) (kvs := wk (wput l h (wv l t))) (key := .inl (t : Int)) (d := pr (re, im)) (fo := dVar 2) (fk := dVar 5) (fv := dVar 7) (i := 2) (rk := .val (.int (t : Int))) rfl rfl rfl rfl rfl zsz2
    rw [dput_wk] at e3
    obtain ⟨m', g1, g2⟩ := fin (wput (wput l h (wv l t)) t (re, im)) nl.put.put ((sl1.put st).put (by dsimp only; omega)) (Nat.le_trans len_put (Nat.le_trans (Nat.add_le_add_right len_put 1) (by omega)))
    refine ⟨m', ?_, g2⟩
    rw [← g1]
    simp [-q_ix_lst, -q_gLen_lst, -q_gLen_dic, so, glen, ea, eb, ew, mi, mj, ix1, ix2, q_mod, ev, wh, q_seq_dset]
    rw [e2]
    simp [q_seq_dset]
    rw [e3]
    simp
  · obtain ⟨m5, hm5⟩ : ∃ m5 : WL, m5 = ks.map fun k : Nat => (k ^^^ 1, wv l k) := ⟨_, rfl⟩
    have em : ks.map (fun k : Nat => D.tup [.int ((k ^^^ 1 : Nat) : Int), pr (wv l k)]) = itemsD (wk m5) := by
      rw [hm5]
      unfold itemsD wk
      rw [List.map_map, List.map_map]
      rfl
    have lc := lc_mapS (S := ⟨[some (.val (.dic (wk l))), some (.val (.int c)), some (.own (.dic (wk l)) false), some (.own (.lst (ks.map natD)) false), some (.val (.int (h : Int))), some (.val (.int (t : Int))), some (.val (.int 5)), some (.val (.tup [.int re, .int im])), none], []⟩) (S0 := ⟨[some (.val (.dic (wk l))), some (.val (.int c)), some (.own (.dic (wk l)) false), some (.own (.lst (ks.map natD)) true), some (.val (.int (h : Int))), some (.val (.int (t : Int))), some (.val (.int 5)), some (.val (.tup [.int re, .int im])), none], []⟩) (v := 8) (j := 3) (o := none) (ds := ks.map natD) (lk := false) (src := dSeq (dVar 3)) (tt := fun S => .ok true S) (te := dTup (dVals [(dPure2 (gBin .BitXor) (dVar 8) (dConst (.int 1))), (dPure2 gIx (dVar 2) (dVar 8))])) ks natD (fun _ => true) (fun k : Nat => .tup [.int ((k ^^^ 1 : Nat) : Int), pr (wv l k)]) (by simp) rfl (by decide) rfl rfl (fun k hk => by
      have ix := ix_wk (kp.mem_iff.mp hk)
      exact ⟨rfl, fun _ => ⟨.val (.tup [.int ((k ^^^ 1 : Nat) : Int), pr (wv l k)]), by simp [DS.at_, natD, ix, pk], rfl⟩⟩) (by unfold sizeLine; omega)
    rw [List.filter_eq_self.mpr (fun _ _ => rfl), em] at lc
    have n5 : Nod m5 := by
      unfold Nod
      rw [hm5, List.map_map]
      refine List.pairwise_map.mpr (List.Pairwise.imp (fun {a b} hne e => hne ?_) (show List.Pairwise (· ≠ ·) ks from kp.nodup_iff.mpr nl))
      have e : a ^^^ 1 = b ^^^ 1 := e
      have e := congrArg (· ^^^ 1) e
      simpa [Nat.xor_assoc] using e
    have gd := gDict_items n5
    obtain ⟨m', g1, g2⟩ := fin m5 n5 (fun p hp => by
      rw [hm5] at hp
      obtain ⟨k, _, rfl⟩ := List.mem_map.mp hp
      exact wv_small nl sl1 k) (by rw [hm5, List.length_map]; omega)
    refine ⟨m', ?_, g2⟩
    rw [← g1]
    simp [-q_ix_lst, -q_gLen_lst, -q_gLen_dic, so, glen, ea, eb, ew, mi, mj, ix1, ix2, q_mod, ev, wh, lc, gd]
theorem gm4 {a b f g : GI} : gm (gm a f) (gm b g) = gm (gm a g) (gm b f) := by
  unfold gm
  refine Prod.ext ?_ ?_ <;> dsimp only <;> grind
theorem gm_one {a : GI} : gm a (1, 0) = a := by
  unfold gm
  refine Prod.ext ?_ ?_ <;> dsimp only <;> grind
theorem times_one {l : WL} : timesL (1, 0) l = l := by
  unfold timesL
  conv => rhs; rw [← List.map_id l]
  exact List.map_congr_left fun p _ => by rw [gm_one]; rfl
theorem wv_times {l : WL} {f : GI} {k : Nat} (hk : k ∈ l.map Prod.fst) : wv (timesL f l) k = gm (wv l k) f := by
  unfold wv
  rw [times_wget]
  cases q : wget l k with
  | none => exact absurd hk (wget_none.mp q)
  | some g => rfl
theorem due_times {l : WL} {f g : GI} : Due (timesL f l) (timesL g l) := by
  refine ⟨?_, ?_⟩
  · have : keysZ (timesL f l) = keysZ (timesL g l) := by
      unfold keysZ timesL
      rw [List.map_map, List.map_map]
      rfl
    rw [this]
  · rw [times_keys]
    intro h hh t ht
    rw [wv_times hh, wv_times hh, wv_times ht, wv_times ht, gm4]
theorem plain (ns : List Int) (hl : ns.length ≤ 63) (hb : ∀ z ∈ ns, Builtin.Int.intBits z ≤ 1048576) : f_law [.scr (ns.map D.int)] = .val (.bl true) := by
  obtain ⟨c0, k0⟩ := cell_at_ (ns := ns) (k := 0)
  obtain ⟨c1, k1⟩ := cell_at_ (ns := ns) (k := 1)
  obtain ⟨c2, k2⟩ := cell_at_ (ns := ns) (k := 2)
  have k0 : f__law_cell_at [.scr (ns.map D.int), .int 0] = .val (.int c0) := k0
  have k1 : f__law_cell_at [.scr (ns.map D.int), .int 1] = .val (.int c1) := k1
  have k2 : f__law_cell_at [.scr (ns.map D.int), .int 2] = .val (.int c2) := k2
  obtain ⟨cs, hcs, l, e1, nl, zl, sl, hl10, ne⟩ := whole_ (ns := ns)
  obtain ⟨f, ef, fz, fs⟩ := factor_ (c := c0)
  obtain ⟨g, eg, gz, gs⟩ := factor_ (c := c1)
  have t1 := times_ (f := f) nl sl (by omega) fs
  have t2 := times_ (f := g) nl sl (by omega) gs
  have s1 := times_small fs sl
  have s2 := times_small gs sl
  have M1 : 10 ^ 20 ≤ 2 * (10 ^ 20 * 10 ^ 20) := by decide
  have s0 : Small (2 * (10 ^ 20 * 10 ^ 20)) l := fun p hp => ⟨Nat.le_trans (sl p hp).1 M1, Nat.le_trans (sl p hp).2 M1⟩
  have M2 : 2 * (10 ^ 20 * 10 ^ 20) ≤ 10 ^ 100 := by decide +kernel
  have M3 : 2 * (10 ^ 20 * 10 ^ 20) + 1 ≤ 10 ^ 100 := by decide +kernel
  have n1 := times_nod (f := f) nl
  have n2 := times_nod (f := g) nl
  have z1 := times_nz fz zl
  have z2 := times_nz gz zl
  have d12 : Due (timesL f l) (timesL g l) := due_times
  have d01 : Due l (timesL f l) := by
    have h := due_times (l := l) (f := (1, 0)) (g := f)
    rw [times_one] at h
    exact h
  have d00 : Due l l := by
    have h := due_times (l := l) (f := (1, 0)) (g := (1, 0))
    rw [times_one] at h
    exact h
  have l1 : (timesL f l).length = l.length := List.length_map _
  have l2 : (timesL g l).length = l.length := List.length_map _
  have ne1 : timesL f l ≠ [] := fun z => ne (List.eq_nil_of_length_eq_zero (by rw [← l1, z]; rfl))
  have ne2 : timesL g l ≠ [] := fun z => ne (List.eq_nil_of_length_eq_zero (by rw [← l2, z]; rfl))
  have a12 := alike_ M2 n1 n2 z1 z2 s1 s2 (by omega) (by omega) ne1 ne2
  have a01 := alike_ M2 nl n1 zl z1 s0 s1 (by omega) (by omega) ne ne1
  have a00 := alike_ M2 nl nl zl zl s0 s0 (by omega) (by omega) ne ne
  rw [decide_eq_true d12] at a12
  rw [decide_eq_true d01] at a01
  rw [decide_eq_true d00] at a00
  obtain ⟨m, em, nm, zm, sm, lm⟩ := changed_ (c := c2) (by decide) n2 s2 (by omega) ne2
  have s1' : Small (2 * (10 ^ 20 * 10 ^ 20) + 1) (timesL f l) := fun p hp => ⟨Nat.le_succ_of_le (s1 p hp).1, Nat.le_succ_of_le (s1 p hp).2⟩
  generalize timesL f l = a at *
  generalize timesL g l = b at *
  generalize 2 * (10 ^ 20 * 10 ^ 20) + 1 = M at *
  have pk : ∀ (S : DS) (g : GI), peek S (.val (pr g)) = some (pr g) := fun _ _ => rfl
  have fr : ∀ g : GI, (pr g).flat = true := fun _ => rfl
  have nr : ∀ g : GI, (pr g).noRef = true := fun _ => rfl
  have cn : ∀ g : GI, (R.val (pr g)).clean = true := fun _ => rfl
  unfold f_law fnRun b_law S0
  by_cases hm : m = []
  · subst hm
    have e3 : wk [] = [] := rfl
    rw [e3] at em
    have eq : gCmp .Eq (.dic []) (.dic []) = .val (.bl true) := rfl
    simp [hcs, e1, k0, k1, k2, ef, eg, t1, t2, a12, a01, a00, em, eq, pk, fr, nr, cn, show (R.own (Cont.dic [])).clean = true from rfl]
  · have eq : gCmp .Eq (.dic (wk m)) (.dic []) = .val (.bl false) := by
      show oB (eqDic (wk m) (wk [])) = _
      rw [eqDic_wk]
      have : ¬ m.length = 0 := fun z => hm (List.eq_nil_of_length_eq_zero z)
      simp [this, oB]
    have dm := due_ M3 n1 nm s1' sm (by omega) (by omega)
    have am := alike_ M3 n1 nm z1 zm s1' sm (by omega) (by omega) ne1 hm
    generalize decide (Due a m) = b2 at *
    simp [hcs, e1, k0, k1, k2, ef, eg, t1, t2, a12, a01, a00, em, eq, dm, am, pk, fr, nr, cn]
end K23
namespace K23
open PySem PySem.Spec L2 TW
noncomputable section
abbrev prg : Program := PySem.Challenge.pw_twinwires_k23_the_same_but_for_a_factor
def topS (i : Nat) : Stmt := prg.main.body.getD i (.Pass ⟨0, 0, 0, 0⟩)
def clsS (i j : Nat) : Stmt := match topS i with | .ClassDef _ _ _ body _ _ _ _ _ _ _ => body.getD j (.Pass ⟨0, 0, 0, 0⟩) | _ => .Pass ⟨0, 0, 0, 0⟩
def m_0 : EC := q0.m0
abbrev s__law_mixed : Stmt := topS 5
theorem sc__law_mixed : FnScope ["_law_draw", "_law_k", "_law_number_here"] ["_law_draw", "_law_k"] (defScope s__law_mixed) := ⟨rfl, rfl, rfl, by decide +kernel, rfl, by decide +kernel, by decide +kernel⟩
theorem h__law_mixed : (ev 60).SS (m_0.of ["_law_draw", "_law_k", "_law_number_here"] (defScope s__law_mixed) []) (defBody s__law_mixed) = b__law_mixed := by kernel_rfl
def d__law_mixed : He.DefD := ⟨("_law_mixed", none), "_law_mixed", "_law_mixed", defArgs s__law_mixed, defBody s__law_mixed, defScope s__law_mixed, [], []⟩
def m_1 : EC := { m_0 with gl := ("_law_mixed", .fn ⟨f__law_mixed, 2, []⟩) :: m_0.gl }
abbrev s__law_number : Stmt := topS 7
theorem sc__law_number : FnScope ["_law_draw", "_law_k", "_law_number_here"] ["_law_draw", "_law_k"] (defScope s__law_number) := ⟨rfl, rfl, rfl, by decide +kernel, rfl, by decide +kernel, by decide +kernel⟩
theorem h__law_number : (ev 60).SS (m_1.of ["_law_draw", "_law_k", "_law_number_here"] (defScope s__law_number) []) (defBody s__law_number) = b__law_number := by kernel_rfl
def d__law_number : He.DefD := ⟨("_law_number", none), "_law_number", "_law_number", defArgs s__law_number, defBody s__law_number, defScope s__law_number, [], []⟩
def m_2 : EC := { m_1 with gl := ("_law_number", .fn ⟨f__law_number, 2, []⟩) :: m_1.gl }
abbrev s__law_bits : Stmt := topS 6
theorem sc__law_bits : FnScope ["_law_draw", "_law_k", "_law_n"] ["_law_draw", "_law_k", "_law_n"] (defScope s__law_bits) := ⟨rfl, rfl, rfl, by decide +kernel, rfl, by decide +kernel, by decide +kernel⟩
theorem h__law_bits : (ev 60).SS (m_2.of ["_law_draw", "_law_k", "_law_n"] (defScope s__law_bits) []) (defBody s__law_bits) = b__law_bits := by kernel_rfl
def d__law_bits : He.DefD := ⟨("_law_bits", none), "_law_bits", "_law_bits", defArgs s__law_bits, defBody s__law_bits, defScope s__law_bits, [], []⟩
def m_3 : EC := { m_2 with gl := ("_law_bits", .fn ⟨f__law_bits, 3, []⟩) :: m_2.gl }
abbrev s__law_whole : Stmt := topS 8
theorem sc__law_whole : FnScope ["_law_cells", "_law_found", "_law_draw", "_law_number_here"] ["_law_cells"] (defScope s__law_whole) := ⟨rfl, rfl, rfl, by decide +kernel, rfl, by decide +kernel, by decide +kernel⟩
theorem h__law_whole : (ev 60).SS (m_3.of ["_law_cells", "_law_found", "_law_draw", "_law_number_here"] (defScope s__law_whole) [1001]) (defBody s__law_whole) = b__law_whole := by kernel_rfl
def d__law_whole : He.DefD := ⟨("_law_whole", none), "_law_whole", "_law_whole", defArgs s__law_whole, defBody s__law_whole, defScope s__law_whole, [], []⟩
def m_4 : EC := { m_3 with gl := ("_law_whole", .fn ⟨f__law_whole, 1, []⟩) :: m_3.gl }
abbrev s__law_multiplied : Stmt := topS 9
theorem sc__law_multiplied : FnScope ["_law_one", "_law_other"] ["_law_one", "_law_other"] (defScope s__law_multiplied) := ⟨rfl, rfl, rfl, by decide +kernel, rfl, by decide +kernel, by decide +kernel⟩
theorem h__law_multiplied : (ev 60).SS (m_4.of ["_law_one", "_law_other"] (defScope s__law_multiplied) []) (defBody s__law_multiplied) = b__law_multiplied := by kernel_rfl
def d__law_multiplied : He.DefD := ⟨("_law_multiplied", none), "_law_multiplied", "_law_multiplied", defArgs s__law_multiplied, defBody s__law_multiplied, defScope s__law_multiplied, [], []⟩
def m_5 : EC := { m_4 with gl := ("_law_multiplied", .fn ⟨f__law_multiplied, 2, []⟩) :: m_4.gl }
abbrev s__law_times : Stmt := topS 10
theorem sc__law_times : FnScope ["_law_whole_here", "_law_factor_here", "_law_here", "_law_number_here"] ["_law_whole_here", "_law_factor_here"] (defScope s__law_times) := ⟨rfl, rfl, rfl, by decide +kernel, rfl, by decide +kernel, by decide +kernel⟩
theorem h__law_times : (ev 60).SS (m_5.of ["_law_whole_here", "_law_factor_here", "_law_here", "_law_number_here"] (defScope s__law_times) [1000]) (defBody s__law_times) = b__law_times := by kernel_rfl
def d__law_times : He.DefD := ⟨("_law_times", none), "_law_times", "_law_times", defArgs s__law_times, defBody s__law_times, defScope s__law_times, [], []⟩
def m_6 : EC := { m_5 with gl := ("_law_times", .fn ⟨f__law_times, 2, []⟩) :: m_5.gl }
abbrev s__law_factor : Stmt := topS 11
theorem sc__law_factor : FnScope ["_law_draw", "_law_factor_here"] ["_law_draw"] (defScope s__law_factor) := ⟨rfl, rfl, rfl, by decide +kernel, rfl, by decide +kernel, by decide +kernel⟩
theorem h__law_factor : (ev 60).SS (m_6.of ["_law_draw", "_law_factor_here"] (defScope s__law_factor) []) (defBody s__law_factor) = b__law_factor := by kernel_rfl
def d__law_factor : He.DefD := ⟨("_law_factor", none), "_law_factor", "_law_factor", defArgs s__law_factor, defBody s__law_factor, defScope s__law_factor, [], []⟩
def m_7 : EC := { m_6 with gl := ("_law_factor", .fn ⟨f__law_factor, 1, []⟩) :: m_6.gl }
abbrev s__law_cell_at : Stmt := topS 4
theorem sc__law_cell_at : FnScope ["_law_script", "_law_k"] ["_law_script", "_law_k"] (defScope s__law_cell_at) := ⟨rfl, rfl, rfl, by decide +kernel, rfl, by decide +kernel, by decide +kernel⟩
theorem h__law_cell_at : (ev 60).SS (m_7.of ["_law_script", "_law_k"] (defScope s__law_cell_at) []) (defBody s__law_cell_at) = b__law_cell_at := by kernel_rfl
def d__law_cell_at : He.DefD := ⟨("_law_cell_at", none), "_law_cell_at", "_law_cell_at", defArgs s__law_cell_at, defBody s__law_cell_at, defScope s__law_cell_at, [], []⟩
def m_8 : EC := { m_7 with gl := ("_law_cell_at", .fn ⟨f__law_cell_at, 2, []⟩) :: m_7.gl }
abbrev s_multiplied : Stmt := topS 1
theorem sc_multiplied : FnScope ["one", "other"] ["one", "other"] (defScope s_multiplied) := ⟨rfl, rfl, rfl, by decide +kernel, rfl, by decide +kernel, by decide +kernel⟩
theorem h_multiplied : (ev 60).SS (m_8.of ["one", "other"] (defScope s_multiplied) []) (defBody s_multiplied) = b_multiplied := by kernel_rfl
def d_multiplied : He.DefD := ⟨("multiplied", none), "multiplied", "multiplied", defArgs s_multiplied, defBody s_multiplied, defScope s_multiplied, [], []⟩
def m_9 : EC := { m_8 with gl := ("multiplied", .fn ⟨f_multiplied, 2, []⟩) :: m_8.gl }
abbrev s_same_whole : Stmt := topS 2
theorem sc_same_whole : FnScope ["one", "other", "first", "here", "number"] ["one", "other"] (defScope s_same_whole) := ⟨rfl, rfl, rfl, by decide +kernel, rfl, by decide +kernel, by decide +kernel⟩
theorem h_same_whole : (ev 60).SS (m_9.of ["one", "other", "first", "here", "number"] (defScope s_same_whole) [1000]) (defBody s_same_whole) = b_same_whole := by kernel_rfl
def d_same_whole : He.DefD := ⟨("same_whole", none), "same_whole", "same_whole", defArgs s_same_whole, defBody s_same_whole, defScope s_same_whole, [], []⟩
def m_10 : EC := { m_9 with gl := ("same_whole", .fn ⟨f_same_whole, 2, []⟩) :: m_9.gl }
abbrev s__law_alike : Stmt := topS 14
theorem sc__law_alike : FnScope ["_law_one", "_law_other", "_law_due_here", "_law_handed", "_law_found"] ["_law_one", "_law_other", "_law_due_here"] (defScope s__law_alike) := ⟨rfl, rfl, rfl, by decide +kernel, rfl, by decide +kernel, by decide +kernel⟩
theorem h__law_alike : (ev 60).SS (m_10.of ["_law_one", "_law_other", "_law_due_here", "_law_handed", "_law_found"] (defScope s__law_alike) []) (defBody s__law_alike) = b__law_alike := by kernel_rfl
def d__law_alike : He.DefD := ⟨("_law_alike", none), "_law_alike", "_law_alike", defArgs s__law_alike, defBody s__law_alike, defScope s__law_alike, [], []⟩
def m_11 : EC := { m_10 with gl := ("_law_alike", .fn ⟨f__law_alike, 3, []⟩) :: m_10.gl }
abbrev s__law_changed : Stmt := topS 12
theorem sc__law_changed : FnScope ["_law_whole_here", "_law_draw", "_law_found", "_law_keys", "_law_here", "_law_there", "_law_way", "_law_number_here", "_law_k"] ["_law_whole_here", "_law_draw"] (defScope s__law_changed) := ⟨rfl, rfl, rfl, by decide +kernel, rfl, by decide +kernel, by decide +kernel⟩
theorem h__law_changed : (ev 60).SS (m_11.of ["_law_whole_here", "_law_draw", "_law_found", "_law_keys", "_law_here", "_law_there", "_law_way", "_law_number_here", "_law_k"] (defScope s__law_changed) [1002]) (defBody s__law_changed) = b__law_changed := by kernel_rfl
def d__law_changed : He.DefD := ⟨("_law_changed", none), "_law_changed", "_law_changed", defArgs s__law_changed, defBody s__law_changed, defScope s__law_changed, [], []⟩
def m_12 : EC := { m_11 with gl := ("_law_changed", .fn ⟨f__law_changed, 2, []⟩) :: m_11.gl }
abbrev s__law_due : Stmt := topS 13
theorem sc__law_due : FnScope ["_law_one", "_law_other", "_law_here", "_law_there"] ["_law_one", "_law_other"] (defScope s__law_due) := ⟨rfl, rfl, rfl, by decide +kernel, rfl, by decide +kernel, by decide +kernel⟩
theorem h__law_due : (ev 60).SS (m_12.of ["_law_one", "_law_other", "_law_here", "_law_there"] (defScope s__law_due) [1000, 1001]) (defBody s__law_due) = b__law_due := by kernel_rfl
def d__law_due : He.DefD := ⟨("_law_due", none), "_law_due", "_law_due", defArgs s__law_due, defBody s__law_due, defScope s__law_due, [], []⟩
def m_13 : EC := { m_12 with gl := ("_law_due", .fn ⟨f__law_due, 2, []⟩) :: m_12.gl }
abbrev s_law : Stmt := topS 15
theorem sc_law : FnScope ["_law_script", "_law_whole_here", "_law_one", "_law_other", "_law_changed_here"] ["_law_script"] (defScope s_law) := ⟨rfl, rfl, rfl, by decide +kernel, rfl, by decide +kernel, by decide +kernel⟩
theorem h_law : (ev 60).SS (m_13.of ["_law_script", "_law_whole_here", "_law_one", "_law_other", "_law_changed_here"] (defScope s_law) []) (defBody s_law) = b_law := by kernel_rfl
def d_law : He.DefD := ⟨("law", none), "law", "law", defArgs s_law, defBody s_law, defScope s_law, [], []⟩
def fn : List He.DefD := [d__law_mixed, d__law_number, d__law_bits, d__law_whole, d__law_multiplied, d__law_times, d__law_factor, d__law_cell_at, d_multiplied, d_same_whole, d__law_alike, d__law_changed, d__law_due, d_law]
section
variable {P : Program} {w : World} {K : PySem.W.Frag} {mg : Str → Option Value} {base : Heap} {h : Heap}
theorem M_0 (c : SaysZ q0.fa fn q0.ex K) (X : K.In h) (G : h.Ns mainGlobals mg) : ModOk P w K mg base (q0.zx K) 0 m_0 := q0.m0_ok c X G (by decide +kernel)
theorem M_1 (c : SaysZ q0.fa fn q0.ex K) (X : K.In h) (G : h.Ns mainGlobals mg) : ModOk P w K mg base (q0.zx K) 1 m_1 := q0.defP c X G (M_0 c X G) (d := d__law_mixed) (x := "_law_mixed") (N := ["_law_draw", "_law_k", "_law_number_here"]) (ps := ["_law_draw", "_law_k"]) (box := []) (by simp [fn]) rfl (by decide +kernel) rfl rfl sc__law_mixed (fun _ _ _ _ _ _ us hl => match us, hl with | [_, _], _ => rfl) h__law_mixed rfl
theorem M_2 (c : SaysZ q0.fa fn q0.ex K) (X : K.In h) (G : h.Ns mainGlobals mg) : ModOk P w K mg base (q0.zx K) 2 m_2 := q0.defP c X G (M_1 c X G) (d := d__law_number) (x := "_law_number") (N := ["_law_draw", "_law_k", "_law_number_here"]) (ps := ["_law_draw", "_law_k"]) (box := []) (by simp [fn]) rfl (by decide +kernel) rfl rfl sc__law_number (fun _ _ _ _ _ _ us hl => match us, hl with | [_, _], _ => rfl) h__law_number rfl
theorem M_3 (c : SaysZ q0.fa fn q0.ex K) (X : K.In h) (G : h.Ns mainGlobals mg) : ModOk P w K mg base (q0.zx K) 3 m_3 := q0.defP c X G (M_2 c X G) (d := d__law_bits) (x := "_law_bits") (N := ["_law_draw", "_law_k", "_law_n"]) (ps := ["_law_draw", "_law_k", "_law_n"]) (box := []) (by simp [fn]) rfl (by decide +kernel) rfl rfl sc__law_bits (fun _ _ _ _ _ _ us hl => match us, hl with | [_, _, _], _ => rfl) h__law_bits rfl
theorem M_4 (c : SaysZ q0.fa fn q0.ex K) (X : K.In h) (G : h.Ns mainGlobals mg) : ModOk P w K mg base (q0.zx K) 4 m_4 := q0.defP c X G (M_3 c X G) (d := d__law_whole) (x := "_law_whole") (N := ["_law_cells", "_law_found", "_law_draw", "_law_number_here"]) (ps := ["_law_cells"]) (box := [1001]) (by simp [fn]) rfl (by decide +kernel) rfl rfl sc__law_whole (fun _ _ _ _ _ _ us hl => match us, hl with | [_], _ => rfl) h__law_whole rfl
theorem M_5 (c : SaysZ q0.fa fn q0.ex K) (X : K.In h) (G : h.Ns mainGlobals mg) : ModOk P w K mg base (q0.zx K) 5 m_5 := q0.defP c X G (M_4 c X G) (d := d__law_multiplied) (x := "_law_multiplied") (N := ["_law_one", "_law_other"]) (ps := ["_law_one", "_law_other"]) (box := []) (by simp [fn]) rfl (by decide +kernel) rfl rfl sc__law_multiplied (fun _ _ _ _ _ _ us hl => match us, hl with | [_, _], _ => rfl) h__law_multiplied rfl
theorem M_6 (c : SaysZ q0.fa fn q0.ex K) (X : K.In h) (G : h.Ns mainGlobals mg) : ModOk P w K mg base (q0.zx K) 6 m_6 := q0.defP c X G (M_5 c X G) (d := d__law_times) (x := "_law_times") (N := ["_law_whole_here", "_law_factor_here", "_law_here", "_law_number_here"]) (ps := ["_law_whole_here", "_law_factor_here"]) (box := [1000]) (by simp [fn]) rfl (by decide +kernel) rfl rfl sc__law_times (fun _ _ _ _ _ _ us hl => match us, hl with | [_, _], _ => rfl) h__law_times rfl
theorem M_7 (c : SaysZ q0.fa fn q0.ex K) (X : K.In h) (G : h.Ns mainGlobals mg) : ModOk P w K mg base (q0.zx K) 7 m_7 := q0.defP c X G (M_6 c X G) (d := d__law_factor) (x := "_law_factor") (N := ["_law_draw", "_law_factor_here"]) (ps := ["_law_draw"]) (box := []) (by simp [fn]) rfl (by decide +kernel) rfl rfl sc__law_factor (fun _ _ _ _ _ _ us hl => match us, hl with | [_], _ => rfl) h__law_factor rfl
theorem M_8 (c : SaysZ q0.fa fn q0.ex K) (X : K.In h) (G : h.Ns mainGlobals mg) : ModOk P w K mg base (q0.zx K) 8 m_8 := q0.defP c X G (M_7 c X G) (d := d__law_cell_at) (x := "_law_cell_at") (N := ["_law_script", "_law_k"]) (ps := ["_law_script", "_law_k"]) (box := []) (by simp [fn]) rfl (by decide +kernel) rfl rfl sc__law_cell_at (fun _ _ _ _ _ _ us hl => match us, hl with | [_, _], _ => rfl) h__law_cell_at rfl
theorem M_9 (c : SaysZ q0.fa fn q0.ex K) (X : K.In h) (G : h.Ns mainGlobals mg) : ModOk P w K mg base (q0.zx K) 9 m_9 := q0.defP c X G (M_8 c X G) (d := d_multiplied) (x := "multiplied") (N := ["one", "other"]) (ps := ["one", "other"]) (box := []) (by simp [fn]) rfl (by decide +kernel) rfl rfl sc_multiplied (fun _ _ _ _ _ _ us hl => match us, hl with | [_, _], _ => rfl) h_multiplied rfl
theorem M_10 (c : SaysZ q0.fa fn q0.ex K) (X : K.In h) (G : h.Ns mainGlobals mg) : ModOk P w K mg base (q0.zx K) 10 m_10 := q0.defP c X G (M_9 c X G) (d := d_same_whole) (x := "same_whole") (N := ["one", "other", "first", "here", "number"]) (ps := ["one", "other"]) (box := [1000]) (by simp [fn]) rfl (by decide +kernel) rfl rfl sc_same_whole (fun _ _ _ _ _ _ us hl => match us, hl with | [_, _], _ => rfl) h_same_whole rfl
theorem M_11 (c : SaysZ q0.fa fn q0.ex K) (X : K.In h) (G : h.Ns mainGlobals mg) : ModOk P w K mg base (q0.zx K) 11 m_11 := q0.defP c X G (M_10 c X G) (d := d__law_alike) (x := "_law_alike") (N := ["_law_one", "_law_other", "_law_due_here", "_law_handed", "_law_found"]) (ps := ["_law_one", "_law_other", "_law_due_here"]) (box := []) (by simp [fn]) rfl (by decide +kernel) rfl rfl sc__law_alike (fun _ _ _ _ _ _ us hl => match us, hl with | [_, _, _], _ => rfl) h__law_alike rfl
theorem M_12 (c : SaysZ q0.fa fn q0.ex K) (X : K.In h) (G : h.Ns mainGlobals mg) : ModOk P w K mg base (q0.zx K) 12 m_12 := q0.defP c X G (M_11 c X G) (d := d__law_changed) (x := "_law_changed") (N := ["_law_whole_here", "_law_draw", "_law_found", "_law_keys", "_law_here", "_law_there", "_law_way", "_law_number_here", "_law_k"]) (ps := ["_law_whole_here", "_law_draw"]) (box := [1002]) (by simp [fn]) rfl (by decide +kernel) rfl rfl sc__law_changed (fun _ _ _ _ _ _ us hl => match us, hl with | [_, _], _ => rfl) h__law_changed rfl
theorem M_13 (c : SaysZ q0.fa fn q0.ex K) (X : K.In h) (G : h.Ns mainGlobals mg) : ModOk P w K mg base (q0.zx K) 13 m_13 := q0.defP c X G (M_12 c X G) (d := d__law_due) (x := "_law_due") (N := ["_law_one", "_law_other", "_law_here", "_law_there"]) (ps := ["_law_one", "_law_other"]) (box := [1000, 1001]) (by simp [fn]) rfl (by decide +kernel) rfl rfl sc__law_due (fun _ _ _ _ _ _ us hl => match us, hl with | [_, _], _ => rfl) h__law_due rfl
theorem lawOk (c : SaysZ q0.fa fn q0.ex K) (X : K.In h) (G : h.Ns mainGlobals mg) : ∃ fd : FuncData, (∀ (s : Shared) (v : Value), BindsTo s fd ⟨[v], []⟩ [("_law_script", v)]) ∧ ∀ base : Heap, FnOk P w K mg base (L2.CX P w) 14 (He.ga K "law") fd ["_law_script"] (spP (q0.zx K) 1 f_law) := by
  obtain ⟨fd, F⟩ := c.def_ (d := d_law) (by simp [fn])
  refine ⟨fd, fun s v => FunD.bindsA (ps := ["_law_script"]) F (fun _ _ _ _ _ _ us hl => match us, hl with | [_], _ => rfl) s [v] rfl, fun base => ?_⟩
  exact fn_ok F sc_law (M_13 c X G) h_law
end
abbrev R : PySem.W.OpenRow := PySem.W.OpenLaw.row PySem.Challenge.rw_twinwires_k23_the_same_but_for_a_factor
abbrev hk : PySem.W.Hook := hookZ 6 q0.fa fn q0.ex
def ob (s : PySem.W.SharedT) : He.AlD := obsZG 6 q0.fa fn q0.ex (HandSHeadRun.getT s)
theorem ob_eq (s : PySem.W.SharedT) : ob s = hk.obs s.abs := obsZG_eq (HandSHeadRun.getT_eq s)
abbrev loose : List Str := ("multiplied" :: "same_whole" :: "_law_cell_at" :: "_law_mixed" :: "_law_bits" :: "_law_number" :: "_law_whole" :: "_law_multiplied" :: "_law_times" :: "_law_factor" :: "_law_changed" :: "_law_due" :: "_law_alike" :: [])
theorem run (w : World) : HandSHeadRun.RunEq R (PySem.W.view R.prog [15]) hk ob 20000 loose w := by
  intro os
  kernel_rfl
end
end K23
open PySem PySem.W PySem.Calls PyProof.Rows
set_option maxRecDepth 100000 in
set_option maxHeartbeats 0 in
theorem PySem.Challenge.cw_twinwires_k23_the_same_but_for_a_factor_holds : PySem.Challenge.rw_twinwires_k23_the_same_but_for_a_factor.Holds := by
  w_on; o_law
  refine HandSHeadRun.head_any (r := OpenLaw.row PySem.Challenge.rw_twinwires_k23_the_same_but_for_a_factor) (q := view (OpenLaw.row PySem.Challenge.rw_twinwires_k23_the_same_but_for_a_factor).prog [15]) (H := K23.hk) (ob := K23.ob) (M := 20000) (loose := K23.loose) (d := HandSHeadRun.topDef (OpenLaw.row PySem.Challenge.rw_twinwires_k23_the_same_but_for_a_factor).prog 15) (kwd := []) K23.ob_eq
    (by kernel_rfl) (fun s => by kernel_rfl) K23.run (by kernel_rfl) (by kernel_rfl) (by kernel_rfl) (by rfl) (by first | assumption | decide +kernel) (by decide +kernel) ⟨rfl, rfl, rfl, rfl, rfl, by decide +kernel⟩ ?hw ?hc
  case hw => w_witness2
  case hc =>
    refine TW.walk_law (l := PySem.Challenge.rw_twinwires_k23_the_same_but_for_a_factor) (n := 63) (k := 14) (x := "_law_script") rfl (by decide) (by kernel_rfl) ⟨rfl, by decide, by decide⟩ ?F
    intro w mg fa h Y G hmg0
    obtain ⟨K, KX, c⟩ := Y
    have hmg : mg ("law" : PySem.Str) = some (.ref fa) := by
      have e : (HandSHeadRun.topDef (OpenLaw.row PySem.Challenge.rw_twinwires_k23_the_same_but_for_a_factor).prog 15).name = ("law" : PySem.Str) := by kernel_rfl
      rw [← e]
      exact hmg0
    obtain ⟨fd, hb, hF⟩ := K23.lawOk (P := (PySem.Challenge.rw_twinwires_k23_the_same_but_for_a_factor).prog) (w := w) c KX G
    have e := hmg.symm.trans (TW.Facts.glo K23.q0 c KX G (x := "law") (by decide +kernel))
    cases e
    exact ⟨K, fd, TW.spP (K23.q0.zx K) 1 K23.f_law, KX, hb, fun H a ns hl hbits hS => TW.law_sp hS (K23.plain ns hl hbits), fun base _ _ => hF base⟩
