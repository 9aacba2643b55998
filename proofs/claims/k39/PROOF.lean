import PyProof.Rows.All
import PySem.Challenge.RW_flapwater_k39_rains_refused
import Wide.All
import OpenK.AllK
import Wide.FinOn
import HandS.ForMost
import HandS.ForExc
import HandS.Wide
import HandS.SortInts
import HandS.Defaults
import HandS.Lambda
import HandS.IsInst
import HandS.Style
import HandS.Text
import HandS.FStr
import HandS.Deep
import HandS.MakeKw
import HandS.MakeKwOnly
import KE.KDictZip
import HandS.DictTup
import HandS.Conv
import PyProof.Draws
import PyProof.TupleIter
import PyProof.TupleOfSeq
import HandS.SetFor
import HandS.ExcInit
import HandS.ExcField
import HandS.ExcIs
import KE.KExcIs
import OpenK.KCls
import HandS.SortKw
import HandS.EndTab
import KE.SortKeyHeap
import PyProof.ReprRoads
import PyProof.ReprBulk
import PyProof.Rows.RegStrFacts
import HandS.More
set_option Elab.async false
set_option maxRecDepth 100000
set_option maxHeartbeats 4000000
set_option linter.all false
set_option exponentiation.threshold 100000
/-! MCore: data without the heap (D), a small heap of what may change (MH), and how both stand over HandS's heap (Conc, Rel). -/
namespace M
open PySem L2

inductive D where
  | non | bl (b : Bool) | int (i : Int) | str (x : Str) | tup (ds : List D) | lst (ds : List D) | scr (ns : List Int) | ref (a : Addr) | ty (n : String)
  /-- an exception that was caught: its class, what it tells -/
  | exc (C : Addr) (w : D)

/-- one object that may change -/
inductive BO where
  | lst (ds : List D)
  | dic (kvs : List (Key × D))
  | ins (C : Addr) (fs : List (Str × D))
  /-- a table of code objects of one name -/
  | tbl (q : Str)
/-- what stands at an address of the small heap: an object, a part of a box, a box of objects (its own, then its parts') -/
inductive MO where
  | obj (b : BO)
  | part (o : Addr)
  | box (ps : List Addr) (φ : List BO → Prop)
abbrev MH := Addr → Option MO
def up (M : MH) (a : Addr) (o : MO) : MH := fun b => if b = a then some o else M b
def dl (M : MH) (a : Addr) : MH := fun b => if b = a then none else M b
theorem up_same {M : MH} {a : Addr} {o : MO} : up M a o a = some o := if_pos rfl
theorem up_ne {M : MH} {a b : Addr} {o : MO} (h : b ≠ a) : up M a o b = M b := if_neg h
theorem dl_same {M : MH} {a : Addr} : dl M a a = none := if_pos rfl
theorem dl_ne {M : MH} {a b : Addr} (h : b ≠ a) : dl M a b = M b := if_neg h
theorem up_up {M : MH} {a : Addr} {o u : MO} : up (up M a o) a u = up M a u := by
  funext b; unfold up; split <;> rfl
theorem dl_up {M : MH} {a : Addr} {o : MO} (h : M a = none) : dl (up M a o) a = M := by
  funext b; unfold dl up; split
  · rename_i e; rw [e]; exact h.symm
  · rfl
theorem up_self {M : MH} {a : Addr} {o : MO} (h : M a = some o) : up M a o = M := by
  funext b; unfold up; split
  · rename_i e; rw [e]; exact h.symm
  · rfl
theorem up_comm {M : MH} {a b : Addr} {o u : MO} (h : a ≠ b) : up (up M a o) b u = up (up M b u) a o := by
  funext c; unfold up
  by_cases h1 : c = a
  · rw [if_pos h1, if_neg (by rw [h1]; exact h), if_pos h1]
  · rw [if_neg h1]; split
    · rfl
    · rfl

/-! ### data over the heap -/
/-- a tuple that is known, or of the module -/
def TupI (K : PySem.W.Frag) (I : Hp) (a : Addr) (vs : List V) : Prop :=
  I a = some (.tup vs) ∨ ∃ (o : Obj) (its : Array Value) (n : Nat), K.lookup a = some o ∧ o.cls = .type "tuple" ∧ o.data = .seq its n ∧ its.size ≤ sizeLine ∧ Vals vs its.toList
/-- an exception object that was caught -/
def ExZ (cls : Value) (d : Option Addr) (a : Addr) : HO := .ext fun h => ∃ oe : Obj, h.get? a = some oe ∧ Zc cls d oe ∧ ∃ vs, oe.data = .fields vs
mutual
def Rel (K : PySem.W.Frag) (I : Hp) : D → V → Prop
  | .non, v => v = .non
  | .bl b, v => v = .bl b
  | .int i, v => v = .int i
  | .str x, v => v = .str x
  | .tup ds, v => ∃ a vs, v = .ref a ∧ TupI K I a vs ∧ Rels K I ds vs
  | .lst ds, v => ∃ a vs, v = .ref a ∧ I a = some (.lst vs) ∧ Rels K I ds vs
  | .scr ns, v => ∃ a, v = .ref a ∧ SqL K I a (ns.map V.int)
  | .ref a, v => v = .ref a
  | .ty n, v => v = .ty n
  | .exc C w, v => ∃ a d u, v = .ref a ∧ I a = some (ExZ (.ref C) (some d) a) ∧ I d = some (.xd [(("what" : Str), u)]) ∧ Rel K I w u
def Rels (K : PySem.W.Frag) (I : Hp) : List D → List V → Prop
  | [], vs => vs = []
  | d :: ds, vs => ∃ w ws, vs = w :: ws ∧ Rel K I d w ∧ Rels K I ds ws
end
def Le (I I' : Hp) : Prop := ∀ a o, I a = some o → I' a = some o
theorem Le.refl (I : Hp) : Le I I := fun _ _ h => h
theorem Le.trans {I J L : Hp} (a : Le I J) (b : Le J L) : Le I L := fun x o h => b x o (a x o h)
theorem Le.new {I : Hp} {p : Addr} {o : HO} (h : I p = none) : Le I (upd I p o) := fun a u e => by
  rw [upd_ne (ne_of_none e h)]; exact e
theorem rd_le {I J : Hp} {a : Addr} {u : HO} (e : Le I J) (h : Rd I a u) : Rd J a u := by
  rcases h with h | ⟨o, h⟩
  · exact .inl (e a _ h)
  · exact .inr ⟨o, e a _ h⟩
theorem sql_le {K : PySem.W.Frag} {I J : Hp} {a : Addr} {xs : List V} (e : Le I J) (h : SqL K I a xs) : SqL K J a xs := by
  rcases h with h | h
  · exact .inl (rd_le e h)
  · exact .inr h
theorem sqt_le {K : PySem.W.Frag} {I J : Hp} {a : Addr} {xs : List V} (e : Le I J) (h : SqT K I a xs) : SqT K J a xs := by
  rcases h with h | h
  · exact .inl (rd_le e h)
  · exact .inr h
theorem TupI.le {K : PySem.W.Frag} {I J : Hp} {a : Addr} {xs : List V} (e : Le I J) (h : TupI K I a xs) : TupI K J a xs := h.imp (e _ _) id
theorem TupI.sqt {K : PySem.W.Frag} {I : Hp} {a : Addr} {xs : List V} (h : TupI K I a xs) : SqT K I a xs := h.imp Or.inl id
section
variable {K : PySem.W.Frag} {I J : Hp}
mutual
theorem Rel.le (e : Le I J) : ∀ (d : D) (v : V), Rel K I d v → Rel K J d v
  | .non, _, h => by simpa [Rel] using h
  | .bl _, _, h => by simpa [Rel] using h
  | .int _, _, h => by simpa [Rel] using h
  | .str _, _, h => by simpa [Rel] using h
  | .ref _, _, h => by simpa [Rel] using h
  | .ty _, _, h => by simpa [Rel] using h
  | .exc C w, v, h => by
    rw [Rel] at h ⊢
    obtain ⟨a, d, u, h1, h2, h3, h4⟩ := h
    exact ⟨a, d, u, h1, e _ _ h2, e _ _ h3, Rel.le e w u h4⟩
  | .tup ds, v, h => by
    rw [Rel] at h ⊢
    obtain ⟨a, vs, h1, h2, h3⟩ := h
    exact ⟨a, vs, h1, h2.le e, Rels.le e ds vs h3⟩
  | .lst ds, v, h => by
    rw [Rel] at h ⊢
    obtain ⟨a, vs, h1, h2, h3⟩ := h
    exact ⟨a, vs, h1, e _ _ h2, Rels.le e ds vs h3⟩
  | .scr ns, v, h => by
    rw [Rel] at h ⊢
    obtain ⟨a, h1, h2⟩ := h
    exact ⟨a, h1, sql_le e h2⟩
theorem Rels.le (e : Le I J) : ∀ (ds : List D) (vs : List V), Rels K I ds vs → Rels K J ds vs
  | [], _, h => by simpa [Rels] using h
  | d :: ds, vs, h => by
    rw [Rels] at h ⊢
    obtain ⟨w, ws, h1, h2, h3⟩ := h
    exact ⟨w, ws, h1, Rel.le e d w h2, Rels.le e ds ws h3⟩
end
theorem Rels.nil : Rels K I [] [] := by rw [Rels]
theorem Rels.cons {d : D} {v : V} {ds : List D} {vs : List V} (h : Rel K I d v) (t : Rels K I ds vs) : Rels K I (d :: ds) (v :: vs) := by
  rw [Rels]; exact ⟨v, vs, rfl, h, t⟩
theorem Rels.nil_inv {vs : List V} (h : Rels K I [] vs) : vs = [] := by simpa [Rels] using h
theorem Rels.cons_inv {d : D} {ds : List D} {vs : List V} (h : Rels K I (d :: ds) vs) : ∃ w ws, vs = w :: ws ∧ Rel K I d w ∧ Rels K I ds ws := by
  rwa [Rels] at h
theorem Rels.length : ∀ {ds : List D} {vs : List V}, Rels K I ds vs → ds.length = vs.length
  | [], vs, h => by rw [h.nil_inv]; rfl
  | d :: ds, vs, h => by
    obtain ⟨w, ws, rfl, _, h3⟩ := h.cons_inv
    rw [List.length_cons, List.length_cons, Rels.length h3]
theorem Rels.get : ∀ {ds : List D} {vs : List V} {i : Nat} {d : D}, Rels K I ds vs → ds[i]? = some d → ∃ v, vs[i]? = some v ∧ Rel K I d v
  | [], vs, i, d, h, e => by simp at e
  | x :: ds, vs, i, d, h, e => by
    obtain ⟨w, ws, rfl, h2, h3⟩ := h.cons_inv
    cases i with
    | zero => simp at e; subst e; exact ⟨w, rfl, h2⟩
    | succ i => simp at e; obtain ⟨v, a, b⟩ := Rels.get h3 e; exact ⟨v, by simpa using a, b⟩
theorem Rels.append : ∀ {ds es : List D} {vs ws : List V}, Rels K I ds vs → Rels K I es ws → Rels K I (ds ++ es) (vs ++ ws)
  | [], es, vs, ws, h, g => by rw [h.nil_inv]; exact g
  | d :: ds, es, vs, ws, h, g => by
    obtain ⟨w, ws', rfl, h2, h3⟩ := h.cons_inv
    exact .cons h2 (Rels.append h3 g)
theorem Rels.one {d : D} {v : V} (h : Rel K I d v) : Rels K I [d] [v] := .cons h .nil
theorem Rels.take : ∀ {ds : List D} {vs : List V} (n : Nat), Rels K I ds vs → Rels K I (ds.take n) (vs.take n)
  | [], vs, n, h => by rw [h.nil_inv]; simpa using Rels.nil
  | d :: ds, vs, n, h => by
    obtain ⟨w, ws, rfl, h2, h3⟩ := h.cons_inv
    cases n with
    | zero => exact .nil
    | succ n => exact .cons h2 (Rels.take n h3)
theorem Rels.drop : ∀ {ds : List D} {vs : List V} (n : Nat), Rels K I ds vs → Rels K I (ds.drop n) (vs.drop n)
  | [], vs, n, h => by rw [h.nil_inv]; simpa using Rels.nil
  | d :: ds, vs, n, h => by
    cases n with
    | zero => exact h
    | succ n =>
      obtain ⟨w, ws, rfl, h2, h3⟩ := h.cons_inv
      exact Rels.drop n h3
theorem Rels.set : ∀ {ds : List D} {vs : List V} (n : Nat) {d : D} {v : V}, Rels K I ds vs → Rel K I d v → Rels K I (ds.set n d) (vs.set n v)
  | [], vs, n, d, v, h, r => by rw [h.nil_inv]; simpa using Rels.nil
  | x :: ds, vs, n, d, v, h, r => by
    obtain ⟨w, ws, rfl, h2, h3⟩ := h.cons_inv
    cases n with
    | zero => exact .cons r h3
    | succ n => exact .cons h2 (Rels.set n h3 r)
theorem Rels.eraseIdx : ∀ {ds : List D} {vs : List V} (n : Nat), Rels K I ds vs → Rels K I (ds.eraseIdx n) (vs.eraseIdx n)
  | [], vs, n, h => by rw [h.nil_inv]; simpa using Rels.nil
  | x :: ds, vs, n, h => by
    obtain ⟨w, ws, rfl, h2, h3⟩ := h.cons_inv
    cases n with
    | zero => exact h3
    | succ n => exact .cons h2 (Rels.eraseIdx n h3)
theorem Rels.dropLast {ds : List D} {vs : List V} (h : Rels K I ds vs) : Rels K I ds.dropLast vs.dropLast := by
  rw [List.dropLast_eq_take, List.dropLast_eq_take, h.length]; exact h.take _
theorem Rels.reverse : ∀ {ds : List D} {vs : List V}, Rels K I ds vs → Rels K I ds.reverse vs.reverse
  | [], vs, h => by rw [h.nil_inv]; exact .nil
  | d :: ds, vs, h => by
    obtain ⟨w, ws, rfl, h2, h3⟩ := h.cons_inv
    rw [List.reverse_cons, List.reverse_cons]
    exact .append (Rels.reverse h3) (.one h2)
theorem Rels.ints : ∀ {ns : List Int} {vs : List V}, Rels K I (ns.map D.int) vs → vs = ns.map V.int
  | [], vs, h => h.nil_inv
  | n :: ns, vs, h => by
    obtain ⟨w, ws, rfl, h2, h3⟩ := Rels.cons_inv (d := .int n) (ds := ns.map D.int) h
    rw [Rel] at h2
    rw [h2, Rels.ints h3]; rfl
theorem Rels.of_ints : ∀ {ns : List Int}, Rels K I (ns.map D.int) (ns.map V.int)
  | [] => .nil
  | n :: ns => .cons (by rw [Rel]) Rels.of_ints
end

/-! ### the small heap over the heap -/
def RelF (K : PySem.W.Frag) (I : Hp) : List (Str × D) → List (Str × V) → Prop
  | [], vs => vs = []
  | (f, d) :: ds, vs => ∃ w ws, vs = (f, w) :: ws ∧ Rel K I d w ∧ RelF K I ds ws
def RelK (K : PySem.W.Frag) (I : Hp) : List (Key × D) → List (Key × V) → Prop
  | [], vs => vs = []
  | (f, d) :: ds, vs => ∃ w ws, vs = (f, w) :: ws ∧ Rel K I d w ∧ RelK K I ds ws
def RelB (K : PySem.W.Frag) (H I : Hp) (a : Addr) : BO → Prop
  | .lst ds => ∃ vs, H a = some (.lst vs) ∧ Rels K I ds vs
  | .dic kvs => ∃ vs, H a = some (.dK vs) ∧ RelK K I kvs vs
  | .ins C fs => ∃ dx vs, H a = some (.ins C dx vs) ∧ RelF K I fs vs
  | .tbl q => ∃ ps : Array Value, H a = some (.tbl ps) ∧ TriplesOk ps.toList ∧ ∀ (pos : Pos) (cv : Value), codeAmong pos ps.toList = some cv → ∃ c, cv = .ref c ∧ I c = some (LamX.CodeO c q)
def RelBs (K : PySem.W.Frag) (H I : Hp) : List Addr → List BO → Prop
  | [], bs => bs = []
  | a :: as, bs => ∃ b r, bs = b :: r ∧ RelB K H I a b ∧ RelBs K H I as r
def RelM (K : PySem.W.Frag) (H I : Hp) (M : MH) (a : Addr) : MO → Prop
  | .obj b => RelB K H I a b
  | .part _ => H a ≠ none
  | .box ps φ => (∀ p ∈ ps, M p = some (.part a)) ∧ ∃ bs, RelBs K H I (a :: ps) bs ∧ φ bs
structure Conc (K : PySem.W.Frag) (H I : Hp) (M : MH) (F : Hp) : Prop where
  sub : Le I H
  fre : ∀ a, M a ≠ none → I a = none
  rel : ∀ a o, M a = some o → RelM K H I M a o
  frm : ∀ a o, F a = some o → H a = some o ∧ I a = none ∧ M a = none
section
variable {K : PySem.W.Frag} {H H' I J F : Hp} {M : MH} {a p : Addr}
theorem RelF.le (e : Le I J) : ∀ {ds : List (Str × D)} {vs : List (Str × V)}, RelF K I ds vs → RelF K J ds vs
  | [], vs, h => h
  | (f, d) :: ds, vs, ⟨w, ws, h1, h2, h3⟩ => ⟨w, ws, h1, Rel.le e _ _ h2, RelF.le e h3⟩
theorem RelK.le (e : Le I J) : ∀ {ds : List (Key × D)} {vs : List (Key × V)}, RelK K I ds vs → RelK K J ds vs
  | [], vs, h => h
  | (f, d) :: ds, vs, ⟨w, ws, h1, h2, h3⟩ => ⟨w, ws, h1, Rel.le e _ _ h2, RelK.le e h3⟩
theorem RelB.le (e : Le I J) (k : ∀ o, H a = some o → H' a = some o) : ∀ {b : BO}, RelB K H I a b → RelB K H' J a b
  | .lst _, ⟨vs, h1, h2⟩ => ⟨vs, k _ h1, Rels.le e _ _ h2⟩
  | .dic _, ⟨vs, h1, h2⟩ => ⟨vs, k _ h1, RelK.le e h2⟩
  | .ins _ _, ⟨dx, vs, h1, h2⟩ => ⟨dx, vs, k _ h1, RelF.le e h2⟩
  | .tbl _, ⟨ps, h1, h2, h3⟩ => ⟨ps, k _ h1, h2, fun pos cv hc => let ⟨c, e1, e2⟩ := h3 pos cv hc; ⟨c, e1, e _ _ e2⟩⟩
theorem RelB.ne0 {b : BO} (h : RelB K H I a b) : H a ≠ none := by
  cases b with
  | lst ds => obtain ⟨vs, h1, _⟩ := h; rw [h1]; simp
  | dic ds => obtain ⟨vs, h1, _⟩ := h; rw [h1]; simp
  | ins C ds => obtain ⟨dx, vs, h1, _⟩ := h; rw [h1]; simp
  | tbl q => obtain ⟨ps, h1, _⟩ := h; rw [h1]; simp
theorem RelBs.le (e : Le I J) : ∀ {as : List Addr} {bs : List BO}, (∀ a ∈ as, ∀ o, H a = Option.some o → H' a = Option.some o) → RelBs K H I as bs → RelBs K H' J as bs
  | [], bs, _, h => h
  | a :: as, bs, k, ⟨b, r, h1, h2, h3⟩ => ⟨b, r, h1, h2.le e (k a List.mem_cons_self), RelBs.le e (fun x hx => k x (List.mem_cons_of_mem _ hx)) h3⟩
theorem RelM.ne0 {o : MO} (h : RelM K H I M a o) : H a ≠ none := by
  cases o with
  | obj b => exact RelB.ne0 h
  | part _ => exact h
  | box ps φ =>
    obtain ⟨_, bs, ⟨b, r, _, h2, _⟩, _⟩ := h
    exact h2.ne0
theorem Conc.fresh (c : Conc K H I M F) (h : H p = none) : I p = none ∧ M p = none := by
  constructor
  · cases e : I p with
    | none => rfl
    | some o => rw [c.sub p o e] at h; cases h
  · cases e : M p with
    | none => rfl
    | some o => exact absurd h (c.rel p o e).ne0
theorem Conc.notF (c : Conc K H I M F) (h : H p = none) : F p = none := by
  cases e : F p with
  | none => rfl
  | some o => rw [(c.frm p o e).1] at h; cases h
/-- the heap grows, what is known grows: no mutable object is touched -/
theorem Conc.grow (c : Conc K H I M F) (e : Le I J) (s : Le J H') (k : ∀ a o, M a ≠ none → H a = some o → H' a = some o) (n : ∀ a, M a ≠ none → J a = none) (f : ∀ a o, F a = some o → H' a = some o ∧ J a = none) : Conc K H' J M F := by
  refine ⟨s, n, fun a o h => ?_, fun a o h => ⟨(f a o h).1, (f a o h).2, (c.frm a o h).2.2⟩⟩
  have hm : M a ≠ none := by rw [h]; simp
  cases o with
  | obj b => exact RelB.le e (fun o => k a o hm) (c.rel a _ h)
  | part o =>
    have := c.rel a _ h
    cases q : H a with
    | none => exact absurd q this
    | some o => show H' a ≠ none; rw [k a o hm q]; simp
  | box ps φ =>
    obtain ⟨h1, bs, h2, h3⟩ := c.rel a _ h
    refine ⟨h1, bs, RelBs.le e (fun x hx o => k x o ?_) h2, h3⟩
    rcases List.mem_cons.mp hx with rfl | hx
    · exact hm
    · rw [h1 x hx]; simp
/-- a new object, frozen -/
theorem Conc.newF {o : HO} (c : Conc K H I M F) (h : H p = none) : Conc K (upd H p o) (upd I p o) M F := by
  obtain ⟨h1, h2⟩ := c.fresh h
  refine c.grow (Le.new h1) (fun a u e => ?_) (fun a u m e => by rw [upd_ne (ne_of_none e h)]; exact e) (fun a m => ?_) fun a u e => ?_
  · by_cases q : a = p
    · subst q; rw [upd_same] at e ⊢; exact e
    · rw [upd_ne q] at e ⊢; exact c.sub a u e
  · have q : a ≠ p := fun z => by rw [z] at m; exact m h2
    rw [upd_ne q]; exact c.fre a m
  · obtain ⟨a1, a2, a3⟩ := c.frm a u e
    rw [upd_ne (ne_of_none a1 h), upd_ne (ne_of_none a1 h)]; exact ⟨a1, a2⟩
/-- a new object of which nothing is known -/
theorem Conc.new0 {o : HO} (c : Conc K H I M F) (h : H p = none) : Conc K (upd H p o) I M F :=
  c.grow (Le.refl I) (fun a u e => by rw [upd_ne (ne_of_none (c.sub a u e) h)]; exact c.sub a u e) (fun a u m e => by rw [upd_ne (ne_of_none e h)]; exact e) c.fre
    fun a u e => by rw [upd_ne (ne_of_none (c.frm a u e).1 h)]; exact ⟨(c.frm a u e).1, (c.frm a u e).2.1⟩
/-- an object put at a: new there, or it was a single object -/
theorem Conc.put {b : BO} {o : HO} (c : Conc K H I M F) (ha : I a = none) (hF : F a = none) (hM : M a = none ∨ ∃ b0, M a = some (.obj b0)) (r : RelB K (upd H a o) I a b) : Conc K (upd H a o) I (up M a (.obj b)) F := by
  have np : ∀ x o, M x = some (.part o) → x ≠ a := fun x o e z => by
    subst z
    rcases hM with q | ⟨_, q⟩ <;> rw [q] at e <;> cases e
  refine ⟨fun x u e => ?_, fun x m => ?_, fun x u e => ?_, fun x u e => ?_⟩
  · rw [upd_ne (ne_of_none e ha)]; exact c.sub x u e
  · by_cases q : x = a
    · rw [q]; exact ha
    · rw [up_ne q] at m; exact c.fre x m
  · by_cases q : x = a
    · subst q; rw [up_same] at e; cases e; exact r
    · rw [up_ne q] at e
      have hx := c.rel x u e
      cases u with
      | obj b' => exact RelB.le (Le.refl I) (fun o h => by rw [upd_ne q]; exact h) hx
      | part _ => show upd H a o x ≠ none; rw [upd_ne q]; exact hx
      | box ps φ =>
        obtain ⟨h1, bs, h2, h3⟩ := hx
        refine ⟨fun y hy => by rw [up_ne (np y _ (h1 y hy))]; exact h1 y hy, bs, RelBs.le (Le.refl I) (fun y hy o h => ?_) h2, h3⟩
        rcases List.mem_cons.mp hy with rfl | hy
        · rw [upd_ne q]; exact h
        · rw [upd_ne (np y _ (h1 y hy))]; exact h
  · obtain ⟨a1, a2, a3⟩ := c.frm x u e
    have q : x ≠ a := fun z => by rw [z, hF] at e; cases e
    rw [upd_ne q, up_ne q]; exact ⟨a1, a2, a3⟩
theorem Conc.newM {b : BO} {o : HO} (c : Conc K H I M F) (h : H p = none) (r : RelB K (upd H p o) I p b) : Conc K (upd H p o) I (up M p (.obj b)) F :=
  c.put (c.fresh h).1 (c.notF h) (.inl (c.fresh h).2) r
theorem Conc.notF' {o : MO} (c : Conc K H I M F) (h : M a = some o) : F a = none := by
  cases e : F a with
  | none => rfl
  | some u => rw [(c.frm a u e).2.2] at h; cases h
theorem Conc.set {b b0 : BO} {o : HO} (c : Conc K H I M F) (h : M a = some (.obj b0)) (r : RelB K (upd H a o) I a b) : Conc K (upd H a o) I (up M a (.obj b)) F :=
  c.put (c.fre a (by rw [h]; simp)) (c.notF' h) (.inr ⟨b0, h⟩) r
/-- a list is frozen -/
theorem Conc.freeze {ds : List D} (c : Conc K H I M F) (h : M a = some (.obj (.lst ds))) : ∃ vs, H a = some (.lst vs) ∧ Rels K I ds vs ∧ Conc K H (upd I a (.lst vs)) (dl M a) F ∧ Le I (upd I a (.lst vs)) := by
  obtain ⟨vs, h1, h2⟩ := c.rel a _ h
  have hi : I a = none := c.fre a (by rw [h]; simp)
  have le : Le I (upd I a (.lst vs)) := Le.new hi
  refine ⟨vs, h1, h2, ⟨fun x u e => ?_, fun x m => ?_, fun x u e => ?_, fun x u e => ?_⟩, le⟩
  · by_cases q : x = a
    · subst q; rw [upd_same] at e; cases e; exact h1
    · rw [upd_ne q] at e; exact c.sub x u e
  · by_cases q : x = a
    · subst q; rw [dl_same] at m; exact absurd rfl m
    · rw [dl_ne q] at m; rw [upd_ne q]; exact c.fre x m
  · by_cases q : x = a
    · subst q; rw [dl_same] at e; cases e
    · rw [dl_ne q] at e
      have hx := c.rel x u e
      cases u with
      | obj b' => exact RelB.le le (fun o h => h) hx
      | part _ => exact hx
      | box ps φ =>
        obtain ⟨g1, bs, g2, g3⟩ := hx
        refine ⟨fun y hy => ?_, bs, RelBs.le le (fun y hy o h => h) g2, g3⟩
        have : y ≠ a := fun z => by subst z; have := g1 y hy; rw [h] at this; cases this
        rw [dl_ne this]; exact g1 y hy
  · obtain ⟨a1, a2, a3⟩ := c.frm x u e
    have q : x ≠ a := fun z => by rw [z, c.notF' h] at e; cases e
    rw [upd_ne q, dl_ne q]; exact ⟨a1, a2, a3⟩
/-- the frame changes at an address of its own -/
theorem Conc.setF {o u : HO} (c : Conc K H I M F) (h : F a = some u) : Conc K (upd H a o) I M (upd F a o) := by
  obtain ⟨a1, a2, a3⟩ := c.frm a u h
  refine ⟨fun x v e => by rw [upd_ne (ne_of_none e a2)]; exact c.sub x v e, c.fre, fun x v e => ?_, fun x v e => ?_⟩
  · have q : ∀ y, M y ≠ none → y ≠ a := fun y m z => by rw [z] at m; exact m a3
    have hx := c.rel x v e
    have qx : x ≠ a := q x (by rw [e]; simp)
    cases v with
    | obj b => exact RelB.le (Le.refl I) (fun o h => by rw [upd_ne qx]; exact h) hx
    | part _ => show upd H a o x ≠ none; rw [upd_ne qx]; exact hx
    | box ps φ =>
      obtain ⟨h1, bs, h2, h3⟩ := hx
      refine ⟨h1, bs, RelBs.le (Le.refl I) (fun y hy o h => ?_) h2, h3⟩
      rcases List.mem_cons.mp hy with rfl | hy
      · rw [upd_ne qx]; exact h
      · rw [upd_ne (q y (by rw [h1 y hy]; simp))]; exact h
  · by_cases q : x = a
    · subst q; rw [upd_same] at e ⊢; cases e; exact ⟨rfl, a2, a3⟩
    · rw [upd_ne q] at e ⊢; exact c.frm x v e
/-- a new object, of the frame -/
theorem Conc.newFr {o : HO} (c : Conc K H I M F) (h : H p = none) : Conc K (upd H p o) I M (upd F p o) := by
  have c' := c.new0 (o := o) h
  refine ⟨c'.sub, c'.fre, c'.rel, fun x v e => ?_⟩
  by_cases q : x = p
  · subst q; rw [upd_same] at e ⊢; cases e; exact ⟨rfl, c.fresh h⟩
  · rw [upd_ne q] at e; exact c'.frm x v e
/-- less of the frame -/
theorem Conc.unF {F' : Hp} (c : Conc K H I M F) (h : Le F' F) : Conc K H I M F' := ⟨c.sub, c.fre, c.rel, fun a o e => c.frm a o (h a o e)⟩
def noF (F : Hp) (a : Addr) : Hp := fun b => if b = a then none else F b
theorem noF_same : noF F a a = none := if_pos rfl
theorem noF_ne {b : Addr} (h : b ≠ a) : noF F a b = F b := if_neg h
theorem noF_le : Le (noF F a) F := fun x v e => by
  by_cases q : x = a
  · rw [q, noF_same] at e; cases e
  · rw [noF_ne q] at e; exact e
/-- an object of the frame is taken into what is known -/
theorem Conc.iceF {o : HO} (c : Conc K H I M F) (h : F a = some o) : Conc K H (upd I a o) M (noF F a) := by
  obtain ⟨a1, a2, a3⟩ := c.frm a o h
  refine Conc.grow (c.unF noF_le) (Le.new a2) (fun x v e => ?_) (fun x v m e => e) (fun x m => ?_) fun x v e => ?_
  · by_cases q : x = a
    · subst q; rw [upd_same] at e; cases e; exact a1
    · rw [upd_ne q] at e; exact c.sub x v e
  · have q : x ≠ a := fun z => by rw [z] at m; exact m a3
    rw [upd_ne q]; exact c.fre x m
  · by_cases q : x = a
    · rw [q, noF_same] at e; cases e
    · rw [noF_ne q] at e; rw [upd_ne q]; exact ⟨(c.frm x v e).1, (c.frm x v e).2.1⟩
/-- .. into what may change -/
theorem Conc.meltF {o : HO} {b : BO} (c : Conc K H I M F) (h : F a = some o) (r : RelB K H I a b) : Conc K H I (up M a (.obj b)) (noF F a) := by
  obtain ⟨a1, a2, a3⟩ := c.frm a o h
  have e0 : upd H a o = H := by
    funext x; unfold upd; split
    · rename_i q; rw [q, a1]
    · rfl
  have c2 := (c.unF noF_le : Conc K H I M (noF F a)).put (a := a) (b := b) (o := o) a2 noF_same (.inl a3) (by rw [e0]; exact r)
  rw [e0] at c2
  exact c2
end
end M
/-! MRules: transformers over data (AE, AS ..), how HandS's transformers follow from them. -/
namespace M
open PySem L2

abbrev G := List (Option D)
abbrev AK := D → MH → Prop
abbrev AE := G → MH → AK → Prop
abbrev AT := G → MH → (Bool → MH → Prop) → Prop
abbrev AA := G → MH → (List D → MH → Prop) → Prop
abbrev AO := G → MH → (Option Int → MH → Prop) → Prop
structure AD where
  nx : G → MH → Prop
  rt : AK
  bk : G → MH → Prop := fun _ _ => False
  ct : G → MH → Prop := fun _ _ => False
  /-- an own exception: its class, what it tells; the slots -/
  ex : Addr × D → G → MH → Prop := fun _ _ _ => False
abbrev AS := AD → G → MH → Prop
abbrev AG := D → G → MH → (G → MH → Prop) → Prop
abbrev AGs := List D → G → MH → (G → MH → Prop) → Prop

def RelS (K : PySem.W.Frag) (I : Hp) : G → L2.St → Prop
  | [], σ => σ = []
  | none :: Γ, σ => ∃ x r, σ = x :: r ∧ RelS K I Γ r
  | some d :: Γ, σ => ∃ v r, σ = some v :: r ∧ Rel K I d v ∧ RelS K I Γ r
section
variable {K : PySem.W.Frag} {I J : Hp}
theorem RelS.le (e : Le I J) : ∀ {Γ : G} {σ : L2.St}, RelS K I Γ σ → RelS K J Γ σ
  | [], σ, h => h
  | none :: Γ, σ, ⟨x, r, h1, h2⟩ => ⟨x, r, h1, RelS.le e h2⟩
  | some d :: Γ, σ, ⟨v, r, h1, h2, h3⟩ => ⟨v, r, h1, Rel.le e _ _ h2, RelS.le e h3⟩
theorem RelS.get : ∀ {Γ : G} {σ : L2.St} {i : Nat} {d : D}, RelS K I Γ σ → Γ[i]? = some (some d) → ∃ v, σ[i]? = some (some v) ∧ Rel K I d v
  | [], σ, i, d, h, e => by simp at e
  | none :: Γ, σ, i, d, ⟨x, r, h1, h2⟩, e => by
    subst h1
    cases i with
    | zero => simp at e
    | succ i => simp at e; obtain ⟨v, a, b⟩ := RelS.get h2 e; exact ⟨v, by simpa using a, b⟩
  | some y :: Γ, σ, i, d, ⟨w, r, h1, h2, h3⟩, e => by
    subst h1
    cases i with
    | zero => simp at e; subst e; exact ⟨w, rfl, h2⟩
    | succ i => simp at e; obtain ⟨v, a, b⟩ := RelS.get h3 e; exact ⟨v, by simpa using a, b⟩
theorem RelS.set : ∀ {Γ : G} {σ : L2.St} {i : Nat} {d : D} {v : V}, RelS K I Γ σ → Rel K I d v → RelS K I (Γ.set i (some d)) (σ.set i (some v))
  | [], σ, i, d, v, h, r => by rw [show σ = [] from h]; exact rfl
  | none :: Γ, σ, i, d, v, ⟨x, r, h1, h2⟩, q => by
    subst h1
    cases i with
    | zero => exact ⟨v, r, rfl, q, h2⟩
    | succ i => exact ⟨x, r.set i (some v), rfl, RelS.set h2 q⟩
  | some y :: Γ, σ, i, d, v, ⟨w, r, h1, h2, h3⟩, q => by
    subst h1
    cases i with
    | zero => exact ⟨v, r, rfl, q, h3⟩
    | succ i => exact ⟨w, r.set i (some v), rfl, h2, RelS.set h3 q⟩
/-- a slot is forgotten -/
theorem RelS.forget : ∀ {Γ : G} {σ : L2.St} {i : Nat}, RelS K I Γ σ → RelS K I (Γ.set i none) (σ.set i none)
  | [], σ, i, h => by rw [show σ = [] from h]; exact rfl
  | none :: Γ, σ, i, ⟨x, r, h1, h2⟩ => by
    subst h1
    cases i with
    | zero => exact ⟨none, r, rfl, h2⟩
    | succ i => exact ⟨x, r.set i none, rfl, RelS.forget h2⟩
  | some y :: Γ, σ, i, ⟨w, r, h1, h2, h3⟩ => by
    subst h1
    cases i with
    | zero => exact ⟨none, r, rfl, h3⟩
    | succ i => exact ⟨w, r.set i none, rfl, h2, RelS.forget h3⟩
theorem RelS.length : ∀ {Γ : G} {σ : L2.St}, RelS K I Γ σ → Γ.length = σ.length
  | [], σ, h => by rw [show σ = [] from h]; rfl
  | none :: Γ, σ, ⟨x, r, h1, h2⟩ => by subst h1; rw [List.length_cons, List.length_cons, RelS.length h2]
  | some y :: Γ, σ, ⟨w, r, h1, h2, h3⟩ => by subst h1; rw [List.length_cons, List.length_cons, RelS.length h3]
theorem RelS.nones : ∀ {n : Nat} {σ : L2.St}, σ.length = n → RelS K I (List.replicate n none) σ
  | 0, σ, h => List.eq_nil_of_length_eq_zero h
  | n + 1, [], h => by simp at h
  | n + 1, x :: r, h => ⟨x, r, rfl, RelS.nones (by simpa using h)⟩
theorem RelS.start : ∀ {ds : List D} {vs : List V} {n : Nat}, Rels K I ds vs → RelS K I (ds.map some ++ List.replicate n none) (vs.map some ++ List.replicate n none)
  | [], vs, n, h => by rw [h.nil_inv]; exact RelS.nones (by simp)
  | d :: ds, vs, n, h => by
    obtain ⟨w, ws, rfl, h2, h3⟩ := h.cons_inv
    exact ⟨w, _, rfl, h2, RelS.start h3⟩
end

/-! ### what a continuation over data is worth -/
def kE (K : PySem.W.Frag) (I F : Hp) (k : AK) (Q : VK) : Prop := ∀ d M v H I', k d M → Le I I' → Conc K H I' M F → Rel K I' d v → Q v H
def kT (K : PySem.W.Frag) (I F : Hp) (k : Bool → MH → Prop) (Q : Bool → Hp → Prop) : Prop := ∀ b M H I', k b M → Le I I' → Conc K H I' M F → Q b H
def kA (K : PySem.W.Frag) (I F : Hp) (k : List D → MH → Prop) (Q : List V → Hp → Prop) : Prop := ∀ ds M vs H I', k ds M → Le I I' → Conc K H I' M F → Rels K I' ds vs → Q vs H
def kO (K : PySem.W.Frag) (I F : Hp) (k : Option Int → MH → Prop) (Q : Option Int → Hp → Prop) : Prop := ∀ o M H I', k o M → Le I I' → Conc K H I' M F → Q o H
def kN (K : PySem.W.Frag) (I F : Hp) (k : G → MH → Prop) (Q : L2.St → Hp → Prop) : Prop := ∀ Γ M σ H I', k Γ M → Le I I' → Conc K H I' M F → RelS K I' Γ σ → Q σ H
structure kS (K : PySem.W.Frag) (I F : Hp) (D : AD) (E : Ends) : Prop where
  nx : kN K I F D.nx E.nx
  rt : kE K I F D.rt E.rt
  bk : kN K I F D.bk E.bk
  ct : kN K I F D.ct E.ct
theorem kE.le {K : PySem.W.Frag} {I J F : Hp} {k : AK} {Q : VK} (h : kE K I F k Q) (e : Le I J) : kE K J F k Q := fun d M v H I' a b => h d M v H I' a (e.trans b)
theorem kN.le {K : PySem.W.Frag} {I J F : Hp} {k : G → MH → Prop} {Q : L2.St → Hp → Prop} (h : kN K I F k Q) (e : Le I J) : kN K J F k Q := fun Γ M σ H I' a b => h Γ M σ H I' a (e.trans b)
theorem kS.le {K : PySem.W.Frag} {I J F : Hp} {D : AD} {E : Ends} (h : kS K I F D E) (e : Le I J) : kS K J F D E := ⟨h.nx.le e, h.rt.le e, h.bk.le e, h.ct.le e⟩

def lift (K : PySem.W.Frag) (f : AE) : TE := fun σ H Q => ∃ Γ M I F k, RelS K I Γ σ ∧ Conc K H I M F ∧ f Γ M k ∧ kE K I F k Q
def liftT (K : PySem.W.Frag) (f : AT) : TT := fun σ H Q => ∃ Γ M I F k, RelS K I Γ σ ∧ Conc K H I M F ∧ f Γ M k ∧ kT K I F k Q
def liftA (K : PySem.W.Frag) (f : AA) : TA := fun σ H Q => ∃ Γ M I F k, RelS K I Γ σ ∧ Conc K H I M F ∧ f Γ M k ∧ kA K I F k Q
def liftO (K : PySem.W.Frag) (f : AO) : TO := fun σ H Q => ∃ Γ M I F k, RelS K I Γ σ ∧ Conc K H I M F ∧ f Γ M k ∧ kO K I F k Q
def liftS (K : PySem.W.Frag) (f : AS) : TS := fun E σ H => ∃ Γ M I F D, RelS K I Γ σ ∧ Conc K H I M F ∧ f D Γ M ∧ kS K I F D E
def liftG (K : PySem.W.Frag) (f : AG) : TG := fun v σ H Q => ∃ d Γ M I F k, Rel K I d v ∧ RelS K I Γ σ ∧ Conc K H I M F ∧ f d Γ M k ∧ kN K I F k Q
def liftGs (K : PySem.W.Frag) (f : AGs) : TGs := fun vs σ H Q => ∃ ds Γ M I F k, Rels K I ds vs ∧ RelS K I Γ σ ∧ Conc K H I M F ∧ f ds Γ M k ∧ kN K I F k Q

section
variable {X : Cx} {e a b c : Expr} {es : List Expr} {pos : Pos}
theorem _root_.L2.PE.imp {t t' : TE} (h : PE X e t) (i : ∀ σ H Q, t' σ H Q → t σ H Q) : PE X e t' := ⟨fun pins s σ H Q I q => h.run pins s σ H Q I (i σ H Q q)⟩
theorem _root_.L2.PT.imp {t t' : TT} (h : PT X e t) (i : ∀ σ H Q, t' σ H Q → t σ H Q) : PT X e t' := ⟨fun pins s σ H Q I q => h.run pins s σ H Q I (i σ H Q q)⟩
theorem _root_.L2.PW.imp {t t' : TT} (h : PW X e t) (i : ∀ σ H Q, t' σ H Q → t σ H Q) : PW X e t' := ⟨fun wh pins s σ H Q I q => h.run wh pins s σ H Q I (i σ H Q q)⟩
theorem _root_.L2.PA.imp {t t' : TA} (h : PA X es t) (i : ∀ σ H Q, t' σ H Q → t σ H Q) : PA X es t' := ⟨fun p pins s σ H Q I q => h.run p pins s σ H Q I (i σ H Q q)⟩
theorem _root_.L2.PO.imp {o : Option Expr} {t t' : TO} (h : PO X o t) (i : ∀ σ H Q, t' σ H Q → t σ H Q) : PO X o t' := ⟨fun pins s σ H Q I q => h.run pins s σ H Q I (i σ H Q q)⟩
theorem _root_.L2.PS.imp {st : Stmt} {t t' : TS} (h : PS X st t) (i : ∀ D σ H, t' D σ H → t D σ H) : PS X st t' := ⟨fun pins s σ H D I q => h.run pins s σ H D I (i D σ H q)⟩
theorem _root_.L2.PSs.imp {st : List Stmt} {t t' : TS} (h : PSs X st t) (i : ∀ D σ H, t' D σ H → t D σ H) : PSs X st t' := ⟨fun pins s σ H D I q => h.run pins s σ H D I (i D σ H q)⟩
theorem _root_.L2.PG.imp {t t' : TG} (h : PG X e t) (i : ∀ v σ H Q, t' v σ H Q → t v σ H Q) : PG X e t' := ⟨fun pins s σ H v u Q I r q => h.run pins s σ H v u Q I r (i v σ H Q q)⟩
theorem _root_.L2.PGs.imp {t t' : TGs} (h : PGs X es t) (i : ∀ v σ H Q, t' v σ H Q → t v σ H Q) : PGs X es t' := ⟨fun pins s σ H v u Q I r q => h.run pins s σ H v u Q I r (i v σ H Q q)⟩
end

/-! ### names and constants -/
def aVar (i : Nat) : AE := fun Γ M k => match Γ[i]? with
  | some (some d) => k d M
  | _ => False
def aC (d : D) : AE := fun _ M k => k d M
section
variable {X : Cx} {e a b c : Expr} {es : List Expr} {pos : Pos}
theorem ev (i : Nat) {x : Str} {pos : Pos} (hN : X.N[i]? = some x := by rfl) (hv : Vis X.env.scope x := by first | exact Or.inl rfl | exact Or.inr (Or.inl rfl) | exact Or.inr (Or.inr rfl)) (hd : (x == ("__debug__" : Str)) = false := by decide)
    (hcd : (x == ("__classdict__" : Str)) = false := by decide) : PE X (.Name x pos) (lift X.K (aVar i)) := by
  refine (pe_var (i := i) hN hv hd hcd).imp fun σ H Q ⟨Γ, M, I, F, k, hs, hc, hf, hk⟩ => ?_
  unfold aVar at hf
  split at hf
  · rename_i d e
    obtain ⟨v, e1, r⟩ := hs.get e
    exact ⟨v, e1, hk d M v H I hf (Le.refl I) hc r⟩
  · exact hf.elim
theorem lift_c {K : PySem.W.Frag} {d : D} {v : V} (r : ∀ I, Rel K I d v) : ∀ σ H Q, lift K (aC d) σ H Q → tC v σ H Q := fun σ H Q ⟨Γ, M, I, F, k, hs, hc, hf, hk⟩ =>
  hk d M v H I hf (Le.refl I) hc (r I)
theorem ec_int {i j pos} : PE X (.Constant (.int i) j pos) (lift X.K (aC (.int i))) := pe_int.imp (lift_c fun _ => by rw [Rel])
theorem ec_bl {i j pos} : PE X (.Constant (.bool i) j pos) (lift X.K (aC (.bl i))) := pe_bl.imp (lift_c fun _ => by rw [Rel])
theorem ec_non {j pos} : PE X (.Constant .none j pos) (lift X.K (aC .non)) := pe_non.imp (lift_c fun _ => by rw [Rel])
theorem ec_str {x j pos} : PE X (.Constant (.str x) j pos) (lift X.K (aC (.str x))) := pe_str.imp (lift_c fun _ => by rw [Rel])
/-- a constant of the module -/
structure GlC (K : PySem.W.Frag) (mg : Str → Option Value) (x : Str) (d : D) : Prop where
  ex : ∃ u v, mg x = some u ∧ RelV v u ∧ ∀ I, Rel K I d v
theorem eg {x : Str} {d : D} {pos : Pos} (g : GlC X.K X.mg x d) (hg : Gl X x := by rfl) (hd : (x == ("__debug__" : Str)) = false := by decide) : PE X (.Name x pos) (lift X.K (aC d)) := by
  obtain ⟨u, v, hm, r, h⟩ := g.ex
  exact (pe_glob hg hm r hd).imp (lift_c h)

/-! ### two-place operations -/
abbrev AB := D → D → MH → AK → Prop
def OkB (K : PySem.W.Frag) (r : R2) (op : AB) : Prop := ∀ d e M k v u H I F Q, op d e M k → Conc K H I M F → Rel K I d v → Rel K I e u → kE K I F k Q → r v u H Q
def aOp (op : AB) (fa fb : AE) : AE := fun Γ M k => fa Γ M fun d M1 => fb Γ M1 fun e M2 => op d e M2 k
theorem lift_op {K : PySem.W.Frag} {r : R2} {op : AB} {fa fb : AE} (h : OkB K r op) : ∀ σ H Q, lift K (aOp op fa fb) σ H Q → tOp r (lift K fa) (lift K fb) σ H Q := fun σ H Q ⟨Γ, M, I, F, k, hs, hc, hf, hk⟩ =>
  ⟨Γ, M, I, F, _, hs, hc, hf, fun d M1 v H1 I1 h1 l1 c1 r1 => ⟨Γ, M1, I1, F, _, hs.le l1, c1, h1, fun e M2 u H2 I2 h2 l2 c2 r2 =>
    h d e M2 k v u H2 I2 F Q h2 c2 (Rel.le l2 _ _ r1) r2 (hk.le (l1.trans l2))⟩⟩

/-- a new list: to be changed (true), or frozen at once -/
def nl (m : Bool) (ds : List D) (M : MH) (k : AK) : Prop := match m with
  | true => ∀ p, M p = none → k (.ref p) (up M p (.obj (.lst ds)))
  | false => k (.lst ds) M
theorem nl_ok {K : PySem.W.Frag} {m : Bool} {ds : List D} {M : MH} {k : AK} {H I F : Hp} {vs : List V} {Q : VK} {p : Addr} (h : nl m ds M k) (c : Conc K H I M F) (r : Rels K I ds vs) (hk : kE K I F k Q) (hp : H p = none) : Q (.ref p) (upd H p (.lst vs)) := by
  cases m with
  | true => exact hk _ _ _ _ I (h p (c.fresh hp).2) (Le.refl I) (c.newM hp ⟨vs, upd_same, r⟩) (by rw [Rel])
  | false =>
    have l : Le I (upd I p (.lst vs)) := Le.new (c.fresh hp).1
    refine hk _ _ _ _ _ h l (c.newF hp) ?_
    rw [Rel]
    exact ⟨p, vs, rfl, upd_same, Rels.le l _ _ r⟩
/-- a new tuple -/
theorem nt_ok {K : PySem.W.Frag} {ds : List D} {M : MH} {k : AK} {H I F : Hp} {vs : List V} {Q : VK} {p : Addr} (h : k (.tup ds) M) (c : Conc K H I M F) (r : Rels K I ds vs) (hk : kE K I F k Q) (hp : H p = none) : Q (.ref p) (upd H p (.tup vs)) := by
  have l : Le I (upd I p (.tup vs)) := Le.new (c.fresh hp).1
  refine hk _ _ _ _ _ h l (c.newF hp) ?_
  rw [Rel]
  exact ⟨p, vs, rfl, .inl upd_same, Rels.le l _ _ r⟩
/-- what a list holds: frozen, or of the small heap -/
def rdL (M : MH) : D → Option (List D)
  | .lst ds => some ds
  | .ref a => match M a with
    | some (.obj (.lst ds)) => some ds
    | _ => none
  | _ => none
/-- .. or the script -/
def rdS (M : MH) : D → Option (List D)
  | .scr ns => some (ns.map .int)
  | d => rdL M d
theorem rdL_ok {K : PySem.W.Frag} {M : MH} {H I F : Hp} {d : D} {v : V} {ds : List D} (h : rdL M d = some ds) (c : Conc K H I M F) (r : Rel K I d v) : ∃ a vs, v = .ref a ∧ H a = some (.lst vs) ∧ Rels K I ds vs := by
  cases d with
  | lst es =>
    rw [Rel] at r
    obtain ⟨a, vs, h1, h2, h3⟩ := r
    have : es = ds := Option.some.inj h
    subst this
    exact ⟨a, vs, h1, c.sub _ _ h2, h3⟩
  | ref a =>
    rw [Rel] at r
    have h : (match M a with
      | some (.obj (.lst ds)) => some ds
      | _ => none) = some ds := h
    split at h
    · rename_i es e
      have : es = ds := Option.some.inj h
      subst this
      obtain ⟨vs, h1, h2⟩ := c.rel a _ e
      exact ⟨a, vs, r, h1, h2⟩
    · cases h
  | _ => cases h
theorem rdS_ok {K : PySem.W.Frag} {M : MH} {H I F : Hp} {d : D} {v : V} {ds : List D} (h : rdS M d = some ds) (c : Conc K H I M F) (r : Rel K I d v) : ∃ a vs, v = .ref a ∧ SqL K H a vs ∧ Rels K I ds vs := by
  have core : rdL M d = some ds → ∃ a vs, v = .ref a ∧ SqL K H a vs ∧ Rels K I ds vs := fun h => by
    obtain ⟨a, vs, h1, h2, h3⟩ := rdL_ok h c r
    exact ⟨a, vs, h1, SqL.of h2, h3⟩
  cases d with
  | scr ns =>
    rw [Rel] at r
    obtain ⟨a, h1, h2⟩ := r
    have : ns.map D.int = ds := Option.some.inj h
    subst this
    exact ⟨a, _, h1, sql_le c.sub h2, Rels.of_ints⟩
  | _ => exact core h
theorem rel_tup {K : PySem.W.Frag} {M : MH} {H I F : Hp} {v : V} {ds : List D} (c : Conc K H I M F) (r : Rel K I (.tup ds) v) : ∃ a vs, v = .ref a ∧ SqT K H a vs ∧ Rels K I ds vs := by
  rw [Rel] at r
  obtain ⟨a, vs, h1, h2, h3⟩ := r
  exact ⟨a, vs, h1, sqt_le c.sub h2.sqt, h3⟩

/-! ### operators -/
def bAdd (m : Bool) : AB := fun d e M k => match d, e with
  | .int i, .int j => k (.int (i + j)) M
  | .str x, .str y => x.length + y.length ≤ sizeLine ∧ k (.str (x ++ y)) M
  | d, e => match rdL M d, rdL M e with
    | some ds, some es => ds.length + es.length ≤ sizeLine ∧ nl m (ds ++ es) M k
    | _, _ => False
abbrev rAddA : R2 := fun x y H Q => (rI0 (fun i j => .int (i + j)) x y H Q) ∨ ((fun x y H Q => ∃ i j, x = .str i ∧ y = .str j ∧ i.length + j.length ≤ sizeLine ∧ Q (.str (i ++ j)) H : R2) x y H Q ∨ rCat x y H Q)
theorem op_addA : OpR X (binaryOp .Add) rAddA := op_add.or (op_add_str.or op_cat)
theorem cat_ok {K : PySem.W.Frag} {m : Bool} {d e : D} {ds es : List D} {M : MH} {k : AK} {v u : V} {H I F : Hp} {Q : VK} (h1 : rdL M d = some ds) (h2 : rdL M e = some es) (hl : ds.length + es.length ≤ sizeLine) (h : nl m (ds ++ es) M k)
    (c : Conc K H I M F) (r1 : Rel K I d v) (r2 : Rel K I e u) (hk : kE K I F k Q) : rCat v u H Q := by
  obtain ⟨a, vs, e1, g1, s1⟩ := rdL_ok h1 c r1
  obtain ⟨b, ws, e2, g2, s2⟩ := rdL_ok h2 c r2
  exact ⟨a, b, vs, ws, e1, e2, g1, g2, by rw [← s1.length, ← s2.length]; exact hl, fun p hp => nl_ok h c (s1.append s2) hk hp⟩
theorem bAdd_ok {K : PySem.W.Frag} {m : Bool} : OkB K rAddA (bAdd m) := by
  intro d e M k v u H I F Q h c r1 r2 hk
  unfold bAdd at h
  split at h
  · rw [Rel] at r1 r2
    exact .inl ⟨_, _, r1, r2, hk _ M _ H I h (Le.refl I) c (by rw [Rel])⟩
  · rw [Rel] at r1 r2
    exact .inr (.inl ⟨_, _, r1, r2, h.1, hk _ M _ H I h.2 (Le.refl I) c (by rw [Rel])⟩)
  · split at h
    · rename_i ds es h1 h2
      exact .inr (.inr (cat_ok h1 h2 h.1 h.2 c r1 r2 hk))
    · exact h.elim
theorem e_add (m : Bool) {fa fb : AE} (ha : PE X a (lift X.K fa)) (hb : PE X b (lift X.K fb)) : PE X (.BinOp a .Add b pos) (lift X.K (aOp (bAdd m) fa fb)) := (pe_op op_addA ha hb).imp (lift_op bAdd_ok)
/-- ints in, under C -/
def bI (C : Int → Int → Prop) (g : Int → Int → D) : AB := fun d e M k => match d, e with
  | .int i, .int j => C i j ∧ k (g i j) M
  | _, _ => False
def bI0 (g : Int → Int → D) : AB := fun d e M k => match d, e with
  | .int i, .int j => k (g i j) M
  | _, _ => False
theorem bI_ok {K : PySem.W.Frag} {C : Int → Int → Prop} {g : Int → Int → D} {g' : Int → Int → V} (hg : ∀ I i j, Rel K I (g i j) (g' i j)) : OkB K (rI C g') (bI C g) := by
  intro d e M k v u H I F Q h c r1 r2 hk
  unfold bI at h
  split at h
  · rw [Rel] at r1 r2
    exact ⟨_, _, r1, r2, h.1, hk _ M _ H I h.2 (Le.refl I) c (hg I _ _)⟩
  · exact h.elim
theorem bI0_ok {K : PySem.W.Frag} {g : Int → Int → D} {g' : Int → Int → V} (hg : ∀ I i j, Rel K I (g i j) (g' i j)) : OkB K (rI0 g') (bI0 g) := by
  intro d e M k v u H I F Q h c r1 r2 hk
  unfold bI0 at h
  split at h
  · rw [Rel] at r1 r2
    exact ⟨_, _, r1, r2, hk _ M _ H I h (Le.refl I) c (hg I _ _)⟩
  · exact h.elim
abbrev bSub : AB := bI0 fun i j => .int (i - j)
theorem e_sub {fa fb : AE} (ha : PE X a (lift X.K fa)) (hb : PE X b (lift X.K fb)) : PE X (.BinOp a .Sub b pos) (lift X.K (aOp bSub fa fb)) := (pe_op op_sub ha hb).imp (lift_op (bI0_ok fun _ _ _ => by rw [Rel]))
end
end M
/-! MExpr: expressions. -/
namespace M
open PySem L2
section
variable {X : Cx} {e a b c : Expr} {es : List Expr} {pos : Pos} {K : PySem.W.Frag}
/-! ### ints -/
theorem op_mulA : OpR X (binaryOp .Mult) (rI IntMulOk fun i j => .int (i * j)) := opI fun _ _ _ _ _ _ _ hc q => PyProof.Rows.mul_int q hc
abbrev bMul : AB := bI IntMulOk fun i j => .int (i * j)
abbrev bFdiv : AB := bI CDivW fun i j => .int (i / j)
abbrev bMod : AB := bI (fun _ j => 0 < j) fun i j => .int (i % j)
abbrev bPow : AB := bI CPow fun i j => .int (i ^ j.toNat)
abbrev bLt : AB := bI0 fun i j => .bl (decide (i < j))
abbrev bLe : AB := bI0 fun i j => .bl (decide (i ≤ j))
abbrev bGt : AB := bI0 fun i j => .bl (decide (j < i))
abbrev bGe : AB := bI0 fun i j => .bl (decide (j ≤ i))
section
variable {fa fb : AE} (ha : PE X a (lift X.K fa)) (hb : PE X b (lift X.K fb))
include ha hb
theorem e_mul : PE X (.BinOp a .Mult b pos) (lift X.K (aOp bMul fa fb)) := (pe_op op_mulA ha hb).imp (lift_op (bI_ok fun _ _ _ => by rw [Rel]))
theorem e_fdiv : PE X (.BinOp a .FloorDiv b pos) (lift X.K (aOp bFdiv fa fb)) := (pe_op op_fdivW ha hb).imp (lift_op (bI_ok fun _ _ _ => by rw [Rel]))
theorem e_mod : PE X (.BinOp a .Mod b pos) (lift X.K (aOp bMod fa fb)) := (pe_op op_mod ha hb).imp (lift_op (bI_ok fun _ _ _ => by rw [Rel]))
theorem e_pow : PE X (.BinOp a .Pow b pos) (lift X.K (aOp bPow fa fb)) := (pe_op op_pow ha hb).imp (lift_op (bI_ok fun _ _ _ => by rw [Rel]))
theorem e_lt : PE X (.Compare a [.Lt] [b] pos) (lift X.K (aOp bLt fa fb)) := (pe_cmpR op_lt ha hb (nomark _)).imp (lift_op (bI0_ok fun _ _ _ => by rw [Rel]))
theorem e_le : PE X (.Compare a [.LtE] [b] pos) (lift X.K (aOp bLe fa fb)) := (pe_cmpR op_le ha hb (nomark _)).imp (lift_op (bI0_ok fun _ _ _ => by rw [Rel]))
theorem e_gt : PE X (.Compare a [.Gt] [b] pos) (lift X.K (aOp bGt fa fb)) := (pe_cmpR op_gt ha hb (nomark _)).imp (lift_op (bI0_ok fun _ _ _ => by rw [Rel]))
theorem e_ge : PE X (.Compare a [.GtE] [b] pos) (lift X.K (aOp bGe fa fb)) := (pe_cmpR op_ge ha hb (nomark _)).imp (lift_op (bI0_ok fun _ _ _ => by rw [Rel]))
end
/-- -1 and so on -/
def aNeg (f : AE) : AE := fun Γ M k => f Γ M fun d M1 => match d with
  | .int i => k (.int (-i)) M1
  | _ => False
theorem e_neg {f : AE} (h : PE X a (lift X.K f)) : PE X (.UnaryOp .USub a pos) (lift X.K (aNeg f)) := by
  refine (pe_un un_neg h).imp fun σ H Q ⟨Γ, M, I, F, k, hs, hc, hf, hk⟩ => ⟨Γ, M, I, F, _, hs, hc, hf, fun d M1 v H1 I1 h1 l1 c1 r1 => ?_⟩
  cases d with
  | int i =>
    rw [Rel] at r1
    exact ⟨i, r1, hk _ M1 _ H1 I1 h1 l1 c1 (by rw [Rel])⟩
  | _ => exact h1.elim

/-! ### == -/
mutual
/-- data without what may change -/
def D.py : D → Option PyData
  | .non => some .none
  | .bl b => some (.bool b)
  | .int i => some (.int i)
  | .str x => some (.str x)
  | .tup ds => (D.pys ds).map .tuple
  | .lst ds => (D.pys ds).map .list
  | .scr ns => some (.list (ns.map .int))
  | .ref _ => none
  | .ty _ => none
  | .exc _ _ => none
def D.pys : List D → Option (List PyData)
  | [] => some []
  | d :: ds => match D.py d, D.pys ds with
    | some x, some xs => some (x :: xs)
    | _, _ => none
end
mutual
theorem D.py_ok {I H : Hp} (l : Le I H) : ∀ (d : D) (v : V) (x : PyData), d.py = some x → Rel K I d v → Dp K H v x
  | .non, v, x, h, r => by rw [D.py] at h; cases h; rw [Rel] at r; subst r; exact .non
  | .bl b, v, x, h, r => by rw [D.py] at h; cases h; rw [Rel] at r; subst r; exact .bl b
  | .int i, v, x, h, r => by rw [D.py] at h; cases h; rw [Rel] at r; subst r; exact .int i
  | .str s, v, x, h, r => by rw [D.py] at h; cases h; rw [Rel] at r; subst r; exact .str s
  | .ref a, v, x, h, r => by rw [D.py] at h; cases h
  | .ty a, v, x, h, r => by rw [D.py] at h; cases h
  | .exc a _, v, x, h, r => by rw [D.py] at h; cases h
  | .tup ds, v, x, h, r => by
    rw [D.py] at h
    rw [Rel] at r
    obtain ⟨a, vs, rfl, h2, h3⟩ := r
    cases q : D.pys ds with
    | none => rw [q] at h; cases h
    | some xs => rw [q] at h; cases h; exact .tup (sqt_le l h2.sqt) (D.pys_ok l ds vs xs q h3)
  | .lst ds, v, x, h, r => by
    rw [D.py] at h
    rw [Rel] at r
    obtain ⟨a, vs, rfl, h2, h3⟩ := r
    cases q : D.pys ds with
    | none => rw [q] at h; cases h
    | some xs => rw [q] at h; cases h; exact .lst (SqL.of (l _ _ h2)) (D.pys_ok l ds vs xs q h3)
  | .scr ns, v, x, h, r => by
    rw [D.py] at h
    rw [Rel] at r
    cases h
    obtain ⟨a, rfl, h2⟩ := r
    refine .lst (sql_le l h2) ?_
    clear h2
    induction ns with
    | nil => exact .nil
    | cons n ns ih => exact .cons (.int n) ih
theorem D.pys_ok {I H : Hp} (l : Le I H) : ∀ (ds : List D) (vs : List V) (xs : List PyData), D.pys ds = some xs → Rels K I ds vs → DpAll K H vs xs
  | [], vs, xs, h, r => by rw [D.pys] at h; cases h; rw [r.nil_inv]; exact .nil
  | d :: ds, vs, xs, h, r => by
    obtain ⟨w, ws, rfl, h2, h3⟩ := r.cons_inv
    rw [D.pys] at h
    split at h
    · rename_i x xs' e1 e2
      cases h
      exact .cons (D.py_ok l d w x e1 h2) (D.pys_ok l ds ws xs' e2 h3)
    · cases h
end
/-- data with the lists of the small heap read, three deep -/
def rdD (M : MH) : Nat → D → D
  | 0, d => d
  | n + 1, .ref a => match M a with
    | some (.obj (.lst ds)) => .lst (ds.map (rdD M n))
    | _ => .ref a
  | n + 1, .lst ds => .lst (ds.map (rdD M n))
  | n + 1, .tup ds => .tup (ds.map (rdD M n))
  | _ + 1, d => d
end
theorem pys_map {f : D → D} {R : D → V → PyData → Prop} (h : ∀ d v x, (f d).py = some x → R d v x → True) : True := trivial
theorem rdD_all {H I : Hp} {M : MH} {n : Nat} (ih : ∀ d v x, (rdD M n d).py = some x → Rel K I d v → Dp K H v x) : ∀ (ds : List D) (vs : List V) (xs : List PyData), D.pys (ds.map (rdD M n)) = some xs → Rels K I ds vs → DpAll K H vs xs
  | [], vs, xs, h, r => by rw [List.map_nil, D.pys] at h; cases h; rw [r.nil_inv]; exact .nil
  | d :: ds, vs, xs, h, r => by
    obtain ⟨w, ws, rfl, h2, h3⟩ := r.cons_inv
    rw [List.map_cons, D.pys] at h
    split at h
    · rename_i x xs' e1 e2
      cases h
      exact .cons (ih d w x e1 h2) (rdD_all ih ds ws xs' e2 h3)
    · cases h
theorem rdD_ok {H I F : Hp} {M : MH} (c : Conc K H I M F) : ∀ (n : Nat) (d : D) (v : V) (x : PyData), (rdD M n d).py = some x → Rel K I d v → Dp K H v x := by
  intro n
  induction n with
  | zero => intro d v x h r; exact D.py_ok c.sub d v x h r
  | succ n ih =>
    intro d v x h r
    cases d with
    | ref a =>
      have h : (match M a with
        | some (.obj (.lst ds)) => D.lst (ds.map (rdD M n))
        | _ => .ref a).py = some x := h
      split at h
      · rename_i ds e
        rw [D.py] at h
        obtain ⟨vs, h1, h2⟩ := c.rel a _ e
        rw [Rel] at r
        subst r
        cases q : D.pys (ds.map (rdD M n)) with
        | none => rw [q] at h; cases h
        | some xs => rw [q] at h; cases h; exact .lst (SqL.of h1) (rdD_all ih ds vs xs q h2)
      · rw [D.py] at h; cases h
    | lst ds =>
      rw [rdD, D.py] at h
      rw [Rel] at r
      obtain ⟨a, vs, rfl, h2, h3⟩ := r
      cases q : D.pys (ds.map (rdD M n)) with
      | none => rw [q] at h; cases h
      | some xs => rw [q] at h; cases h; exact .lst (SqL.of (c.sub _ _ h2)) (rdD_all ih ds vs xs q h3)
    | tup ds =>
      rw [rdD, D.py] at h
      rw [Rel] at r
      obtain ⟨a, vs, rfl, h2, h3⟩ := r
      cases q : D.pys (ds.map (rdD M n)) with
      | none => rw [q] at h; cases h
      | some xs => rw [q] at h; cases h; exact .tup (sqt_le c.sub h2.sqt) (rdD_all ih ds vs xs q h3)
    | exc C w => exact D.py_ok c.sub _ v x h r
    | non => exact D.py_ok c.sub _ v x h r
    | bl b => exact D.py_ok c.sub _ v x h r
    | int b => exact D.py_ok c.sub _ v x h r
    | str b => exact D.py_ok c.sub _ v x h r
    | scr b => exact D.py_ok c.sub _ v x h r
    | ty b => exact D.py_ok c.sub _ v x h r
/-- == (neg: !=) -/
def bEq (neg : Bool) : AB := fun d e M k => match d, e with
  | .int i, .int j => k (.bl (if neg then !decide (i = j) else decide (i = j))) M
  | .str i, .str j => k (.bl (if neg then !decide (i = j) else decide (i = j))) M
  | d, e => ∃ x y, (rdD M 4 d).py = some x ∧ (rdD M 4 e).py = some y ∧ SeqAt.shaped x = true ∧ SeqAt.shaped y = true ∧ k (.bl (if neg then !PyData.eqv x y else PyData.eqv x y)) M
abbrev rEqA (K : PySem.W.Frag) : R2 := fun x y H Q => rEq x y H Q ∨ rEqD K x y H Q
abbrev rNeA (K : PySem.W.Frag) : R2 := fun x y H Q => rNe x y H Q ∨ rNeD K x y H Q
theorem op_eqA (hu : X.A.units + 64 < cLine) : OpR X (compareOp .Eq) (rEqA X.K) := op_eq.or (op_eqD hu)
theorem op_neA (hu : X.A.units + 64 < cLine) : OpR X (compareOp .NotEq) (rNeA X.K) := op_ne.or (op_neD hu)
theorem bEq_ok : OkB K (rEqA K) (bEq false) := by
  intro d e M k v u H I F Q h c r1 r2 hk
  unfold bEq at h
  split at h
  · rename_i i j
    rw [Rel] at r1 r2
    subst r1 r2
    refine .inl ⟨rfl, ?_⟩
    refine hk _ M _ H I h (Le.refl I) c ?_
    rw [Rel]
    by_cases q : i = j
    · simp [q]
    · simp [q]
  · rename_i i j
    rw [Rel] at r1 r2
    subst r1 r2
    refine .inl ⟨rfl, ?_⟩
    refine hk _ M _ H I h (Le.refl I) c ?_
    rw [Rel]
    by_cases q : i = j
    · simp [q]
    · simp [q]
  · obtain ⟨x, y, h1, h2, h3, h4, h5⟩ := h
    exact .inr ⟨x, y, rdD_ok c _ _ _ _ h1 r1, rdD_ok c _ _ _ _ h2 r2, h3, h4, hk _ M _ H I h5 (Le.refl I) c (by rw [Rel]; rfl)⟩
theorem bNe_ok : OkB K (rNeA K) (bEq true) := by
  intro d e M k v u H I F Q h c r1 r2 hk
  unfold bEq at h
  split at h
  · rename_i i j
    rw [Rel] at r1 r2
    subst r1 r2
    refine .inl ⟨rfl, ?_⟩
    refine hk _ M _ H I h (Le.refl I) c ?_
    rw [Rel]
    by_cases q : i = j
    · simp [q]
    · simp [q]
  · rename_i i j
    rw [Rel] at r1 r2
    subst r1 r2
    refine .inl ⟨rfl, ?_⟩
    refine hk _ M _ H I h (Le.refl I) c ?_
    rw [Rel]
    by_cases q : i = j
    · simp [q]
    · simp [q]
  · obtain ⟨x, y, h1, h2, h3, h4, h5⟩ := h
    exact .inr ⟨x, y, rdD_ok c _ _ _ _ h1 r1, rdD_ok c _ _ _ _ h2 r2, h3, h4, hk _ M _ H I h5 (Le.refl I) c (by rw [Rel]; rfl)⟩
section
variable {fa fb fc : AE} {k : Nat}
theorem e_eq (hr : Room k X.A) (ha : PE X a (lift X.K fa)) (hb : PE X b (lift X.K fb)) : PE X (.Compare a [.Eq] [b] pos) (lift X.K (aOp (bEq false) fa fb)) := (pe_cmpR (op_eqA hr.units) ha hb (nomark _)).imp (lift_op bEq_ok)
theorem e_ne (hr : Room k X.A) (ha : PE X a (lift X.K fa)) (hb : PE X b (lift X.K fb)) : PE X (.Compare a [.NotEq] [b] pos) (lift X.K (aOp (bEq true) fa fb)) := (pe_cmpR (op_neA hr.units) ha hb (nomark _)).imp (lift_op bNe_ok)
/-- is None, is not None -/
def D.isNon : D → Bool
  | .non => true
  | _ => false
def bIsN : AB := fun d e M k => match e with
  | .non => k (.bl d.isNon) M
  | _ => False
def bNotN : AB := fun d e M k => match e with
  | .non => k (.bl !d.isNon) M
  | _ => False
theorem isNon_rel {I : Hp} {d : D} {v : V} (r : Rel K I d v) : decide (v = .non) = d.isNon := by
  cases d <;> rw [Rel] at r
  all_goals first
    | (subst r; rfl)
    | (obtain ⟨a, vs, rfl, _⟩ := r; rfl)
    | (obtain ⟨a, d, u, rfl, _⟩ := r; rfl)
    | (obtain ⟨a, rfl, _⟩ := r; rfl)
theorem bIsN_ok : OkB K (fun x y H Q => y = .non ∧ Q (.bl (decide (x = .non))) H) bIsN := by
  intro d e M k v u H I F Q h c r1 r2 hk
  unfold bIsN at h
  split at h
  · rw [Rel] at r2
    exact ⟨r2, hk _ M _ H I h (Le.refl I) c (by rw [Rel, isNon_rel r1])⟩
  · exact h.elim
theorem bNotN_ok : OkB K (fun x y H Q => y = .non ∧ Q (.bl (!decide (x = .non))) H) bNotN := by
  intro d e M k v u H I F Q h c r1 r2 hk
  unfold bNotN at h
  split at h
  · rw [Rel] at r2
    exact ⟨r2, hk _ M _ H I h (Le.refl I) c (by rw [Rel, isNon_rel r1])⟩
  · exact h.elim
theorem e_isN (ha : PE X a (lift X.K fa)) (hb : PE X b (lift X.K fb)) : PE X (.Compare a [.Is] [b] pos) (lift X.K (aOp bIsN fa fb)) := (pe_cmpR op_isN ha hb (nomark _)).imp (lift_op bIsN_ok)
theorem e_notN (ha : PE X a (lift X.K fa)) (hb : PE X b (lift X.K fb)) : PE X (.Compare a [.IsNot] [b] pos) (lift X.K (aOp bNotN fa fb)) := (pe_cmpR op_notN ha hb (nomark _)).imp (lift_op bNotN_ok)

/-! ### a op b op c, ints -/
def aChain (p q : Int → Int → Bool) (fa fb fc : AE) : AE := fun Γ M k => fa Γ M fun d M1 => fb Γ M1 fun e M2 => match d, e with
  | .int i, .int j => if p i j = true then fc Γ M2 fun g M3 => match g with
      | .int l => k (.bl (q j l)) M3
      | _ => False
    else k (.bl false) M2
  | _, _ => False
theorem lift_chain {p q : Int → Int → Bool} {fa fb fc : AE} : ∀ σ H Q, lift K (aChain p q fa fb fc) σ H Q → tChain (rI0 fun i j => .bl (p i j)) (rI0 fun i j => .bl (q i j)) (lift K fa) (lift K fb) (lift K fc) σ H Q := by
  rintro σ H Q ⟨Γ, M, I, F, k, hs, hc, hf, hk⟩
  refine ⟨Γ, M, I, F, _, hs, hc, hf, fun d M1 v H1 I1 h1 l1 c1 r1 => ⟨Γ, M1, I1, F, _, hs.le l1, c1, h1, fun e M2 u H2 I2 h2 l2 c2 r2 => ?_⟩⟩
  split at h2
  · rename_i i j
    have r1' := Rel.le l2 _ _ r1
    rw [Rel] at r1' r2
    refine ⟨i, j, r1', r2, p i j, rfl, ?_⟩
    split
    · rename_i hp
      rw [if_pos hp] at h2
      refine ⟨Γ, M2, I2, F, _, hs.le (l1.trans l2), c2, h2, fun g M3 w H3 I3 h3 l3 c3 r3 => ?_⟩
      cases g with
      | int l =>
        rw [Rel] at r3
        exact ⟨j, l, r2, r3, hk _ _ _ _ _ h3 ((l1.trans l2).trans l3) c3 (by rw [Rel])⟩
      | _ => exact h3.elim
    · rename_i hp
      rw [if_neg hp] at h2
      exact hk _ _ _ _ _ h2 (l1.trans l2) c2 (by rw [Rel])
  · exact h2.elim
theorem e_ltlt (ha : PE X a (lift X.K fa)) (hb : PE X b (lift X.K fb)) (hc : PE X c (lift X.K fc)) (hm : lastMarks [.Lt, .Lt] [b, c] = false := by with_unfolding_all rfl) :
    PE X (.Compare a [.Lt, .Lt] [b, c] pos) (lift X.K (aChain (fun i j => decide (i < j)) (fun i j => decide (i < j)) fa fb fc)) := (pe_chain op_lt op_lt ha hb hc hm).imp lift_chain
theorem e_ltle (ha : PE X a (lift X.K fa)) (hb : PE X b (lift X.K fb)) (hc : PE X c (lift X.K fc)) (hm : lastMarks [.Lt, .LtE] [b, c] = false := by with_unfolding_all rfl) :
    PE X (.Compare a [.Lt, .LtE] [b, c] pos) (lift X.K (aChain (fun i j => decide (i < j)) (fun i j => decide (i ≤ j)) fa fb fc)) := (pe_chain op_lt op_le ha hb hc hm).imp lift_chain
theorem e_lelt (ha : PE X a (lift X.K fa)) (hb : PE X b (lift X.K fb)) (hc : PE X c (lift X.K fc)) (hm : lastMarks [.LtE, .Lt] [b, c] = false := by with_unfolding_all rfl) :
    PE X (.Compare a [.LtE, .Lt] [b, c] pos) (lift X.K (aChain (fun i j => decide (i ≤ j)) (fun i j => decide (i < j)) fa fb fc)) := (pe_chain op_le op_lt ha hb hc hm).imp lift_chain
theorem e_lele (ha : PE X a (lift X.K fa)) (hb : PE X b (lift X.K fb)) (hc : PE X c (lift X.K fc)) (hm : lastMarks [.LtE, .LtE] [b, c] = false := by with_unfolding_all rfl) :
    PE X (.Compare a [.LtE, .LtE] [b, c] pos) (lift X.K (aChain (fun i j => decide (i ≤ j)) (fun i j => decide (i ≤ j)) fa fb fc)) := (pe_chain op_le op_le ha hb hc hm).imp lift_chain
end

/-! ### tests -/
def aB (f : AE) : AT := fun Γ M k => f Γ M fun d M1 => match d with
  | .bl b => k b M1
  | _ => False
def aAnd (f g : AT) : AT := fun Γ M k => f Γ M fun b M1 => if b = true then g Γ M1 k else k false M1
def aOr (f g : AT) : AT := fun Γ M k => f Γ M fun b M1 => if b = true then k true M1 else g Γ M1 k
def aNot (f : AT) : AT := fun Γ M k => f Γ M fun b M1 => k (!b) M1
theorem bl_rel {I : Hp} {d : D} {v : V} {k : Bool → MH → Prop} {M : MH} (h : match d with | .bl b => k b M | _ => False) (r : Rel K I d v) : ∃ b, v = .bl b ∧ k b M := by
  cases d with
  | bl b => rw [Rel] at r; exact ⟨b, r, h⟩
  | _ => exact h.elim
theorem lift_B {f : AE} : ∀ σ H Q, liftT K (aB f) σ H Q → tB (lift K f) σ H Q := fun σ H Q ⟨Γ, M, I, F, k, hs, hc, hf, hk⟩ =>
  ⟨Γ, M, I, F, _, hs, hc, hf, fun d M1 v H1 I1 h1 l1 c1 r1 => by
    obtain ⟨b, e, q⟩ := bl_rel h1 r1
    exact ⟨b, e, hk b M1 H1 I1 q l1 c1⟩⟩
theorem t_val {f : AE} (h : PE X e (lift X.K f)) (he : ∀ whole, isTrue e X.env whole = (do let v ← whole; standAt e.pos; holding [v] (truthy v)) := by intro _; rfl) : PT X e (liftT X.K (aB f)) := (pt_val h he).imp lift_B
/-- a comparison as a test, from its rule as a value -/
theorem t_op {op : CmpOp} {r : R2} {b' : AB} {fa fb : AE} (ho : OpR X (compareOp op) r) (hb' : OkB X.K r b') (ha : PE X a (lift X.K fa)) (hb : PE X b (lift X.K fb)) (hm : behindInMarks op b = false) : PT X (.Compare a [op] [b] pos) (liftT X.K (aB (aOp b' fa fb))) :=
  (pt_cmpR ho ha hb hm).imp fun σ H Q h => by
    have h2 := lift_B σ H Q h
    exact lift_op hb' σ H _ h2
section
variable {fa fb fc : AE} {k : Nat}
section
variable (ha : PE X a (lift X.K fa)) (hb : PE X b (lift X.K fb))
include ha hb
theorem t_lt : PT X (.Compare a [.Lt] [b] pos) (liftT X.K (aB (aOp bLt fa fb))) := t_op op_lt (bI0_ok fun _ _ _ => by rw [Rel]) ha hb (nomark _)
theorem t_le : PT X (.Compare a [.LtE] [b] pos) (liftT X.K (aB (aOp bLe fa fb))) := t_op op_le (bI0_ok fun _ _ _ => by rw [Rel]) ha hb (nomark _)
theorem t_gt : PT X (.Compare a [.Gt] [b] pos) (liftT X.K (aB (aOp bGt fa fb))) := t_op op_gt (bI0_ok fun _ _ _ => by rw [Rel]) ha hb (nomark _)
theorem t_ge : PT X (.Compare a [.GtE] [b] pos) (liftT X.K (aB (aOp bGe fa fb))) := t_op op_ge (bI0_ok fun _ _ _ => by rw [Rel]) ha hb (nomark _)
theorem t_isN : PT X (.Compare a [.Is] [b] pos) (liftT X.K (aB (aOp bIsN fa fb))) := t_op op_isN bIsN_ok ha hb (nomark _)
theorem t_notN : PT X (.Compare a [.IsNot] [b] pos) (liftT X.K (aB (aOp bNotN fa fb))) := t_op op_notN bNotN_ok ha hb (nomark _)
end
theorem t_eq (hr : Room k X.A) (ha : PE X a (lift X.K fa)) (hb : PE X b (lift X.K fb)) : PT X (.Compare a [.Eq] [b] pos) (liftT X.K (aB (aOp (bEq false) fa fb))) := t_op (op_eqA hr.units) bEq_ok ha hb (nomark _)
theorem t_ne (hr : Room k X.A) (ha : PE X a (lift X.K fa)) (hb : PE X b (lift X.K fb)) : PT X (.Compare a [.NotEq] [b] pos) (liftT X.K (aB (aOp (bEq true) fa fb))) := t_op (op_neA hr.units) bNe_ok ha hb (nomark _)
theorem t_chain {op op' : CmpOp} {p q : Int → Int → Bool} (ho : OpR X (compareOp op) (rI0 fun i j => .bl (p i j))) (ho' : OpR X (compareOp op') (rI0 fun i j => .bl (q i j))) (ha : PE X a (lift X.K fa)) (hb : PE X b (lift X.K fb)) (hc : PE X c (lift X.K fc)) (hm : lastMarks [op, op'] [b, c] = false) :
    PT X (.Compare a [op, op'] [b, c] pos) (liftT X.K (aB (aChain p q fa fb fc))) := (pt_chain ho ho' ha hb hc hm).imp fun σ H Q h => lift_chain σ H _ (lift_B σ H Q h)
theorem t_ltlt (ha : PE X a (lift X.K fa)) (hb : PE X b (lift X.K fb)) (hc : PE X c (lift X.K fc)) (hm : lastMarks [.Lt, .Lt] [b, c] = false := by with_unfolding_all rfl) : PT X (.Compare a [.Lt, .Lt] [b, c] pos) (liftT X.K (aB (aChain (fun i j => decide (i < j)) (fun i j => decide (i < j)) fa fb fc))) := t_chain op_lt op_lt ha hb hc hm
theorem t_ltle (ha : PE X a (lift X.K fa)) (hb : PE X b (lift X.K fb)) (hc : PE X c (lift X.K fc)) (hm : lastMarks [.Lt, .LtE] [b, c] = false := by with_unfolding_all rfl) : PT X (.Compare a [.Lt, .LtE] [b, c] pos) (liftT X.K (aB (aChain (fun i j => decide (i < j)) (fun i j => decide (i ≤ j)) fa fb fc))) := t_chain op_lt op_le ha hb hc hm
theorem t_lelt (ha : PE X a (lift X.K fa)) (hb : PE X b (lift X.K fb)) (hc : PE X c (lift X.K fc)) (hm : lastMarks [.LtE, .Lt] [b, c] = false := by with_unfolding_all rfl) : PT X (.Compare a [.LtE, .Lt] [b, c] pos) (liftT X.K (aB (aChain (fun i j => decide (i ≤ j)) (fun i j => decide (i < j)) fa fb fc))) := t_chain op_le op_lt ha hb hc hm
theorem t_lele (ha : PE X a (lift X.K fa)) (hb : PE X b (lift X.K fb)) (hc : PE X c (lift X.K fc)) (hm : lastMarks [.LtE, .LtE] [b, c] = false := by with_unfolding_all rfl) : PT X (.Compare a [.LtE, .LtE] [b, c] pos) (liftT X.K (aB (aChain (fun i j => decide (i ≤ j)) (fun i j => decide (i ≤ j)) fa fb fc))) := t_chain op_le op_le ha hb hc hm
end
theorem lift_and {f g : AT} : ∀ σ H Q, liftT K (aAnd f g) σ H Q → tAnd (liftT K f) (liftT K g) σ H Q := fun σ H Q ⟨Γ, M, I, F, k, hs, hc, hf, hk⟩ =>
  ⟨Γ, M, I, F, _, hs, hc, hf, fun b M1 H1 I1 h1 l1 c1 => by
    cases b with
    | true => exact ⟨Γ, M1, I1, F, k, hs.le l1, c1, h1, fun b' M2 H2 I2 a1 a2 a3 => hk b' M2 H2 I2 a1 (l1.trans a2) a3⟩
    | false => exact hk _ _ _ _ h1 l1 c1⟩
theorem lift_or {f g : AT} : ∀ σ H Q, liftT K (aOr f g) σ H Q → tOr (liftT K f) (liftT K g) σ H Q := fun σ H Q ⟨Γ, M, I, F, k, hs, hc, hf, hk⟩ =>
  ⟨Γ, M, I, F, _, hs, hc, hf, fun b M1 H1 I1 h1 l1 c1 => by
    cases b with
    | false => exact ⟨Γ, M1, I1, F, k, hs.le l1, c1, h1, fun b' M2 H2 I2 a1 a2 a3 => hk b' M2 H2 I2 a1 (l1.trans a2) a3⟩
    | true => exact hk _ _ _ _ h1 l1 c1⟩
variable {rest : List Expr} {f g : AT}
theorem w_and1 (ha : PT X a (liftT X.K f)) : PW X (.BoolOp .And [a] pos) (liftT X.K f) := pw_and1 ha
theorem w_or1 (ha : PT X a (liftT X.K f)) : PW X (.BoolOp .Or [a] pos) (liftT X.K f) := pw_or1 ha
theorem w_and (ha : PT X a (liftT X.K f)) (hb : PW X (.BoolOp .And (b :: rest) pos) (liftT X.K g)) : PW X (.BoolOp .And (a :: b :: rest) pos) (liftT X.K (aAnd f g)) := (pw_and ha hb).imp lift_and
theorem w_or (ha : PT X a (liftT X.K f)) (hb : PW X (.BoolOp .Or (b :: rest) pos) (liftT X.K g)) : PW X (.BoolOp .Or (a :: b :: rest) pos) (liftT X.K (aOr f g)) := (pw_or ha hb).imp lift_or
theorem t_not (ha : PT X a (liftT X.K f)) : PT X (.UnaryOp .Not a pos) (liftT X.K (aNot f)) := (pt_not ha).imp fun σ H Q ⟨Γ, M, I, F, k, hs, hc, hf, hk⟩ =>
  ⟨Γ, M, I, F, _, hs, hc, hf, fun b M1 H1 I1 h1 l1 c1 => hk _ _ _ _ h1 l1 c1⟩
/-- .. as values -/
def aAndV (f g : AE) : AE := fun Γ M k => f Γ M fun d M1 => match d with
  | .bl b => if b = true then g Γ M1 k else k (.bl false) M1
  | _ => False
def aOrV (f g : AE) : AE := fun Γ M k => f Γ M fun d M1 => match d with
  | .bl b => if b = true then k (.bl true) M1 else g Γ M1 k
  | _ => False
def aNotV (f : AE) : AE := fun Γ M k => f Γ M fun d M1 => match d with
  | .bl b => k (.bl !b) M1
  | _ => False
def aIf (t : AT) (f g : AE) : AE := fun Γ M k => t Γ M fun b M1 => if b = true then f Γ M1 k else g Γ M1 k
section
variable {fa fb : AE} {t : AT}
theorem e_one {op} (h : PE X a (lift X.K fa)) : PE X (.BoolOp op [a] pos) (lift X.K fa) := pe_one h
theorem e_and (ha : PE X a (lift X.K fa)) (hb : PE X (.BoolOp .And (b :: rest) pos) (lift X.K fb)) : PE X (.BoolOp .And (a :: b :: rest) pos) (lift X.K (aAndV fa fb)) := (pe_and ha hb).imp fun σ H Q ⟨Γ, M, I, F, k, hs, hc, hf, hk⟩ =>
  ⟨Γ, M, I, F, _, hs, hc, hf, fun d M1 v H1 I1 h1 l1 c1 r1 => by
    cases d with
    | bl b =>
      rw [Rel] at r1
      refine ⟨b, r1, ?_⟩
      cases b with
      | true => exact ⟨Γ, M1, I1, F, k, hs.le l1, c1, h1, hk.le l1⟩
      | false => exact hk _ _ _ _ _ h1 l1 c1 (by rw [Rel])
    | _ => exact h1.elim⟩
theorem e_or (ha : PE X a (lift X.K fa)) (hb : PE X (.BoolOp .Or (b :: rest) pos) (lift X.K fb)) : PE X (.BoolOp .Or (a :: b :: rest) pos) (lift X.K (aOrV fa fb)) := (pe_or ha hb).imp fun σ H Q ⟨Γ, M, I, F, k, hs, hc, hf, hk⟩ =>
  ⟨Γ, M, I, F, _, hs, hc, hf, fun d M1 v H1 I1 h1 l1 c1 r1 => by
    cases d with
    | bl b =>
      rw [Rel] at r1
      refine ⟨b, r1, ?_⟩
      cases b with
      | false => exact ⟨Γ, M1, I1, F, k, hs.le l1, c1, h1, hk.le l1⟩
      | true => exact hk _ _ _ _ _ h1 l1 c1 (by rw [Rel])
    | _ => exact h1.elim⟩
theorem e_not (ha : PE X a (lift X.K fa)) : PE X (.UnaryOp .Not a pos) (lift X.K (aNotV fa)) := (pe_not ha).imp fun σ H Q ⟨Γ, M, I, F, k, hs, hc, hf, hk⟩ =>
  ⟨Γ, M, I, F, _, hs, hc, hf, fun d M1 v H1 I1 h1 l1 c1 r1 => by
    cases d with
    | bl b => rw [Rel] at r1; exact ⟨b, r1, hk _ _ _ _ _ h1 l1 c1 (by rw [Rel])⟩
    | _ => exact h1.elim⟩
theorem e_if (hc : PT X c (liftT X.K t)) (ha : PE X a (lift X.K fa)) (hb : PE X b (lift X.K fb)) : PE X (.IfExp c a b pos) (lift X.K (aIf t fa fb)) := (pe_ifExp hc ha hb).imp fun σ H Q ⟨Γ, M, I, F, k, hs, hc, hf, hk⟩ =>
  ⟨Γ, M, I, F, _, hs, hc, hf, fun b M1 H1 I1 h1 l1 c1 => by
    cases b with
    | true => exact ⟨Γ, M1, I1, F, k, hs.le l1, c1, h1, hk.le l1⟩
    | false => exact ⟨Γ, M1, I1, F, k, hs.le l1, c1, h1, hk.le l1⟩⟩
end

/-! ### arguments, displays -/
def aNil : AA := fun _ M k => k [] M
def aCons (f : AE) (g : AA) : AA := fun Γ M k => f Γ M fun d M1 => g Γ M1 fun ds M2 => k (d :: ds) M2
theorem a_nil : PA X [] (liftA X.K aNil) := pa_nil.imp fun σ H Q ⟨Γ, M, I, F, k, hs, hc, hf, hk⟩ => hk _ _ _ _ _ hf (Le.refl I) hc .nil
theorem lift_cons {f : AE} {g : AA} : ∀ σ H Q, liftA K (aCons f g) σ H Q → tCons (lift K f) (liftA K g) σ H Q := fun σ H Q ⟨Γ, M, I, F, k, hs, hc, hf, hk⟩ =>
  ⟨Γ, M, I, F, _, hs, hc, hf, fun d M1 v H1 I1 h1 l1 c1 r1 => ⟨Γ, M1, I1, F, _, hs.le l1, c1, h1, fun ds M2 vs H2 I2 h2 l2 c2 r2 => hk _ _ _ _ _ h2 (l1.trans l2) c2 (.cons (Rel.le l2 _ _ r1) r2)⟩⟩
theorem a_cons {f : AE} {g : AA} (ha : PE X e (lift X.K f)) (hr : PA X es (liftA X.K g)) (hs : starEach (e :: es) X.env = (false, eval e X.env) :: starEach es X.env := by rfl) : PA X (e :: es) (liftA X.K (aCons f g)) := (pa_cons ha hr hs).imp lift_cons
def aTup (g : AA) : AE := fun Γ M k => g Γ M fun ds M1 => ds.length ≤ sizeLine ∧ k (.tup ds) M1
def aLst (m : Bool) (g : AA) : AE := fun Γ M k => g Γ M fun ds M1 => ds.length ≤ sizeLine ∧ nl m ds M1 k
theorem e_tup {g : AA} {x1} (h : PA X es (liftA X.K g)) : PE X (.Tuple es x1 pos) (lift X.K (aTup g)) := (pe_tup h).imp fun σ H Q ⟨Γ, M, I, F, k, hs, hc, hf, hk⟩ =>
  ⟨Γ, M, I, F, _, hs, hc, hf, fun ds M1 vs H1 I1 h1 l1 c1 r1 => ⟨by rw [← r1.length]; exact h1.1, fun p hp => nt_ok h1.2 c1 r1 (hk.le l1) hp⟩⟩
theorem e_lst (m : Bool) {g : AA} (h : PA X es (liftA X.K g)) : PE X (.List es pos) (lift X.K (aLst m g)) := (pe_lst h).imp fun σ H Q ⟨Γ, M, I, F, k, hs, hc, hf, hk⟩ =>
  ⟨Γ, M, I, F, _, hs, hc, hf, fun ds M1 vs H1 I1 h1 l1 c1 r1 => ⟨by rw [← r1.length]; exact h1.1, fun p hp => nl_ok h1.2 c1 r1 (hk.le l1) hp⟩⟩

/-! ### items and slices -/
def bIx : AB := fun d e M k => match e with
  | .int i => match d with
    | .tup ds => (match atI ds i with | some x => k x M | none => False)
    | .str z => z.length ≤ sizeLine ∧ (match atI z.cps.toList i with | some c => k (.str ⟨#[c]⟩) M | none => False)
    | d => match rdS M d with
      | some ds => (match atI ds i with | some x => k x M | none => False)
      | none => False
  | _ => False
theorem atI_rel {I : Hp} {ds : List D} {vs : List V} {i : Int} {x : D} (h : atI ds i = some x) (r : Rels K I ds vs) : ∃ v, atI vs i = some v ∧ Rel K I x v := by
  unfold atI at h ⊢
  rw [← r.length]
  cases q : ixN ds.length i with
  | none => rw [q] at h; cases h
  | some j => rw [q] at h; exact r.get h
theorem bIx_ok : OkB K (rIx K) bIx := by
  intro d e M k v u H I F Q h c r1 r2 hk
  unfold bIx at h
  split at h
  · rename_i i
    rw [Rel] at r2
    split at h
    · rename_i ds
      obtain ⟨a, vs, e1, g1, s1⟩ := rel_tup c r1
      split at h
      · rename_i x e2
        obtain ⟨w, e3, rx⟩ := atI_rel e2 s1
        exact .inr (.inl ⟨a, vs, i, w, e1, r2, g1, e3, hk _ _ _ _ _ h (Le.refl I) c rx⟩)
      · exact h.elim
    · rename_i z
      rw [Rel] at r1
      obtain ⟨hz, h⟩ := h
      split at h
      · rename_i x e2
        exact .inr (.inr ⟨z, i, x, r1, r2, hz, e2, hk _ _ _ _ _ h (Le.refl I) c (by rw [Rel])⟩)
      · exact h.elim
    · split at h
      · rename_i ds e0
        obtain ⟨a, vs, e1, g1, s1⟩ := rdS_ok e0 c r1
        split at h
        · rename_i x e2
          obtain ⟨w, e3, rx⟩ := atI_rel e2 s1
          exact .inl ⟨a, vs, i, w, e1, r2, g1, e3, hk _ _ _ _ _ h (Le.refl I) c rx⟩
        · exact h.elim
      · exact h.elim
  · exact h.elim
theorem e_ix {fa fb : AE} (ha : PE X a (lift X.K fa)) (hb : PE X b (lift X.K fb)) (hs : PlainIx b := by intro _ _; rfl) : PE X (.Subscript a b pos) (lift X.K (aOp bIx fa fb)) := (pe_ix ix_seq ha hb hs).imp (lift_op bIx_ok)
def aNoPart : AO := fun _ M k => k none M
def aPart (f : AE) : AO := fun Γ M k => f Γ M fun d M1 => match d with
  | .int i => k (some i) M1
  | _ => False
theorem o_none : PO X none (liftO X.K aNoPart) := po_none.imp fun σ H Q ⟨Γ, M, I, F, k, hs, hc, hf, hk⟩ => hk _ _ _ _ hf (Le.refl I) hc
theorem o_some {f : AE} (h : PE X e (lift X.K f)) : PO X (some e) (liftO X.K (aPart f)) := (po_some h).imp fun σ H Q ⟨Γ, M, I, F, k, hs, hc, hf, hk⟩ =>
  ⟨Γ, M, I, F, _, hs, hc, hf, fun d M1 v H1 I1 h1 l1 c1 r1 => by
    cases d with
    | int i => rw [Rel] at r1; exact ⟨i, r1, hk _ _ _ _ h1 l1 c1⟩
    | _ => exact h1.elim⟩
def cutD {α : Type} (xs : List α) (lo hi : Option Int) : List α := (xs.drop (HT.sIx xs.length 0 lo)).take (HT.sIx xs.length xs.length hi - HT.sIx xs.length 0 lo)
theorem cut_rel {I : Hp} {ds : List D} {vs : List V} (r : Rels K I ds vs) (lo hi : Option Int) : Rels K I (cutD ds lo hi) (cutV vs lo hi) := by
  unfold cutD cutV
  rw [r.length]
  exact (r.drop _).take _
/-- xs[lo:hi], a list's (or the script's), a text's -/
def sCut (m : Bool) (d : D) (lo hi : Option Int) (M : MH) (k : AK) : Prop := match d with
  | .str z => z.length ≤ sizeLine ∧ k (.str (cutS z lo hi)) M
  | d => match rdS M d with
    | some ds => nl m (cutD ds lo hi) M k
    | none => False
def aCut (m : Bool) (f : AE) (l h : AO) : AE := fun Γ M k => f Γ M fun d M1 => l Γ M1 fun lo M2 => h Γ M2 fun hi M3 => sCut m d lo hi M3 k
end M
/-! MStmt: slices, calls, statements, loops, defs. -/
namespace M
open PySem L2
section
variable {X : Cx} {e a b c : Expr} {es : List Expr} {pos p2 : Pos} {K : PySem.W.Frag}
theorem e_cut (m : Bool) {lo hi : Option Expr} {f : AE} {l h : AO} (he : PE X e (lift X.K f)) (hl : PO X lo (liftO X.K l)) (hh : PO X hi (liftO X.K h)) : PE X (.Subscript e (.Slice lo hi none p2) pos) (lift X.K (aCut m f l h)) := by
  refine (pe_slice (sl_list.or sl_str) he hl hh).imp fun σ H Q ⟨Γ, M, I, F, k, hs, hc, hf, hk⟩ => ?_
  refine ⟨Γ, M, I, F, _, hs, hc, hf, fun d M1 v H1 I1 h1 l1 c1 r1 => ⟨Γ, M1, I1, F, _, hs.le l1, c1, h1, fun o M2 H2 I2 h2 l2 c2 => ⟨Γ, M2, I2, F, _, hs.le (l1.trans l2), c2, h2, fun o' M3 H3 I3 h3 l3 c3 => ?_⟩⟩⟩
  have r3 := Rel.le (l2.trans l3) _ _ r1
  have hk3 := hk.le ((l1.trans l2).trans l3)
  unfold sCut at h3
  split at h3
  · rw [Rel] at r3
    exact .inr ⟨_, r3, h3.1, hk3 _ _ _ _ _ h3.2 (Le.refl _) c3 (by rw [Rel])⟩
  · split at h3
    · rename_i ds e0
      obtain ⟨q, vs, e1, g1, s1⟩ := rdS_ok e0 c3 r3
      exact .inl ⟨q, vs, e1, g1, fun p hp => nl_ok h3 c3 (cut_rel s1 _ _) hk3 hp⟩
    · exact h3.elim

/-! ### calls of built-ins -/
abbrev AC := List D → MH → AK → Prop
def OkC (K : PySem.W.Frag) (r : List V → Hp → VK → Prop) (op : AC) : Prop := ∀ ds M k vs H I F Q, op ds M k → Conc K H I M F → Rels K I ds vs → kE K I F k Q → r vs H Q
def aCB (op : AC) (g : AA) : AE := fun Γ M k => g Γ M fun ds M1 => op ds M1 k
theorem lift_CB {r : List V → Hp → VK → Prop} {op : AC} {g : AA} (h : OkC K r op) : ∀ σ H Q, lift K (aCB op g) σ H Q → tCB r (liftA K g) σ H Q := fun σ H Q ⟨Γ, M, I, F, k, hs, hc, hf, hk⟩ =>
  ⟨Γ, M, I, F, _, hs, hc, hf, fun ds M1 vs H1 I1 h1 l1 c1 r1 => h ds M1 k vs H1 I1 F Q h1 c1 r1 (hk.le l1)⟩
section
variable {x : Str} {p pos : Pos} {id T : String} {r : List V → Hp → VK → Prop} {op : AC} {g : AA}
theorem e_callB (hc : CallR X (.builtin id) r) (ho : OkC X.K r op) (hm : X.mg x = none) (hv : bootBuiltins x = some (.builtin id)) (ha : PA X (e :: es) (liftA X.K g)) (hg : Gl X x := by rfl) (hn : x ≠ "__name__" := by decide) (hdb : (x == ("__debug__" : Str)) = false := by decide)
    (he : starEach (e :: es) X.env = (false, eval e X.env) :: starEach es X.env := by rfl) (hpl : (backTo pos (starEach es X.env)).any (·.1) = false := by rfl) : PE X (.Call (.Name x p) (e :: es) [] pos) (lift X.K (aCB op g)) := (pe_callB hc hg hm hv ha hn hdb he hpl).imp (lift_CB ho)
theorem e_callTy (hc : CallR X (.type T) r) (ho : OkC X.K r op) (hm : X.mg x = none) (hv : bootBuiltins x = some (.type T)) (ha : PA X (e :: es) (liftA X.K g)) (hg : Gl X x := by rfl) (hn : x ≠ "__name__" := by decide) (hdb : (x == ("__debug__" : Str)) = false := by decide)
    (he : starEach (e :: es) X.env = (false, eval e X.env) :: starEach es X.env := by rfl) (hpl : (backTo pos (starEach es X.env)).any (·.1) = false := by rfl) : PE X (.Call (.Name x p) (e :: es) [] pos) (lift X.K (aCB op g)) := (pe_callTy hc hg hm hv ha hn hdb he hpl).imp (lift_CB ho)
end
/-- len -/
def cLen : AC := fun ds M k => match ds with
  | [.tup xs] => k (.int xs.length) M
  | [.str z] => z.length ≤ sizeLine ∧ k (.int z.length) M
  | [d] => match rdS M d with
    | some xs => k (.int xs.length) M
    | none => False
  | _ => False
theorem rels1 {I : Hp} {d : D} {vs : List V} (r : Rels K I [d] vs) : ∃ v, vs = [v] ∧ Rel K I d v := by
  obtain ⟨w, ws, rfl, h2, h3⟩ := r.cons_inv
  rw [h3.nil_inv]; exact ⟨w, rfl, h2⟩
theorem rels2 {I : Hp} {d d' : D} {vs : List V} (r : Rels K I [d, d'] vs) : ∃ v v', vs = [v, v'] ∧ Rel K I d v ∧ Rel K I d' v' := by
  obtain ⟨w, ws, rfl, h2, h3⟩ := r.cons_inv
  obtain ⟨v', rfl, h4⟩ := rels1 h3
  exact ⟨w, v', rfl, h2, h4⟩
theorem cLen_ok : OkC K (fun xs H Q => ∃ x n, xs = [x] ∧ LenV K x H n ∧ Q (.int n) H) cLen := by
  intro ds M k vs H I F Q h c r hk
  unfold cLen at h
  split at h
  · obtain ⟨v, rfl, r9⟩ := rels1 r
    obtain ⟨a, ws, rfl, g, s⟩ := rel_tup c r9
    exact ⟨_, ws.length, rfl, .inr ⟨ws, g, rfl⟩, hk _ _ _ _ _ h (Le.refl I) c (by rw [Rel, s.length])⟩
  · obtain ⟨v, rfl, r9⟩ := rels1 r
    rw [Rel] at r9; subst r9
    exact ⟨_, _, rfl, ⟨h.1, rfl⟩, hk _ _ _ _ _ h.2 (Le.refl I) c (by rw [Rel])⟩
  · obtain ⟨v, rfl, r9⟩ := rels1 r
    split at h
    · rename_i xs e0
      obtain ⟨a, ws, rfl, g, s⟩ := rdS_ok e0 c r9
      exact ⟨_, ws.length, rfl, .inl ⟨ws, g, rfl⟩, hk _ _ _ _ _ h (Le.refl I) c (by rw [Rel, s.length])⟩
    · exact h.elim
  · exact h.elim
/-- ints in, a value out -/
def c1I (g : Int → D) : AC := fun ds M k => match ds with
  | [.int i] => k (g i) M
  | _ => False
def c2I (g : Int → Int → D) : AC := fun ds M k => match ds with
  | [.int i, .int j] => k (g i j) M
  | _ => False
theorem c1I_ok {g : Int → D} {g' : Int → V} (hg : ∀ I i, Rel K I (g i) (g' i)) : OkC K (fun xs H Q => ∃ i, xs = [.int i] ∧ Q (g' i) H) (c1I g) := by
  intro ds M k vs H I F Q h c r hk
  unfold c1I at h
  split at h
  · obtain ⟨v, rfl, r9⟩ := rels1 r
    rw [Rel] at r9; subst r9
    exact ⟨_, rfl, hk _ _ _ _ _ h (Le.refl I) c (hg I _)⟩
  · exact h.elim
theorem c2I_ok {g : Int → Int → D} {g' : Int → Int → V} (hg : ∀ I i j, Rel K I (g i j) (g' i j)) : OkC K (fun xs H Q => ∃ i j, xs = [.int i, .int j] ∧ Q (g' i j) H) (c2I g) := by
  intro ds M k vs H I F Q h c r hk
  unfold c2I at h
  split at h
  · obtain ⟨v, u, rfl, r1, r2⟩ := rels2 r
    rw [Rel] at r1 r2; subst r1 r2
    exact ⟨_, _, rfl, hk _ _ _ _ _ h (Le.refl I) c (hg I _ _)⟩
  · exact h.elim
abbrev cAbs : AC := c1I fun i => .int (if i < 0 then -i else i)
abbrev cMax2 : AC := c2I fun i j => .int (if j > i then j else i)
abbrev cMin2 : AC := c2I fun i j => .int (if j < i then j else i)
section
variable {g : AA} {p pos : Pos}
theorem e_len (hm : X.mg "len" = none) (ha : PA X (e :: es) (liftA X.K g)) (hg : Gl X "len" := by rfl) (he : starEach (e :: es) X.env = (false, eval e X.env) :: starEach es X.env := by rfl) (hpl : (backTo pos (starEach es X.env)).any (·.1) = false := by rfl) :
    PE X (.Call (.Name "len" p) (e :: es) [] pos) (lift X.K (aCB cLen g)) := e_callB call_len cLen_ok hm (by decide +kernel) ha hg (by decide) (by decide) he hpl
theorem e_abs (hm : X.mg "abs" = none) (ha : PA X (e :: es) (liftA X.K g)) (hg : Gl X "abs" := by rfl) (he : starEach (e :: es) X.env = (false, eval e X.env) :: starEach es X.env := by rfl) (hpl : (backTo pos (starEach es X.env)).any (·.1) = false := by rfl) :
    PE X (.Call (.Name "abs" p) (e :: es) [] pos) (lift X.K (aCB cAbs g)) := e_callB call_abs (c1I_ok fun _ _ => by rw [Rel]) hm (by decide +kernel) ha hg (by decide) (by decide) he hpl
theorem e_max2 (hc : X.calm = true) (hm : X.mg "max" = none) (ha : PA X (e :: es) (liftA X.K g)) (hg : Gl X "max" := by rfl) (he : starEach (e :: es) X.env = (false, eval e X.env) :: starEach es X.env := by rfl) (hpl : (backTo pos (starEach es X.env)).any (·.1) = false := by rfl) :
    PE X (.Call (.Name "max" p) (e :: es) [] pos) (lift X.K (aCB cMax2 g)) := e_callB (call_max2 hc) (c2I_ok fun _ _ _ => by rw [Rel]) hm (by decide +kernel) ha hg (by decide) (by decide) he hpl
theorem e_min2 (hc : X.calm = true) (hm : X.mg "min" = none) (ha : PA X (e :: es) (liftA X.K g)) (hg : Gl X "min" := by rfl) (he : starEach (e :: es) X.env = (false, eval e X.env) :: starEach es X.env := by rfl) (hpl : (backTo pos (starEach es X.env)).any (·.1) = false := by rfl) :
    PE X (.Call (.Name "min" p) (e :: es) [] pos) (lift X.K (aCB cMin2 g)) := e_callB (call_min2 hc) (c2I_ok fun _ _ _ => by rw [Rel]) hm (by decide +kernel) ha hg (by decide) (by decide) he hpl
end
/-- sum of ints -/
def intsOf : List D → Option (List Int)
  | [] => some []
  | .int i :: r => (intsOf r).map (i :: ·)
  | _ => none
theorem intsOf_eq : ∀ {ds : List D} {ns : List Int}, intsOf ds = some ns → ds = ns.map .int
  | [], ns, h => by cases h; rfl
  | d :: r, ns, h => by
    cases d with
    | int i =>
      have h : (intsOf r).map (i :: ·) = some ns := h
      cases q : intsOf r with
      | none => rw [q] at h; cases h
      | some ms => rw [q] at h; cases h; rw [intsOf_eq q]; rfl
    | _ => cases h
theorem intsOf_map (ns : List Int) : intsOf (ns.map .int) = some ns := by
  induction ns with
  | nil => rfl
  | cons n r ih => show (intsOf (r.map .int)).map (n :: ·) = some (n :: r); rw [ih]; rfl
def cSum : AC := fun ds M k => match ds with
  | [d] => match (rdS M d).bind intsOf with
    | some ns => k (.int ns.sum) M
    | none => False
  | _ => False
theorem ints_ok {M : MH} {H I F : Hp} {d : D} {v : V} {ns : List Int} (h : (rdS M d).bind intsOf = some ns) (c : Conc K H I M F) (r : Rel K I d v) : ∃ a, v = .ref a ∧ SqL K H a (ns.map V.int) := by
  cases q : rdS M d with
  | none => rw [q] at h; cases h
  | some ds =>
    rw [q] at h
    have h2 : intsOf ds = some ns := h
    obtain ⟨a, vs, e1, g, s⟩ := rdS_ok q c r
    rw [intsOf_eq h2] at s
    rw [Rels.ints s] at g
    exact ⟨a, e1, g⟩
theorem cSum_ok : OkC K (rSum K) cSum := by
  intro ds M k vs H I F Q h c r hk
  unfold cSum at h
  split at h
  · obtain ⟨v, rfl, r9⟩ := rels1 r
    split at h
    · rename_i ns e0
      obtain ⟨a, rfl, g⟩ := ints_ok e0 c r9
      exact ⟨a, ns, rfl, g, hk _ _ _ _ _ h (Le.refl I) c (by rw [Rel])⟩
    · exact h.elim
  · exact h.elim
theorem e_sum {g : AA} {p pos : Pos} (hc : X.calm = true) (hm : X.mg "sum" = none) (ha : PA X (e :: es) (liftA X.K g)) (hg : Gl X "sum" := by rfl) (he : starEach (e :: es) X.env = (false, eval e X.env) :: starEach es X.env := by rfl) (hpl : (backTo pos (starEach es X.env)).any (·.1) = false := by rfl) :
    PE X (.Call (.Name "sum" p) (e :: es) [] pos) (lift X.K (aCB cSum g)) := e_callB (cr_sum hc) cSum_ok hm (by decide +kernel) ha hg (by decide) (by decide) he hpl
/-- list(xs) -/
def cList (m : Bool) : AC := fun ds M k => match ds with
  | [.tup xs] => nl m xs M k
  | [d] => match rdS M d with
    | some xs => nl m xs M k
    | none => False
  | _ => False
theorem cList_ok {m : Bool} : OkC K (fun xs H Q => ∃ p ys, xs = [.ref p] ∧ (SqL K H p ys ∨ SqT K H p ys) ∧ ∀ l, H l = none → Q (.ref l) (upd H l (.lst ys))) (cList m) := by
  intro ds M k vs H I F Q h c r hk
  unfold cList at h
  split at h
  · obtain ⟨v, rfl, r9⟩ := rels1 r
    obtain ⟨a, ws, rfl, g, s⟩ := rel_tup c r9
    exact ⟨a, ws, rfl, .inr g, fun p hp => nl_ok h c s hk hp⟩
  · obtain ⟨v, rfl, r9⟩ := rels1 r
    split at h
    · rename_i xs e0
      obtain ⟨a, ws, rfl, g, s⟩ := rdS_ok e0 c r9
      exact ⟨a, ws, rfl, .inl g, fun p hp => nl_ok h c s hk hp⟩
    · exact h.elim
  · exact h.elim
theorem e_list (m : Bool) {g : AA} {p pos : Pos} (hm : X.mg "list" = none) (ha : PA X (e :: es) (liftA X.K g)) (hg : Gl X "list" := by rfl) (he : starEach (e :: es) X.env = (false, eval e X.env) :: starEach es X.env := by rfl) (hpl : (backTo pos (starEach es X.env)).any (·.1) = false := by rfl) :
    PE X (.Call (.Name "list" p) (e :: es) [] pos) (lift X.K (aCB (cList m) g)) := e_callTy call_list_of cList_ok hm (by decide +kernel) ha hg (by decide) (by decide) he hpl

/-! ### methods of lists -/
/-- list methods by values -/
abbrev AM := D → List D → MH → AK → Prop
def OkM (K : PySem.W.Frag) (r : V → List V → Hp → VK → Prop) (op : AM) : Prop := ∀ d ds M k v vs H I F Q, op d ds M k → Conc K H I M F → Rel K I d v → Rels K I ds vs → kE K I F k Q → r v vs H Q
def aMt0 (op : AM) (f : AE) : AE := fun Γ M k => f Γ M fun d M1 => match rdL M1 d with
  | some _ => op d [] M1 k
  | none => False
def aMt (op : AM) (f : AE) (g : AA) : AE := fun Γ M k => f Γ M fun d M1 => match rdL M1 d with
  | some _ => g Γ M1 fun ds M2 => op d ds M2 k
  | none => False
theorem tyL {M : MH} {H I F : Hp} {d : D} {v : V} {ds : List D} (h : rdL M d = some ds) (c : Conc K H I M F) (r : Rel K I d v) : tyV K "list" v H := by
  obtain ⟨a, vs, rfl, g, _⟩ := rdL_ok h c r
  exact .inl ⟨rfl, vs, SqL.of g⟩
theorem lift_Mt {r : V → List V → Hp → VK → Prop} {op : AM} {f : AE} {g : AA} (h : OkM K r op) : ∀ σ H Q, lift K (aMt op f g) σ H Q → tBM K "list" r (lift K f) (liftA K g) σ H Q := fun σ H Q ⟨Γ, M, I, F, k, hs, hc, hf, hk⟩ =>
  ⟨Γ, M, I, F, _, hs, hc, hf, fun d M1 v H1 I1 h1 l1 c1 r1 => by
    split at h1
    · rename_i ds e0
      exact ⟨tyL e0 c1 r1, Γ, M1, I1, F, _, hs.le l1, c1, h1, fun es M2 vs H2 I2 h2 l2 c2 r2 => h _ _ _ _ _ _ _ _ _ _ h2 c2 (Rel.le l2 _ _ r1) r2 (hk.le (l1.trans l2))⟩
    · exact h1.elim⟩
theorem lift_Mt0 {r : V → List V → Hp → VK → Prop} {op : AM} {f : AE} (h : OkM K r op) : ∀ σ H Q, lift K (aMt0 op f) σ H Q → tBM0 K "list" r (lift K f) σ H Q := fun σ H Q ⟨Γ, M, I, F, k, hs, hc, hf, hk⟩ =>
  ⟨Γ, M, I, F, _, hs, hc, hf, fun d M1 v H1 I1 h1 l1 c1 r1 => by
    split at h1
    · rename_i ds e0
      exact ⟨tyL e0 c1 r1, h _ _ _ _ _ _ _ _ _ _ h1 c1 r1 .nil (hk.le l1)⟩
    · exact h1.elim⟩
/-- a list of the small heap, changed -/
def wrL (d : D) (M : MH) (f : Addr → List D → Prop) : Prop := match d with
  | .ref a => match M a with
    | some (.obj (.lst ds)) => f a ds
    | _ => False
  | _ => False
theorem wrL_ok {M : MH} {H I F : Hp} {d : D} {v : V} {f : Addr → List D → Prop} (h : wrL d M f) (c : Conc K H I M F) (r : Rel K I d v) : ∃ a ds vs, v = .ref a ∧ M a = some (.obj (.lst ds)) ∧ H a = some (.lst vs) ∧ Rels K I ds vs ∧ f a ds := by
  cases d with
  | ref a =>
    rw [Rel] at r
    have h : (match M a with
      | some (.obj (.lst ds)) => f a ds
      | _ => False) := h
    split at h
    · rename_i ds e
      obtain ⟨vs, h1, h2⟩ := c.rel a _ e
      exact ⟨a, ds, vs, r, e, h1, h2, h⟩
    · exact h.elim
  | _ => exact h.elim
def mAppend : AM := fun d es M k => match es with
  | [x] => wrL d M fun a ds => ds.length < sizeLine ∧ k .non (up M a (.obj (.lst (ds ++ [x]))))
  | _ => False
theorem mAppend_ok : OkM K rAppend mAppend := by
  intro d es M k v vs H I F Q h c r rs hk
  unfold mAppend at h
  split at h
  · obtain ⟨w, rfl, rw'⟩ := rels1 rs
    obtain ⟨a, ds, ws, rfl, hM, hH, hr, hl, q⟩ := wrL_ok h c r
    exact ⟨a, ws, w, rfl, rfl, hH, by rw [← hr.length]; exact hl, hk _ _ _ _ _ q (Le.refl I) (c.set hM ⟨_, upd_same, hr.append (.one rw')⟩) (by rw [Rel])⟩
  · exact h.elim
def mPop : AM := fun d es M k => match es with
  | [] => wrL d M fun a ds => match ds[ds.length - 1]? with
    | some x => k x (up M a (.obj (.lst ds.dropLast)))
    | none => False
  | [.int i] => wrL d M fun a ds => (-(2 ^ 63) ≤ i ∧ i < 2 ^ 63) ∧ match seqIndex? i ds.length with
    | some j => (match ds[j]? with
      | some x => k x (up M a (.obj (.lst (ds.eraseIdx j))))
      | none => False)
    | none => False
  | _ => False
theorem mPop_ok : OkM K (fun x xs H Q => rPop x xs H Q ∨ rPopAt x xs H Q) mPop := by
  intro d es M k v vs H I F Q h c r rs hk
  unfold mPop at h
  split at h
  · rw [rs.nil_inv]
    obtain ⟨a, ds, ws, rfl, hM, hH, hr, q⟩ := wrL_ok h c r
    split at q
    · rename_i x e0
      obtain ⟨w, e1, rx⟩ := hr.get e0
      rw [hr.length] at e1
      exact .inl ⟨a, ws, w, rfl, rfl, hH, e1, hk _ _ _ _ _ q (Le.refl I) (c.set hM ⟨_, upd_same, hr.dropLast⟩) rx⟩
    · exact q.elim
  · rename_i i
    obtain ⟨w, rfl, rw'⟩ := rels1 rs
    rw [Rel] at rw'; subst rw'
    obtain ⟨a, ds, ws, rfl, hM, hH, hr, ⟨b1, b2⟩, q⟩ := wrL_ok h c r
    split at q
    · rename_i j ej
      split at q
      · rename_i x e0
        obtain ⟨w, e1, rx⟩ := hr.get e0
        rw [hr.length] at ej
        exact .inr ⟨a, ws, i, j, w, rfl, rfl, hH, b1, b2, ej, e1, hk _ _ _ _ _ q (Le.refl I) (c.set hM ⟨_, upd_same, hr.eraseIdx j⟩) rx⟩
      · exact q.elim
    · exact q.elim
  · exact h.elim
def mReverse : AM := fun d es M k => match es with
  | [] => wrL d M fun a ds => k .non (up M a (.obj (.lst ds.reverse)))
  | _ => False
theorem mReverse_ok : OkM K rReverse mReverse := by
  intro d es M k v vs H I F Q h c r rs hk
  unfold mReverse at h
  split at h
  · rw [rs.nil_inv]
    obtain ⟨a, ds, ws, rfl, hM, hH, hr, q⟩ := wrL_ok h c r
    exact ⟨a, ws, rfl, rfl, hH, hk _ _ _ _ _ q (Le.refl I) (c.set hM ⟨_, upd_same, hr.reverse⟩) (by rw [Rel])⟩
  · exact h.elim
def mClear : AM := fun d es M k => match es with
  | [] => wrL d M fun a ds => k .non (up M a (.obj (.lst [])))
  | _ => False
theorem mClear_ok : OkM K rClear mClear := by
  intro d es M k v vs H I F Q h c r rs hk
  unfold mClear at h
  split at h
  · rw [rs.nil_inv]
    obtain ⟨a, ds, ws, rfl, hM, hH, hr, q⟩ := wrL_ok h c r
    exact ⟨a, ws, rfl, rfl, hH, hk _ _ _ _ _ q (Le.refl I) (c.set hM ⟨_, upd_same, .nil⟩) (by rw [Rel])⟩
  · exact h.elim
def mExtend : AM := fun d es M k => match es with
  | [x] => wrL d M fun a ds => match rdL M x with
    | some xs => ds.length + xs.length ≤ sizeLine ∧ k .non (up M a (.obj (.lst (ds ++ xs))))
    | none => False
  | _ => False
theorem mExtend_ok : OkM K rExtend mExtend := by
  intro d es M k v vs H I F Q h c r rs hk
  unfold mExtend at h
  split at h
  · obtain ⟨w, rfl, rw'⟩ := rels1 rs
    obtain ⟨a, ds, ws, rfl, hM, hH, hr, q⟩ := wrL_ok h c r
    split at q
    · rename_i xs e0
      obtain ⟨b, us, rfl, gH, gr⟩ := rdL_ok e0 c rw'
      exact ⟨a, b, ws, us, rfl, rfl, hH, gH, by rw [← hr.length, ← gr.length]; exact q.1, hk _ _ _ _ _ q.2 (Le.refl I) (c.set hM ⟨_, upd_same, hr.append gr⟩) (by rw [Rel])⟩
    · exact q.elim
  · exact h.elim

/-! ### statements -/
def aSeq (s t : AS) : AS := fun D Γ M => s { D with nx := fun Γ M => t D Γ M } Γ M
def aNext : AS := fun D Γ M => D.nx Γ M
def aBreak : AS := fun D Γ M => D.bk Γ M
def aCont : AS := fun D Γ M => D.ct Γ M
def aNever : AS := fun _ _ _ => False
def aDrop (f : AE) : AS := fun D Γ M => f Γ M fun _ M1 => D.nx Γ M1
def aRet (f : AE) : AS := fun D Γ M => f Γ M D.rt
def aRetN : AS := fun D _ M => D.rt .non M
def aIfS (c : AT) (s t : AS) : AS := fun D Γ M => c Γ M fun b M1 => if b = true then s D Γ M1 else t D Γ M1
def aSet (i : Nat) (f : AE) : AS := fun D Γ M => f Γ M fun d M1 => D.nx (Γ.set i (some d)) M1
def aPar (i j : Nat) (g : AA) : AS := fun D Γ M => g Γ M fun ds M1 => match ds with
  | [d, e] => D.nx ((Γ.set i (some d)).set j (some e)) M1
  | _ => False
def aAsg (f : AE) (g : AG) : AS := fun D Γ M => f Γ M fun d M1 => g d Γ M1 D.nx
variable {st : Stmt} {rest : List Stmt} {s t : AS}
theorem ss_nil : PSs X [] (liftS X.K aNext) := pss_nil.imp fun E σ H ⟨Γ, M, I, F, D, hs, hc, hf, hk⟩ => hk.nx _ _ _ _ _ hf (Le.refl I) hc hs
theorem lift_seq : ∀ E σ H, liftS K (aSeq s t) E σ H → tSeq (liftS K s) (liftS K t) E σ H := fun E σ H ⟨Γ, M, I, F, D, hs, hc, hf, hk⟩ =>
  ⟨Γ, M, I, F, { D with nx := fun Γ M => t D Γ M }, hs, hc, hf, ⟨fun Γ1 M1 σ1 H1 I1 h1 l1 c1 s1 => ⟨Γ1, M1, I1, F, D, s1, c1, h1, hk.le l1⟩, hk.rt, hk.bk, hk.ct⟩⟩
theorem ss_cons (h1 : PS X st (liftS X.K s)) (h2 : PSs X rest (liftS X.K t)) : PSs X (st :: rest) (liftS X.K (aSeq s t)) := (pss_cons h1 h2).imp lift_seq
theorem ss_one (h1 : PS X st (liftS X.K s)) : PSs X [st] (liftS X.K s) := pss_one h1
theorem s_pass : PS X (.Pass pos) (liftS X.K aNext) := ps_pass.imp fun E σ H ⟨Γ, M, I, F, D, hs, hc, hf, hk⟩ => hk.nx _ _ _ _ _ hf (Le.refl I) hc hs
theorem s_never : PS X st (liftS X.K aNever) := ps_never.imp fun E σ H ⟨Γ, M, I, F, D, hs, hc, hf, hk⟩ => hf.elim
theorem ss_never {sts : List Stmt} : PSs X sts (liftS X.K aNever) := pss_never.imp fun E σ H ⟨Γ, M, I, F, D, hs, hc, hf, hk⟩ => hf.elim
theorem s_expr {f : AE} (he : PE X e (lift X.K f)) (hs : swapsWith e none pos.line X.env = pure false := by rfl) : PS X (.Expr e pos) (liftS X.K (aDrop f)) := (ps_expr he hs).imp fun E σ H ⟨Γ, M, I, F, D, hs, hc, hf, hk⟩ =>
  ⟨Γ, M, I, F, _, hs, hc, hf, fun d M1 v H1 I1 h1 l1 c1 r1 => hk.nx _ _ _ _ _ h1 l1 c1 (hs.le l1)⟩
theorem s_ret {f : AE} (he : PE X e (lift X.K f)) : PS X (.Return (some e) pos) (liftS X.K (aRet f)) := (ps_ret he).imp fun E σ H ⟨Γ, M, I, F, D, hs, hc, hf, hk⟩ => ⟨Γ, M, I, F, _, hs, hc, hf, hk.rt⟩
theorem s_retN : PS X (.Return none pos) (liftS X.K aRetN) := ps_retN.imp fun E σ H ⟨Γ, M, I, F, D, hs, hc, hf, hk⟩ => hk.rt _ _ _ _ _ hf (Le.refl I) hc (by rw [Rel])
theorem s_if {c : Expr} {x y : List Stmt} {tc : AT} (hc : PT X c (liftT X.K tc)) (ha : PSs X x (liftS X.K s)) (hb : PSs X y (liftS X.K t)) : PS X (.If c x y pos) (liftS X.K (aIfS tc s t)) := (ps_if hc ha hb).imp fun E σ H ⟨Γ, M, I, F, D, hs, hc, hf, hk⟩ =>
  ⟨Γ, M, I, F, _, hs, hc, hf, fun b M1 H1 I1 h1 l1 c1 => by
    cases b with
    | true => exact ⟨Γ, M1, I1, F, D, hs.le l1, c1, h1, hk.le l1⟩
    | false => exact ⟨Γ, M1, I1, F, D, hs.le l1, c1, h1, hk.le l1⟩⟩
theorem s_set {i : Nat} {x : Str} {e : Expr} {f : AE} {pos' : Pos} (he : PE X e (lift X.K f)) (hN : X.N.Nodup) (hi : X.N[i]? = some x := by rfl) (hx : Loc X.env.scope x := by first | exact Or.inl rfl | exact Or.inr rfl) (hs : swapsWith e (some (.Name x pos')) pos.line X.env = pure false := by rfl) (hf : X.fn x = true ∨ X.env.scope.names.lookup x = some .local := by first | exact .inl rfl | exact .inr rfl | assumption) :
    PS X (.Assign [.Name x pos'] e pos) (liftS X.K (aSet i f)) := (ps_set hN hi hx he hs hf).imp fun E σ H ⟨Γ, M, I, F, D, hs, hc, hf, hk⟩ =>
  ⟨Γ, M, I, F, _, hs, hc, hf, fun d M1 v H1 I1 h1 l1 c1 r1 => hk.nx _ _ _ _ _ h1 l1 c1 ((hs.le l1).set r1)⟩
theorem s_par {i j : Nat} {x y : Str} {a b : Expr} {g : AA} {px py pt : Pos} {kt k2 pt2} (ha : PA X [a, b] (liftA X.K g)) (hc : X.calm = true) (hN : X.N.Nodup) (hi : X.N[i]? = some x := by rfl) (hj : X.N[j]? = some y := by rfl) (hij : i ≠ j := by decide)
    (hx : X.env.scope.names.lookup x = some .local := by rfl) (hy : X.env.scope.names.lookup y = some .local := by rfl)
    (hw : swappedStores [.Tuple [.Name x px, .Name y py] kt pt] (.Tuple [a, b] k2 pt2) X.env = pure (some [x, y]) := by rfl)
    (hs : swapsWithSole [.Tuple [.Name x px, .Name y py] kt pt] (.Tuple [a, b] k2 pt2) pos.line X.env = pure false := by rfl) :
    PS X (.Assign [.Tuple [.Name x px, .Name y py] kt pt] (.Tuple [a, b] k2 pt2) pos) (liftS X.K (aPar i j g)) := (ps_par hc hN hi hj hij hx hy ha hw hs).imp fun E σ H ⟨Γ, M, I, F, D, hs, hc, hf, hk⟩ =>
  ⟨Γ, M, I, F, _, hs, hc, hf, fun ds M1 vs H1 I1 h1 l1 c1 r1 => by
    split at h1
    · obtain ⟨v, w, rfl, r1, r2⟩ := rels2 r1
      exact ⟨v, w, rfl, hk.nx _ _ _ _ _ h1 l1 c1 (((hs.le l1).set r1).set r2)⟩
    · exact h1.elim⟩
/-! targets -/
def gNm (i : Nat) : AG := fun d Γ M k => k (Γ.set i (some d)) M
def gNi : AGs := fun ds Γ M k => match ds with
  | [] => k Γ M
  | _ => False
def gCo (t : AG) (u : AGs) : AGs := fun ds Γ M k => match ds with
  | d :: r => t d Γ M fun Γ1 M1 => u r Γ1 M1 k
  | [] => False
def gTu (n : Nat) (t : AGs) : AG := fun d Γ M k => match d with
  | .tup ds => ds.length = n ∧ t ds Γ M k
  | _ => False
theorem g_name {i : Nat} {x : Str} (hN : X.N.Nodup) (hi : X.N[i]? = some x := by rfl) (hx : Loc X.env.scope x := by first | exact Or.inl rfl | exact Or.inr rfl) (hf : X.fn x = true ∨ X.env.scope.names.lookup x = some .local := by first | exact .inl rfl | exact .inr rfl | assumption) : PG X (.Name x pos) (liftG X.K (gNm i)) :=
  (pg_name hN hi hx hf).imp fun v σ H Q ⟨d, Γ, M, I, F, k, r, hs, hc, hf, hk⟩ => hk _ _ _ _ _ hf (Le.refl I) hc (hs.set r)
theorem gs_nil : PGs X [] (liftGs X.K gNi) := pgs_nil.imp fun vs σ H Q ⟨ds, Γ, M, I, F, k, r, hs, hc, hf, hk⟩ => by
  unfold gNi at hf
  split at hf
  · exact ⟨r.nil_inv, hk _ _ _ _ _ hf (Le.refl I) hc hs⟩
  · exact hf.elim
theorem gs_cons {t : AG} {u : AGs} (h1 : PG X e (liftG X.K t)) (h2 : PGs X es (liftGs X.K u)) (hs : (assignEach (e :: es) X.env).map (·.2) = assign e X.env :: (assignEach es X.env).map (·.2) := by rfl) : PGs X (e :: es) (liftGs X.K (gCo t u)) :=
  (pgs_cons h1 h2 hs).imp fun vs σ H Q ⟨ds, Γ, M, I, F, k, r, hs, hc, hf, hk⟩ => by
    unfold gCo at hf
    split at hf
    · obtain ⟨v, ws, rfl, r1, r2⟩ := r.cons_inv
      exact ⟨v, ws, rfl, _, Γ, M, I, F, _, r1, hs, hc, hf, fun Γ1 M1 σ1 H1 I1 h1 l1 c1 s1 => ⟨_, Γ1, M1, I1, F, k, Rels.le l1 _ _ r2, s1, c1, h1, hk.le l1⟩⟩
    · exact hf.elim
theorem g_tup {k : Nat} {t : AGs} {n : Nat} (h : PGs X es (liftGs X.K t)) (hc : X.calm = true) (hn : (assignEach es X.env).length = n := by rfl) (hst : (assignEach es X.env).findIdx? (·.1) = none := by rfl) : PG X (.Tuple es k pos) (liftG X.K (gTu n t)) :=
  (pg_tup hc h hn hst).imp fun v σ H Q ⟨d, Γ, M, I, F, k, r, hs, hc, hf, hk⟩ => by
    unfold gTu at hf
    split at hf
    · obtain ⟨a, vs, rfl, g, rs⟩ := rel_tup hc r
      exact ⟨a, vs, rfl, g, by rw [← rs.length]; exact hf.1, _, Γ, M, I, F, k, rs, hs, hc, hf.2, hk⟩
    · exact hf.elim
theorem s_asg {tg e : Expr} {f : AE} {g : AG} (he : PE X e (lift X.K f)) (hg : PG X tg (liftG X.K g)) (hs : swapsWithSole [tg] e pos.line X.env = pure false := by rfl) (hw : swappedStores [tg] e X.env = pure none := by rfl)
    (h1 : (assignEach [tg] X.env).map (·.2) = [assign tg X.env] := by rfl) : PS X (.Assign [tg] e pos) (liftS X.K (aAsg f g)) := (ps_asg he hg hs hw h1).imp fun E σ H ⟨Γ, M, I, F, D, hs, hc, hf, hk⟩ =>
  ⟨Γ, M, I, F, _, hs, hc, hf, fun d M1 v H1 I1 h1 l1 c1 r1 => ⟨d, Γ, M1, I1, F, D.nx, r1, hs.le l1, c1, h1, hk.nx.le l1⟩⟩
end
end M
/-! MLoop: while, for, comprehensions; what they walk. -/
namespace M
open PySem L2
section
variable {X : Cx} {e a b c : Expr} {es : List Expr} {pos p2 : Pos} {K : PySem.W.Frag} {st : Stmt} {rest body : List Stmt} {s t : AS}
/-- W: by a measure -/
def aWhile (c : AT) (b : AS) : AS := fun D Γ M => ∃ W : Nat → G → MH → Prop, (∃ m, W m Γ M) ∧ ∀ m Γ M, W m Γ M →
  c Γ M fun t M1 => if t = true then b { nx := fun Γ' M' => ∃ m', m' < m ∧ W m' Γ' M', rt := D.rt, bk := D.nx, ct := fun Γ' M' => ∃ m', m' < m ∧ W m' Γ' M', ex := D.ex } Γ M1 else D.nx Γ M1
theorem s_while {c : Expr} {tc : AT} (hc : PT X c (liftT X.K tc)) (hb : PSs X body (liftS X.K s)) (hp : PassesOwn (model X.prog X.w) X.A X.env X.xe) : PS X (.While c body [] pos) (liftS X.K (aWhile tc s)) :=
  (ps_while hp hc hb).imp fun E σ H ⟨Γ, M, I, F, D, hs, hc, ⟨W, ⟨m, w⟩, hf⟩, hk⟩ => by
    refine ⟨fun m σ H => ∃ Γ M J, W m Γ M ∧ Le I J ∧ RelS X.K J Γ σ ∧ Conc X.K H J M F, ⟨m, Γ, M, I, w, Le.refl I, hs, hc⟩, ?_⟩
    rintro m1 σ1 H1 ⟨Γ1, M1, J, w1, l1, s1, c1⟩
    refine ⟨Γ1, M1, J, F, _, s1, c1, hf m1 Γ1 M1 w1, fun b M2 H2 I2 h2 l2 c2 => ?_⟩
    cases b with
    | true =>
      rw [if_pos rfl] at h2 ⊢
      refine ⟨fun σ' H' => ∃ m', m' < m1 ∧ ∃ Γ M J, W m' Γ M ∧ Le I J ∧ RelS X.K J Γ σ' ∧ Conc X.K H' J M F, fun _ _ q => q, ?_⟩
      refine ⟨Γ1, M2, I2, F, _, s1.le l2, c2, h2, ⟨?_, hk.rt.le (l1.trans l2), hk.nx.le (l1.trans l2), ?_⟩⟩
      · rintro Γ3 M3 σ3 H3 I3 ⟨m', hm, w3⟩ l3 c3 s3
        exact ⟨m', hm, Γ3, M3, I3, w3, (l1.trans l2).trans l3, s3, c3⟩
      · rintro Γ3 M3 σ3 H3 I3 ⟨m', hm, w3⟩ l3 c3 s3
        exact ⟨m', hm, Γ3, M3, I3, w3, (l1.trans l2).trans l3, s3, c3⟩
    | false =>
      rw [if_neg Bool.false_ne_true] at h2 ⊢
      exact hk.nx _ _ _ _ _ h2 (l1.trans l2) c2 (s1.le l2)

/-! ### what is walked -/
structure AIt where
  items : List D
  ok : MH → Prop
abbrev AI := G → MH → (AIt → MH → Prop) → Prop
def ItOk (K : PySem.W.Frag) (F I : Hp) (J : It) (A : AIt) : Prop := ∀ (i : Nat) (H J' : Hp) (M : MH), Le I J' → ∀ F', Le F F' → Conc K H J' M F' → A.ok M →
  (A.items[i]? = none → J.stop i H) ∧ ∀ d, A.items[i]? = some d → J.go i H ∧ ∀ x H', J.yld i H x H' → ∃ I', Le J' I' ∧ Conc K H' I' M F' ∧ Rel K I' d x
theorem ItOk.le {K : PySem.W.Frag} {I I' F F' : Hp} {J : It} {A : AIt} (h : ItOk K F I J A) (l : Le I I') (lf : Le F F') : ItOk K F' I' J A := fun i H J' M a F2 f => h i H J' M (l.trans a) F2 (lf.trans f)
def liftI (K : PySem.W.Frag) (w : AI) : TI := fun σ H R => ∃ Γ M I F k, RelS K I Γ σ ∧ Conc K H I M F ∧ w Γ M k ∧ ∀ A M' J H' I', k A M' → Le I I' → Conc K H' I' M' F → ItOk K F I' J A → R J H'
theorem _root_.L2.PI.imp {tg iter : Expr} {t t' : TI} (h : PI X tg iter t) (i : ∀ σ H R, t' σ H R → t σ H R) : PI X tg iter t' := ⟨fun pins s σ H R I q => h.run pins s σ H R I (i σ H R q)⟩
/-- for: W by the turn -/
def aFor (w : AI) (g : AG) (b : AS) : AS := fun D Γ M => w Γ M fun A M1 => ∃ W : Nat → G → MH → Prop, W 0 Γ M1 ∧ ∀ i Γ M, i ≤ A.items.length → W i Γ M → A.ok M ∧ match A.items[i]? with
  | none => D.nx Γ M
  | some x => g x Γ M fun Γ' M' => b { nx := W (i + 1), rt := D.rt, bk := D.nx, ct := W (i + 1), ex := D.ex } Γ' M'
theorem s_for {tg iter : Expr} {w : AI} {g : AG} (hi : PI X tg iter (liftI X.K w)) (hg : PG X tg (liftG X.K g)) (hb : PSs X body (liftS X.K s)) (hc : X.calm = true) (hp : PassesOwn (model X.prog X.w) X.A X.env X.xe) (hs : ∀ x, foldedSetIterable iter X.env x = pure x := by intro _; rfl) :
    PS X (.For tg iter body [] pos) (liftS X.K (aFor w g s)) := (ps_for hp hc hi hg hb hs).imp fun E σ H ⟨Γ, M, I, F, D, hs, hc, hf, hk⟩ => by
    refine ⟨Γ, M, I, F, _, hs, hc, hf, ?_⟩
    rintro A M1 J H1 I1 ⟨W, w0, step⟩ l1 c1 ok
    refine ⟨fun i m σ H => ∃ Γ M J, W i Γ M ∧ i ≤ A.items.length ∧ m = A.items.length - i ∧ Le I1 J ∧ RelS X.K J Γ σ ∧ Conc X.K H J M F, ⟨_, Γ, M1, I1, w0, Nat.zero_le _, rfl, Le.refl _, hs.le l1, c1⟩, ?_⟩
    rintro i m σ2 H2 ⟨Γ2, M2, J2, w2, hi, rfl, l2, s2, c2⟩
    obtain ⟨aok, st⟩ := step i Γ2 M2 hi w2
    obtain ⟨o1, o2⟩ := ok i H2 J2 M2 l2 F (Le.refl F) c2 aok
    cases q : A.items[i]? with
    | none =>
      rw [q] at st
      exact .inl ⟨o1 q, hk.nx _ _ _ _ _ st (l1.trans l2) c2 s2⟩
    | some x =>
      rw [q] at st
      have hlt : i < A.items.length := (List.getElem?_eq_some_iff.mp q).1
      obtain ⟨go, yl⟩ := o2 x q
      refine .inr ⟨go, fun σ' H' => ∃ m', m' < A.items.length - i ∧ ∃ Γ M J, W (i + 1) Γ M ∧ i + 1 ≤ A.items.length ∧ m' = A.items.length - (i + 1) ∧ Le I1 J ∧ RelS X.K J Γ σ' ∧ Conc X.K H' J M F, fun _ _ q => q, fun v H3 y => ?_⟩
      obtain ⟨I3, l3, c3, r3⟩ := yl v H3 y
      refine ⟨x, Γ2, M2, I3, F, _, r3, s2.le l3, c3, st, fun Γ4 M4 σ4 H4 I4 h4 l4 c4 s4 => ?_⟩
      have la : Le I I4 := ((l1.trans l2).trans l3).trans l4
      refine ⟨Γ4, M4, I4, F, _, s4, c4, h4, ⟨?_, hk.rt.le la, hk.nx.le la, ?_⟩⟩
      · intro Γ5 M5 σ5 H5 I5 h5 l5 c5 s5
        exact ⟨_, by omega, Γ5, M5, I5, h5, hlt, rfl, ((l2.trans l3).trans l4).trans l5, s5, c5⟩
      · intro Γ5 M5 σ5 H5 I5 h5 l5 c5 s5
        exact ⟨_, by omega, Γ5, M5, I5, h5, hlt, rfl, ((l2.trans l3).trans l4).trans l5, s5, c5⟩
/-! lists, tuples -/
def wLst (f : AE) : AI := fun Γ M k => f Γ M fun d M1 => match rdS M1 d with
  | some ds => k ⟨ds, fun M => rdS M d = some ds⟩ M1
  | none => False
def wTp (f : AE) : AI := fun Γ M k => f Γ M fun d M1 => match d with
  | .tup ds => k ⟨ds, fun _ => True⟩ M1
  | _ => False
theorem rdS_addr {M M' : MH} {H H' I I' F F' : Hp} {d : D} {v v' : V} {ds : List D} (r : Rel K I d v) (r' : Rel K I' d v') (l : Le I I') : v = v' → True := fun _ => trivial
theorem Rels.get_none {I : Hp} {ds : List D} {vs : List V} (r : Rels K I ds vs) {i : Nat} (h : ds[i]? = none) : vs.length ≤ i := by
  rw [← r.length]; exact List.getElem?_eq_none_iff.mp h
theorem itl_ok {M : MH} {H I F : Hp} {d : D} {a : Addr} {ds : List D} (r : Rel K I d (.ref a)) : ItOk K F I (Itl K a) ⟨ds, fun M => rdS M d = some ds⟩ := by
  intro i H1 J M1 l F1 lf c hok
  obtain ⟨a', vs, e1, g, s⟩ := rdS_ok (M := M1) hok c (Rel.le l _ _ r)
  cases e1
  refine ⟨fun h => ⟨vs, g, s.get_none h⟩, fun x h => ?_⟩
  obtain ⟨v, hv, rv⟩ := s.get h
  refine ⟨⟨vs, v, g, hv⟩, fun y H' q => ?_⟩
  obtain ⟨rfl, q⟩ := q
  have := q vs g
  rw [hv] at this; cases this
  exact ⟨J, Le.refl J, c, rv⟩
theorem i_list {tg : Expr} {f : AE} (he : PE X e (lift X.K f)) : PI X tg e (liftI X.K (wLst f)) := (pi_list he).imp fun σ H R ⟨Γ, M, I, F, k, hs, hc, hf, hk⟩ =>
  ⟨Γ, M, I, F, _, hs, hc, hf, fun d M1 v H1 I1 h1 l1 c1 r1 => by
    split at h1
    · rename_i ds e0
      obtain ⟨p, vs, rfl, g, s⟩ := rdS_ok e0 c1 r1
      exact ⟨p, rfl, ⟨vs, g⟩, hk _ _ _ _ _ h1 l1 c1 (itl_ok (M := M1) (H := H1) r1)⟩
    · exact h1.elim⟩
theorem i_tup {tg : Expr} {f : AE} (he : PE X e (lift X.K f)) : PI X tg e (liftI X.K (wTp f)) := (pi_tup he).imp fun σ H R ⟨Γ, M, I, F, k, hs, hc, hf, hk⟩ =>
  ⟨Γ, M, I, F, _, hs, hc, hf, fun d M1 v H1 I1 h1 l1 c1 r1 => by
    split at h1
    · rename_i ds
      obtain ⟨p, vs, rfl, g, s⟩ := rel_tup c1 r1
      refine ⟨p, rfl, ⟨vs, g⟩, hk _ _ _ _ _ h1 l1 c1 ?_⟩
      intro i H2 J M2 l2 F2 lf c2 _
      obtain ⟨p', vs', e1, g2, s2⟩ := rel_tup c2 (Rel.le l2 _ _ r1)
      cases e1
      refine ⟨fun h => ⟨vs', g2, s2.get_none h⟩, fun x h => ?_⟩
      obtain ⟨v, hv, rv⟩ := s2.get h
      refine ⟨⟨vs', v, g2, hv⟩, fun y H' q => ?_⟩
      obtain ⟨rfl, q⟩ := q
      have := q vs' g2
      rw [hv] at this; cases this
      exact ⟨J, Le.refl J, c2, rv⟩
    · exact h1.elim⟩
/-! ranges -/
def rng (lo : Int) (n : Nat) : List Int := (List.range n).map fun (i : Nat) => lo + (i : Int)
theorem rng_get {lo : Int} {n i : Nat} : (rng lo n)[i]? = if i < n then some (lo + (i : Int)) else none := by
  unfold rng
  rw [List.getElem?_map]
  by_cases h : i < n
  · rw [if_pos h, List.getElem?_range h]; rfl
  · rw [if_neg h, List.getElem?_eq_none (by simpa using h)]; rfl
theorem rng_length {lo : Int} {n : Nat} : (rng lo n).length = n := by simp [rng]
def wRg1 (g : AA) : AI := fun Γ M k => g Γ M fun ds M1 => match ds with
  | [.int j] => (-(2 ^ 62) ≤ j ∧ j < 2 ^ 62) ∧ k ⟨(rng 0 j.toNat).map .int, fun _ => True⟩ M1
  | _ => False
def wRg2 (g : AA) : AI := fun Γ M k => g Γ M fun ds M1 => match ds with
  | [.int i, .int j] => (-(2 ^ 62) ≤ i ∧ i < 2 ^ 62 ∧ -(2 ^ 62) ≤ j ∧ j < 2 ^ 62) ∧ k ⟨(rng i (j - i).toNat).map .int, fun _ => True⟩ M1
  | _ => False
theorem itr_ok {F I : Hp} {lo : Int} {n : Nat} : ItOk K F I (Itr lo n) ⟨(rng lo n).map .int, fun _ => True⟩ := by
  intro i H1 J M1 l F1 lf c _
  refine ⟨fun h => ?_, fun x h => ?_⟩
  · have := List.getElem?_eq_none_iff.mp h
    rw [List.length_map, rng_length] at this
    exact this
  · have h : ((rng lo n).map D.int)[i]? = some x := h
    rw [List.getElem?_map, rng_get] at h
    by_cases q : i < n
    · rw [if_pos q] at h
      cases h
      refine ⟨q, fun y H' q2 => ?_⟩
      obtain ⟨rfl, rfl⟩ := q2
      exact ⟨J, Le.refl J, c, by rw [Rel]⟩
    · rw [if_neg q] at h; cases h
theorem i_range1 {tg a : Expr} {g : AA} {p pos : Pos} (hm : X.mg "range" = none) (ha : PA X [a] (liftA X.K g)) (hg : Gl X "range" := by rfl) (hs : starEach [a] X.env = [(false, eval a X.env)] := by rfl) : PI X tg (.Call (.Name "range" p) [a] [] pos) (liftI X.K (wRg1 g)) :=
  (pi_range1 hg hm ha hs).imp fun σ H R ⟨Γ, M, I, F, k, hs, hc, hf, hk⟩ => ⟨Γ, M, I, F, _, hs, hc, hf, fun ds M1 vs H1 I1 h1 l1 c1 r1 => by
    split at h1
    · rename_i j
      obtain ⟨v, rfl, r2⟩ := rels1 r1
      rw [Rel] at r2; subst r2
      exact ⟨j, rfl, h1.1.1, h1.1.2, hk _ _ _ _ _ h1.2 l1 c1 itr_ok⟩
    · exact h1.elim⟩
theorem i_range2 {tg a b : Expr} {g : AA} {p pos : Pos} (hm : X.mg "range" = none) (ha : PA X [a, b] (liftA X.K g)) (hg : Gl X "range" := by rfl) (hs : starEach [a, b] X.env = [(false, eval a X.env), (false, eval b X.env)] := by rfl) (hs2 : starEach [b] X.env = [(false, eval b X.env)] := by rfl) :
    PI X tg (.Call (.Name "range" p) [a, b] [] pos) (liftI X.K (wRg2 g)) :=
  (pi_range2 hg hm ha hs hs2).imp fun σ H R ⟨Γ, M, I, F, k, hs, hc, hf, hk⟩ => ⟨Γ, M, I, F, _, hs, hc, hf, fun ds M1 vs H1 I1 h1 l1 c1 r1 => by
    split at h1
    · rename_i i j
      obtain ⟨v, u, rfl, r2, r3⟩ := rels2 r1
      rw [Rel] at r2 r3; subst r2 r3
      exact ⟨i, j, rfl, h1.1, hk _ _ _ _ _ h1.2 l1 c1 itr_ok⟩
    · exact h1.elim⟩
/-! enumerate, zip -/
def enumD : Nat → List D → List D
  | _, [] => []
  | i, d :: ds => .tup [.int (i : Int), d] :: enumD (i + 1) ds
theorem enumD_get : ∀ {ds : List D} {i n : Nat}, (enumD n ds)[i]? = (ds[i]?).map fun d => .tup [.int ((n + i : Nat) : Int), d]
  | [], i, n => by simp [enumD]
  | d :: ds, 0, n => by simp [enumD]
  | d :: ds, i + 1, n => by
    show (enumD (n + 1) ds)[i]? = (ds[i]?).map _
    rw [enumD_get]
    have : n + 1 + i = n + (i + 1) := by omega
    rw [this]
def zipD : List D → List D → List D
  | d :: ds, e :: es => .tup [d, e] :: zipD ds es
  | _, _ => []
theorem zipD_get : ∀ {ds es : List D} {i : Nat}, (zipD ds es)[i]? = match ds[i]?, es[i]? with
    | some d, some e => some (.tup [d, e])
    | _, _ => none
  | [], es, i => by simp [zipD]
  | d :: ds, [], i => by simp [zipD]
  | d :: ds, e :: es, 0 => by simp [zipD]
  | d :: ds, e :: es, i + 1 => by
    show (zipD ds es)[i]? = _
    rw [zipD_get]
    simp
def wEn (g : AA) : AI := fun Γ M k => g Γ M fun ds M1 => match ds with
  | [d] => (match rdS M1 d with
    | some xs => k ⟨enumD 0 xs, fun M => rdS M d = some xs⟩ M1
    | none => False)
  | _ => False
def wZp (g : AA) : AI := fun Γ M k => g Γ M fun ds M1 => match ds with
  | [d, e] => (match rdS M1 d, rdS M1 e with
    | some xs, some ys => k ⟨zipD xs ys, fun M => rdS M d = some xs ∧ rdS M e = some ys⟩ M1
    | _, _ => False)
  | _ => False
theorem i_enum {a : Expr} {elts : List Expr} {kk : Nat} {tpos : Pos} {g : AA} {p pos : Pos} (hm : X.mg "enumerate" = none) (ha : PA X [a] (liftA X.K g)) (hg : Gl X "enumerate" := by rfl) (hs : starEach [a] X.env = [(false, eval a X.env)] := by rfl) :
    PI X (.Tuple elts kk tpos) (.Call (.Name "enumerate" p) [a] [] pos) (liftI X.K (wEn g)) :=
  (pi_enum hg hm ha hs).imp fun σ H R ⟨Γ, M, I, F, k, hs, hc, hf, hk⟩ => ⟨Γ, M, I, F, _, hs, hc, hf, fun ds M1 vs H1 I1 h1 l1 c1 r1 => by
    split at h1
    · rename_i d
      obtain ⟨v, rfl, r2⟩ := rels1 r1
      split at h1
      · rename_i xs e0
        obtain ⟨q, ws, rfl, g0, s0⟩ := rdS_ok e0 c1 r2
        refine ⟨q, ws, rfl, g0, hk _ _ _ _ _ h1 l1 c1 ?_⟩
        intro i H2 J M2 l2 F2 lf c2 ok
        obtain ⟨q', us, e1, g2, s2⟩ := rdS_ok ok c2 (Rel.le l2 _ _ r2)
        cases e1
        refine ⟨fun h => ⟨us, g2, s2.get_none (by
          have h : (enumD 0 xs)[i]? = none := h
          rw [enumD_get] at h
          cases q : xs[i]? with
          | none => rfl
          | some y => rw [q] at h; cases h)⟩, fun x h => ?_⟩
        have h : (enumD 0 xs)[i]? = some x := h
        rw [enumD_get] at h
        cases q : xs[i]? with
        | none => rw [q] at h; cases h
        | some y =>
          rw [q] at h
          cases h
          obtain ⟨v, hv, rv⟩ := s2.get q
          refine ⟨⟨us, v, g2, hv⟩, fun z H' q2 => ?_⟩
          obtain ⟨T, u, rfl, hT, rfl, q3⟩ := q2
          have := q3 us g2
          rw [hv] at this; cases this
          have le : Le J (upd J T (.tup [.int (i : Nat), v])) := Le.new (c2.fresh hT).1
          refine ⟨_, le, c2.newF hT, ?_⟩
          rw [Rel]
          refine ⟨T, _, rfl, .inl upd_same, .cons (by rw [Rel, Nat.zero_add]) (.one (Rel.le le _ _ rv))⟩
      · exact h1.elim
    · exact h1.elim⟩
theorem i_zip {a b : Expr} {elts : List Expr} {kk : Nat} {tpos : Pos} {g : AA} {p pos : Pos} (hm : X.mg "zip" = none) (ha : PA X [a, b] (liftA X.K g)) (hg : Gl X "zip" := by rfl) (hs : starEach [a, b] X.env = (false, eval a X.env) :: starEach [b] X.env := by rfl) (hpl : (backTo pos (starEach [b] X.env)).any (·.1) = false := by rfl) :
    PI X (.Tuple elts kk tpos) (.Call (.Name "zip" p) [a, b] [] pos) (liftI X.K (wZp g)) :=
  (pi_zip hg hm ha hs hpl).imp fun σ H R ⟨Γ, M, I, F, k, hs, hc, hf, hk⟩ => ⟨Γ, M, I, F, _, hs, hc, hf, fun ds M1 vs H1 I1 h1 l1 c1 r1 => by
    split at h1
    · rename_i d e
      obtain ⟨v, u, rfl, r2, r3⟩ := rels2 r1
      split at h1
      · rename_i xs ys e0 e1
        obtain ⟨q, ws, rfl, g0, s0⟩ := rdS_ok e0 c1 r2
        obtain ⟨q', ws', rfl, g0', s0'⟩ := rdS_ok e1 c1 r3
        refine ⟨q, q', ws, ws', rfl, g0, g0', hk _ _ _ _ _ h1 l1 c1 ?_⟩
        intro i H2 J M2 l2 F2 lf c2 ok
        obtain ⟨p1, us, e1, g2, s2⟩ := rdS_ok ok.1 c2 (Rel.le l2 _ _ r2)
        obtain ⟨p2, us', e2, g2', s2'⟩ := rdS_ok ok.2 c2 (Rel.le l2 _ _ r3)
        cases e1
        cases e2
        constructor
        · intro h
          have h : (zipD xs ys)[i]? = none := h
          rw [zipD_get] at h
          refine ⟨us, us', g2, g2', ?_⟩
          cases q : xs[i]? with
          | none => exact .inl (s2.get_none q)
          | some x =>
            cases q' : ys[i]? with
            | none => exact .inr (s2'.get_none q')
            | some y => rw [q, q'] at h; cases h
        · intro x h
          have h : (zipD xs ys)[i]? = some x := h
          rw [zipD_get] at h
          cases q : xs[i]? with
          | none => rw [q] at h; cases h
          | some x1 =>
            cases q' : ys[i]? with
            | none => rw [q, q'] at h; cases h
            | some y1 =>
              rw [q, q'] at h
              cases h
              obtain ⟨v, hv, rv⟩ := s2.get q
              obtain ⟨v', hv', rv'⟩ := s2'.get q'
              refine ⟨⟨us, us', v, v', g2, g2', hv, hv'⟩, fun z H' q2 => ?_⟩
              obtain ⟨T, u, u', rfl, hT, rfl, q3, q4⟩ := q2
              have := q3 us g2
              rw [hv] at this; cases this
              have := q4 us' g2'
              rw [hv'] at this; cases this
              have le : Le J (upd J T (.tup [v, v'])) := Le.new (c2.fresh hT).1
              refine ⟨_, le, c2.newF hT, ?_⟩
              rw [Rel]
              exact ⟨T, _, rfl, .inl upd_same, .cons (Rel.le le _ _ rv) (.one (Rel.le le _ _ rv'))⟩
      · exact h1.elim
    · exact h1.elim⟩
/-! texts, sign by sign -/
def signsD (z : Str) : List D := z.cps.toList.map fun c => .str ⟨#[c]⟩
def wSt (f : AE) : AI := fun Γ M k => f Γ M fun d M1 => match d with
  | .str z => k ⟨signsD z, fun _ => True⟩ M1
  | _ => False
theorem i_str {tg : Expr} {f : AE} (he : PE X e (lift X.K f)) : PI X tg e (liftI X.K (wSt f)) := (pi_str he).imp fun σ H R ⟨Γ, M, I, F, k, hs, hc, hf, hk⟩ =>
  ⟨Γ, M, I, F, _, hs, hc, hf, fun d M1 v H1 I1 h1 l1 c1 r1 => by
    split at h1
    · rename_i z
      rw [Rel] at r1
      refine ⟨z, r1, hk _ _ _ _ _ h1 l1 c1 ?_⟩
      intro i H2 J M2 l2 F2 lf c2 _
      refine ⟨fun h => ?_, fun x h => ?_⟩
      · have := List.getElem?_eq_none_iff.mp h
        show z.cps.size ≤ i
        simpa [signsD] using this
      · have h : (signsD z)[i]? = some x := h
        unfold signsD at h
        rw [List.getElem?_map] at h
        cases q : z.cps.toList[i]? with
        | none => rw [q] at h; cases h
        | some c =>
          rw [q] at h
          cases h
          have hc' : z.cps[i]? = some c := by simpa using q
          refine ⟨(Array.getElem?_eq_some_iff.mp hc').1, fun y H' q2 => ?_⟩
          obtain ⟨rfl, c', hc2, rfl⟩ := q2
          rw [hc'] at hc2; cases hc2
          exact ⟨J, Le.refl J, c2, by rw [Rel]⟩
    · exact h1.elim⟩

/-! ### comprehensions -/
def lcGo (m : Bool) (ok : MH → Prop) (g : AG) (tt : AT) (te : AE) (Γ : G) : List D → List D → MH → (List D → MH → Prop) → Prop
  | [], acc, M, k => ok M ∧ k acc M
  | x :: xs, acc, M, k => ok M ∧ g x Γ M fun Γ' M' => tt Γ' M' fun b M1 => if b = true then te Γ' M1 fun d M2 => acc.length < sizeLine ∧ lcGo m ok g tt te Γ xs (acc ++ [d]) M2 k else lcGo m ok g tt te Γ xs acc M1 k
def wipeG (Γ : G) : List Nat → G
  | [] => Γ
  | v :: vs => (wipeG Γ vs).set v none
def aLc (m : Bool) (w : AI) (g : AG) (tt : AT) (te : AE) (vs : List Nat) : AE := fun Γ M k => w Γ M fun A M1 => lcGo m A.ok g tt te (wipeG Γ vs) A.items [] M1 fun ds M2 => nl m ds M2 k
def aYes : AT := fun _ M k => k true M
theorem RelS.wipe {I : Hp} : ∀ {vs : List Nat} {Γ : G} {σ : L2.St}, RelS K I Γ σ → RelS K I (wipeG Γ vs) (wipe σ vs)
  | [], Γ, σ, h => h
  | v :: vs, Γ, σ, h => (RelS.wipe (vs := vs) h).forget
theorem _root_.L2.PTs.imp {ifs : List Expr} {t t' : TT} (h : PTs X ifs t) (i : ∀ σ H Q, t' σ H Q → t σ H Q) : PTs X ifs t' := ⟨fun pins s σ H Q I q => h.run pins s σ H Q I (i σ H Q q)⟩
theorem ts_nil : PTs X [] (liftT X.K aYes) := pts_nil.imp fun σ H Q ⟨Γ, M, I, F, k, hs, hc, hf, hk⟩ => hk _ _ _ _ hf (Le.refl I) hc
theorem ts_one {c : Expr} {t : AT} (h : PT X c (liftT X.K t)) : PTs X [c] (liftT X.K t) := pts_one h
/-- a target's store, and what it leaves where its own names are forgotten -/
def OkW (K : PySem.W.Frag) (g0 : TG) (g : AG) (vs : List Nat) : Prop := ∀ d v Γ M I F σ H k (Q : L2.St → Hp → Prop), Rel K I d v → RelS K I Γ σ → Conc K H I M F → g d Γ M k → (∀ Γ' σ', k Γ' M → RelS K I Γ' σ' → wipe σ' vs = wipe σ vs → Q σ' H) → g0 v σ H Q
def OkWs (K : PySem.W.Frag) (g0 : TGs) (g : AGs) (vs : List Nat) : Prop := ∀ ds ws Γ M I F σ H k (Q : L2.St → Hp → Prop), Rels K I ds ws → RelS K I Γ σ → Conc K H I M F → g ds Γ M k → (∀ Γ' σ', k Γ' M → RelS K I Γ' σ' → wipe σ' vs = wipe σ vs → Q σ' H) → g0 ws σ H Q
theorem wipe_set {σ : L2.St} {i : Nat} {x : Option V} : ∀ {vs : List Nat}, i ∈ vs → wipe (σ.set i x) vs = wipe σ vs
  | v :: vs, h => by
    unfold wipe
    by_cases q : i = v
    · subst q
      by_cases q2 : i ∈ vs
      · rw [wipe_set q2]
      · clear h
        have : ∀ ws : List Nat, i ∉ ws → wipe (σ.set i x) ws = (wipe σ ws).set i x := by
          intro ws
          induction ws with
          | nil => intro _; rfl
          | cons w ws ih =>
            intro hn
            unfold wipe
            rw [ih fun z => hn (List.mem_cons_of_mem _ z)]
            rw [List.set_comm _ _ (show i ≠ w from fun z => hn (by rw [z]; exact List.mem_cons_self))]
        rw [this vs q2, List.set_set]
    · rw [wipe_set (vs := vs) ((List.mem_cons.mp h).resolve_left q)]
theorem okw_name {i : Nat} {vs : List Nat} (h : i ∈ vs) : OkW K (gName i) (gNm i) vs := fun d v Γ M I F σ H k Q r hs hc hf hQ => hQ _ _ hf (hs.set r) (wipe_set h)
theorem okws_nil {vs : List Nat} : OkWs K gNil gNi vs := fun ds ws Γ M I F σ H k Q r hs hc hf hQ => by
  unfold gNi at hf
  split at hf
  · exact ⟨r.nil_inv, hQ _ _ hf hs rfl⟩
  · exact hf.elim
theorem okws_cons {t0 : TG} {t : AG} {u0 : TGs} {u : AGs} {vs : List Nat} (h1 : OkW K t0 t vs) (h2 : OkWs K u0 u vs) : OkWs K (gCons t0 u0) (gCo t u) vs := fun ds ws Γ M I F σ H k Q r hs hc hf hQ => by
  unfold gCo at hf
  split at hf
  · obtain ⟨v, us, rfl, r1, r2⟩ := r.cons_inv
    exact ⟨v, us, rfl, h1 _ _ _ _ _ _ _ _ _ _ r1 hs hc hf fun Γ1 σ1 k1 s1 e1 => h2 _ _ _ _ _ _ _ _ _ _ r2 s1 hc k1 fun Γ2 σ2 k2 s2 e2 => hQ _ _ k2 s2 (e2.trans e1)⟩
  · exact hf.elim
theorem okw_tup {n : Nat} {t0 : TGs} {t : AGs} {vs : List Nat} (h : OkWs K t0 t vs) : OkW K (gTup K n t0) (gTu n t) vs := fun d v Γ M I F σ H k Q r hs hc hf hQ => by
  unfold gTu at hf
  split at hf
  · obtain ⟨a, us, rfl, g, rs⟩ := rel_tup hc r
    exact ⟨a, us, rfl, g, by rw [← rs.length]; exact hf.1, h _ _ _ _ _ _ _ _ _ _ rs hs hc hf.2 hQ⟩
  · exact hf.elim
theorem noF_upd {F : Hp} {a : Addr} {o : HO} (h : F a = none) : Le F (noF (upd F a o) a) := fun x u e => by
  have : x ≠ a := ne_of_none e h
  rw [noF_ne this, upd_ne this]; exact e
theorem lift_lc {m : Bool} {w : AI} {g0 : TG} {g : AG} {tt : AT} {te : AE} {vs : List Nat} (hw : OkW K g0 g vs) : ∀ σ H Q, lift K (aLc m w g tt te vs) σ H Q → tLc (liftI K w) g0 (liftT K tt) (lift K te) vs σ H Q := by
  rintro σ H Q ⟨Γ, M, I, F, k, hs, hc, hf, hk⟩
  refine ⟨Γ, M, I, F, _, hs, hc, hf, ?_⟩
  intro A M1 J H1 I1 h1 l1 c1 ok D hD
  have fD : F D = none := c1.notF hD
  have lF : ∀ o, Le F (upd F D o) := fun o => Le.new fD
  refine ⟨fun i mm H => ∃ M acc I' ws, Conc K H I' M (upd F D (.lst ws)) ∧ Le I1 I' ∧ Rels K I' acc ws ∧ i ≤ A.items.length ∧ mm = A.items.length - i ∧ lcGo m A.ok g tt te (wipeG Γ vs) (A.items.drop i) acc M fun ds M2 => nl m ds M2 k,
    ⟨_, M1, [], I1, [], c1.newFr hD, Le.refl _, .nil, Nat.zero_le _, rfl, h1⟩, ?_⟩
  rintro i mm H2 ⟨M2, acc, I2, ws, c2, l2, r2, hi, rfl, go⟩
  have fin : ∀ {i : Nat}, i < A.items.length → A.items.length - (i + 1) < A.items.length - i := fun h => by omega
  cases q : A.items[i]? with
  | none =>
    have e : A.items.drop i = [] := List.drop_eq_nil_iff.mpr (List.getElem?_eq_none_iff.mp q)
    rw [e] at go
    obtain ⟨aok, go⟩ := go
    refine .inl ⟨(ok i H2 I2 M2 l2 _ (lF _) c2 aok).1 q, ?_⟩
    have hF : upd F D (.lst ws) D = some (.lst ws) := upd_same
    cases m with
    | false => exact hk _ _ _ _ _ go ((l1.trans l2).trans (Le.new (c2.frm _ _ hF).2.1)) ((c2.iceF hF).unF (noF_upd fD)) (by rw [Rel]; exact ⟨D, ws, rfl, upd_same, Rels.le (Le.new (c2.frm _ _ hF).2.1) _ _ r2⟩)
    | true => exact hk _ _ _ _ _ (go D (c2.frm _ _ hF).2.2) (l1.trans l2) ((c2.meltF (b := .lst acc) hF ⟨ws, (c2.frm _ _ hF).1, r2⟩).unF (noF_upd fD)) (by rw [Rel])
  | some x =>
    have hlt : i < A.items.length := (List.getElem?_eq_some_iff.mp q).1
    have e : A.items.drop i = x :: A.items.drop (i + 1) := by
      rw [List.drop_eq_getElem_cons hlt]
      have := (List.getElem?_eq_some_iff.mp q).2
      rw [this]
    rw [e] at go
    obtain ⟨aok, go⟩ := go
    obtain ⟨g1, g2⟩ := (ok i H2 I2 M2 l2 _ (lF _) c2 aok).2 x q
    refine .inr ⟨g1, fun H' => ∃ m', m' < A.items.length - i ∧ ∃ M acc I' ws, Conc K H' I' M (upd F D (.lst ws)) ∧ Le I1 I' ∧ Rels K I' acc ws ∧ i + 1 ≤ A.items.length ∧ m' = A.items.length - (i + 1) ∧ lcGo m A.ok g tt te (wipeG Γ vs) (A.items.drop (i + 1)) acc M fun ds M2 => nl m ds M2 k, fun _ q => q, fun v H3 y => ?_⟩
    obtain ⟨I3, l3, c3, r3⟩ := g2 v H3 y
    refine hw x v (wipeG Γ vs) M2 I3 _ (wipe σ vs) H3 _ _ r3 ((hs.le ((l1.trans l2).trans l3)).wipe) c3 go fun Γ' σ' k' s' e' => ⟨?_, Γ', M2, I3, _, _, s', c3, k', fun b M4 H4 I4 h4 l4 c4 => ?_⟩
    · exact e'.trans (by
        have : ∀ us : List Nat, (∀ u ∈ us, u ∈ vs) → wipe (wipe σ us) vs = wipe σ vs := by
          intro us
          induction us with
          | nil => intro _; rfl
          | cons u us ih =>
            intro hu
            show wipe ((wipe σ us).set u none) vs = wipe σ vs
            rw [wipe_set (hu u List.mem_cons_self)]
            exact ih fun z hz => hu z (List.mem_cons_of_mem _ hz)
        exact this vs fun _ h => h)
    · cases b with
      | true =>
        rw [if_pos rfl] at h4 ⊢
        refine ⟨Γ', M4, I4, _, _, s'.le l4, c4, h4, fun d M5 u H5 I5 h5 l5 c5 r5 => ?_⟩
        have hF : upd F D (.lst ws) D = some (.lst ws) := upd_same
        have r2' := Rels.le ((l3.trans l4).trans l5) _ _ r2
        refine ⟨ws, (c5.frm _ _ hF).1, by rw [← r2.length]; exact h5.1, _, fin hlt, M5, acc ++ [d], I5, ws ++ [u], ?_, ((l2.trans l3).trans l4).trans l5, r2'.append (.one r5), hlt, rfl, h5.2⟩
        have c6 := c5.setF (o := .lst (ws ++ [u])) hF
        rw [upd_upd] at c6
        exact c6
      | false =>
        rw [if_neg Bool.false_ne_true] at h4 ⊢
        exact ⟨_, fin hlt, M4, acc, I4, ws, c4, (l2.trans l3).trans l4, Rels.le (l3.trans l4) _ _ r2, hlt, rfl, h4⟩
theorem e_lc (m : Bool) {elt tg iter : Expr} {ifs : List Expr} {scope : Scope} {own : List (Str × Nat)} {pos : Pos} {w : AI} {g0 : TG} {g : AG} {tt : AT} {te : AE} (hc : X.calm = true) (hN : X.N.Nodup) (ok : BlkOk X.N X.env.scope scope own) (hi : PI X tg iter (liftI X.K w))
    (hg : ∀ (s : Shared) (H : Hp) (C : Addr) (cl : List (Str × Addr)) (fp : List Addr), PG (X.blk s H scope (compEnvC scope cl C X.env) fp) tg g0) (hw : OkW X.K g0 g (own.map (·.2))) (ht : ∀ (s : Shared) (H : Hp) (C : Addr) (cl : List (Str × Addr)) (fp : List Addr), PTs (X.blk s H scope (compEnvC scope cl C X.env) fp) ifs (liftT X.K tt))
    (he : ∀ (s : Shared) (H : Hp) (C : Addr) (cl : List (Str × Addr)) (fp : List Addr), PE (X.blk s H scope (compEnvC scope cl C X.env) fp) elt (lift X.K te)) (hs : ∀ x, foldedSetIterable iter X.env x = pure x := by intro _; rfl) :
    PE X (.ListComp elt [⟨tg, iter, ifs, 0⟩] scope pos) (lift X.K (aLc m w g tt te (own.map (·.2)))) := (pe_lc hc hN hi ok hg ht he hs).imp (lift_lc hw)
theorem s_setLc (m : Bool) {i : Nat} {y : Str} {py : Pos} {elt tg iter : Expr} {ifs : List Expr} {scope : Scope} {own : List (Str × Nat)} {pos spos : Pos} {w : AI} {g0 : TG} {g : AG} {tt : AT} {te : AE} (hc : X.calm = true) (hN : X.N.Nodup) (hy : X.N[i]? = some y) (hyl : X.env.scope.names.lookup y = some .local)
    (hsw : swapsWith (.ListComp elt [⟨tg, iter, ifs, 0⟩] scope pos) (some (.Name y py)) spos.line X.env = pure true) (ok : BlkOk X.N X.env.scope scope own) (hi : PI X tg iter (liftI X.K w))
    (hg : ∀ (s : Shared) (H : Hp) (C : Addr) (cl : List (Str × Addr)) (fp : List Addr), PG (X.blk s H scope (compEnvC scope cl C X.env) fp) tg g0) (hw : OkW X.K g0 g (own.map (·.2))) (ht : ∀ (s : Shared) (H : Hp) (C : Addr) (cl : List (Str × Addr)) (fp : List Addr), PTs (X.blk s H scope (compEnvC scope cl C X.env) fp) ifs (liftT X.K tt))
    (he : ∀ (s : Shared) (H : Hp) (C : Addr) (cl : List (Str × Addr)) (fp : List Addr), PE (X.blk s H scope (compEnvC scope cl C X.env) fp) elt (lift X.K te)) (hs : ∀ x, foldedSetIterable iter X.env x = pure x := by intro _; rfl) :
    PS X (.Assign [.Name y py] (.ListComp elt [⟨tg, iter, ifs, 0⟩] scope pos) spos) (liftS X.K (aSet i (aLc m w g tt te (own.map (·.2))))) := (ps_setLc hc hN hy hyl hsw hi ok hg ht he hs).imp fun E σ H ⟨Γ, M, I, F, D, hs, hc, hf, hk⟩ =>
  lift_lc hw σ H _ ⟨Γ, M, I, F, _, hs, hc, hf, fun d M1 v H1 I1 h1 l1 c1 r1 => hk.nx _ _ _ _ _ h1 l1 c1 ((hs.le l1).set r1)⟩
end
end M
/-! MFn: defs and their calls; list methods; stores. -/
namespace M
open PySem L2
/-- what is wanted of an error: its class, what it tells -/
abbrev EK := Addr × D → MH → Prop
abbrev noX : EK := fun _ _ => False
/-- what a def is worth: arguments, the small heap, what is wanted of the value, of an error -/
abbrev AF := List D → MH → AK → EK → Prop
def kX (K : PySem.W.Frag) (I F : Hp) (x : EK) (E : XK) : Prop := ∀ C w M v H I' d, x (C, w) M → Le I I' → Conc K H I' M F → H d = some (.xd [(("what" : Str), v)]) → Rel K I' w v → E (.ref C) (some d) H
def liftF (K : PySem.W.Frag) (f : AF) : Sp := fun vs H Q E => ∃ ds M I F k x, Rels K I ds vs ∧ Conc K H I M F ∧ f ds M k x ∧ kE K I F k Q ∧ kX K I F x E
/-- M' tells no more than M -/
def Abs (M M' : MH) : Prop := ∀ K H I F, Conc K H I M F → Conc K H I M' F
theorem Abs.refl (M : MH) : Abs M M := fun _ _ _ _ c => c
theorem Abs.trans {M M' M'' : MH} (a : Abs M M') (b : Abs M' M'') : Abs M M'' := fun K H I F c => b K H I F (a K H I F c)
/-- an object is forgotten -/
theorem Abs.dl {M : MH} {a : Addr} (h : ∀ o, M a ≠ some (.part o)) : Abs M (dl M a) := fun K H I F c => by
  refine ⟨c.sub, fun x m => ?_, fun x o e => ?_, fun x o e => ?_⟩
  · by_cases q : x = a
    · rw [q, dl_same] at m; exact absurd rfl m
    · rw [dl_ne q] at m; exact c.fre x m
  · by_cases q : x = a
    · rw [q, dl_same] at e; cases e
    · rw [dl_ne q] at e
      have hx := c.rel x o e
      cases o with
      | obj b => exact hx
      | part _ => exact hx
      | box ps φ =>
        obtain ⟨h1, h2⟩ := hx
        exact ⟨fun p hp => by rw [dl_ne (fun z => by rw [z] at hp; exact h _ (h1 a hp))]; exact h1 p hp, h2⟩
  · obtain ⟨a1, a2, a3⟩ := c.frm x o e
    refine ⟨a1, a2, ?_⟩
    by_cases q : x = a
    · rw [q, dl_same]
    · rw [dl_ne q]; exact a3
/-- an end, up to what is forgotten -/
def fin (k : AK) : AK := fun d M => ∃ M', Abs M M' ∧ k d M'
theorem fin.of {k : AK} {d : D} {M : MH} (h : k d M) : fin k d M := ⟨M, Abs.refl M, h⟩
theorem fin.dl {k : AK} {d : D} {M : MH} {a : Addr} {b : BO} (h1 : M a = none) (h : k d M) : fin k d (up M a (.obj b)) := ⟨M, fun K H I F c => by
  have := Abs.dl (M := up M a (.obj b)) (a := a) (by intro o; rw [up_same]; simp) K H I F c
  rwa [dl_up h1] at this, h⟩
def startG (n : Nat) (ds : List D) : G := ds.map some ++ List.replicate (n - ds.length) none
section
variable {P : Program} {w : World} {K : PySem.W.Frag} {mg : Str → Option Value} {base : Heap}
theorem fn_ok {x qual : Str} {st : Stmt} {f : Addr} {fd : FuncData} {N ps : List Str} {k : Nat} {F : AF} {body : AS} (Fu : Fun K x qual st f fd) (S : FnScope N ps (defScope st)) (len : ∀ ds M k x, F ds M k x → ds.length = ps.length)
    (hb : ∀ (cdv : Value) (A : Around) (outer : List Env) (s : Shared) (H : Hp) (E : XK), Room k (A.deeper (PyProof.Rows.envOfC qual (defScope st) s.heap.objs.size f cdv)) → PSs (cxOf CX0 P w K mg base N qual (defScope st) f cdv A outer s H E).nox (defBody st) (liftS K body))
    (ok : ∀ ds M k x, F ds M k x → body { nx := fun _ M' => fin k .non M', rt := fin k } (startG N.length ds) M) : FnOk P w K mg base CX0 (k + 1) f fd ps (liftF K F) := by
  refine Fu.ok S (fun vs H Q E ⟨ds, M, I, Fr, k, x, r, c, h, _, _⟩ => by rw [← r.length]; exact len _ _ _ _ h) fun cdv A outer s H vs Q E hr ⟨ds, M, I, Fr, k, x, r, c, h, hk, hx⟩ => ⟨_, hb cdv A outer s H E hr, ?_⟩
  refine ⟨startG N.length ds, M, I, Fr, _, ?_, c, ok ds M k x h, ⟨?_, ?_, ?_, ?_⟩⟩
  · unfold startG L2.start
    rw [r.length]
    exact RelS.start r
  · rintro Γ M' σ H' I' ⟨M2, ab, q⟩ l c' s'
    exact hk _ _ _ _ _ q l (ab _ _ _ _ c') (by rw [Rel])
  · rintro d M' v H' I' ⟨M2, ab, q⟩ l c' r'
    exact hk _ _ _ _ _ q l (ab _ _ _ _ c') r'
  · intro Γ M' σ H' I' q; exact q.elim
  · intro Γ M' σ H' I' q; exact q.elim
end

section
variable {X : Cx} {e a b c o : Expr} {es : List Expr} {pos p p2 : Pos} {K : PySem.W.Frag}
/-! ### calls -/
def aCall (x : EK) (F : AF) (dds : List D) (g : AA) : AE := fun Γ M k => g Γ M fun ds M1 => F (ds ++ dds) M1 k x
/-- the defaults' values -/
structure Dfl (K : PySem.W.Frag) (dds : List D) (dvs : List V) (ds : List Value) : Prop where
  val : Vals dvs ds
  rel : ∀ I, Rels K I dds dvs
theorem Dfl.nil {K : PySem.W.Frag} : Dfl K [] [] [] := ⟨.nil, fun _ => .nil⟩
theorem lift_call {F : AF} {g : AA} {Q : VK} {σ : L2.St} {H : Hp} {dds : List D} {dvs : List V} (hd : ∀ I, Rels K I dds dvs) (h : lift K (aCall noX F dds g) σ H Q) : tCall (liftF K F) dvs E0 (liftA K g) σ H Q := by
  obtain ⟨Γ, M, I, Fr, k, hs, hc, hf, hk⟩ := h
  refine ⟨Γ, M, I, Fr, _, hs, hc, hf, fun ds M1 vs H1 I1 h1 l1 c1 r1 => ?_⟩
  exact ⟨ds ++ dds, M1, I1, Fr, k, noX, r1.append (hd I1), c1, h1, hk.le l1, fun C w M v H I' d z => z.elim⟩
section
variable {F : AF} {g gk : AA} {f : Addr} {fd : FuncData} {ps : List Str} {x : Str} {j k : Nat} {dds : List D} {dvs : List V} {ds : List Value}
theorem e_call (G : FnOk X.prog X.w X.K X.mg X.base CX0 j f fd ps (liftF X.K F)) (hr : Room k X.A) (hjk : j ≤ k) (hm : X.mg x = some (.ref f)) (hk : PySem.W.keepIn X.K (.ref f) = true) (hb : Binds X.K fd ps ds) (hd : Dfl X.K dds dvs ds) (ha : PA X (e :: es) (liftA X.K g)) (hg : Gl X x := by rfl)
    (hdb : (x == ("__debug__" : Str)) = false := by decide) (he : starEach (e :: es) X.env = (false, eval e X.env) :: starEach es X.env := by rfl) (hpl : (backTo pos (starEach es X.env)).any (·.1) = false := by rfl) :
    PE X (.Call (.Name x p) (e :: es) [] pos) (lift X.K (aCall noX F dds g)) := (pe_call (G.mono hjk) hr hg hm hk hb hd.val pass0 ha hdb he hpl).imp fun σ H Q h => lift_call hd.rel h
theorem e_call0 (G : FnOk X.prog X.w X.K X.mg X.base CX0 j f fd ps (liftF X.K F)) (hr : Room k X.A) (hjk : j ≤ k) (hm : X.mg x = some (.ref f)) (hk : PySem.W.keepIn X.K (.ref f) = true) (hb : Binds X.K fd ps ds) (hd : Dfl X.K dds dvs ds) (hg : Gl X x := by rfl)
    (hdb : (x == ("__debug__" : Str)) = false := by decide) : PE X (.Call (.Name x p) [] [] pos) (lift X.K (aCall noX F dds aNil)) := (pe_call0 (G.mono hjk) hr hg hm hk hb hd.val pass0 hdb).imp fun σ H Q h => by
  obtain ⟨Γ, M, I, Fr, k, hs, hc, hf, hk⟩ := h
  exact ⟨dds, M, I, Fr, k, noX, hd.rel I, hc, hf, hk, fun C w M v H I' d z => z.elim⟩
/-! keywords -/
def pick {α : Type} : List Nat → List α → List α
  | [], _ => []
  | i :: r, xs => match xs[i]? with
    | some x => x :: pick r xs
    | none => pick r xs
theorem pick_vals : ∀ {ix : List Nat} {vs : List V} {us : List Value}, Vals vs us → Vals (pick ix vs) (pick ix us)
  | [], _, _, _ => .nil
  | i :: r, vs, us, h => by
    unfold pick
    cases q : vs[i]? with
    | none => rw [h.none_of q]; exact pick_vals h
    | some v => obtain ⟨u, e, rv⟩ := h.get q; rw [e]; exact .cons rv (pick_vals h)
theorem pick_rels {I : Hp} : ∀ {ix : List Nat} {ds : List D} {vs : List V}, Rels K I ds vs → Rels K I (pick ix ds) (pick ix vs)
  | [], _, _, _ => .nil
  | i :: r, ds, vs, h => by
    unfold pick
    cases q : ds[i]? with
    | none => rw [List.getElem?_eq_none (h.get_none q)]; exact pick_rels h
    | some v => obtain ⟨u, e, rv⟩ := h.get q; rw [e]; exact .cons rv (pick_rels h)
/-- how a call with n values by their places, the keywords ks, and defaults binds -/
structure BK (K : PySem.W.Frag) (fd : FuncData) (ps : List Str) (n : Nat) (ks : List Str) (ix : List Nat) (ds : List Value) : Prop where
  to : ∀ (s : Shared) (us ws : List Value), K.In s.heap → us.length = n → ws.length = ks.length → BindsTo s fd ⟨us, ks.zip ws⟩ (ps.zip (pick ix (us ++ ws ++ ds)))
theorem BK.kbn {n : Nat} {ks : List Str} {ix : List Nat} (b : BK K fd ps n ks ix ds) (hd : Vals dvs ds) : KBn K fd ps n ks (fun us ws => pick ix (us ++ ws ++ ds)) (fun vs zs => pick ix (vs ++ zs ++ dvs)) :=
  ⟨b.to, fun r z => pick_vals ((r.append z).append hd)⟩
def aCallK (x : EK) (F : AF) (n m : Nat) (ix : List Nat) (dds : List D) (g gk : AA) : AE := fun Γ M k => g Γ M fun ds M1 => gk Γ M1 fun es M2 => ds.length = n ∧ es.length = m ∧ F (pick ix (ds ++ es ++ dds)) M2 k x
theorem lift_callK {n m : Nat} {ix : List Nat} {Q : VK} {σ : L2.St} {H : Hp} (hd : ∀ I, Rels K I dds dvs) (h : lift K (aCallK noX F n m ix dds g gk) σ H Q) : tCallN n m (liftF K F) (fun vs zs => pick ix (vs ++ zs ++ dvs)) E0 (liftA K g) (liftA K gk) σ H Q := by
  obtain ⟨Γ, M, I, Fr, k, hs, hc, hf, hk⟩ := h
  refine ⟨Γ, M, I, Fr, _, hs, hc, hf, fun ds M1 vs H1 I1 h1 l1 c1 r1 => ⟨Γ, M1, I1, Fr, _, hs.le l1, c1, h1, fun es M2 ws H2 I2 h2 l2 c2 r2 => ?_⟩⟩
  obtain ⟨a1, a2, a3⟩ := h2
  have r1' := Rels.le l2 _ _ r1
  exact ⟨by rw [← r1.length]; exact a1, by rw [← r2.length]; exact a2, _, M2, I2, Fr, k, noX, pick_rels ((r1'.append r2).append (hd I2)), c2, a3, hk.le (l1.trans l2), fun C w M v H I' d z => z.elim⟩
variable {kws : List Keyword} {n : Nat} {ks : List Str} {ix : List Nat}
theorem k_nil : PK X [] (liftA X.K aNil) := ⟨fun pos pins s σ H Q I h => by
  obtain ⟨Γ, M, I', Fr, k, hs, hc, hf, hk⟩ := h
  exact pk_nil.run pos pins s σ H Q I (hk _ _ _ _ _ hf (Le.refl _) hc .nil)⟩
theorem k_cons {nm : Option Str} {kpos : Pos} {f : AE} (ha : PE X e (lift X.K f)) (hr : PK X kws (liftA X.K g)) : PK X (⟨nm, e, kpos⟩ :: kws) (liftA X.K (aCons f g)) := ⟨fun pos pins s σ H Q I h =>
  (pk_cons ha hr).run pos pins s σ H Q I (lift_cons σ H Q h)⟩
theorem e_callK (G : FnOk X.prog X.w X.K X.mg X.base CX0 j f fd ps (liftF X.K F)) (hr : Room k X.A) (hjk : j ≤ k) (hm : X.mg x = some (.ref f)) (hk : PySem.W.keepIn X.K (.ref f) = true) (hb : BK X.K fd ps n ks ix ds) (hd : Dfl X.K dds dvs ds) (ha : PA X (e :: es) (liftA X.K g)) (hkw : PK X kws (liftA X.K gk)) (hg : Gl X x := by rfl)
    (hall : (backToKw pos (keywordEach kws X.env)).all (·.1.isSome) = true := by rfl) (hks : (backToKw pos (keywordEach kws X.env)).filterMap (·.1) = ks := by rfl)
    (hdb : (x == ("__debug__" : Str)) = false := by decide) (he : starEach (e :: es) X.env = (false, eval e X.env) :: starEach es X.env := by rfl)
    (hpl : ((backTo pos (starEach (e :: es) X.env)).any (·.1) || (backToKw pos (keywordEach kws X.env)).any (·.1.isNone)) = false := by rfl) :
    PE X (.Call (.Name x p) (e :: es) kws pos) (lift X.K (aCallK noX F n ks.length ix dds g gk)) :=
  (pe_callN (G.mono hjk) hr hg hm hk (hb.kbn hd.val) pass0 ha hkw hall hks hdb he hpl).imp fun σ H Q h => lift_callK hd.rel h
theorem e_callK0 (G : FnOk X.prog X.w X.K X.mg X.base CX0 j f fd ps (liftF X.K F)) (hr : Room k X.A) (hjk : j ≤ k) (hm : X.mg x = some (.ref f)) (hk : PySem.W.keepIn X.K (.ref f) = true) (hb : BK X.K fd ps 0 ks ix ds) (hd : Dfl X.K dds dvs ds) (hkw : PK X kws (liftA X.K gk)) (hg : Gl X x := by rfl)
    (hall : (backToKw pos (keywordEach kws X.env)).all (·.1.isSome) = true := by rfl) (hks : (backToKw pos (keywordEach kws X.env)).filterMap (·.1) = ks := by rfl)
    (hdb : (x == ("__debug__" : Str)) = false := by decide)
    (hpl : ((backTo pos (starEach [] X.env)).any (·.1) || (backToKw pos (keywordEach kws X.env)).any (·.1.isNone)) = false := by rfl) :
    PE X (.Call (.Name x p) [] kws pos) (lift X.K (aCallK noX F 0 ks.length ix dds aNil gk)) := by
  refine ⟨fun pins s σ H Q I h => ?_⟩
  refine PySem.wpAny_Call_Name_kw (ld_glob I hg hm ?_ hdb)
  have h := lift_callK hd.rel h
  obtain ⟨Γ, M, I', Fr, k', hs, hc, hf, hk'⟩ := h
  have h2 := hk' _ _ _ _ _ hf (Le.refl _) hc .nil
  refine PySem.W.callWith_KW0 (h₀ := X.base) I.ok.mod.kin hk hall (thn (hkw.run pos pins s σ H _ I h2) fun ws s2 ⟨zs, H2, I2, rz, l1, l2, q2⟩ => ⟨I2.kIn, ?_⟩) hpl
  rw [hks]
  exact run_fnN (G.mono hjk) hr (hb.kbn hd.val) pass0 I2 .nil rz l1 l2 q2
end

/-! ### list methods -/
section
variable {f : AE} {g : AA} {apos cpos : Pos}
theorem e_append (ho : PE X o (lift X.K f)) (ha : PA X (e :: es) (liftA X.K g)) (hbase : attributeBase o "append" X.env (eval o X.env) = eval o X.env := by rfl)
    (hfew : ((backTo cpos (starEach (e :: es) X.env)).all (fun x => !x.1) && (backToKw cpos (keywordEach [] X.env)).all (fun x => x.1.isSome)
      && decide ((e :: es).length + ([] : List Keyword).length + (if ([] : List Keyword).isEmpty then 0 else 1) < 30)) = true := by rfl)
    (hline : (apos.endLine == cpos.line) = true := by rfl) (hs : starEach (e :: es) X.env = (false, eval e X.env) :: starEach es X.env := by rfl) (hplain : (backTo cpos (starEach es X.env)).any (·.1) = false := by rfl) :
    PE X (.Call (.Attribute o "append" apos) (e :: es) [] cpos) (lift X.K (aMt mAppend f g)) := (pe_bm PySem.F.plainAttrs_list PySem.F.slot_list_append PySem.F.type_list_append mt_append ho ha hbase hfew hline hs hplain).imp (lift_Mt mAppend_ok)
theorem e_extend (ho : PE X o (lift X.K f)) (ha : PA X (e :: es) (liftA X.K g)) (hbase : attributeBase o "extend" X.env (eval o X.env) = eval o X.env := by rfl)
    (hfew : ((backTo cpos (starEach (e :: es) X.env)).all (fun x => !x.1) && (backToKw cpos (keywordEach [] X.env)).all (fun x => x.1.isSome)
      && decide ((e :: es).length + ([] : List Keyword).length + (if ([] : List Keyword).isEmpty then 0 else 1) < 30)) = true := by rfl)
    (hline : (apos.endLine == cpos.line) = true := by rfl) (hs : starEach (e :: es) X.env = (false, eval e X.env) :: starEach es X.env := by rfl) (hplain : (backTo cpos (starEach es X.env)).any (·.1) = false := by rfl) :
    PE X (.Call (.Attribute o "extend" apos) (e :: es) [] cpos) (lift X.K (aMt mExtend f g)) := (pe_bm PySem.F.plainAttrs_list PySem.F.slot_list_extend PySem.F.type_list_extend mt_extend ho ha hbase hfew hline hs hplain).imp (lift_Mt mExtend_ok)
theorem e_popI (ho : PE X o (lift X.K f)) (ha : PA X (e :: es) (liftA X.K g)) (hbase : attributeBase o "pop" X.env (eval o X.env) = eval o X.env := by rfl)
    (hfew : ((backTo cpos (starEach (e :: es) X.env)).all (fun x => !x.1) && (backToKw cpos (keywordEach [] X.env)).all (fun x => x.1.isSome)
      && decide ((e :: es).length + ([] : List Keyword).length + (if ([] : List Keyword).isEmpty then 0 else 1) < 30)) = true := by rfl)
    (hline : (apos.endLine == cpos.line) = true := by rfl) (hs : starEach (e :: es) X.env = (false, eval e X.env) :: starEach es X.env := by rfl) (hplain : (backTo cpos (starEach es X.env)).any (·.1) = false := by rfl) :
    PE X (.Call (.Attribute o "pop" apos) (e :: es) [] cpos) (lift X.K (aMt mPop f g)) := (pe_bm PySem.F.plainAttrs_list PySem.F.slot_list_pop PySem.F.type_list_pop (MtR.or mt_pop mt_popAt) ho ha hbase hfew hline hs hplain).imp (lift_Mt mPop_ok)
theorem e_pop (ho : PE X o (lift X.K f)) (hbase : attributeBase o "pop" X.env (eval o X.env) = eval o X.env := by rfl) (hline : (apos.endLine == cpos.line) = true := by rfl) :
    PE X (.Call (.Attribute o "pop" apos) [] [] cpos) (lift X.K (aMt0 mPop f)) := (pe_bm0 PySem.F.plainAttrs_list PySem.F.slot_list_pop PySem.F.type_list_pop (MtR.or mt_pop mt_popAt) ho hbase hline).imp (lift_Mt0 mPop_ok)
theorem e_reverse (ho : PE X o (lift X.K f)) (hbase : attributeBase o "reverse" X.env (eval o X.env) = eval o X.env := by rfl) (hline : (apos.endLine == cpos.line) = true := by rfl) :
    PE X (.Call (.Attribute o "reverse" apos) [] [] cpos) (lift X.K (aMt0 mReverse f)) := (pe_bm0 PySem.F.plainAttrs_list PySem.F.slot_list_reverse PySem.F.type_list_reverse mt_reverse ho hbase hline).imp (lift_Mt0 mReverse_ok)
theorem e_clear (ho : PE X o (lift X.K f)) (hbase : attributeBase o "clear" X.env (eval o X.env) = eval o X.env := by rfl) (hline : (apos.endLine == cpos.line) = true := by rfl) :
    PE X (.Call (.Attribute o "clear" apos) [] [] cpos) (lift X.K (aMt0 mClear f)) := (pe_bm0 PySem.F.plainAttrs_list PySem.F.slot_list_clear PySem.F.type_list_clear mt_clear ho hbase hline).imp (lift_Mt0 mClear_ok)
end
/-! ### o[i] = v -/
def stIx : D → D → D → MH → (MH → Prop) → Prop := fun o i v M k => match i with
  | .int j => wrL o M fun a ds => match ixN ds.length j with
    | some n => k (up M a (.obj (.lst (ds.set n v))))
    | none => False
  | _ => False
def gIx (fo fi : AE) : AG := fun d Γ M k => fo Γ M fun o M1 => fi Γ M1 fun i M2 => stIx o i d M2 fun M3 => k Γ M3
theorem g_ix {i : Expr} {fo fi : AE} (ho : PE X o (lift X.K fo)) (hi : PE X i (lift X.K fi))
    (ha : ∀ v, assign (.Subscript o i pos) X.env v = (do
      let ov ← holding [v] (eval o X.env)
      let iv ← holding [v, ov] (eval i X.env)
      standAt pos
      holding [v, ov, iv] (setItem ov iv v)
      release [v, ov, iv] []) := by intro _; rfl) : PG X (.Subscript o i pos) (liftG X.K (gIx fo fi)) :=
  (pg_sub ho hi set_list ha).imp fun v σ H Q ⟨d, Γ, M, I, F, k, r, hs, hc, hf, hk⟩ =>
  ⟨Γ, M, I, F, _, hs, hc, hf, fun od M1 ov H1 I1 h1 l1 c1 r1 => ⟨Γ, M1, I1, F, _, hs.le l1, c1, h1, fun id M2 iv H2 I2 h2 l2 c2 r2 => by
    unfold stIx at h2
    split at h2
    · rename_i j
      rw [Rel] at r2; subst r2
      obtain ⟨a, ds, ws, rfl, hM, hH, hr, q⟩ := wrL_ok h2 c2 (Rel.le l2 _ _ r1)
      split at q
      · rename_i n e0
        rw [hr.length] at e0
        exact ⟨a, ws, j, n, rfl, rfl, hH, e0, hk _ _ _ _ _ q (l1.trans l2) (c2.set hM ⟨_, upd_same, hr.set n (Rel.le (l1.trans l2) _ _ r)⟩) (hs.le (l1.trans l2))⟩
      · exact q.elim
    · exact h2.elim⟩⟩
/-- a list of the small heap is frozen -/
def aFrz (f : AE) : AE := fun Γ M k => f Γ M fun d M1 => match d with
  | .ref a => (match M1 a with
    | some (.obj (.lst ds)) => k (.lst ds) (dl M1 a)
    | _ => False)
  | .lst ds => k (.lst ds) M1
  | _ => False
theorem e_frz {f : AE} (h : PE X e (lift X.K f)) : PE X e (lift X.K (aFrz f)) := h.imp fun σ H Q ⟨Γ, M, I, F, k, hs, hc, hf, hk⟩ =>
  ⟨Γ, M, I, F, _, hs, hc, hf, fun d M1 v H1 I1 h1 l1 c1 r1 => by
    split at h1
    · rename_i a
      split at h1
      · rename_i ds e0
        obtain ⟨vs, h2, h3, c2, l2⟩ := c1.freeze e0
        rw [Rel] at r1
        exact hk _ _ _ _ _ h1 (l1.trans l2) c2 (by rw [Rel]; exact ⟨a, vs, r1, upd_same, Rels.le l2 _ _ h3⟩)
      · exact h1.elim
    · exact hk _ _ _ _ _ h1 l1 c1 r1
    · exact h1.elim⟩
end
end M
/-! MMore: isinstance, in, augmented stores. -/
namespace M
open PySem L2
section
variable {X : Cx} {e a b c o : Expr} {es : List Expr} {pos p p2 : Pos} {K : PySem.W.Frag}
/-! ### isinstance -/
def tyD (M : MH) : D → Option String
  | .non => some "NoneType"
  | .bl _ => some "bool"
  | .int _ => some "int"
  | .str _ => some "str"
  | .tup _ => some "tuple"
  | .lst _ => some "list"
  | .scr _ => some "list"
  | .ref a => match M a with
    | some (.obj (.lst _)) => some "list"
    | some (.obj (.dic _)) => some "dict"
    | _ => none
  | .ty _ => none
  | .exc _ _ => none
theorem tyD_ok {M : MH} {H I F : Hp} {d : D} {v : V} {t : String} (h : tyD M d = some t) (c : Conc K H I M F) (r : Rel K I d v) : TyX K H v (.type t) := by
  cases d with
  | non => cases h; rw [Rel] at r; subst r; exact .base .non
  | bl b => cases h; rw [Rel] at r; subst r; exact .base (.bl b)
  | int b => cases h; rw [Rel] at r; subst r; exact .base (.int b)
  | str b => cases h; rw [Rel] at r; subst r; exact .base (.str b)
  | tup ds =>
    cases h; rw [Rel] at r
    obtain ⟨q, vs, rfl, g, _⟩ := r
    rcases g with g | ⟨ob, its, n, g1, g2, _⟩
    · exact .base (.tup (c.sub _ _ g))
    · exact .kTuple g1 g2
  | lst ds =>
    cases h; rw [Rel] at r
    obtain ⟨q, vs, rfl, g, _⟩ := r
    exact .base (.lst (c.sub _ _ g))
  | scr ds =>
    cases h; rw [Rel] at r
    obtain ⟨q, rfl, g⟩ := r
    rcases g with (g | ⟨ob, g⟩) | ⟨ob, its, n, g1, g2, _⟩
    · exact .base (.lst (c.sub _ _ g))
    · exact .base (.frz (c.sub _ _ g))
    · exact .kList g1 g2
  | ref q =>
    rw [Rel] at r; subst r
    have h : (match M q with
      | some (.obj (.lst _)) => some "list"
      | some (.obj (.dic _)) => some "dict"
      | _ => none) = some t := h
    split at h
    · rename_i ds e0
      cases h
      obtain ⟨vs, h1, _⟩ := c.rel q _ e0
      exact .base (.lst h1)
    · rename_i ds e0
      cases h
      obtain ⟨vs, h1, _⟩ := c.rel q _ e0
      exact .base (.dK h1)
    · cases h
  | ty n => cases h
  | exc C w => cases h
def cIsi : AC := fun ds M k => match ds with
  | [d, .ty T] => (match tyD M d with
    | some t => (match kitB t T with
      | some b => k (.bl b) M
      | none => False)
    | none => False)
  | _ => False
theorem cIsi_ok : OkC K (rIsi K) cIsi := by
  intro ds M k vs H I F Q h c r hk
  unfold cIsi at h
  split at h
  · rename_i d T
    obtain ⟨v, u, rfl, r1, r2⟩ := rels2 r
    rw [Rel] at r2; subst r2
    split at h
    · rename_i t e0
      split at h
      · rename_i b e1
        exact ⟨v, _, _, _, b, rfl, .ty T, tyD_ok e0 c r1, kit_ty e1, hk _ _ _ _ _ h (Le.refl I) c (by rw [Rel])⟩
      · exact h.elim
    · exact h.elim
  · exact h.elim
/-- a built-in class as a value -/
theorem e_ty {x : Str} {n : String} {pos : Pos} (hm : X.mg x = none) (hv : bootBuiltins x = some (.type n)) (hg : Gl X x := by rfl) (hn : x ≠ "__name__" := by decide) (hd : (x == ("__debug__" : Str)) = false := by decide) : PE X (.Name x pos) (lift X.K (aC (.ty n))) :=
  (pe_bltn (v := .ty n) hg hm hv rfl hn hd).imp (lift_c fun _ => by rw [Rel])
theorem e_isi {g : AA} {p pos : Pos} (hm : X.mg "isinstance" = none) (ha : PA X (e :: es) (liftA X.K g)) (hg : Gl X "isinstance" := by rfl) (he : starEach (e :: es) X.env = (false, eval e X.env) :: starEach es X.env := by rfl) (hpl : (backTo pos (starEach es X.env)).any (·.1) = false := by rfl) :
    PE X (.Call (.Name "isinstance" p) (e :: es) [] pos) (lift X.K (aCB cIsi g)) := e_callB call_isi cIsi_ok hm (by decide +kernel) ha hg (by decide) (by decide) he hpl

/-! ### in, not in: ints in a list; a sign in a text -/
def bIn (neg : Bool) : AB := fun d e M k => match d with
  | .int i => (match (rdS M e).bind intsOf with
    | some ns => k (.bl (if neg then !decide (i ∈ ns) else decide (i ∈ ns))) M
    | none => False)
  | _ => False
theorem inV_ints {i : Int} : ∀ {ns : List Int}, inV (.int i) (ns.map V.int) = decide (i ∈ ns)
  | [] => by simp [inV]
  | n :: ns => by
    have ih := inV_ints (i := i) (ns := ns)
    unfold inV at ih ⊢
    rw [List.map_cons, List.any_cons, ih]
    have : eqV (.int n) (.int i) = decide (i = n) := by
      by_cases q : i = n
      · subst q; simp [eqV]
      · have : ¬ n = i := fun z => q z.symm
        simp [eqV, q, this]
    rw [this]
    by_cases q : i = n <;> by_cases q2 : i ∈ ns <;> simp [q, q2]
theorem flat_ints {ns : List Int} : (ns.map V.int).all flatV = true := by
  rw [List.all_eq_true]
  intro x hx
  obtain ⟨n, _, rfl⟩ := List.mem_map.mp hx
  rfl
theorem bIn_ok {neg : Bool} : OkB K (rIn K neg) (bIn neg) := by
  intro d e M k v u H I F Q h c r1 r2 hk
  unfold bIn at h
  split at h
  · rename_i i
    rw [Rel] at r1; subst r1
    split at h
    · rename_i ns e0
      obtain ⟨q, rfl, g⟩ := ints_ok e0 c r2
      refine ⟨q, _, rfl, .inl g, rfl, flat_ints, hk _ _ _ _ _ h (Le.refl I) c ?_⟩
      rw [Rel, inV_ints]
    · exact h.elim
  · exact h.elim
section
variable {fa fb : AE}
theorem e_in (ha : PE X a (lift X.K fa)) (hb : PE X b (lift X.K fb)) (hm : behindInMarks .In b = false := by with_unfolding_all rfl) : PE X (.Compare a [.In] [b] pos) (lift X.K (aOp (bIn false) fa fb)) := (pe_cmpR op_in_seq ha hb hm).imp (lift_op bIn_ok)
theorem e_notIn (ha : PE X a (lift X.K fa)) (hb : PE X b (lift X.K fb)) (hm : behindInMarks .NotIn b = false := by with_unfolding_all rfl) : PE X (.Compare a [.NotIn] [b] pos) (lift X.K (aOp (bIn true) fa fb)) := (pe_cmpR op_notIn_seq ha hb hm).imp (lift_op bIn_ok)
theorem t_in (ha : PE X a (lift X.K fa)) (hb : PE X b (lift X.K fb)) (hm : behindInMarks .In b = false := by with_unfolding_all rfl) : PT X (.Compare a [.In] [b] pos) (liftT X.K (aB (aOp (bIn false) fa fb))) := t_op op_in_seq bIn_ok ha hb hm
theorem t_notIn (ha : PE X a (lift X.K fa)) (hb : PE X b (lift X.K fb)) (hm : behindInMarks .NotIn b = false := by with_unfolding_all rfl) : PT X (.Compare a [.NotIn] [b] pos) (liftT X.K (aB (aOp (bIn true) fa fb))) := t_op op_notIn_seq bIn_ok ha hb hm
end
end
end M
/-! MathRat: fractions as data. -/
namespace M
open PySem L2
def frD (x : Rat) : D := .tup [.int x.num, .int (x.den : Int)]
@[irreducible] def b40 : Nat := 2 ^ 4000
@[irreducible] def b89 : Nat := 2 ^ 8990
theorem b40_eq : b40 = 2 ^ 4000 := by unfold b40; rfl
theorem b89_eq : b89 = 2 ^ 8990 := by unfold b89; rfl
/-- small: its parts are below 2 ^ 4000 -/
structure Sm (x : Rat) : Prop where
  num : x.num.natAbs < b40
  den : x.den < b40
theorem Sm.n {x : Rat} (h : Sm x) : x.num.natAbs < 2 ^ 4000 := by rw [← b40_eq]; exact h.num
theorem Sm.d {x : Rat} (h : Sm x) : (x.den : Int).natAbs < 2 ^ 4000 := by rw [← b40_eq]; exact h.den
theorem frD_inj {x y : Rat} (h : frD x = frD y) : x = y := by
  unfold frD at h
  injection h with h
  injection h with h1 h2
  injection h2 with h2 _
  injection h1 with h1
  injection h2 with h2
  exact Rat.ext h1 (by exact_mod_cast h2)
theorem mul_ok {i j : Int} {m n : Nat} (hi : i.natAbs < 2 ^ m) (hj : j.natAbs < 2 ^ n) (hm : 0 < m) (hn : 0 < n) (h : m + n ≤ 1000000) : IntMulOk i j := (wide_mul hi hj hm hn h).ok
theorem mul_okL {i j : Int} (h1 : -(2 ^ 64) < i) (h2 : i < 2 ^ 64) : IntMulOk i j := .of_left (intBits_le_64 h1 h2)
theorem mul_okR {i j : Int} (h1 : -(2 ^ 64) < j) (h2 : j < 2 ^ 64) : IntMulOk i j := .of_right (intBits_le_64 h1 h2)
/-- the greatest common divisor by remainders -/
theorem gcd_step {x y : Int} (hx : 0 < x) (hy : 0 ≤ y) : Nat.gcd (y % x).toNat x.toNat = Nat.gcd x.toNat y.toNat := by
  have h : (y % x).toNat = y.toNat % x.toNat := by
    rw [Int.toNat_emod hy (Int.le_of_lt hx)]
  rw [h]
  exact (Nat.gcd_rec x.toNat y.toNat).symm
theorem mkRat_num {a b : Int} (hb : 0 < b) : (mkRat a b.toNat).num = a / ((Nat.gcd a.natAbs b.toNat : Nat) : Int) := by
  rw [Rat.num_mkRat, if_neg (by omega), Nat.gcd_comm]
theorem mkRat_den {a b : Int} (hb : 0 < b) : ((mkRat a b.toNat).den : Int) = b / ((Nat.gcd a.natAbs b.toNat : Nat) : Int) := by
  rw [Rat.den_mkRat, if_neg (by omega), Nat.gcd_comm]
  have : ((b.toNat : Nat) : Int) = b := Int.toNat_of_nonneg (by omega)
  conv => rhs; rw [← this]
  exact Int.natCast_ediv _ _
theorem Sm.mnd {x y : Rat} (hx : Sm x) (hy : Sm y) : IntMulOk x.num (y.den : Int) := mul_ok hx.n hy.d (by decide) (by decide) (by decide)
theorem Sm.mdd {x y : Rat} (hx : Sm x) (hy : Sm y) : IntMulOk (x.den : Int) (y.den : Int) := mul_ok hx.d hy.d (by decide) (by decide) (by decide)
theorem Sm.mnn {x y : Rat} (hx : Sm x) (hy : Sm y) : IntMulOk x.num y.num := mul_ok hx.n hy.n (by decide) (by decide) (by decide)
theorem Sm.dd_pos {x y : Rat} : (0 : Int) < (x.den : Int) * (y.den : Int) := Int.mul_pos (by exact_mod_cast x.den_pos) (by exact_mod_cast y.den_pos)
theorem lt_b89 {n : Nat} {m : Nat} (h : n < 2 ^ m) (hm : m ≤ 8990) : n < b89 := by
  rw [b89_eq]; exact Nat.lt_of_lt_of_le h (Nat.pow_le_pow_right (by decide) hm)
theorem Sm.dd_lt {x y : Rat} (hx : Sm x) (hy : Sm y) : ((x.den : Int) * (y.den : Int)).natAbs < b89 := lt_b89 (wide_lt hx.d hy.d) (by decide)
theorem cdiv {i j : Int} (h : 0 < j) (hb : j.natAbs < b89) : CDivW i j := wide_div h (by rw [← b89_eq]; exact hb) (by decide) (by decide)
theorem dd_nat {x y : Rat} : ((x.den : Int) * (y.den : Int)).toNat = x.den * y.den := by
  rw [← Int.natCast_mul]; rfl
theorem add_rat (x y : Rat) : mkRat (x.num * (y.den : Int) + y.num * (x.den : Int)) ((x.den : Int) * (y.den : Int)).toNat = x + y := by
  rw [dd_nat]; exact (Rat.add_def' x y).symm
theorem sub_rat (x y : Rat) : mkRat (x.num * (y.den : Int) - y.num * (x.den : Int)) ((x.den : Int) * (y.den : Int)).toNat = x - y := by
  rw [dd_nat]; exact (Rat.sub_def' x y).symm
theorem mul_rat (x y : Rat) : mkRat (x.num * y.num) ((x.den : Int) * (y.den : Int)).toNat = x * y := by
  rw [dd_nat]; exact (Rat.mul_def' x y).symm
theorem lt_rat (x y : Rat) : decide (x.num * (y.den : Int) < y.num * (x.den : Int)) = decide (x < y) := by
  rw [decide_eq_decide]; exact (Rat.lt_iff x y).symm
theorem le_rat (x y : Rat) : decide (x.num * (y.den : Int) ≤ y.num * (x.den : Int)) = decide (x ≤ y) := by
  rw [decide_eq_decide]; exact (Rat.le_iff x y).symm
theorem den_pos' (x : Rat) : (0 : Int) < (x.den : Int) := by exact_mod_cast x.den_pos
/-! items by written places -/
section
variable {α : Type} {a b c d e f : α} {l : List α}
theorem atI_c0 : atI (a :: l) 0 = some a := atI_nat (xs := a :: l) (j := 0) rfl
theorem atI_c1 : atI (a :: b :: l) 1 = some b := atI_nat (xs := a :: b :: l) (j := 1) rfl
theorem atI_c2 : atI (a :: b :: c :: l) 2 = some c := atI_nat (xs := a :: b :: c :: l) (j := 2) rfl
theorem atI_c3 : atI (a :: b :: c :: d :: l) 3 = some d := atI_nat (xs := a :: b :: c :: d :: l) (j := 3) rfl
theorem atI_c4 : atI (a :: b :: c :: d :: e :: l) 4 = some e := atI_nat (xs := a :: b :: c :: d :: e :: l) (j := 4) rfl
end
/-- while over a state -/
def WNext {α : Type} (st : α → G) (sm : α → MH) (P : α → Prop) (μ : α → Nat) (a : α) : G → MH → Prop := fun Γ' M' => ∃ m', m' < μ a ∧ ∃ a', st a' = Γ' ∧ sm a' = M' ∧ P a' ∧ μ a' = m'
theorem WNext.of {α : Type} {st : α → G} {sm : α → MH} {P : α → Prop} {μ : α → Nat} {a : α} {Γ : G} {M : MH} (a' : α) (h1 : st a' = Γ) (h2 : sm a' = M) (h3 : P a') (h4 : μ a' < μ a) : WNext st sm P μ a Γ M := ⟨_, h4, a', h1, h2, h3, rfl⟩
theorem while_st {α : Type} {c : AT} {b : AS} {D : AD} {Γ : G} {M : MH} (st : α → G) (sm : α → MH) (P : α → Prop) (μ : α → Nat) (a0 : α) (h0 : P a0) (hΓ : st a0 = Γ) (hM : sm a0 = M)
    (step : ∀ a, P a → c (st a) (sm a) fun t M1 => if t = true then b { nx := WNext st sm P μ a, rt := D.rt, bk := D.nx, ct := WNext st sm P μ a, ex := D.ex } (st a) M1 else D.nx (st a) M1) : aWhile c b D Γ M := by
  refine ⟨fun m Γ' M' => ∃ a, st a = Γ' ∧ sm a = M' ∧ P a ∧ μ a = m, ⟨μ a0, a0, hΓ, hM, h0, rfl⟩, ?_⟩
  rintro m Γ' M' ⟨a, rfl, rfl, ha, rfl⟩
  exact step a ha
/-- for over a list of items: the state behind each -/
theorem for_st {w : AI} {g : AG} {b : AS} {D : AD} {Γ : G} {M : MH} {A : AIt} {k : AIt → MH → Prop} (W : Nat → G → MH → Prop) (h0 : W 0 Γ M)
    (step : ∀ i Γ M x, A.items[i]? = some x → W i Γ M → A.ok M ∧ g x Γ M fun Γ' M' => b { nx := W (i + 1), rt := D.rt, bk := D.nx, ct := W (i + 1), ex := D.ex } Γ' M')
    (hend : ∀ Γ M, W A.items.length Γ M → A.ok M ∧ D.nx Γ M) :
    ∃ W : Nat → G → MH → Prop, W 0 Γ M ∧ ∀ i Γ M, i ≤ A.items.length → W i Γ M → A.ok M ∧ match A.items[i]? with
      | none => D.nx Γ M
      | some x => g x Γ M fun Γ' M' => b { nx := W (i + 1), rt := D.rt, bk := D.nx, ct := W (i + 1), ex := D.ex } Γ' M' := by
  refine ⟨W, h0, fun i Γ M hi w => ?_⟩
  cases q : A.items[i]? with
  | none =>
    have := List.getElem?_eq_none_iff.mp q
    have e : i = A.items.length := Nat.le_antisymm hi this
    subst e
    exact hend Γ M w
  | some x => exact step i Γ M x q w
end M
/-! MEv: the transformers from behind, one step each. -/
namespace M
open PySem L2
theorem rdL_ref {M : MH} {a : Addr} {ds : List D} (h : M a = some (.obj (.lst ds))) : rdL M (.ref a) = some ds := by
  show (match M a with | some (.obj (.lst ds)) => some ds | _ => none) = some ds
  rw [h]
theorem rdS_ref {M : MH} {a : Addr} {ds : List D} (h : M a = some (.obj (.lst ds))) : rdS M (.ref a) = some ds := rdL_ref h
section
variable {Z : AD} {Γ : G} {M : MH} {k : AK} {kt : Bool → MH → Prop} {ka : List D → MH → Prop} {ko : Option Int → MH → Prop} {kg : G → MH → Prop} {s t : AS} {f g fa fb fc : AE} {c c' : AT} {ga gb : AA} {i j : Int} {n m : Nat} {d e : D} {ds es : List D} {b : Bool} {a : Addr} {op : AB} {x y : Str}
theorem iSeq (h : s { Z with nx := fun Γ M => t Z Γ M } Γ M) : aSeq s t Z Γ M := h
theorem iNext (h : Z.nx Γ M) : aNext Z Γ M := h
theorem iDrop (h : f Γ M fun _ M1 => Z.nx Γ M1) : aDrop f Z Γ M := h
theorem iRet (h : f Γ M Z.rt) : aRet f Z Γ M := h
theorem iRetN (h : Z.rt .non M) : aRetN Z Γ M := h
theorem iIfS (h : c Γ M fun b M1 => if b = true then s Z Γ M1 else t Z Γ M1) : aIfS c s t Z Γ M := h
theorem iSet (h : f Γ M fun d M1 => Z.nx (Γ.set n (some d)) M1) : aSet n f Z Γ M := h
theorem iPar (h : ga Γ M fun ds M1 => match ds with | [d, e] => Z.nx ((Γ.set n (some d)).set m (some e)) M1 | _ => False) : aPar n m ga Z Γ M := h
theorem iAsg {g : AG} (h : f Γ M fun d M1 => g d Γ M1 Z.nx) : aAsg f g Z Γ M := h
theorem iVar (h : k d M) (e : Γ[n]? = some (some d)) : aVar n Γ M k := by unfold aVar; rw [e]; exact h
theorem iC (h : k d M) : aC d Γ M k := h
theorem iOp (h : fa Γ M fun d M1 => fb Γ M1 fun e M2 => op d e M2 k) : aOp op fa fb Γ M k := h
theorem iAddI (h : k (.int (i + j)) M) : bAdd b (.int i) (.int j) M k := h
theorem iAddS (h : k (.str (x ++ y)) M) (l : x.length + y.length ≤ sizeLine) : bAdd b (.str x) (.str y) M k := ⟨l, h⟩
theorem iAddL (h : nl b (ds ++ es) M k) (l : ds.length + es.length ≤ sizeLine) : bAdd b (.lst ds) (.lst es) M k := ⟨l, h⟩
theorem iAddRL {a : Addr} (h : nl b (ds ++ es) M k) (h1 : M a = some (.obj (.lst ds))) (l : ds.length + es.length ≤ sizeLine) : bAdd b (.ref a) (.lst es) M k := by
  show match rdL M (.ref a), rdL M (.lst es) with | some ds, some es => ds.length + es.length ≤ sizeLine ∧ nl b (ds ++ es) M k | _, _ => False
  have : rdL M (.ref a) = some ds := rdL_ref h1
  rw [this]; exact ⟨l, h⟩
theorem iSub (h : k (.int (i - j)) M) : bSub (.int i) (.int j) M k := h
theorem iMul (h : k (.int (i * j)) M) (l : IntMulOk i j) : bMul (.int i) (.int j) M k := ⟨l, h⟩
theorem iFdiv (h : k (.int (i / j)) M) (l : CDivW i j) : bFdiv (.int i) (.int j) M k := ⟨l, h⟩
theorem iMod (h : k (.int (i % j)) M) (l : 0 < j) : bMod (.int i) (.int j) M k := ⟨l, h⟩
theorem iPow (h : k (.int (i ^ j.toNat)) M) (l : CPow i j) : bPow (.int i) (.int j) M k := ⟨l, h⟩
theorem iLt (h : k (.bl (decide (i < j))) M) : bLt (.int i) (.int j) M k := h
theorem iLe (h : k (.bl (decide (i ≤ j))) M) : bLe (.int i) (.int j) M k := h
theorem iGt (h : k (.bl (decide (j < i))) M) : bGt (.int i) (.int j) M k := h
theorem iGe (h : k (.bl (decide (j ≤ i))) M) : bGe (.int i) (.int j) M k := h
theorem iEqI (h : k (.bl (decide (i = j))) M) : bEq false (.int i) (.int j) M k := h
theorem iNeI (h : k (.bl (!decide (i = j))) M) : bEq true (.int i) (.int j) M k := h
theorem iEqS (h : k (.bl (decide (x = y))) M) : bEq false (.str x) (.str y) M k := h
theorem iNeS (h : k (.bl (!decide (x = y))) M) : bEq true (.str x) (.str y) M k := h
theorem iIsN (h : k (.bl d.isNon) M) : bIsN d .non M k := h
theorem iNotN (h : k (.bl !d.isNon) M) : bNotN d .non M k := h
theorem iNeg (h : f Γ M fun d M1 => match d with | .int i => k (.int (-i)) M1 | _ => False) : aNeg f Γ M k := h
theorem iB (h : f Γ M fun d M1 => match d with | .bl b => kt b M1 | _ => False) : aB f Γ M kt := h
theorem iAnd (h : c Γ M fun b M1 => if b = true then c' Γ M1 kt else kt false M1) : aAnd c c' Γ M kt := h
theorem iOr (h : c Γ M fun b M1 => if b = true then kt true M1 else c' Γ M1 kt) : aOr c c' Γ M kt := h
theorem iNot (h : c Γ M fun b M1 => kt (!b) M1) : aNot c Γ M kt := h
theorem iAndV (h : f Γ M fun d M1 => match d with | .bl b => if b = true then g Γ M1 k else k (.bl false) M1 | _ => False) : aAndV f g Γ M k := h
theorem iOrV (h : f Γ M fun d M1 => match d with | .bl b => if b = true then k (.bl true) M1 else g Γ M1 k | _ => False) : aOrV f g Γ M k := h
theorem iNotV (h : f Γ M fun d M1 => match d with | .bl b => k (.bl !b) M1 | _ => False) : aNotV f Γ M k := h
theorem iIf (h : c Γ M fun b M1 => if b = true then f Γ M1 k else g Γ M1 k) : aIf c f g Γ M k := h
theorem iNil (h : ka [] M) : aNil Γ M ka := h
theorem iCons (h : f Γ M fun d M1 => ga Γ M1 fun ds M2 => ka (d :: ds) M2) : aCons f ga Γ M ka := h
theorem iTup (h : ga Γ M fun ds M1 => ds.length ≤ sizeLine ∧ k (.tup ds) M1) : aTup ga Γ M k := h
theorem iLst (h : ga Γ M fun ds M1 => ds.length ≤ sizeLine ∧ nl b ds M1 k) : aLst b ga Γ M k := h
theorem iNlF (h : k (.lst ds) M) : nl false ds M k := h
theorem iNlT (h : ∀ p, M p = none → k (.ref p) (up M p (.obj (.lst ds)))) : nl true ds M k := h
theorem iCB {op : AC} (h : ga Γ M fun ds M1 => op ds M1 k) : aCB op ga Γ M k := h
theorem iCall {F : AF} {x : EK} (h : ga Γ M fun ds M1 => F (ds ++ es) M1 k x) : aCall x F es ga Γ M k := h
theorem iCallK {F : AF} {x : EK} {ix : List Nat} (h : ga Γ M fun ds M1 => gb Γ M1 fun us M2 => ds.length = n ∧ us.length = m ∧ F (pick ix (ds ++ us ++ es)) M2 k x) : aCallK x F n m ix es ga gb Γ M k := h
theorem iIxT (h : k e M) (q : atI ds i = some e) : bIx (.tup ds) (.int i) M k := by
  show match atI ds i with | some x => k x M | none => False
  rw [q]; exact h
theorem iIxL (h : k e M) (q : atI ds i = some e) : bIx (.lst ds) (.int i) M k := by
  show match atI ds i with | some x => k x M | none => False
  rw [q]; exact h
theorem iIxR (h : k e M) (q1 : M a = some (.obj (.lst ds))) (q : atI ds i = some e) : bIx (.ref a) (.int i) M k := by
  show match rdL M (.ref a) with | some ds => (match atI ds i with | some x => k x M | none => False) | none => False
  have : rdL M (.ref a) = some ds := rdL_ref q1
  rw [this]; show match atI ds i with | some x => k x M | none => False
  rw [q]; exact h
theorem iIxSc {ns : List Int} (h : k e M) (q : atI (ns.map D.int) i = some e) : bIx (.scr ns) (.int i) M k := by
  show match atI (ns.map D.int) i with | some x => k x M | none => False
  rw [q]; exact h
theorem iNoPart (h : ko none M) : aNoPart Γ M ko := h
theorem iPart (h : f Γ M fun d M1 => match d with | .int i => ko (some i) M1 | _ => False) : aPart f Γ M ko := h
theorem iCut {l u : AO} (h : f Γ M fun d M1 => l Γ M1 fun lo M2 => u Γ M2 fun hi M3 => sCut b d lo hi M3 k) : aCut b f l u Γ M k := h
theorem iCutL {lo hi : Option Int} (h : nl b (cutD ds lo hi) M k) : sCut b (.lst ds) lo hi M k := h
theorem iCutSc {ns : List Int} {lo hi : Option Int} (h : nl b (cutD (ns.map D.int) lo hi) M k) : sCut b (.scr ns) lo hi M k := h
theorem iCutS {lo hi : Option Int} (h : k (.str (cutS x lo hi)) M) (l : x.length ≤ sizeLine) : sCut b (.str x) lo hi M k := ⟨l, h⟩
theorem iCutR {lo hi : Option Int} (h : nl b (cutD ds lo hi) M k) (q : M a = some (.obj (.lst ds))) : sCut b (.ref a) lo hi M k := by
  show match rdL M (.ref a) with | some ds => nl b (cutD ds lo hi) M k | none => False
  have : rdL M (.ref a) = some ds := rdL_ref q
  rw [this]; exact h
theorem iLenT (h : k (.int ds.length) M) : cLen [.tup ds] M k := h
theorem iLenL (h : k (.int ds.length) M) : cLen [.lst ds] M k := h
theorem iLenSc {ns : List Int} (h : k (.int ns.length) M) : cLen [.scr ns] M k := by
  show k (.int ((ns.map D.int).length : Nat)) M
  rw [List.length_map]; exact h
theorem iLenS (h : k (.int x.length) M) (l : x.length ≤ sizeLine) : cLen [.str x] M k := ⟨l, h⟩
theorem iLenR (h : k (.int ds.length) M) (q : M a = some (.obj (.lst ds))) : cLen [.ref a] M k := by
  show match rdL M (.ref a) with | some xs => k (.int xs.length) M | none => False
  have : rdL M (.ref a) = some ds := rdL_ref q
  rw [this]; exact h
theorem iAbs (h : k (.int (if i < 0 then -i else i)) M) : cAbs [.int i] M k := h
theorem iMax2 (h : k (.int (if j > i then j else i)) M) : cMax2 [.int i, .int j] M k := h
theorem iMin2 (h : k (.int (if j < i then j else i)) M) : cMin2 [.int i, .int j] M k := h
theorem iSumL {ns : List Int} (h : k (.int ns.sum) M) : cSum [.lst (ns.map .int)] M k := by
  show match (some (ns.map D.int)).bind intsOf with | some ns => k (.int ns.sum) M | none => False
  rw [Option.bind_some, intsOf_map]; exact h
theorem iListL (h : nl b ds M k) : cList b [.lst ds] M k := h
theorem iListT (h : nl b ds M k) : cList b [.tup ds] M k := h
theorem iListR (h : nl b ds M k) (q : M a = some (.obj (.lst ds))) : cList b [.ref a] M k := by
  show match rdL M (.ref a) with | some xs => nl b xs M k | none => False
  have : rdL M (.ref a) = some ds := rdL_ref q
  rw [this]; exact h
theorem iIsi {t T : String} (h : k (.bl b) M) (q1 : tyD M d = some t) (q2 : kitB t T = some b) : cIsi [d, .ty T] M k := by
  show match tyD M d with | some t => (match kitB t T with | some b => k (.bl b) M | none => False) | none => False
  rw [q1]; show match kitB t T with | some b => k (.bl b) M | none => False
  rw [q2]; exact h
theorem iMt {op : AM} (h : f Γ M fun d M1 => match rdL M1 d with | some _ => ga Γ M1 fun ds M2 => op d ds M2 k | none => False) : aMt op f ga Γ M k := h
theorem iMt0 {op : AM} (h : f Γ M fun d M1 => match rdL M1 d with | some _ => op d [] M1 k | none => False) : aMt0 op f Γ M k := h
/-- a list of the small heap stands at a -/
theorem iRdR {p : Prop} (h : p) (q : M a = some (.obj (.lst ds))) : (match rdL M (.ref a) with | some _ => p | none => False) := by
  have : rdL M (.ref a) = some ds := rdL_ref q
  rw [this]; exact h
theorem iAppend (h : k .non (up M a (.obj (.lst (ds ++ [d]))))) (q : M a = some (.obj (.lst ds))) (l : ds.length < sizeLine) : mAppend (.ref a) [d] M k := by
  show match M a with | some (.obj (.lst ds)) => ds.length < sizeLine ∧ k .non (up M a (.obj (.lst (ds ++ [d])))) | _ => False
  rw [q]; exact ⟨l, h⟩
theorem iExtendL (h : k .non (up M a (.obj (.lst (ds ++ es))))) (q : M a = some (.obj (.lst ds))) (l : ds.length + es.length ≤ sizeLine) : mExtend (.ref a) [.lst es] M k := by
  show match M a with | some (.obj (.lst ds)) => ds.length + es.length ≤ sizeLine ∧ k .non (up M a (.obj (.lst (ds ++ es)))) | _ => False
  rw [q]; exact ⟨l, h⟩
theorem iPop (h : k e (up M a (.obj (.lst ds.dropLast)))) (q : M a = some (.obj (.lst ds))) (l : ds[ds.length - 1]? = some e) : mPop (.ref a) [] M k := by
  show match M a with | some (.obj (.lst ds)) => (match ds[ds.length - 1]? with | some x => k x (up M a (.obj (.lst ds.dropLast))) | none => False) | _ => False
  rw [q]; show match ds[ds.length - 1]? with | some x => k x (up M a (.obj (.lst ds.dropLast))) | none => False
  rw [l]; exact h
theorem iPopI (h : k e (up M a (.obj (.lst (ds.eraseIdx n))))) (q : M a = some (.obj (.lst ds))) (b1 : -(2 ^ 63) ≤ i ∧ i < 2 ^ 63) (l : seqIndex? i ds.length = some n) (l2 : ds[n]? = some e) : mPop (.ref a) [.int i] M k := by
  show match M a with | some (.obj (.lst ds)) => (-(2 ^ 63) ≤ i ∧ i < 2 ^ 63) ∧ (match seqIndex? i ds.length with | some j => (match ds[j]? with | some x => k x (up M a (.obj (.lst (ds.eraseIdx j)))) | none => False) | none => False) | _ => False
  rw [q]; refine ⟨b1, ?_⟩
  show match seqIndex? i ds.length with | some j => (match ds[j]? with | some x => k x (up M a (.obj (.lst (ds.eraseIdx j)))) | none => False) | none => False
  rw [l]; show match ds[n]? with | some x => k x (up M a (.obj (.lst (ds.eraseIdx n)))) | none => False
  rw [l2]; exact h
theorem iReverse (h : k .non (up M a (.obj (.lst ds.reverse)))) (q : M a = some (.obj (.lst ds))) : mReverse (.ref a) [] M k := by
  show match M a with | some (.obj (.lst ds)) => k .non (up M a (.obj (.lst ds.reverse))) | _ => False
  rw [q]; exact h
theorem iClear (h : k .non (up M a (.obj (.lst [])))) (q : M a = some (.obj (.lst ds))) : mClear (.ref a) [] M k := by
  show match M a with | some (.obj (.lst ds)) => k .non (up M a (.obj (.lst []))) | _ => False
  rw [q]; exact h
theorem iGNm (h : kg (Γ.set n (some d)) M) : gNm n d Γ M kg := h
theorem iGTu {t : AGs} (h : t ds Γ M kg) (l : ds.length = n) : gTu n t (.tup ds) Γ M kg := ⟨l, h⟩
theorem iGCo {t : AG} {u : AGs} (h : t d Γ M fun Γ1 M1 => u ds Γ1 M1 kg) : gCo t u (d :: ds) Γ M kg := h
theorem iGNi (h : kg Γ M) : gNi [] Γ M kg := h
theorem iGIx {fo fi : AE} (h : fo Γ M fun o M1 => fi Γ M1 fun i M2 => stIx o i d M2 fun M3 => kg Γ M3) : gIx fo fi d Γ M kg := h
theorem iStIx {km : MH → Prop} (h : km (up M a (.obj (.lst (ds.set n d))))) (q : M a = some (.obj (.lst ds))) (l : ixN ds.length i = some n) : stIx (.ref a) (.int i) d M km := by
  show match M a with | some (.obj (.lst ds)) => (match ixN ds.length i with | some n => km (up M a (.obj (.lst (ds.set n d)))) | none => False) | _ => False
  rw [q]; show match ixN ds.length i with | some n => km (up M a (.obj (.lst (ds.set n d)))) | none => False
  rw [l]; exact h
theorem iFrz (h : f Γ M fun d M1 => match d with | .ref a => (match M1 a with | some (.obj (.lst ds)) => k (.lst ds) (dl M1 a) | _ => False) | .lst ds => k (.lst ds) M1 | _ => False) : aFrz f Γ M k := h
theorem iFrzR (h : k (.lst ds) (dl M a)) (q : M a = some (.obj (.lst ds))) : (match M a with | some (.obj (.lst ds)) => k (.lst ds) (dl M a) | _ => False) := by
  rw [q]; exact h
theorem iChain {p q : Int → Int → Bool} (h : fa Γ M fun d M1 => fb Γ M1 fun e M2 => match d, e with
  | .int i, .int j => if p i j = true then fc Γ M2 fun g M3 => match g with
      | .int l => k (.bl (q j l)) M3
      | _ => False
    else k (.bl false) M2
  | _, _ => False) : aChain p q fa fb fc Γ M k := h
theorem iInL {ns : List Int} (h : k (.bl (decide (i ∈ ns))) M) : bIn false (.int i) (.lst (ns.map .int)) M k := by
  show match (some (ns.map D.int)).bind intsOf with | some ns => k (.bl (if false then !decide (i ∈ ns) else decide (i ∈ ns))) M | none => False
  rw [Option.bind_some, intsOf_map]; exact h
theorem iNotInL {ns : List Int} (h : k (.bl (!decide (i ∈ ns))) M) : bIn true (.int i) (.lst (ns.map .int)) M k := by
  show match (some (ns.map D.int)).bind intsOf with | some ns => k (.bl (if true then !decide (i ∈ ns) else decide (i ∈ ns))) M | none => False
  rw [Option.bind_some, intsOf_map]; exact h
/-! what is walked -/
variable {kI : AIt → MH → Prop} {w : AI}
theorem iFor {g : AG} (h : w Γ M fun A M1 => ∃ W : Nat → G → MH → Prop, W 0 Γ M1 ∧ ∀ i Γ M, i ≤ A.items.length → W i Γ M → A.ok M ∧ match A.items[i]? with
  | none => Z.nx Γ M
  | some x => g x Γ M fun Γ' M' => s { nx := W (i + 1), rt := Z.rt, bk := Z.nx, ct := W (i + 1), ex := Z.ex } Γ' M') : aFor w g s Z Γ M := h
theorem iWLst (h : f Γ M fun d M1 => match rdS M1 d with | some ds => kI ⟨ds, fun M => rdS M d = some ds⟩ M1 | none => False) : wLst f Γ M kI := h
theorem iRg1_ (h : ga Γ M fun ds M1 => match ds with | [.int j] => (-(2 ^ 62) ≤ j ∧ j < 2 ^ 62) ∧ kI ⟨(rng 0 j.toNat).map .int, fun _ => True⟩ M1 | _ => False) : wRg1 ga Γ M kI := h
theorem iRg2_ (h : ga Γ M fun ds M1 => match ds with | [.int i, .int j] => (-(2 ^ 62) ≤ i ∧ i < 2 ^ 62 ∧ -(2 ^ 62) ≤ j ∧ j < 2 ^ 62) ∧ kI ⟨(rng i (j - i).toNat).map .int, fun _ => True⟩ M1 | _ => False) : wRg2 ga Γ M kI := h
theorem iEn_ (h : ga Γ M fun ds M1 => match ds with | [d] => (match rdS M1 d with | some xs => kI ⟨enumD 0 xs, fun M => rdS M d = some xs⟩ M1 | none => False) | _ => False) : wEn ga Γ M kI := h
theorem iZp_ (h : ga Γ M fun ds M1 => match ds with | [d, e] => (match rdS M1 d, rdS M1 e with | some xs, some ys => kI ⟨zipD xs ys, fun M => rdS M d = some xs ∧ rdS M e = some ys⟩ M1 | _, _ => False) | _ => False) : wZp ga Γ M kI := h
theorem iLc {g : AG} {vs : List Nat} (h : w Γ M fun A M1 => lcGo b A.ok g c f (wipeG Γ vs) A.items [] M1 fun ds M2 => nl b ds M2 k) : aLc b w g c f vs Γ M k := h
theorem iYes (h : kt true M) : aYes Γ M kt := h
end
theorem iteD {c : Prop} [Decidable c] {A B : Prop} (h1 : c → A) (h2 : ¬ c → B) : if decide c = true then A else B := by
  by_cases h : c
  · rw [if_pos (decide_eq_true h)]; exact h1 h
  · rw [if_neg (by simpa using h)]; exact h2 h
theorem iteN {c : Prop} [Decidable c] {A B : Prop} (h1 : ¬ c → A) (h2 : c → B) : if (!decide c) = true then A else B := by
  by_cases h : c
  · rw [if_neg (by simpa using h)]; exact h2 h
  · rw [if_pos (by simpa using h)]; exact h1 h
theorem iteT {A B : Prop} (h : A) : if true = true then A else B := by rw [if_pos rfl]; exact h
theorem iteF {A B : Prop} (h : B) : if false = true then A else B := by rw [if_neg Bool.false_ne_true]; exact h
theorem iteNT {A B : Prop} (h : B) : if (!true) = true then A else B := by rw [if_neg (by decide)]; exact h
theorem iteNF {A B : Prop} (h : A) : if (!false) = true then A else B := by rw [if_pos (by decide)]; exact h
theorem iteDT {c : Prop} [Decidable c] {A B : Prop} (hc : c) (h : A) : if decide c = true then A else B := by rw [if_pos (decide_eq_true hc)]; exact h
theorem iteDF {c : Prop} [Decidable c] {A B : Prop} (hc : ¬ c) (h : B) : if decide c = true then A else B := by rw [if_neg (by simpa using hc)]; exact h
theorem iteNDT {c : Prop} [Decidable c] {A B : Prop} (hc : c) (h : B) : if (!decide c) = true then A else B := by rw [if_neg (by simpa using hc)]; exact h
theorem iteNDF {c : Prop} [Decidable c] {A B : Prop} (hc : ¬ c) (h : A) : if (!decide c) = true then A else B := by rw [if_pos (by simpa using hc)]; exact h
/-- a comprehension whose element is a value told by the item, the small heap as it is -/
theorem lc_map {α : Type} {m : Bool} {ok : MH → Prop} {g : AG} {te : AE} {Γ : G} {M : MH} {k : List D → MH → Prop} (ι : α → D) (fn : α → D) : ∀ (xs : List α) (acc : List D), acc.length + xs.length ≤ sizeLine → ok M →
    (∀ x ∈ xs, ∀ kd : AK, kd (fn x) M → g (ι x) Γ M fun Γ' M' => te Γ' M' kd) → k (acc ++ xs.map fn) M → lcGo m ok g aYes te Γ (xs.map ι) acc M k
  | [], acc, _, ho, _, h => ⟨ho, by simpa using h⟩
  | x :: xs, acc, hl, ho, hs, h => by
    refine ⟨ho, ?_⟩
    show g (ι x) Γ M fun Γ' M' => if true = true then te Γ' M' fun d M2 => acc.length < sizeLine ∧ lcGo m ok g aYes te Γ (xs.map ι) (acc ++ [d]) M2 k else lcGo m ok g aYes te Γ (xs.map ι) acc M' k
    simp only [if_true]
    refine hs x List.mem_cons_self _ ⟨by rw [List.length_cons] at hl; omega, ?_⟩
    refine lc_map ι fn xs (acc ++ [fn x]) (by rw [List.length_append, List.length_singleton]; rw [List.length_cons] at hl; omega) ho (fun y hy => hs y (List.mem_cons_of_mem _ hy)) ?_
    rw [List.append_assoc]; exact h
end M
/-! MEq: the transformers' steps as equations (none by rfl, so that the kernel goes step by step). -/
namespace M
open PySem L2
section
variable {Z : AD} {Γ : G} {M : MH} {k : AK} {kt : Bool → MH → Prop} {ka : List D → MH → Prop} {ko : Option Int → MH → Prop} {kg : G → MH → Prop} {s t : AS} {f g fa fb fc : AE} {c c' : AT} {ga gb : AA} {i j : Int} {n m : Nat} {d e : D} {ds es : List D} {b : Bool} {a : Addr} {op : AB} {x y : Str} {p q : Int → Int → Bool} {kI : AIt → MH → Prop} {w : AI}

def kPar (n m : Nat) (Z : AD) (Γ : G) : List D → MH → Prop := fun ds M1 => match ds with | [d, e] => Z.nx ((Γ.set n (some d)).set m (some e)) M1 | _ => False
def kB (kt : Bool → MH → Prop) : AK := fun d M => match d with | .bl b => kt b M | _ => False
def kNeg (k : AK) : AK := fun d M1 => match d with | .int i => k (.int (-i)) M1 | _ => False
def kAndV (g : AE) (Γ : G) (k : AK) : AK := fun d M1 => match d with | .bl b => if b = true then g Γ M1 k else k (.bl false) M1 | _ => False
def kOrV (g : AE) (Γ : G) (k : AK) : AK := fun d M1 => match d with | .bl b => if b = true then k (.bl true) M1 else g Γ M1 k | _ => False
def kNotV (k : AK) : AK := fun d M1 => match d with | .bl b => k (.bl !b) M1 | _ => False
def kPart (ko : Option Int → MH → Prop) : AK := fun d M1 => match d with | .int i => ko (some i) M1 | _ => False
def kMt (op : AM) (ga : AA) (Γ : G) (k : AK) : AK := fun d M1 => match rdL M1 d with | some _ => ga Γ M1 fun ds M2 => op d ds M2 k | none => False
def kMt0 (op : AM) (k : AK) : AK := fun d M1 => match rdL M1 d with | some _ => op d [] M1 k | none => False
def kFrz (k : AK) : AK := fun d M1 => match d with | .ref a => (match M1 a with | some (.obj (.lst ds)) => k (.lst ds) (dl M1 a) | _ => False) | .lst ds => k (.lst ds) M1 | _ => False
def kCh (p q : Int → Int → Bool) (fc : AE) (Γ : G) (k : AK) (d e : D) (M2 : MH) : Prop := match d, e with
  | .int i, .int j => if p i j = true then fc Γ M2 fun g M3 => match g with
      | .int l => k (.bl (q j l)) M3
      | _ => False
    else k (.bl false) M2
  | _, _ => False
def kCh2 (q : Int → Int → Bool) (j : Int) (k : AK) : AK := fun g M3 => match g with | .int l => k (.bl (q j l)) M3 | _ => False
def kWL (kI : AIt → MH → Prop) : AK := fun d M1 => match rdS M1 d with | some ds => kI ⟨ds, fun M => rdS M d = some ds⟩ M1 | none => False
def kR1 (kI : AIt → MH → Prop) : List D → MH → Prop := fun ds M1 => match ds with | [.int j] => (-(2 ^ 62) ≤ j ∧ j < 2 ^ 62) ∧ kI ⟨(rng 0 j.toNat).map .int, fun _ => True⟩ M1 | _ => False
def kR2 (kI : AIt → MH → Prop) : List D → MH → Prop := fun ds M1 => match ds with | [.int i, .int j] => (-(2 ^ 62) ≤ i ∧ i < 2 ^ 62 ∧ -(2 ^ 62) ≤ j ∧ j < 2 ^ 62) ∧ kI ⟨(rng i (j - i).toNat).map .int, fun _ => True⟩ M1 | _ => False
def kEn (kI : AIt → MH → Prop) : List D → MH → Prop := fun ds M1 => match ds with | [d] => (match rdS M1 d with | some xs => kI ⟨enumD 0 xs, fun M => rdS M d = some xs⟩ M1 | none => False) | _ => False
def kZp (kI : AIt → MH → Prop) : List D → MH → Prop := fun ds M1 => match ds with | [d, e] => (match rdS M1 d, rdS M1 e with | some xs, some ys => kI ⟨zipD xs ys, fun M => rdS M d = some xs ∧ rdS M e = some ys⟩ M1 | _, _ => False) | _ => False
def kIx (o : Option D) (k : AK) (M : MH) : Prop := match o with | some x => k x M | none => False
def kTpI (kI : AIt → MH → Prop) : AK := fun d M1 => match d with | .tup ds => kI ⟨ds, fun _ => True⟩ M1 | _ => False
def kStI (kI : AIt → MH → Prop) : AK := fun d M1 => match d with | .str z => kI ⟨signsD z, fun _ => True⟩ M1 | _ => False
theorem eSeq  : (aSeq s t Z Γ M) = (s { Z with nx := fun Γ M => t Z Γ M } Γ M) := propext Iff.rfl
theorem eNext  : (aNext Z Γ M) = (Z.nx Γ M) := propext Iff.rfl
theorem eDrop  : (aDrop f Z Γ M) = (f Γ M fun _ M1 => Z.nx Γ M1) := propext Iff.rfl
theorem eRet  : (aRet f Z Γ M) = (f Γ M Z.rt) := propext Iff.rfl
theorem eRetN  : (aRetN Z Γ M) = (Z.rt .non M) := propext Iff.rfl
theorem eIfS  : (aIfS c s t Z Γ M) = (c Γ M fun b M1 => if b = true then s Z Γ M1 else t Z Γ M1) := propext Iff.rfl
theorem eSet  : (aSet n f Z Γ M) = (f Γ M fun d M1 => Z.nx (Γ.set n (some d)) M1) := propext Iff.rfl
theorem ePar  : (aPar n m ga Z Γ M) = (ga Γ M (kPar n m Z Γ)) := propext Iff.rfl
theorem ePar2  : (kPar n m Z Γ [d, e] M) = (Z.nx ((Γ.set n (some d)).set m (some e)) M) := propext Iff.rfl
theorem eAsg {ag : AG} : (aAsg f ag Z Γ M) = (f Γ M fun d M1 => ag d Γ M1 Z.nx) := propext Iff.rfl
theorem eVar0  : (aVar 0 (some d :: Γ) M k) = (k d M) := propext Iff.rfl
theorem eVar1 {x0 : Option D} : (aVar 1 (x0 :: some d :: Γ) M k) = (k d M) := propext Iff.rfl
theorem eVar2 {x0 x1 : Option D} : (aVar 2 (x0 :: x1 :: some d :: Γ) M k) = (k d M) := propext Iff.rfl
theorem eVar3 {x0 x1 x2 : Option D} : (aVar 3 (x0 :: x1 :: x2 :: some d :: Γ) M k) = (k d M) := propext Iff.rfl
theorem eVar4 {x0 x1 x2 x3 : Option D} : (aVar 4 (x0 :: x1 :: x2 :: x3 :: some d :: Γ) M k) = (k d M) := propext Iff.rfl
theorem eVar5 {x0 x1 x2 x3 x4 : Option D} : (aVar 5 (x0 :: x1 :: x2 :: x3 :: x4 :: some d :: Γ) M k) = (k d M) := propext Iff.rfl
theorem eVar6 {x0 x1 x2 x3 x4 x5 : Option D} : (aVar 6 (x0 :: x1 :: x2 :: x3 :: x4 :: x5 :: some d :: Γ) M k) = (k d M) := propext Iff.rfl
theorem eVar7 {x0 x1 x2 x3 x4 x5 x6 : Option D} : (aVar 7 (x0 :: x1 :: x2 :: x3 :: x4 :: x5 :: x6 :: some d :: Γ) M k) = (k d M) := propext Iff.rfl
theorem eVar8 {x0 x1 x2 x3 x4 x5 x6 x7 : Option D} : (aVar 8 (x0 :: x1 :: x2 :: x3 :: x4 :: x5 :: x6 :: x7 :: some d :: Γ) M k) = (k d M) := propext Iff.rfl
theorem eVar9 {x0 x1 x2 x3 x4 x5 x6 x7 x8 : Option D} : (aVar 9 (x0 :: x1 :: x2 :: x3 :: x4 :: x5 :: x6 :: x7 :: x8 :: some d :: Γ) M k) = (k d M) := propext Iff.rfl
theorem eVar10 {x0 x1 x2 x3 x4 x5 x6 x7 x8 x9 : Option D} : (aVar 10 (x0 :: x1 :: x2 :: x3 :: x4 :: x5 :: x6 :: x7 :: x8 :: x9 :: some d :: Γ) M k) = (k d M) := propext Iff.rfl
theorem eVar11 {x0 x1 x2 x3 x4 x5 x6 x7 x8 x9 x10 : Option D} : (aVar 11 (x0 :: x1 :: x2 :: x3 :: x4 :: x5 :: x6 :: x7 :: x8 :: x9 :: x10 :: some d :: Γ) M k) = (k d M) := propext Iff.rfl
theorem eVar12 {x0 x1 x2 x3 x4 x5 x6 x7 x8 x9 x10 x11 : Option D} : (aVar 12 (x0 :: x1 :: x2 :: x3 :: x4 :: x5 :: x6 :: x7 :: x8 :: x9 :: x10 :: x11 :: some d :: Γ) M k) = (k d M) := propext Iff.rfl
theorem eVar13 {x0 x1 x2 x3 x4 x5 x6 x7 x8 x9 x10 x11 x12 : Option D} : (aVar 13 (x0 :: x1 :: x2 :: x3 :: x4 :: x5 :: x6 :: x7 :: x8 :: x9 :: x10 :: x11 :: x12 :: some d :: Γ) M k) = (k d M) := propext Iff.rfl
theorem eVar14 {x0 x1 x2 x3 x4 x5 x6 x7 x8 x9 x10 x11 x12 x13 : Option D} : (aVar 14 (x0 :: x1 :: x2 :: x3 :: x4 :: x5 :: x6 :: x7 :: x8 :: x9 :: x10 :: x11 :: x12 :: x13 :: some d :: Γ) M k) = (k d M) := propext Iff.rfl
theorem eVar15 {x0 x1 x2 x3 x4 x5 x6 x7 x8 x9 x10 x11 x12 x13 x14 : Option D} : (aVar 15 (x0 :: x1 :: x2 :: x3 :: x4 :: x5 :: x6 :: x7 :: x8 :: x9 :: x10 :: x11 :: x12 :: x13 :: x14 :: some d :: Γ) M k) = (k d M) := propext Iff.rfl
theorem eVar16 {x0 x1 x2 x3 x4 x5 x6 x7 x8 x9 x10 x11 x12 x13 x14 x15 : Option D} : (aVar 16 (x0 :: x1 :: x2 :: x3 :: x4 :: x5 :: x6 :: x7 :: x8 :: x9 :: x10 :: x11 :: x12 :: x13 :: x14 :: x15 :: some d :: Γ) M k) = (k d M) := propext Iff.rfl
theorem eVar17 {x0 x1 x2 x3 x4 x5 x6 x7 x8 x9 x10 x11 x12 x13 x14 x15 x16 : Option D} : (aVar 17 (x0 :: x1 :: x2 :: x3 :: x4 :: x5 :: x6 :: x7 :: x8 :: x9 :: x10 :: x11 :: x12 :: x13 :: x14 :: x15 :: x16 :: some d :: Γ) M k) = (k d M) := propext Iff.rfl
theorem eVar18 {x0 x1 x2 x3 x4 x5 x6 x7 x8 x9 x10 x11 x12 x13 x14 x15 x16 x17 : Option D} : (aVar 18 (x0 :: x1 :: x2 :: x3 :: x4 :: x5 :: x6 :: x7 :: x8 :: x9 :: x10 :: x11 :: x12 :: x13 :: x14 :: x15 :: x16 :: x17 :: some d :: Γ) M k) = (k d M) := propext Iff.rfl
theorem eVar19 {x0 x1 x2 x3 x4 x5 x6 x7 x8 x9 x10 x11 x12 x13 x14 x15 x16 x17 x18 : Option D} : (aVar 19 (x0 :: x1 :: x2 :: x3 :: x4 :: x5 :: x6 :: x7 :: x8 :: x9 :: x10 :: x11 :: x12 :: x13 :: x14 :: x15 :: x16 :: x17 :: x18 :: some d :: Γ) M k) = (k d M) := propext Iff.rfl
theorem eVar20 {x0 x1 x2 x3 x4 x5 x6 x7 x8 x9 x10 x11 x12 x13 x14 x15 x16 x17 x18 x19 : Option D} : (aVar 20 (x0 :: x1 :: x2 :: x3 :: x4 :: x5 :: x6 :: x7 :: x8 :: x9 :: x10 :: x11 :: x12 :: x13 :: x14 :: x15 :: x16 :: x17 :: x18 :: x19 :: some d :: Γ) M k) = (k d M) := propext Iff.rfl
theorem eVar21 {x0 x1 x2 x3 x4 x5 x6 x7 x8 x9 x10 x11 x12 x13 x14 x15 x16 x17 x18 x19 x20 : Option D} : (aVar 21 (x0 :: x1 :: x2 :: x3 :: x4 :: x5 :: x6 :: x7 :: x8 :: x9 :: x10 :: x11 :: x12 :: x13 :: x14 :: x15 :: x16 :: x17 :: x18 :: x19 :: x20 :: some d :: Γ) M k) = (k d M) := propext Iff.rfl
theorem eVar22 {x0 x1 x2 x3 x4 x5 x6 x7 x8 x9 x10 x11 x12 x13 x14 x15 x16 x17 x18 x19 x20 x21 : Option D} : (aVar 22 (x0 :: x1 :: x2 :: x3 :: x4 :: x5 :: x6 :: x7 :: x8 :: x9 :: x10 :: x11 :: x12 :: x13 :: x14 :: x15 :: x16 :: x17 :: x18 :: x19 :: x20 :: x21 :: some d :: Γ) M k) = (k d M) := propext Iff.rfl
theorem eVar23 {x0 x1 x2 x3 x4 x5 x6 x7 x8 x9 x10 x11 x12 x13 x14 x15 x16 x17 x18 x19 x20 x21 x22 : Option D} : (aVar 23 (x0 :: x1 :: x2 :: x3 :: x4 :: x5 :: x6 :: x7 :: x8 :: x9 :: x10 :: x11 :: x12 :: x13 :: x14 :: x15 :: x16 :: x17 :: x18 :: x19 :: x20 :: x21 :: x22 :: some d :: Γ) M k) = (k d M) := propext Iff.rfl
theorem eVar24 {x0 x1 x2 x3 x4 x5 x6 x7 x8 x9 x10 x11 x12 x13 x14 x15 x16 x17 x18 x19 x20 x21 x22 x23 : Option D} : (aVar 24 (x0 :: x1 :: x2 :: x3 :: x4 :: x5 :: x6 :: x7 :: x8 :: x9 :: x10 :: x11 :: x12 :: x13 :: x14 :: x15 :: x16 :: x17 :: x18 :: x19 :: x20 :: x21 :: x22 :: x23 :: some d :: Γ) M k) = (k d M) := propext Iff.rfl
theorem eVar25 {x0 x1 x2 x3 x4 x5 x6 x7 x8 x9 x10 x11 x12 x13 x14 x15 x16 x17 x18 x19 x20 x21 x22 x23 x24 : Option D} : (aVar 25 (x0 :: x1 :: x2 :: x3 :: x4 :: x5 :: x6 :: x7 :: x8 :: x9 :: x10 :: x11 :: x12 :: x13 :: x14 :: x15 :: x16 :: x17 :: x18 :: x19 :: x20 :: x21 :: x22 :: x23 :: x24 :: some d :: Γ) M k) = (k d M) := propext Iff.rfl
theorem eC  : (aC d Γ M k) = (k d M) := propext Iff.rfl
theorem eOp  : (aOp op fa fb Γ M k) = (fa Γ M fun d M1 => fb Γ M1 fun e M2 => op d e M2 k) := propext Iff.rfl
theorem eAddI  : (bAdd b (.int i) (.int j) M k) = (k (.int (i + j)) M) := propext Iff.rfl
theorem eSub  : (bSub (.int i) (.int j) M k) = (k (.int (i - j)) M) := propext Iff.rfl
theorem eLt  : (bLt (.int i) (.int j) M k) = (k (.bl (decide (i < j))) M) := propext Iff.rfl
theorem eLe  : (bLe (.int i) (.int j) M k) = (k (.bl (decide (i ≤ j))) M) := propext Iff.rfl
theorem eGt  : (bGt (.int i) (.int j) M k) = (k (.bl (decide (j < i))) M) := propext Iff.rfl
theorem eGe  : (bGe (.int i) (.int j) M k) = (k (.bl (decide (j ≤ i))) M) := propext Iff.rfl
theorem eEqI  : (bEq false (.int i) (.int j) M k) = (k (.bl (decide (i = j))) M) := propext Iff.rfl
theorem eNeI  : (bEq true (.int i) (.int j) M k) = (k (.bl (!decide (i = j))) M) := propext Iff.rfl
theorem eEqS  : (bEq false (.str x) (.str y) M k) = (k (.bl (decide (x = y))) M) := propext Iff.rfl
theorem eNeS  : (bEq true (.str x) (.str y) M k) = (k (.bl (!decide (x = y))) M) := propext Iff.rfl
theorem eIsN  : (bIsN d .non M k) = (k (.bl d.isNon) M) := propext Iff.rfl
theorem eNotN  : (bNotN d .non M k) = (k (.bl !d.isNon) M) := propext Iff.rfl
theorem eNeg  : (aNeg f Γ M k) = (f Γ M (kNeg k)) := propext Iff.rfl
theorem eNeg1  : (kNeg k (.int i) M) = (k (.int (-i)) M) := propext Iff.rfl
theorem eB  : (aB f Γ M kt) = (f Γ M (kB kt)) := propext Iff.rfl
theorem eB1  : (kB kt (.bl b) M) = (kt b M) := propext Iff.rfl
theorem eAnd  : (aAnd c c' Γ M kt) = (c Γ M fun b M1 => if b = true then c' Γ M1 kt else kt false M1) := propext Iff.rfl
theorem eOr  : (aOr c c' Γ M kt) = (c Γ M fun b M1 => if b = true then kt true M1 else c' Γ M1 kt) := propext Iff.rfl
theorem eNot  : (aNot c Γ M kt) = (c Γ M fun b M1 => kt (!b) M1) := propext Iff.rfl
theorem eAndV  : (aAndV f g Γ M k) = (f Γ M (kAndV g Γ k)) := propext Iff.rfl
theorem eAndV1  : (kAndV g Γ k (.bl b) M) = (if b = true then g Γ M k else k (.bl false) M) := propext Iff.rfl
theorem eOrV  : (aOrV f g Γ M k) = (f Γ M (kOrV g Γ k)) := propext Iff.rfl
theorem eOrV1  : (kOrV g Γ k (.bl b) M) = (if b = true then k (.bl true) M else g Γ M k) := propext Iff.rfl
theorem eNotV  : (aNotV f Γ M k) = (f Γ M (kNotV k)) := propext Iff.rfl
theorem eNotV1  : (kNotV k (.bl b) M) = (k (.bl !b) M) := propext Iff.rfl
theorem eIf  : (aIf c f g Γ M k) = (c Γ M fun b M1 => if b = true then f Γ M1 k else g Γ M1 k) := propext Iff.rfl
theorem eNil  : (aNil Γ M ka) = (ka [] M) := propext Iff.rfl
theorem eCons  : (aCons f ga Γ M ka) = (f Γ M fun d M1 => ga Γ M1 fun ds M2 => ka (d :: ds) M2) := propext Iff.rfl
theorem eTup  : (aTup ga Γ M k) = (ga Γ M fun ds M1 => ds.length ≤ sizeLine ∧ k (.tup ds) M1) := propext Iff.rfl
theorem eLst  : (aLst b ga Γ M k) = (ga Γ M fun ds M1 => ds.length ≤ sizeLine ∧ nl b ds M1 k) := propext Iff.rfl
theorem eNlF  : (nl false ds M k) = (k (.lst ds) M) := propext Iff.rfl
theorem eNlT  : (nl true ds M k) = (∀ p, M p = none → k (.ref p) (up M p (.obj (.lst ds)))) := propext Iff.rfl
theorem eCB {ac : AC} : (aCB ac ga Γ M k) = (ga Γ M fun ds M1 => ac ds M1 k) := propext Iff.rfl
theorem eCall {F : AF} {xk : EK} : (aCall xk F es ga Γ M k) = (ga Γ M fun ds M1 => F (ds ++ es) M1 k xk) := propext Iff.rfl
theorem eCallK {F : AF} {xk : EK} {ix : List Nat} : (aCallK xk F n m ix es ga gb Γ M k) = (ga Γ M fun ds M1 => gb Γ M1 fun us M2 => ds.length = n ∧ us.length = m ∧ F (pick ix (ds ++ us ++ es)) M2 k xk) := propext Iff.rfl
theorem eNoPart  : (aNoPart Γ M ko) = (ko none M) := propext Iff.rfl
theorem ePart  : (aPart f Γ M ko) = (f Γ M (kPart ko)) := propext Iff.rfl
theorem ePart1  : (kPart ko (.int i) M) = (ko (some i) M) := propext Iff.rfl
theorem eCut {l u : AO} : (aCut b f l u Γ M k) = (f Γ M fun d M1 => l Γ M1 fun lo M2 => u Γ M2 fun hi M3 => sCut b d lo hi M3 k) := propext Iff.rfl
theorem eCutL {lo hi : Option Int} : (sCut b (.lst ds) lo hi M k) = (nl b (cutD ds lo hi) M k) := propext Iff.rfl
theorem eCutSc {lo hi : Option Int} {ns : List Int} : (sCut b (.scr ns) lo hi M k) = (nl b (cutD (ns.map D.int) lo hi) M k) := propext Iff.rfl
theorem eLenT  : (cLen [.tup ds] M k) = (k (.int ds.length) M) := propext Iff.rfl
theorem eLenL  : (cLen [.lst ds] M k) = (k (.int ds.length) M) := propext Iff.rfl
theorem eLenSc {ns : List Int} : (cLen [.scr ns] M k) = (k (.int (ns.map D.int).length) M) := propext Iff.rfl
theorem eAbs  : (cAbs [.int i] M k) = (k (.int (if i < 0 then -i else i)) M) := propext Iff.rfl
theorem eMax2  : (cMax2 [.int i, .int j] M k) = (k (.int (if j > i then j else i)) M) := propext Iff.rfl
theorem eMin2  : (cMin2 [.int i, .int j] M k) = (k (.int (if j < i then j else i)) M) := propext Iff.rfl
theorem eSumL {ns : List Int} : (cSum [.lst (ns.map .int)] M k) = (k (.int ns.sum) M) := by
  show (match (some (ns.map D.int)).bind intsOf with | some ns => k (.int ns.sum) M | none => False) = _
  rw [Option.bind_some, intsOf_map]
theorem eListL  : (cList b [.lst ds] M k) = (nl b ds M k) := propext Iff.rfl
theorem eListT  : (cList b [.tup ds] M k) = (nl b ds M k) := propext Iff.rfl
theorem eMt {om : AM} : (aMt om f ga Γ M k) = (f Γ M (kMt om ga Γ k)) := propext Iff.rfl
theorem eMt0 {om : AM} : (aMt0 om f Γ M k) = (f Γ M (kMt0 om k)) := propext Iff.rfl
theorem eFrz  : (aFrz f Γ M k) = (f Γ M (kFrz k)) := propext Iff.rfl
theorem eFrzL  : (kFrz k (.lst ds) M) = (k (.lst ds) M) := propext Iff.rfl
theorem eGNm  : (gNm n d Γ M kg) = (kg (Γ.set n (some d)) M) := propext Iff.rfl
theorem eGTu {tt : AGs} : (gTu n tt (.tup ds) Γ M kg) = (ds.length = n ∧ tt ds Γ M kg) := propext Iff.rfl
theorem eGCo {t1 : AG} {u1 : AGs} : (gCo t1 u1 (d :: ds) Γ M kg) = (t1 d Γ M fun Γ1 M1 => u1 ds Γ1 M1 kg) := propext Iff.rfl
theorem eGNi  : (gNi [] Γ M kg) = (kg Γ M) := propext Iff.rfl
theorem eGIx  : (gIx fa fb d Γ M kg) = (fa Γ M fun o M1 => fb Γ M1 fun i M2 => stIx o i d M2 fun M3 => kg Γ M3) := propext Iff.rfl
theorem eChain  : (aChain p q fa fb fc Γ M k) = (fa Γ M fun d M1 => fb Γ M1 fun e M2 => kCh p q fc Γ k d e M2) := propext Iff.rfl
theorem eCh1  : (kCh p q fc Γ k (.int i) (.int j) M) = (if p i j = true then fc Γ M (kCh2 q j k) else k (.bl false) M) := propext Iff.rfl
theorem eCh2  : (kCh2 q j k (.int i) M) = (k (.bl (q j i)) M) := propext Iff.rfl
theorem eInL {ns : List Int} : (bIn false (.int i) (.lst (ns.map .int)) M k) = (k (.bl (decide (i ∈ ns))) M) := by
  show (match (some (ns.map D.int)).bind intsOf with | some ns => k (.bl (if false then !decide (i ∈ ns) else decide (i ∈ ns))) M | none => False) = _
  rw [Option.bind_some, intsOf_map]; exact propext Iff.rfl
theorem eNotInL {ns : List Int} : (bIn true (.int i) (.lst (ns.map .int)) M k) = (k (.bl (!decide (i ∈ ns))) M) := by
  show (match (some (ns.map D.int)).bind intsOf with | some ns => k (.bl (if true then !decide (i ∈ ns) else decide (i ∈ ns))) M | none => False) = _
  rw [Option.bind_some, intsOf_map]; exact propext Iff.rfl
theorem eFor {ag : AG} : (aFor w ag s Z Γ M) = (w Γ M fun A M1 => ∃ W : Nat → G → MH → Prop, W 0 Γ M1 ∧ ∀ i Γ M, i ≤ A.items.length → W i Γ M → A.ok M ∧ match A.items[i]? with
  | none => Z.nx Γ M
  | some x => ag x Γ M fun Γ' M' => s { nx := W (i + 1), rt := Z.rt, bk := Z.nx, ct := W (i + 1), ex := Z.ex } Γ' M') := propext Iff.rfl
theorem eWL  : (wLst f Γ M kI) = (f Γ M (kWL kI)) := propext Iff.rfl
theorem eWLL  : (kWL kI (.lst ds) M) = (kI ⟨ds, fun _ => some ds = some ds⟩ M) := propext Iff.rfl
theorem eWLS {ns : List Int} : (kWL kI (.scr ns) M) = (kI ⟨ns.map D.int, fun _ => some (ns.map D.int) = some (ns.map D.int)⟩ M) := propext Iff.rfl
theorem eR1  : (wRg1 ga Γ M kI) = (ga Γ M (kR1 kI)) := propext Iff.rfl
theorem eR1i  : (kR1 kI [.int j] M) = ((-(2 ^ 62) ≤ j ∧ j < 2 ^ 62) ∧ kI ⟨(rng 0 j.toNat).map .int, fun _ => True⟩ M) := propext Iff.rfl
theorem eR2  : (wRg2 ga Γ M kI) = (ga Γ M (kR2 kI)) := propext Iff.rfl
theorem eR2i  : (kR2 kI [.int i, .int j] M) = ((-(2 ^ 62) ≤ i ∧ i < 2 ^ 62 ∧ -(2 ^ 62) ≤ j ∧ j < 2 ^ 62) ∧ kI ⟨(rng i (j - i).toNat).map .int, fun _ => True⟩ M) := propext Iff.rfl
theorem eEn  : (wEn ga Γ M kI) = (ga Γ M (kEn kI)) := propext Iff.rfl
theorem eEnL  : (kEn kI [.lst ds] M) = (kI ⟨enumD 0 ds, fun _ => some ds = some ds⟩ M) := propext Iff.rfl
theorem eEnS {ns : List Int} : (kEn kI [.scr ns] M) = (kI ⟨enumD 0 (ns.map D.int), fun _ => some (ns.map D.int) = some (ns.map D.int)⟩ M) := propext Iff.rfl
theorem eZp  : (wZp ga Γ M kI) = (ga Γ M (kZp kI)) := propext Iff.rfl
theorem eZpL  : (kZp kI [.lst ds, .lst es] M) = (kI ⟨zipD ds es, fun _ => some ds = some ds ∧ some es = some es⟩ M) := propext Iff.rfl
theorem eWT  : (wTp f Γ M kI) = (f Γ M (kTpI kI)) := propext Iff.rfl
theorem eWT1  : (kTpI kI (.tup ds) M) = (kI ⟨ds, fun _ => True⟩ M) := propext Iff.rfl
theorem eWS  : (wSt f Γ M kI) = (f Γ M (kStI kI)) := propext Iff.rfl
theorem eWS1  : (kStI kI (.str x) M) = (kI ⟨signsD x, fun _ => True⟩ M) := propext Iff.rfl
theorem eLc {ag : AG} {vs : List Nat} : (aLc b w ag c f vs Γ M k) = (w Γ M fun A M1 => lcGo b A.ok ag c f (wipeG Γ vs) A.items [] M1 fun ds M2 => nl b ds M2 k) := propext Iff.rfl
theorem eYes  : (aYes Γ M kt) = (kt true M) := propext Iff.rfl
theorem eIxT  : (bIx (.tup ds) (.int i) M k) = (kIx (atI ds i) k M) := propext Iff.rfl
theorem eIxL  : (bIx (.lst ds) (.int i) M k) = (kIx (atI ds i) k M) := propext Iff.rfl
theorem eIxSc {ns : List Int} : (bIx (.scr ns) (.int i) M k) = (kIx (atI (ns.map D.int) i) k M) := propext Iff.rfl
theorem eIx1  : (kIx (some d) k M) = (k d M) := propext Iff.rfl
theorem eIteT {A B : Prop} : (if True then A else B) = (A) := if_pos True.intro
theorem eIteF {A B : Prop} : (if False then A else B) = (B) := if_neg not_false
theorem iKIx {o : Option D} (h : k d M) (q : o = some d) : kIx o k M := by rw [q]; exact h
theorem iKMt {om : AM} (h : ga Γ M fun es M2 => om (.ref a) es M2 k) (q : M a = some (.obj (.lst ds))) : kMt om ga Γ k (.ref a) M := iRdR h q
theorem iKMt0 {om : AM} (h : om (.ref a) [] M k) (q : M a = some (.obj (.lst ds))) : kMt0 om k (.ref a) M := iRdR h q
theorem iKFrz (h : k (.lst ds) (dl M a)) (q : M a = some (.obj (.lst ds))) : kFrz k (.ref a) M := iFrzR h q
end
end M
/-! MBox: boxes opened and closed. -/
namespace M
open PySem L2
def opn (M : MH) : List Addr → List BO → MH
  | [], _ => M
  | _ :: _, [] => M
  | a :: as, b :: bs => opn (up M a (.obj b)) as bs
section
variable {K : PySem.W.Frag} {H I F : Hp} {M M' : MH} {a : Addr} {ps : List Addr} {φ : List BO → Prop}
theorem RelBs.length : ∀ {as : List Addr} {bs : List BO}, RelBs K H I as bs → bs.length = as.length
  | [], bs, h => by rw [show bs = [] from h]; rfl
  | a :: as, bs, ⟨b, r, h1, h2, h3⟩ => by subst h1; rw [List.length_cons, List.length_cons, RelBs.length h3]
theorem opn_cases : ∀ {as : List Addr} {bs : List BO} {M : MH}, RelBs K H I as bs → ∀ x, (x ∉ as ∧ opn M as bs x = M x) ∨ (x ∈ as ∧ ∃ b, opn M as bs x = some (.obj b) ∧ RelB K H I x b)
  | [], bs, M, h, x => .inl ⟨by simp, rfl⟩
  | a :: as, bs, M, ⟨b, r, h1, h2, h3⟩, x => by
    subst h1
    rcases opn_cases (M := up M a (.obj b)) h3 x with ⟨q1, q2⟩ | ⟨q1, q2⟩
    · by_cases e : x = a
      · subst e
        exact .inr ⟨List.mem_cons_self, b, by show opn (up M x (.obj b)) as r x = _; rw [q2, up_same], h2⟩
      · refine .inl ⟨by simp [e, q1], ?_⟩
        show opn (up M a (.obj b)) as r x = _
        rw [q2, up_ne e]
    · exact .inr ⟨List.mem_cons_of_mem _ q1, q2⟩
theorem Conc.open_ (c : Conc K H I M F) (h : M a = some (.box ps φ)) : ∃ bs, φ bs ∧ bs.length = ps.length + 1 ∧ (∀ p ∈ ps, M p = some (.part a)) ∧ Conc K H I (opn M (a :: ps) bs) F := by
  obtain ⟨h1, bs, h2, h3⟩ := c.rel a _ h
  have hin : ∀ x, x ∈ a :: ps → M x ≠ none := fun x hx => by
    rcases List.mem_cons.mp hx with rfl | hx
    · rw [h]; simp
    · rw [h1 x hx]; simp
  refine ⟨bs, h3, by rw [h2.length]; rfl, h1, ⟨c.sub, fun x m => ?_, fun x o e => ?_, fun x o e => ?_⟩⟩
  · rcases opn_cases (M := M) h2 x with ⟨q1, q2⟩ | ⟨q1, q2⟩
    · rw [q2] at m; exact c.fre x m
    · exact c.fre x (hin x q1)
  · rcases opn_cases (M := M) h2 x with ⟨q1, q2⟩ | ⟨q1, b, q2, q3⟩
    · rw [q2] at e
      have hx := c.rel x o e
      cases o with
      | obj b => exact hx
      | part _ => exact hx
      | box ps' φ' =>
        obtain ⟨g1, g2⟩ := hx
        have xa : x ≠ a := fun z => q1 (by rw [z]; exact List.mem_cons_self)
        refine ⟨fun p hp => ?_, g2⟩
        rcases opn_cases (M := M) h2 p with ⟨r1, r2⟩ | ⟨r1, _⟩
        · rw [r2]; exact g1 p hp
        · have := g1 p hp
          rcases List.mem_cons.mp r1 with e' | r1
          · rw [e', h] at this; cases this
          · rw [h1 p r1] at this
            cases this
            exact absurd rfl xa
    · rw [q2] at e; cases e; exact q3
  · obtain ⟨a1, a2, a3⟩ := c.frm x o e
    refine ⟨a1, a2, ?_⟩
    rcases opn_cases (M := M) h2 x with ⟨q1, q2⟩ | ⟨q1, _⟩
    · rw [q2]; exact a3
    · exact absurd a3 (hin x q1)
theorem relBs_of : ∀ {as : List Addr} {bs : List BO}, bs.length = as.length → (∀ (i : Nat) x b, as[i]? = some x → bs[i]? = some b → RelB K H I x b) → RelBs K H I as bs
  | [], bs, l, _ => List.eq_nil_of_length_eq_zero l
  | a :: as, [], l, _ => by simp at l
  | a :: as, b :: bs, l, h => ⟨b, bs, rfl, h 0 a b rfl rfl, relBs_of (by simpa using l) fun i x c e1 e2 => h (i + 1) x c (by simpa using e1) (by simpa using e2)⟩
theorem Abs.close {bs : List BO} (h0 : φ bs) (len : bs.length = ps.length + 1) (hM : ∀ (i : Nat) x b, (a :: ps)[i]? = some x → bs[i]? = some b → M x = some (.obj b)) (hM' : M' a = some (.box ps φ)) (hp : ∀ p ∈ ps, M' p = some (.part a)) (ho : ∀ x, x ∉ a :: ps → M' x = M x) : Abs M M' := fun K H I F c => by
  have hin : ∀ x, x ∈ a :: ps → ∃ b, M x = some (.obj b) := fun x hx => by
    obtain ⟨i, hi⟩ := List.getElem?_of_mem hx
    have hl : i < bs.length := by rw [len]; exact (List.getElem?_eq_some_iff.mp hi).1
    exact ⟨bs[i], hM i x _ hi (List.getElem?_eq_getElem hl)⟩
  refine ⟨c.sub, fun x m => ?_, fun x o e => ?_, fun x o e => ?_⟩
  · by_cases q : x ∈ a :: ps
    · obtain ⟨b, hb⟩ := hin x q
      exact c.fre x (by rw [hb]; simp)
    · rw [ho x q] at m; exact c.fre x m
  · by_cases q : x ∈ a :: ps
    · obtain ⟨b, hb⟩ := hin x q
      by_cases qa : x = a
      · subst qa
        rw [hM'] at e; cases e
        refine ⟨hp, bs, relBs_of (by rw [len]; rfl) fun i y b e1 e2 => ?_, h0⟩
        exact c.rel y _ (hM i y b e1 e2)
      · have : x ∈ ps := (List.mem_cons.mp q).resolve_left qa
        rw [hp x this] at e; cases e
        exact (c.rel x _ hb).ne0
    · rw [ho x q] at e
      have hx := c.rel x o e
      cases o with
      | obj b => exact hx
      | part _ => exact hx
      | box ps' φ' =>
        obtain ⟨g1, g2⟩ := hx
        refine ⟨fun p hp' => ?_, g2⟩
        have : p ∉ a :: ps := fun z => by
          obtain ⟨b, hb⟩ := hin p z
          rw [g1 p hp'] at hb; cases hb
        rw [ho p this]; exact g1 p hp'
  · obtain ⟨a1, a2, a3⟩ := c.frm x o e
    refine ⟨a1, a2, ?_⟩
    have : x ∉ a :: ps := fun z => by
      obtain ⟨b, hb⟩ := hin x z
      rw [a3] at hb; cases hb
    rw [ho x this]; exact a3
end
/-- the box in slot i is opened ahead of a block -/
def gOpen (i : Nat) (s : AS) : AS := fun D Γ M => ∃ a ps φ, Γ[i]? = some (some (.ref a)) ∧ M a = some (.box ps φ) ∧ ∀ bs, φ bs → bs.length = ps.length + 1 → (∀ p ∈ ps, M p = some (.part a)) → s D Γ (opn M (a :: ps) bs)
theorem ss_open (i : Nat) {X : Cx} {sts : List Stmt} {s : AS} (h : PSs X sts (liftS X.K s)) : PSs X sts (liftS X.K (gOpen i s)) := h.imp fun E σ H ⟨Γ, M, I, F, D, hs, hc, hf, hk⟩ => by
  obtain ⟨a, ps, φ, _, h2, h3⟩ := hf
  obtain ⟨bs, b1, b2, b3, c2⟩ := hc.open_ h2
  exact ⟨Γ, _, I, F, D, hs, c2, h3 bs b1 b2 b3, hk⟩
end M
/-! MGen: steps on data of which only is known what it holds. -/
namespace M
open PySem L2
section
variable {Γ : G} {M : MH} {k : AK} {kI : AIt → MH → Prop} {d e x : D} {ds es : List D} {i : Int} {b : Bool} {lo hi : Option Int}
theorem iLenG (h : k (.int ds.length) M) (q : rdS M d = some ds) : cLen [d] M k := by
  cases d with
  | lst l => cases q; exact h
  | scr l => cases q; exact h
  | ref a =>
    show match rdS M (.ref a) with | some xs => k (.int xs.length) M | none => False
    rw [q]; exact h
  | _ => cases q
theorem iWLG (h : kI ⟨ds, fun M => rdS M d = some ds⟩ M) (q : rdS M d = some ds) : kWL kI d M := by
  unfold kWL; rw [q]; exact h
theorem iEnG (h : kI ⟨enumD 0 ds, fun M => rdS M d = some ds⟩ M) (q : rdS M d = some ds) : kEn kI [d] M := by
  show match rdS M d with | some xs => kI ⟨enumD 0 xs, fun M => rdS M d = some xs⟩ M | none => False
  rw [q]; exact h
theorem iZpG (h : kI ⟨zipD ds es, fun M => rdS M d = some ds ∧ rdS M e = some es⟩ M) (q : rdS M d = some ds) (q2 : rdS M e = some es) : kZp kI [d, e] M := by
  show match rdS M d, rdS M e with | some xs, some ys => kI ⟨zipD xs ys, fun M => rdS M d = some xs ∧ rdS M e = some ys⟩ M | _, _ => False
  rw [q, q2]; exact h
theorem iIxG (h : k x M) (q : rdS M d = some ds) (q2 : atI ds i = some x) : bIx d (.int i) M k := by
  have g : (match rdS M d with | some ds => (match atI ds i with | some x => k x M | none => False) | none => False) := by
    rw [q]; show match atI ds i with | some x => k x M | none => False
    rw [q2]; exact h
  cases d with
  | lst l => exact g
  | scr l => exact g
  | ref a => exact g
  | _ => cases q
theorem iCutG (h : nl b (cutD ds lo hi) M k) (q : rdS M d = some ds) : sCut b d lo hi M k := by
  have g : (match rdS M d with | some ds => nl b (cutD ds lo hi) M k | none => False) := by rw [q]; exact h
  cases d with
  | lst l => exact g
  | scr l => exact g
  | ref a => exact g
  | _ => cases q
theorem iListG (h : nl b ds M k) (q : rdS M d = some ds) : cList b [d] M k := by
  have g : (match rdS M d with | some ds => nl b ds M k | none => False) := by rw [q]; exact h
  cases d with
  | lst l => exact g
  | scr l => exact g
  | ref a => exact g
  | _ => cases q
theorem iSumG {ns : List Int} (h : k (.int ns.sum) M) (q : rdS M d = some (ns.map .int)) : cSum [d] M k := by
  show match (rdS M d).bind intsOf with | some ns => k (.int ns.sum) M | none => False
  rw [q, Option.bind_some, intsOf_map]; exact h
end
/-- a list that is known stays readable while the small heap changes elsewhere -/
theorem rdS_up {M : MH} {d : D} {ds : List D} {a : Addr} {o : MO} (h : rdS M d = some ds) (n : M a = none ∨ (∀ es, M a ≠ some (.obj (.lst es)))) : rdS (up M a o) d = some ds := by
  cases d with
  | lst l => exact h
  | scr l => exact h
  | ref b =>
    have hb : b ≠ a := fun z => by
      subst z
      have h : (match M b with | some (.obj (.lst ds)) => some ds | _ => none) = some ds := h
      rcases n with n | n
      · rw [n] at h; cases h
      · split at h
        · rename_i es e; exact n _ e
        · cases h
    show (match up M a o b with | some (.obj (.lst ds)) => some ds | _ => none) = some ds
    rw [up_ne hb]; exact h
  | _ => cases h
theorem rdS_new {M : MH} {d : D} {ds : List D} {a : Addr} {o : MO} (h : rdS M d = some ds) (n : M a = none) : rdS (up M a o) d = some ds := rdS_up h (.inl n)
theorem at_int (ns : List Int) {i : Nat} {n : Int} (h : ns[i]? = some n) : (ns.map D.int)[i]? = some (.int n) := by rw [List.getElem?_map, h]; rfl
/-- the items of a mapped list -/
theorem map_get {α : Type} {ι : α → D} {xs : List α} {i : Nat} {d : D} (h : (xs.map ι)[i]? = some d) : ∃ x, xs[i]? = some x ∧ d = ι x := by
  rw [List.getElem?_map] at h
  cases q : xs[i]? with
  | none => rw [q] at h; cases h
  | some x => rw [q] at h; cases h; exact ⟨x, rfl, rfl⟩
theorem enum_get {α : Type} {ι : α → D} {xs : List α} {i n : Nat} {d : D} (h : (enumD n (xs.map ι))[i]? = some d) : ∃ x, xs[i]? = some x ∧ d = .tup [.int ((n + i : Nat) : Int), ι x] := by
  rw [enumD_get] at h
  cases q : (xs.map ι)[i]? with
  | none => rw [q] at h; cases h
  | some y =>
    rw [q] at h; cases h
    obtain ⟨x, h1, rfl⟩ := map_get q
    exact ⟨x, h1, rfl⟩
theorem enumD_length : ∀ {ds : List D} {n : Nat}, (enumD n ds).length = ds.length
  | [], _ => rfl
  | d :: ds, n => by show (enumD (n + 1) ds).length + 1 = _; rw [enumD_length]; rfl
theorem zip_get {α β : Type} {ι : α → D} {κ : β → D} {xs : List α} {ys : List β} {i : Nat} {d : D} (h : (zipD (xs.map ι) (ys.map κ))[i]? = some d) : ∃ x y, xs[i]? = some x ∧ ys[i]? = some y ∧ d = .tup [ι x, κ y] := by
  rw [zipD_get] at h
  cases q : (xs.map ι)[i]? with
  | none => rw [q] at h; cases h
  | some a =>
    cases q2 : (ys.map κ)[i]? with
    | none => rw [q, q2] at h; cases h
    | some c =>
      rw [q, q2] at h; cases h
      obtain ⟨x, h1, rfl⟩ := map_get q
      obtain ⟨y, h2, rfl⟩ := map_get q2
      exact ⟨x, y, h1, h2, rfl⟩
theorem take_succ {α : Type} {l : List α} {i : Nat} {x : α} (h : l[i]? = some x) : l.take (i + 1) = l.take i ++ [x] := by
  rw [List.take_succ, h]; rfl
theorem sum_snoc : ∀ (l : List Rat) (x : Rat), (l ++ [x]).sum = l.sum + x
  | [], x => by rw [List.nil_append, List.sum_cons, List.sum_nil, Rat.add_zero, Rat.zero_add]
  | a :: l, x => by rw [List.cons_append, List.sum_cons, List.sum_cons, sum_snoc l x, Rat.add_assoc]
theorem sum_snocI : ∀ (l : List Int) (x : Int), (l ++ [x]).sum = l.sum + x
  | [], x => by rw [List.nil_append, List.sum_cons, List.sum_nil, Int.add_zero, Int.zero_add]
  | a :: l, x => by rw [List.cons_append, List.sum_cons, List.sum_cons, sum_snocI l x, Int.add_assoc]
theorem Sm.zero : Sm 0 := ⟨by show (0 : Nat) < b40; rw [b40_eq]; exact Nat.two_pow_pos _, by show (1 : Nat) < b40; rw [b40_eq]; exact Nat.one_lt_two_pow (by decide)⟩
/-- for over a list of items, the state told by the turn -/
theorem for_go {xs : List D} {ok : MH → Prop} {E : G → MH → Prop} {B : (Nat → G → MH → Prop) → Nat → D → G → MH → Prop} {Γ : G} {M : MH} (W : Nat → G → MH → Prop) (h0 : W 0 Γ M) (step : ∀ i Γ M x, xs[i]? = some x → W i Γ M → ok M ∧ B W i x Γ M) (hend : ∀ Γ M, W xs.length Γ M → ok M ∧ E Γ M) :
    ∃ W : Nat → G → MH → Prop, W 0 Γ M ∧ ∀ i Γ M, i ≤ xs.length → W i Γ M → ok M ∧ match xs[i]? with
      | none => E Γ M
      | some x => B W i x Γ M := by
  refine ⟨W, h0, fun i Γ M hi w => ?_⟩
  cases q : xs[i]? with
  | none =>
    have := List.getElem?_eq_none_iff.mp q
    have e : i = xs.length := Nat.le_antisymm hi this
    subst e
    exact hend Γ M w
  | some x => exact step i Γ M x q w
end M
/-! MTray: comprehensions by states, boxes made weaker, the tray of draws, likeness, bounds of fractions. -/
namespace M
open PySem L2
theorem lc_st {m : Bool} {ok : MH → Prop} {g : AG} {te : AE} {Γ : G} {k : List D → MH → Prop} {xs : List D} (W : Nat → List D → MH → Prop) (hl : xs.length ≤ 1000000)
    (step : ∀ i x acc M, xs[i]? = some x → acc.length = i → W i acc M → ok M ∧ ∀ kd : AK, (∀ d M2, W (i + 1) (acc ++ [d]) M2 → kd d M2) → g x Γ M fun Γ' M' => te Γ' M' kd)
    (hend : ∀ acc M, acc.length = xs.length → W xs.length acc M → ok M ∧ k acc M) : ∀ {M : MH}, W 0 [] M → lcGo m ok g aYes te Γ xs [] M k := by
  have go : ∀ (n i : Nat) (acc : List D) (M : MH), n = xs.length - i → i ≤ xs.length → acc.length = i → W i acc M → lcGo m ok g aYes te Γ (xs.drop i) acc M k := by
    intro n
    induction n with
    | zero =>
      intro i acc M hn hi ha w
      have : i = xs.length := by omega
      subst this
      rw [List.drop_length]
      exact hend acc M ha w
    | succ n ih =>
      intro i acc M hn hi ha w
      have hlt : i < xs.length := by omega
      rw [List.drop_eq_getElem_cons hlt]
      obtain ⟨h1, h2⟩ := step i xs[i] acc M (List.getElem?_eq_getElem hlt) ha w
      refine ⟨h1, ?_⟩
      show g xs[i] Γ M fun Γ' M' => if true = true then te Γ' M' fun d M2 => acc.length < sizeLine ∧ lcGo m ok g aYes te Γ (xs.drop (i + 1)) (acc ++ [d]) M2 k else lcGo m ok g aYes te Γ (xs.drop (i + 1)) acc M' k
      simp only [if_true]
      exact h2 _ fun d M2 w2 => ⟨by rw [sizeLine_eq]; omega, ih (i + 1) _ M2 (by omega) hlt (by rw [List.length_append, ha]; rfl) w2⟩
  intro M w
  exact go xs.length 0 [] M rfl (Nat.zero_le _) rfl w
theorem Abs.mono_box {M : MH} {a : Addr} {ps : List Addr} {φ ψ : List BO → Prop} (h : M a = some (.box ps φ)) (i : ∀ bs, φ bs → ψ bs) : Abs M (up M a (.box ps ψ)) := fun K H I F c => by
  have e : ∀ x, up M a (.box ps ψ) x = none → M x = none := fun x q => by
    by_cases z : x = a
    · subst z; rw [up_same] at q; cases q
    · rwa [up_ne z] at q
  have pt : ∀ x o, M x = some (.part o) → up M a (.box ps ψ) x = some (.part o) := fun x o q => by
    rw [up_ne (fun z => by subst z; rw [h] at q; cases q)]; exact q
  refine ⟨c.sub, fun x m => c.fre x fun q => m ?_, fun x o q => ?_, fun x o q => ?_⟩
  · rw [up_ne (fun z => by subst z; rw [h] at q; cases q)]; exact q
  · by_cases z : x = a
    · subst z
      rw [up_same] at q; cases q
      obtain ⟨h1, bs, h2, h3⟩ := c.rel x _ h
      exact ⟨fun p hp => pt _ _ (h1 p hp), bs, h2, i bs h3⟩
    · rw [up_ne z] at q
      have hx := c.rel x o q
      cases o with
      | obj b => exact hx
      | part _ => exact hx
      | box ps' φ' =>
        obtain ⟨g1, g2⟩ := hx
        exact ⟨fun p hp => pt _ _ (g1 p hp), g2⟩
  · obtain ⟨a1, a2, a3⟩ := c.frm x o q
    refine ⟨a1, a2, ?_⟩
    rw [up_ne (fun z => by subst z; rw [h] at a3; cases a3)]; exact a3
/-! ### the tray -/
def TrayA (g : Addr) (b : Nat) : List BO → Prop := fun bs => ∃ (gs : List Int) (t f c : Int), bs = [.lst [.ref g, .int t, .int f, .int c], .lst (gs.map .int)] ∧ (∀ x ∈ gs, 0 ≤ x) ∧ 0 ≤ t ∧ 0 ≤ f ∧ f < 2305843009213693952 ∧ 0 ≤ c ∧ c + b ≤ 1152921504606846976
def tray (g : Addr) (b : Nat) : MO := .box [g] (TrayA g b)
theorem TrayA.mono {g : Addr} {b b' : Nat} (h : b' ≤ b) : ∀ bs, TrayA g b bs → TrayA g b' bs := by
  rintro bs ⟨gs, t, f, c, rfl, h1, h2, h3, h4, h5, h6⟩
  exact ⟨gs, t, f, c, rfl, h1, h2, h3, h4, h5, by omega⟩
theorem Abs.tray_le {M : MH} {t g : Addr} {b b' : Nat} (h : b' ≤ b) : Abs (up M t (tray g b)) (up M t (tray g b')) := by
  have := Abs.mono_box (M := up M t (tray g b)) (a := t) up_same (TrayA.mono (g := g) h)
  rwa [up_up] at this
theorem fin.tray_le {k : AK} {d : D} {M : MH} {t g : Addr} {b b' : Nat} (h : b' ≤ b) (hk : k d (up M t (tray g b'))) : fin k d (up M t (tray g b)) := ⟨_, Abs.tray_le h, hk⟩
/-! ### likeness -/
/-- both are alike, at most n deep -/
def Alk (M : MH) : Nat → D → D → Prop
  | 0, _, _ => False
  | n + 1, d, e => (d = .non ∧ e = .non) ∨ (∃ b, d = .bl b ∧ e = .bl b) ∨ (∃ i, d = .int i ∧ e = .int i) ∨ (∃ x, d = .str x ∧ e = .str x) ∨
    (∃ ds es : List D, ((d = .tup ds ∧ e = .tup es) ∨ (rdL M d = some ds ∧ rdL M e = some es)) ∧ ds.length = es.length ∧ ds.length ≤ 1000000 ∧ ∀ (i : Nat) (x y : D), ds[i]? = some x → es[i]? = some y → Alk M n x y)
theorem Alk.int {M : MH} {n : Nat} {i : Int} : Alk M (n + 1) (.int i) (.int i) := .inr (.inr (.inl ⟨i, rfl, rfl⟩))
theorem Alk.str {M : MH} {n : Nat} {i : Str} : Alk M (n + 1) (.str i) (.str i) := .inr (.inr (.inr (.inl ⟨i, rfl, rfl⟩)))
theorem Alk.fr {M : MH} {n : Nat} {x : Rat} : Alk M (n + 2) (frD x) (frD x) := by
  refine .inr (.inr (.inr (.inr ⟨_, _, .inl ⟨rfl, rfl⟩, rfl, by simp, fun i x y h1 h2 => ?_⟩)))
  have : i = 0 ∨ i = 1 := by
    have := (List.getElem?_eq_some_iff.mp h1).1
    simp only [List.length_cons, List.length_nil] at this
    omega
  rcases this with rfl | rfl
  · cases h1; cases h2; exact .int
  · cases h1; cases h2; exact .int
theorem Alk.same {M : MH} {n : Nat} {d e : D} {ds : List D} (h1 : rdL M d = some ds) (h2 : rdL M e = some ds) (hl : ds.length ≤ 1000000) (h : ∀ x ∈ ds, Alk M n x x) : Alk M (n + 1) d e :=
  .inr (.inr (.inr (.inr ⟨ds, ds, .inr ⟨h1, h2⟩, rfl, hl, fun i x y q1 q2 => by rw [q1] at q2; cases q2; exact h x (List.mem_of_getElem? q1)⟩)))
theorem Alk.two {M : MH} {n : Nat} {a b c d : D} (h1 : Alk M n a c) (h2 : Alk M n b d) : Alk M (n + 1) (.lst [a, b]) (.lst [c, d]) := by
  refine .inr (.inr (.inr (.inr ⟨_, _, .inr ⟨rfl, rfl⟩, rfl, by simp, fun i x y q1 q2 => ?_⟩)))
  have : i = 0 ∨ i = 1 := by
    have := (List.getElem?_eq_some_iff.mp q1).1
    simp only [List.length_cons, List.length_nil] at this
    omega
  rcases this with rfl | rfl
  · cases q1; cases q2; exact h1
  · cases q1; cases q2; exact h2
theorem rdS_of {M : MH} {d : D} {ds : List D} (h : rdL M d = some ds) : rdS M d = some ds := by
  cases d with
  | scr n => cases h
  | _ => exact h
/-! ### bounds of fractions -/
/-- no farther from nought than V, with a bottom that divides D -/
structure Bnd (V D : Nat) (x : Rat) : Prop where
  den : ∃ a : Int, x * (D : Rat) = (a : Rat)
  lo : -(V : Rat) ≤ x
  hi : x ≤ (V : Rat)
theorem Bnd.add {V W D : Nat} {x y : Rat} (h : Bnd V D x) (g : Bnd W D y) : Bnd (V + W) D (x + y) := by
  obtain ⟨a, ha⟩ := h.den
  obtain ⟨b, hb⟩ := g.den
  have e : ((V + W : Nat) : Rat) = (V : Rat) + (W : Rat) := by exact_mod_cast Rat.natCast_add V W
  have h1 := h.lo
  have h2 := h.hi
  have h3 := g.lo
  have h4 := g.hi
  refine ⟨⟨a + b, by rw [Rat.add_mul, ha, hb, Rat.intCast_add]⟩, ?_, ?_⟩
  · rw [e]; grind
  · rw [e]; grind
theorem Bnd.mono {V W D : Nat} {x : Rat} (h : Bnd V D x) (l : V ≤ W) : Bnd W D x := by
  have : (V : Rat) ≤ (W : Rat) := Rat.natCast_le_natCast.mpr l
  exact ⟨h.den, Rat.le_trans (Rat.neg_le_neg this) h.lo, Rat.le_trans h.hi this⟩
theorem Bnd.zero {V D : Nat} : Bnd V D 0 := by
  have h0 : (0 : Rat) ≤ (V : Rat) := Rat.natCast_nonneg
  refine ⟨⟨0, by rw [Rat.zero_mul]; rfl⟩, ?_, h0⟩
  have := Rat.neg_le_neg h0
  rwa [Rat.neg_zero] at this
theorem Bnd.den_dvd {V D : Nat} {x : Rat} (h : Bnd V D x) : x.den ∣ D := by
  obtain ⟨a, ha⟩ := h.den
  have h1 : x.num * (D : Int) = a * (x.den : Int) := by
    rw [Rat.mul_def', Rat.num_natCast, Rat.den_natCast, Nat.mul_one, show ((a : Int) : Rat) = mkRat a 1 from (Rat.mkRat_one a).symm] at ha
    have := (Rat.mkRat_eq_iff x.den_nz (by decide)).mp ha
    rwa [Int.natCast_one, Int.mul_one] at this
  have h2 : x.den ∣ x.num.natAbs * D := by
    have := congrArg Int.natAbs h1
    rw [Int.natAbs_mul, Int.natAbs_mul, Int.natAbs_natCast, Int.natAbs_natCast] at this
    exact ⟨a.natAbs, by rw [this, Nat.mul_comm]⟩
  exact Nat.Coprime.dvd_of_dvd_mul_left x.reduced.symm h2
theorem Bnd.num_le {V D : Nat} {x : Rat} (h : Bnd V D x) : x.num.natAbs ≤ V * x.den := by
  have h1 := (Rat.le_iff _ _).mp h.hi
  have h2 := (Rat.le_iff _ _).mp h.lo
  simp only [Rat.num_natCast, Rat.den_natCast, Rat.neg_num, Rat.neg_den] at h1 h2
  have e1 : x.num ≤ (V : Int) * (x.den : Int) := by simpa using h1
  have e2 : -((V : Int) * (x.den : Int)) ≤ x.num := by
    have : -(V : Int) * (x.den : Int) ≤ x.num := by simpa using h2
    rwa [Int.neg_mul] at this
  have e3 : ((V * x.den : Nat) : Int) = (V : Int) * (x.den : Int) := by exact_mod_cast rfl
  omega
theorem Bnd.sm {V D : Nat} {x : Rat} (h : Bnd V D x) (hD : 0 < D) (hD' : D < b40) (hV : V * D < b40) : Sm x := by
  have l := Nat.le_of_dvd hD h.den_dvd
  refine ⟨?_, Nat.lt_of_le_of_lt l hD'⟩
  exact Nat.lt_of_le_of_lt (Nat.le_trans h.num_le (Nat.mul_le_mul_left V l)) hV
theorem Bnd.sum {V D : Nat} : ∀ {xs : List Rat}, (∀ x ∈ xs, Bnd V D x) → Bnd (V * xs.length) D xs.sum
  | [], _ => by rw [List.sum_nil]; exact Bnd.zero
  | x :: xs, h => by
    rw [List.sum_cons, List.length_cons, Nat.mul_succ, Nat.add_comm]
    exact (h x List.mem_cons_self).add (Bnd.sum fun y hy => h y (List.mem_cons_of_mem _ hy))
theorem iPow3 {i j c : Int} {k : AK} {M : MH} (h : k (.int c) M) (e : i ^ j.toNat = c) (l : CPow i j) : bPow (.int i) (.int j) M k := by subst e; exact ⟨l, h⟩
theorem iIxRk {a : Addr} {ds : List D} {i : Int} {k : AK} {M : MH} (h : kIx (atI ds i) k M) (q : M a = some (.obj (.lst ds))) : bIx (.ref a) (.int i) M k := by
  show match rdL M (.ref a) with | some ds => kIx (atI ds i) k M | none => False
  have : rdL M (.ref a) = some ds := rdL_ref q
  rw [this]; exact h
theorem iStIxk {a : Addr} {ds : List D} {i : Int} {n : Nat} {d : D} {M : MH} {km : MH → Prop} (h : km (up M a (.obj (.lst (ds.set n d))))) (q : M a = some (.obj (.lst ds))) (l : ixN ds.length i = some n) : stIx (.ref a) (.int i) d M km := iStIx h q l
end M
/-! MEqT: == over data of numbers, None, tuples and lists. -/
namespace M
open PySem L2
inductive T where
  | non | int (i : Int) | tup (ts : List T) | lst (ts : List T)
mutual
def T.d : T → D
  | .non => .non
  | .int i => .int i
  | .tup ts => .tup (T.ds ts)
  | .lst ts => .lst (T.ds ts)
def T.ds : List T → List D
  | [] => []
  | t :: ts => t.d :: T.ds ts
end
mutual
def T.py : T → PyData
  | .non => .none
  | .int i => .int i
  | .tup ts => .tuple (T.pys ts)
  | .lst ts => .list (T.pys ts)
def T.pys : List T → List PyData
  | [] => []
  | t :: ts => t.py :: T.pys ts
end
mutual
/-- how deep -/
def T.dep : T → Nat
  | .non => 0
  | .int _ => 0
  | .tup ts => T.deps ts + 1
  | .lst ts => T.deps ts + 1
def T.deps : List T → Nat
  | [] => 0
  | t :: ts => max t.dep (T.deps ts)
end
mutual
theorem eqv_T : ∀ (t u : T), PyData.eqv t.py u.py = true ↔ t = u
  | .non, u => by cases u <;> simp [T.py, PyData.eqv]
  | .int i, u => by cases u <;> simp [T.py, PyData.eqv]
  | .tup ts, u => by
    cases u with
    | tup us =>
      rw [T.py, T.py, PyData.eqv, eqv_Ts ts us]
      exact ⟨fun h => by rw [h], fun h => by injection h⟩
    | _ => simp [T.py, PyData.eqv]
  | .lst ts, u => by
    cases u with
    | lst us =>
      rw [T.py, T.py, PyData.eqv, eqv_Ts ts us]
      exact ⟨fun h => by rw [h], fun h => by injection h⟩
    | _ => simp [T.py, PyData.eqv]
theorem eqv_Ts : ∀ (ts us : List T), PyData.eqvAll (T.pys ts) (T.pys us) = true ↔ ts = us
  | [], us => by cases us <;> simp [T.pys, PyData.eqvAll]
  | t :: ts, us => by
    cases us with
    | nil => simp [T.pys, PyData.eqvAll]
    | cons u us =>
      rw [T.pys, T.pys, PyData.eqvAll, Bool.and_eq_true, eqv_T t u, eqv_Ts ts us]
      exact ⟨fun h => by rw [h.1, h.2], fun h => by injection h with h1 h2; exact ⟨h1, h2⟩⟩
end
mutual
theorem T.d_py : ∀ t : T, t.d.py = some t.py
  | .non => by rw [T.d, T.py, D.py]
  | .int i => by rw [T.d, T.py, D.py]
  | .tup ts => by rw [T.d, T.py, D.py, T.ds_pys ts]; rfl
  | .lst ts => by rw [T.d, T.py, D.py, T.ds_pys ts]; rfl
theorem T.ds_pys : ∀ ts : List T, D.pys (T.ds ts) = some (T.pys ts)
  | [] => by rw [T.ds, T.pys, D.pys]
  | t :: ts => by rw [T.ds, T.pys, D.pys, T.d_py t, T.ds_pys ts]
end
mutual
theorem T.rd_d (M : MH) : ∀ (n : Nat) (t : T), rdD M n t.d = t.d
  | 0, t => by rfl
  | n + 1, .non => by rfl
  | n + 1, .int i => by rfl
  | n + 1, .tup ts => by
    rw [T.d]
    show D.tup _ = _
    rw [T.rd_ds M n ts]
  | n + 1, .lst ts => by
    rw [T.d]
    show D.lst _ = _
    rw [T.rd_ds M n ts]
theorem T.rd_ds (M : MH) : ∀ (n : Nat) (ts : List T), (T.ds ts).map (rdD M n) = T.ds ts
  | n, [] => rfl
  | n, t :: ts => by rw [T.ds, List.map_cons, T.rd_d M n t, T.rd_ds M n ts]
end
mutual
theorem T.lay : ∀ t : T, t.py.canLay0 = true ∧ t.py.depth = t.dep
  | .non => by simp [T.py, PyData.canLay0, PyData.depth, T.dep]
  | .int i => by simp [T.py, PyData.canLay0, PyData.depth, T.dep]
  | .tup ts => by
    have := T.lays ts
    rw [T.py, PyData.canLay0, PyData.depth, T.dep, this.2]; exact ⟨this.1, rfl⟩
  | .lst ts => by
    have := T.lays ts
    rw [T.py, PyData.canLay0, PyData.depth, T.dep, this.2]; exact ⟨this.1, rfl⟩
theorem T.lays : ∀ ts : List T, PyData.canLayAll0 (T.pys ts) = true ∧ PyData.depthAll (T.pys ts) = T.deps ts
  | [] => by simp [T.pys, PyData.canLayAll0, PyData.depthAll, T.deps]
  | t :: ts => by
    have h1 := T.lay t
    have h2 := T.lays ts
    rw [T.pys, PyData.canLayAll0, PyData.depthAll, T.deps, h1.1, h1.2, h2.1, h2.2]; exact ⟨rfl, rfl⟩
end
theorem T.shaped {t : T} (h : t.dep ≤ 64) : SeqAt.shaped t.py = true := by
  unfold SeqAt.shaped
  rw [t.lay.1, t.lay.2, Bool.true_and]; exact decide_eq_true h
/-- what a datum holds -/
def RdT (M : MH) (d : D) (t : T) : Prop := (rdD M 4 d).py = some t.py ∧ t.dep ≤ 64
theorem RdT.of (M : MH) {t : T} (h : t.dep ≤ 64) : RdT M t.d t := ⟨by
  have := T.rd_d M 4 t
  rw [show rdD M 4 t.d = rdD M 4 t.d from rfl] at this
  rw [this]; exact t.d_py, h⟩
theorem RdT.ref {M : MH} {a : Addr} {ts : List T} (h : M a = some (.obj (.lst (T.ds ts)))) (hd : T.deps ts < 64) : RdT M (.ref a) (.lst ts) := ⟨by
  have e : rdD M 4 (.ref a) = .lst ((T.ds ts).map (rdD M 3)) := by
    show (match M a with | some (.obj (.lst ds)) => D.lst (ds.map (rdD M 3)) | _ => .ref a) = _
    rw [h]
  have := T.rd_ds M 3 ts
  rw [show (T.ds ts).map (rdD M 3) = (T.ds ts).map (rdD M 3) from rfl] at this
  rw [e, this, D.py, T.ds_pys]; rfl, hd⟩
open Classical in
theorem iEqT {neg : Bool} {d e : D} {t u : T} {M : MH} {k : AK} (h : k (.bl (if neg then !decide (t = u) else decide (t = u))) M) (h1 : RdT M d t) (h2 : RdT M e u) : bEq neg d e M k := by
  have q : PyData.eqv t.py u.py = decide (t = u) := by
    by_cases z : t = u
    · rw [decide_eq_true z]; exact (eqv_T t u).mpr z
    · rw [decide_eq_false z]
      cases w : PyData.eqv t.py u.py with
      | false => rfl
      | true => exact absurd ((eqv_T t u).mp w) z
  have gen : ∃ x y, (rdD M 4 d).py = some x ∧ (rdD M 4 e).py = some y ∧ SeqAt.shaped x = true ∧ SeqAt.shaped y = true ∧ k (.bl (if neg then !PyData.eqv x y else PyData.eqv x y)) M :=
    ⟨_, _, h1.1, h2.1, T.shaped h1.2, T.shaped h2.2, by rw [q]; exact h⟩
  unfold bEq
  split
  · rename_i i j
    have e1 := h1.1
    have e2 := h2.1
    have e1 : some (PyData.int i) = some t.py := e1
    have e2 : some (PyData.int j) = some u.py := e2
    have e1 := Option.some.inj e1
    have e2 := Option.some.inj e2
    have : decide (t = u) = decide (i = j) := by
      rw [← q, ← e1, ← e2, PyData.eqv]
      by_cases z : i = j <;> simp [z]
    rw [this] at h; exact h
  · rename_i x y
    have e1 := h1.1
    have e1 : some (PyData.str x) = some t.py := e1
    have e1 := Option.some.inj e1
    cases t <;> (rw [T.py] at e1; cases e1)
  · exact gen
def tI (ns : List Int) : T := .lst (ns.map .int)
def tF (x : Rat) : T := .tup [.int x.num, .int (x.den : Int)]
def tFs (xs : List Rat) : T := .lst (xs.map tF)
theorem tF_d (x : Rat) : (tF x).d = frD x := rfl
theorem ds_map {α : Type} (f : α → T) : ∀ xs : List α, T.ds (xs.map f) = xs.map fun x => (f x).d
  | [] => rfl
  | x :: xs => by rw [List.map_cons, T.ds, ds_map f xs]; rfl
theorem tI_d (ns : List Int) : (tI ns).d = .lst (ns.map .int) := by unfold tI; rw [T.d, ds_map]; rfl
theorem tFs_d (xs : List Rat) : (tFs xs).d = .lst (xs.map frD) := by unfold tFs; rw [T.d, ds_map]; rfl
theorem deps_le {α : Type} {f : α → T} {n : Nat} : ∀ {xs : List α}, (∀ x ∈ xs, (f x).dep ≤ n) → T.deps (xs.map f) ≤ n
  | [], _ => Nat.zero_le _
  | x :: xs, h => by
    rw [List.map_cons, T.deps]
    exact Nat.max_le.mpr ⟨h x List.mem_cons_self, deps_le fun y hy => h y (List.mem_cons_of_mem _ hy)⟩
theorem tI_dep (ns : List Int) : (tI ns).dep ≤ 1 := by
  unfold tI; rw [T.dep]
  have : T.deps (ns.map T.int) ≤ 0 := deps_le fun x _ => Nat.le_refl 0
  omega
theorem tF_dep (x : Rat) : (tF x).dep = 1 := rfl
theorem tFs_dep (xs : List Rat) : (tFs xs).dep ≤ 2 := by
  unfold tFs; rw [T.dep]
  have : T.deps (xs.map tF) ≤ 1 := deps_le fun x _ => by rw [tF_dep]; exact Nat.le_refl 1
  omega
theorem RdT.ints {M : MH} {ns : List Int} : RdT M (.lst (ns.map .int)) (tI ns) := by
  have := RdT.of M (t := tI ns) (by have := tI_dep ns; omega)
  rwa [tI_d] at this
theorem RdT.frs {M : MH} {xs : List Rat} : RdT M (.lst (xs.map frD)) (tFs xs) := by
  have := RdT.of M (t := tFs xs) (by have := tFs_dep xs; omega)
  rwa [tFs_d] at this
theorem RdT.refI {M : MH} {a : Addr} {ns : List Int} (h : M a = some (.obj (.lst (ns.map .int)))) : RdT M (.ref a) (tI ns) := by
  refine RdT.ref (ts := ns.map .int) ?_ ?_
  · rw [ds_map]; exact h
  · have := tI_dep ns; unfold tI at this; rw [T.dep] at this; omega
theorem iEqTt {neg : Bool} {d : D} {t : T} {M : MH} {k : AK} (h : k (.bl !neg) M) (h1 : RdT M d t) : bEq neg d d M k := by
  refine iEqT ?_ h1 h1
  simp only [decide_true]
  cases neg <;> exact h
open Classical in
theorem iEqE {neg : Bool} {d e : D} {t u : T} {M : MH} {k : AK} (h : k (.bl !neg) M) (z : t = u) (h1 : RdT M d t) (h2 : RdT M e u) : bEq neg d e M k := by
  refine iEqT ?_ h1 h2
  rw [decide_eq_true z]
  cases neg <;> exact h
open Classical in
theorem iEqN {neg : Bool} {d e : D} {t u : T} {M : MH} {k : AK} (h : k (.bl neg) M) (z : t ≠ u) (h1 : RdT M d t) (h2 : RdT M e u) : bEq neg d e M k := by
  refine iEqT ?_ h1 h2
  rw [decide_eq_false z]
  cases neg <;> exact h
theorem tI_ne {x : Int} {xs : List Int} : tI (x :: xs) ≠ tI [] := by
  unfold tI; intro h; injection h with h; cases h
section
variable {α : Type} {a b c d e : α} {l : List α}
theorem ix_nat {n j : Nat} (h : j < n) : ixN n (j : Int) = some j := by
  unfold ixN
  rw [if_pos (by omega), if_pos (by omega)]; rfl
theorem ix_c0 : ixN (a :: l).length 0 = some 0 := ix_nat (j := 0) (by simp)
theorem ix_c1 : ixN (a :: b :: l).length 1 = some 1 := ix_nat (j := 1) (by simp)
theorem ix_c2 : ixN (a :: b :: c :: l).length 2 = some 2 := ix_nat (j := 2) (by simp)
theorem ix_c3 : ixN (a :: b :: c :: d :: l).length 3 = some 3 := ix_nat (j := 3) (by simp)
end
theorem cdivS {i j : Int} (h : 0 < j) (h2 : j < 18446744073709551616) : CDivW i j := cdiv h (lt_b89 (m := 64) (by omega) (by decide))
theorem isNon_non : D.non.isNon = true := Eq.trans rfl rfl
theorem isNon_bl {b : Bool} : (D.bl b).isNon = false := Eq.trans rfl rfl
theorem isNon_int {b : Int} : (D.int b).isNon = false := Eq.trans rfl rfl
theorem isNon_str {b : Str} : (D.str b).isNon = false := Eq.trans rfl rfl
theorem isNon_tup {b : List D} : (D.tup b).isNon = false := Eq.trans rfl rfl
theorem isNon_lst {b : List D} : (D.lst b).isNon = false := Eq.trans rfl rfl
theorem isNon_ref {b : Addr} : (D.ref b).isNon = false := Eq.trans rfl rfl
theorem isNon_rd {M : MH} {d : D} {ds : List D} (h : rdL M d = some ds) : d.isNon = false := by
  cases d with
  | non => cases h
  | _ => rfl
theorem ty_rd {M : MH} {d : D} {ds : List D} (h : rdL M d = some ds) : tyD M d = some "list" := by
  cases d with
  | lst l => rfl
  | ref a =>
    have h : (match M a with | some (.obj (.lst ds)) => some ds | _ => none) = some ds := h
    show (match M a with | some (.obj (.lst _)) => some "list" | some (.obj (.dic _)) => some "dict" | _ => none) = _
    split at h
    · rename_i e; rw [e]
    · cases h
  | _ => cases h
theorem iEqB {neg a b : Bool} {M : MH} {k : AK} (h : k (.bl (if neg then !(a == b) else (a == b))) M) : bEq neg (.bl a) (.bl b) M k :=
  ⟨.bool a, .bool b, rfl, rfl, rfl, rfl, by rw [PyData.eqv]; exact h⟩
theorem iEqBs {neg a : Bool} {M : MH} {k : AK} (h : k (.bl !neg) M) : bEq neg (.bl a) (.bl a) M k := iEqB (by rw [beq_self_eq_true]; cases neg <;> exact h)
theorem not_t : (!true) = false := Eq.trans rfl rfl
theorem not_f : (!false) = true := Eq.trans rfl rfl
section
variable {M : MH} {b : Bool} {i : Int} {x : Str} {ds : List D}
theorem ty_non : tyD M .non = some "NoneType" := rfl
theorem ty_bl : tyD M (.bl b) = some "bool" := rfl
theorem ty_int : tyD M (.int i) = some "int" := rfl
theorem ty_str : tyD M (.str x) = some "str" := rfl
theorem ty_tup : tyD M (.tup ds) = some "tuple" := rfl
theorem ty_lst : tyD M (.lst ds) = some "list" := rfl
end
theorem dec_t {h : Decidable True} : @decide True h = true := by cases h with | isTrue _ => rfl | isFalse n => exact absurd trivial n
theorem dec_f {h : Decidable False} : @decide False h = false := by cases h with | isTrue n => exact n.elim | isFalse n => rfl
theorem rng_it {lo : Int} {n i : Nat} {d : D} (h : ((rng lo n).map D.int)[i]? = some d) : i < n ∧ d = .int (lo + (i : Int)) := by
  obtain ⟨v, h1, rfl⟩ := map_get h
  rw [rng_get] at h1
  by_cases q : i < n
  · rw [if_pos q] at h1; cases h1; exact ⟨q, rfl⟩
  · rw [if_neg q] at h1; cases h1
theorem rng_len {lo : Int} {n : Nat} : ((rng lo n).map D.int).length = n := by unfold rng; rw [List.length_map, List.length_map, List.length_range]
theorem atI_of {α : Type} {xs : List α} {j : Nat} {x : α} (h : xs[j]? = some x) : atI xs (0 + (j : Int)) = some x := by rw [Int.zero_add]; exact atI_nat h
end M
/-! MIsi: isinstance, datum by datum. -/
namespace M
open PySem L2
theorem cIsi_eq {M : MH} {k : AK} {d : D} {t U : String} {b : Bool} (q1 : tyD M d = some t) (q2 : kitB t U = some b) : (cIsi [d, .ty U] M k) = (k (.bl b) M) := by
  show (match tyD M d with | some t => (match kitB t U with | some b => k (.bl b) M | none => False) | none => False) = _
  rw [q1]; show (match kitB t U with | some b => k (.bl b) M | none => False) = _
  rw [q2]
theorem kb_NoneType_bool : kitB "NoneType" "bool" = some false := by decide +kernel
theorem kb_NoneType_int : kitB "NoneType" "int" = some false := by decide +kernel
theorem kb_NoneType_str : kitB "NoneType" "str" = some false := by decide +kernel
theorem kb_NoneType_list : kitB "NoneType" "list" = some false := by decide +kernel
theorem kb_NoneType_tuple : kitB "NoneType" "tuple" = some false := by decide +kernel
theorem kb_NoneType_dict : kitB "NoneType" "dict" = some false := by decide +kernel
theorem kb_bool_bool : kitB "bool" "bool" = some true := by decide +kernel
theorem kb_bool_int : kitB "bool" "int" = some true := by decide +kernel
theorem kb_bool_str : kitB "bool" "str" = some false := by decide +kernel
theorem kb_bool_list : kitB "bool" "list" = some false := by decide +kernel
theorem kb_bool_tuple : kitB "bool" "tuple" = some false := by decide +kernel
theorem kb_bool_dict : kitB "bool" "dict" = some false := by decide +kernel
theorem kb_int_bool : kitB "int" "bool" = some false := by decide +kernel
theorem kb_int_int : kitB "int" "int" = some true := by decide +kernel
theorem kb_int_str : kitB "int" "str" = some false := by decide +kernel
theorem kb_int_list : kitB "int" "list" = some false := by decide +kernel
theorem kb_int_tuple : kitB "int" "tuple" = some false := by decide +kernel
theorem kb_int_dict : kitB "int" "dict" = some false := by decide +kernel
theorem kb_str_bool : kitB "str" "bool" = some false := by decide +kernel
theorem kb_str_int : kitB "str" "int" = some false := by decide +kernel
theorem kb_str_str : kitB "str" "str" = some true := by decide +kernel
theorem kb_str_list : kitB "str" "list" = some false := by decide +kernel
theorem kb_str_tuple : kitB "str" "tuple" = some false := by decide +kernel
theorem kb_str_dict : kitB "str" "dict" = some false := by decide +kernel
theorem kb_tuple_bool : kitB "tuple" "bool" = some false := by decide +kernel
theorem kb_tuple_int : kitB "tuple" "int" = some false := by decide +kernel
theorem kb_tuple_str : kitB "tuple" "str" = some false := by decide +kernel
theorem kb_tuple_list : kitB "tuple" "list" = some false := by decide +kernel
theorem kb_tuple_tuple : kitB "tuple" "tuple" = some true := by decide +kernel
theorem kb_tuple_dict : kitB "tuple" "dict" = some false := by decide +kernel
theorem kb_list_bool : kitB "list" "bool" = some false := by decide +kernel
theorem kb_list_int : kitB "list" "int" = some false := by decide +kernel
theorem kb_list_str : kitB "list" "str" = some false := by decide +kernel
theorem kb_list_list : kitB "list" "list" = some true := by decide +kernel
theorem kb_list_tuple : kitB "list" "tuple" = some false := by decide +kernel
theorem kb_list_dict : kitB "list" "dict" = some false := by decide +kernel
theorem eIsi_non_bool {M : MH} {k : AK}  : (cIsi [.non, .ty "bool"] M k) = (k (.bl false) M) := cIsi_eq rfl kb_NoneType_bool
theorem eIsi_non_int {M : MH} {k : AK}  : (cIsi [.non, .ty "int"] M k) = (k (.bl false) M) := cIsi_eq rfl kb_NoneType_int
theorem eIsi_non_str {M : MH} {k : AK}  : (cIsi [.non, .ty "str"] M k) = (k (.bl false) M) := cIsi_eq rfl kb_NoneType_str
theorem eIsi_non_list {M : MH} {k : AK}  : (cIsi [.non, .ty "list"] M k) = (k (.bl false) M) := cIsi_eq rfl kb_NoneType_list
theorem eIsi_non_tuple {M : MH} {k : AK}  : (cIsi [.non, .ty "tuple"] M k) = (k (.bl false) M) := cIsi_eq rfl kb_NoneType_tuple
theorem eIsi_non_dict {M : MH} {k : AK}  : (cIsi [.non, .ty "dict"] M k) = (k (.bl false) M) := cIsi_eq rfl kb_NoneType_dict
theorem eIsi_bl_bool {M : MH} {k : AK} {b : Bool} : (cIsi [(.bl b), .ty "bool"] M k) = (k (.bl true) M) := cIsi_eq rfl kb_bool_bool
theorem eIsi_bl_int {M : MH} {k : AK} {b : Bool} : (cIsi [(.bl b), .ty "int"] M k) = (k (.bl true) M) := cIsi_eq rfl kb_bool_int
theorem eIsi_bl_str {M : MH} {k : AK} {b : Bool} : (cIsi [(.bl b), .ty "str"] M k) = (k (.bl false) M) := cIsi_eq rfl kb_bool_str
theorem eIsi_bl_list {M : MH} {k : AK} {b : Bool} : (cIsi [(.bl b), .ty "list"] M k) = (k (.bl false) M) := cIsi_eq rfl kb_bool_list
theorem eIsi_bl_tuple {M : MH} {k : AK} {b : Bool} : (cIsi [(.bl b), .ty "tuple"] M k) = (k (.bl false) M) := cIsi_eq rfl kb_bool_tuple
theorem eIsi_bl_dict {M : MH} {k : AK} {b : Bool} : (cIsi [(.bl b), .ty "dict"] M k) = (k (.bl false) M) := cIsi_eq rfl kb_bool_dict
theorem eIsi_int_bool {M : MH} {k : AK} {i : Int} : (cIsi [(.int i), .ty "bool"] M k) = (k (.bl false) M) := cIsi_eq rfl kb_int_bool
theorem eIsi_int_int {M : MH} {k : AK} {i : Int} : (cIsi [(.int i), .ty "int"] M k) = (k (.bl true) M) := cIsi_eq rfl kb_int_int
theorem eIsi_int_str {M : MH} {k : AK} {i : Int} : (cIsi [(.int i), .ty "str"] M k) = (k (.bl false) M) := cIsi_eq rfl kb_int_str
theorem eIsi_int_list {M : MH} {k : AK} {i : Int} : (cIsi [(.int i), .ty "list"] M k) = (k (.bl false) M) := cIsi_eq rfl kb_int_list
theorem eIsi_int_tuple {M : MH} {k : AK} {i : Int} : (cIsi [(.int i), .ty "tuple"] M k) = (k (.bl false) M) := cIsi_eq rfl kb_int_tuple
theorem eIsi_int_dict {M : MH} {k : AK} {i : Int} : (cIsi [(.int i), .ty "dict"] M k) = (k (.bl false) M) := cIsi_eq rfl kb_int_dict
theorem eIsi_str_bool {M : MH} {k : AK} {x : Str} : (cIsi [(.str x), .ty "bool"] M k) = (k (.bl false) M) := cIsi_eq rfl kb_str_bool
theorem eIsi_str_int {M : MH} {k : AK} {x : Str} : (cIsi [(.str x), .ty "int"] M k) = (k (.bl false) M) := cIsi_eq rfl kb_str_int
theorem eIsi_str_str {M : MH} {k : AK} {x : Str} : (cIsi [(.str x), .ty "str"] M k) = (k (.bl true) M) := cIsi_eq rfl kb_str_str
theorem eIsi_str_list {M : MH} {k : AK} {x : Str} : (cIsi [(.str x), .ty "list"] M k) = (k (.bl false) M) := cIsi_eq rfl kb_str_list
theorem eIsi_str_tuple {M : MH} {k : AK} {x : Str} : (cIsi [(.str x), .ty "tuple"] M k) = (k (.bl false) M) := cIsi_eq rfl kb_str_tuple
theorem eIsi_str_dict {M : MH} {k : AK} {x : Str} : (cIsi [(.str x), .ty "dict"] M k) = (k (.bl false) M) := cIsi_eq rfl kb_str_dict
theorem eIsi_tup_bool {M : MH} {k : AK} {ds : List D} : (cIsi [(.tup ds), .ty "bool"] M k) = (k (.bl false) M) := cIsi_eq rfl kb_tuple_bool
theorem eIsi_tup_int {M : MH} {k : AK} {ds : List D} : (cIsi [(.tup ds), .ty "int"] M k) = (k (.bl false) M) := cIsi_eq rfl kb_tuple_int
theorem eIsi_tup_str {M : MH} {k : AK} {ds : List D} : (cIsi [(.tup ds), .ty "str"] M k) = (k (.bl false) M) := cIsi_eq rfl kb_tuple_str
theorem eIsi_tup_list {M : MH} {k : AK} {ds : List D} : (cIsi [(.tup ds), .ty "list"] M k) = (k (.bl false) M) := cIsi_eq rfl kb_tuple_list
theorem eIsi_tup_tuple {M : MH} {k : AK} {ds : List D} : (cIsi [(.tup ds), .ty "tuple"] M k) = (k (.bl true) M) := cIsi_eq rfl kb_tuple_tuple
theorem eIsi_tup_dict {M : MH} {k : AK} {ds : List D} : (cIsi [(.tup ds), .ty "dict"] M k) = (k (.bl false) M) := cIsi_eq rfl kb_tuple_dict
theorem eIsi_lst_bool {M : MH} {k : AK} {ds : List D} : (cIsi [(.lst ds), .ty "bool"] M k) = (k (.bl false) M) := cIsi_eq rfl kb_list_bool
theorem eIsi_lst_int {M : MH} {k : AK} {ds : List D} : (cIsi [(.lst ds), .ty "int"] M k) = (k (.bl false) M) := cIsi_eq rfl kb_list_int
theorem eIsi_lst_str {M : MH} {k : AK} {ds : List D} : (cIsi [(.lst ds), .ty "str"] M k) = (k (.bl false) M) := cIsi_eq rfl kb_list_str
theorem eIsi_lst_list {M : MH} {k : AK} {ds : List D} : (cIsi [(.lst ds), .ty "list"] M k) = (k (.bl true) M) := cIsi_eq rfl kb_list_list
theorem eIsi_lst_tuple {M : MH} {k : AK} {ds : List D} : (cIsi [(.lst ds), .ty "tuple"] M k) = (k (.bl false) M) := cIsi_eq rfl kb_list_tuple
theorem eIsi_lst_dict {M : MH} {k : AK} {ds : List D} : (cIsi [(.lst ds), .ty "dict"] M k) = (k (.bl false) M) := cIsi_eq rfl kb_list_dict
end M
/-! MFrac: slices by written ends; amounts by bottoms to sixty. -/
namespace M
open PySem L2
theorem cut_to {α : Type} {xs : List α} {j : Nat} : cutD xs none (some (j : Int)) = xs.take j := by
  unfold cutD
  rw [HT.sIx_none, HT.sIx_nat, List.drop_zero, Nat.sub_zero]
  by_cases h : j ≤ xs.length
  · rw [Nat.min_eq_left h]
  · rw [Nat.min_eq_right (by omega), List.take_of_length_le (Nat.le_refl _), List.take_of_length_le (by omega)]
theorem cut_from {α : Type} {xs : List α} {j : Nat} : cutD xs (some (j : Int)) none = xs.drop j := by
  unfold cutD
  rw [HT.sIx_none, HT.sIx_nat]
  by_cases h : j ≤ xs.length
  · rw [Nat.min_eq_left h, List.take_of_length_le (by rw [List.length_drop]; omega)]
  · rw [Nat.min_eq_right (by omega), List.drop_of_length_le (Nat.le_refl _), List.drop_of_length_le (by omega), List.take_nil]
theorem cut_fromto {α : Type} {xs : List α} {i j : Nat} (hj : j ≤ xs.length) (hi : i ≤ j) : cutD xs (some (i : Int)) (some (j : Int)) = (xs.drop i).take (j - i) := by
  unfold cutD
  rw [HT.sIx_nat, HT.sIx_nat, Nat.min_eq_left hj, Nat.min_eq_left (by omega)]
/-! fractions over a bottom -/
theorem mkRat_den_dvd {a c : Int} (hc : 0 < c) : (mkRat a c.toNat).den ∣ c.toNat := by
  rw [Rat.den_mkRat, if_neg (by omega)]
  exact Nat.div_dvd_of_dvd (Nat.gcd_dvd_left _ _)
theorem mul_den {x : Rat} {D : Nat} (h : x.den ∣ D) : ∃ a : Int, x * (D : Rat) = (a : Rat) := by
  obtain ⟨e, rfl⟩ := h
  refine ⟨x.num * e, ?_⟩
  rw [Rat.mul_def', Rat.num_natCast, Rat.den_natCast, Nat.mul_one, show ((x.num * (e : Int) : Int) : Rat) = mkRat (x.num * e) 1 from (Rat.mkRat_one _).symm]
  refine (Rat.mkRat_eq_iff x.den_nz (by decide)).mpr ?_
  rw [Int.natCast_one, Int.mul_one, Int.natCast_mul, Int.mul_assoc, Int.mul_comm (e : Int)]
theorem mkRat_nonneg {a c : Int} (ha : 0 ≤ a) (hc : 0 < c) : 0 ≤ mkRat a c.toNat := by
  rw [Rat.le_iff, mkRat_num hc]
  rw [show (0 : Rat).num = 0 from rfl, show (0 : Rat).den = 1 from rfl, Int.zero_mul, Int.natCast_one, Int.mul_one]
  exact Int.ediv_nonneg ha (by omega)
theorem mkRat_le {a c : Int} {V : Nat} (ha : 0 ≤ a) (hc : 0 < c) (h : a ≤ V) : mkRat a c.toNat ≤ (V : Rat) := by
  rw [Rat.le_iff, mkRat_num hc, Rat.num_natCast, Rat.den_natCast, Int.natCast_one, Int.mul_one]
  have h1 : a / ((Nat.gcd a.natAbs c.toNat : Nat) : Int) ≤ a := Int.ediv_le_self _ ha
  have h2 : (1 : Int) ≤ ((mkRat a c.toNat).den : Int) := by exact_mod_cast (mkRat a c.toNat).den_pos
  have h3 : (V : Int) * 1 ≤ (V : Int) * ((mkRat a c.toNat).den : Int) := Int.mul_le_mul_of_nonneg_left h2 (by omega)
  omega
/-- an amount: by a bottom to 60 -/
def Amt (x : Rat) : Prop := ∃ (a c : Int), 0 ≤ a ∧ a < 1000000000001 ∧ 1 ≤ c ∧ c ≤ 60 ∧ x = mkRat a c.toNat
def L60 : Nat := 9690712164777231700912800
theorem L60_dvd {c : Nat} (h1 : 1 ≤ c) (h2 : c ≤ 60) : c ∣ L60 := by
  have : ∀ c : Fin 61, c.val = 0 ∨ c.val ∣ L60 := by decide +kernel
  rcases this ⟨c, by omega⟩ with h | h
  · have h : c = 0 := h
    omega
  · exact h
theorem Amt.zero : Amt 0 := ⟨0, 1, by decide, by decide, by decide, by decide, rfl⟩
theorem Amt.nonneg {x : Rat} (h : Amt x) : 0 ≤ x := by
  obtain ⟨a, c, h1, h2, h3, h4, rfl⟩ := h
  exact mkRat_nonneg h1 (by omega)
theorem Amt.bnd {x : Rat} (h : Amt x) : Bnd 1000000000001 L60 x := by
  have h0 := h.nonneg
  obtain ⟨a, c, h1, h2, h3, h4, rfl⟩ := h
  refine ⟨mul_den (Nat.dvd_trans (mkRat_den_dvd (by omega)) (L60_dvd (by omega) (by omega))), ?_, mkRat_le h1 (by omega) (by omega)⟩
  have : (0 : Rat) ≤ ((1000000000001 : Nat) : Rat) := Rat.natCast_nonneg
  grind
theorem Bnd.sm1000 {V D : Nat} {x : Rat} (h : Bnd V D x) (hV : V < 2 ^ 3000) (hD : 0 < D) (hD' : D < 2 ^ 1000) : Sm x := by
  refine h.sm hD ?_ ?_
  · rw [b40_eq]; exact Nat.lt_of_lt_of_le hD' (Nat.pow_le_pow_right (by decide) (by decide))
  · rw [b40_eq, show (4000 : Nat) = 3000 + 1000 from rfl, Nat.pow_add]
    exact Nat.mul_lt_mul'' hV hD'
theorem lt_pow {n a b : Nat} (h : n < 2 ^ a) (hab : a ≤ b) : n < 2 ^ b := Nat.lt_of_lt_of_le h (Nat.pow_le_pow_right (by decide) hab)
theorem L60_lt : L60 < 2 ^ 1000 := lt_pow (a := 100) (by decide +kernel) (by decide)
/-- all heaps are small -/
def SmS (xs : List Rat) : Prop := (∀ x ∈ xs, Sm x) ∧ ∀ i, Sm (xs.take i).sum
theorem Amt.smS {xs : List Rat} (h : ∀ x ∈ xs, Amt x) (hl : xs.length ≤ 1000) : SmS xs := by
  refine ⟨fun x hx => (h x hx).bnd.sm1000 (lt_pow (a := 64) (by decide) (by decide)) (by decide) L60_lt, fun i => ?_⟩
  have b : Bnd (1000000000001 * (xs.take i).length) L60 (xs.take i).sum := Bnd.sum fun x hx => (h x (List.mem_of_mem_take hx)).bnd
  refine b.sm1000 (lt_pow (a := 64) ?_ (by decide)) (by decide) L60_lt
  have : (xs.take i).length ≤ xs.length := by rw [List.length_take]; omega
  have := Nat.mul_le_mul_left 1000000000001 (Nat.le_trans this hl)
  omega
end M
/-! MEnd: what the top has written, the start of a law. -/
namespace M
open PySem L2
theorem FnOk.none {P : Program} {w : World} {K : PySem.W.Frag} {mg : Str → Option Value} {base : Heap} {k : Nat} {f : Addr} {fd : FuncData} {ps : List Str} {F : AF} (h : ∀ ds M k x, F ds M k x → False) : L2.FnOk P w K mg base CX0 k f fd ps (liftF K F) :=
  ⟨fun vs H Q E ⟨ds, M, I, Fr, k, x, r, c, q, _, _⟩ => (h _ _ _ _ q).elim, fun A outer s H args us vs Q E hr he hb hv ⟨ds, M, I, Fr, k, x, r, c, q, _, _⟩ => (h _ _ _ _ q).elim⟩
theorem law_start {K : PySem.W.Frag} {F : AF} {ns : List Int} {H : Hp} {a : Addr} (h : ∀ (k : AK) (M : MH), (∀ M', k (.bl true) M') → F [.scr ns] M k noX) (hS : SqL K H a (ns.map V.int)) : liftF K F [.ref a] H (fun v _ => v = .bl true) fun _ _ _ => False := by
  refine ⟨[.scr ns], fun _ => Option.none, H, fun _ => Option.none, fun d _ => d = .bl true, noX, .cons (by rw [Rel]; exact ⟨a, rfl, hS⟩) .nil, ⟨Le.refl H, fun x m => absurd rfl m, fun x o e => (by cases e), fun x o e => (by cases e)⟩, h _ _ fun _ => rfl, ?_, ?_⟩
  · rintro d M v H' I' rfl l c r
    rwa [Rel] at r
  · intro C w M v H I' d z
    exact z.elim
theorem GlC.pair {K : PySem.W.Frag} {mg : Str → Option Value} {x : Str} {a : Addr} {od : Option Addr} {n : Nat} {sl : Array (Option Value)} {i j : Int} {t u : Tok} (m : mg x = some (.ref a)) (h : K.lookup a = some ⟨.type "tuple", od, (.seq #[.int i t, .int j u] n), sl⟩) : GlC K mg x (.tup [.int i, .int j]) :=
  ⟨.ref a, .ref a, m, rfl, fun I => by
    rw [Rel]
    exact ⟨a, [.int i, .int j], rfl, .inr ⟨_, _, n, h, rfl, rfl, by rw [sizeLine_eq]; show 2 ≤ 16777216; decide, Paired.cons ⟨t, rfl⟩ (Paired.cons ⟨u, rfl⟩ Paired.nil)⟩, .cons (by rw [Rel]) (.cons (by rw [Rel]) .nil)⟩⟩
theorem GlC.int {K : PySem.W.Frag} {mg : Str → Option Value} {x : Str} {i : Int} {t : Tok} (m : mg x = some (.int i t)) : GlC K mg x (.int i) := ⟨_, .int i, m, ⟨t, rfl⟩, fun I => by rw [Rel]⟩
theorem GlC.str {K : PySem.W.Frag} {mg : Str → Option Value} {x z : Str} {t : Tok} (m : mg x = some (.str z t)) : GlC K mg x (.str z) := ⟨_, .str z, m, ⟨t, rfl⟩, fun I => by rw [Rel]⟩
end M
/-! MStr: texts. -/
namespace M
open PySem L2
section
variable {K : PySem.W.Frag} {I : Hp}
theorem Rel.str_ {x : Str} : Rel K I (.str x) (.str x) := by rw [Rel]
theorem Rels.strs : ∀ {ns : List Str} {vs : List V}, Rels K I (ns.map D.str) vs → vs = ns.map V.str
  | [], vs, h => h.nil_inv
  | n :: ns, vs, h => by
    obtain ⟨w, ws, rfl, h2, h3⟩ := Rels.cons_inv (d := .str n) (ds := ns.map D.str) h
    rw [Rel] at h2
    rw [h2, Rels.strs h3]; rfl
theorem Rels.of_strs : ∀ {ns : List Str}, Rels K I (ns.map D.str) (ns.map V.str)
  | [] => .nil
  | n :: ns => .cons (by rw [Rel]) Rels.of_strs
theorem Rels.bls : ∀ {ns : List Bool} {vs : List V}, Rels K I (ns.map D.bl) vs → vs = ns.map V.bl
  | [], vs, h => h.nil_inv
  | n :: ns, vs, h => by
    obtain ⟨w, ws, rfl, h2, h3⟩ := Rels.cons_inv (d := .bl n) (ds := ns.map D.bl) h
    rw [Rel] at h2
    rw [h2, Rels.bls h3]; rfl
end
section
variable {X : Cx} {e a b c o : Expr} {es : List Expr} {pos p apos cpos : Pos} {K : PySem.W.Frag} {f g : AE}
def cStr : AC := fun ds M k => match ds with
  | [.int i] => i.natAbs.log2 < 1920 ∧ k (.str (toString i)) M
  | _ => False
theorem cStr_ok : OkC K (fun xs H Q => ∃ i, xs = [.int i] ∧ i.natAbs.log2 < 1920 ∧ Q (.str (toString i)) H) cStr := by
  intro ds M k vs H I F Q h c r hk
  unfold cStr at h
  split at h
  · obtain ⟨v, rfl, r9⟩ := rels1 r
    rw [Rel] at r9; subst r9
    exact ⟨_, rfl, h.1, hk _ _ _ _ _ h.2 (Le.refl I) c (by rw [Rel])⟩
  · exact h.elim
def cInt : AC := fun ds M k => match ds with
  | [.str x] => ∃ n, PySem.intText? x = some n ∧ x.length ≤ 640 ∧ k (.int n) M
  | _ => False
theorem cInt_ok : OkC K (fun xs H Q => ∃ a n, xs = [.str a] ∧ PySem.intText? a = some n ∧ a.length ≤ 640 ∧ Q (.int n) H) cInt := by
  intro ds M k vs H I F Q h c r hk
  unfold cInt at h
  split at h
  · obtain ⟨v, rfl, r9⟩ := rels1 r
    rw [Rel] at r9; subst r9
    obtain ⟨n, h1, h2, h3⟩ := h
    exact ⟨_, n, rfl, h1, h2, hk _ _ _ _ _ h3 (Le.refl I) c (by rw [Rel])⟩
  · exact h.elim
def cAll : AC := fun ds M k => match ds with
  | [d] => ∃ bs : List Bool, rdS M d = some (bs.map .bl) ∧ k (.bl (bs.all id)) M
  | _ => False
def cAny : AC := fun ds M k => match ds with
  | [d] => ∃ bs : List Bool, rdS M d = some (bs.map .bl) ∧ k (.bl (bs.any id)) M
  | _ => False
theorem cAll_ok : OkC K (rAll K) cAll := by
  intro ds M k vs H I F Q h c r hk
  unfold cAll at h
  split at h
  · obtain ⟨v, rfl, r9⟩ := rels1 r
    obtain ⟨bs, h1, h2⟩ := h
    obtain ⟨q, ws, rfl, g, s⟩ := rdS_ok h1 c r9
    rw [s.bls] at g
    exact ⟨q, bs, rfl, g, hk _ _ _ _ _ h2 (Le.refl I) c (by rw [Rel])⟩
  · exact h.elim
theorem cAny_ok : OkC K (rAny K) cAny := by
  intro ds M k vs H I F Q h c r hk
  unfold cAny at h
  split at h
  · obtain ⟨v, rfl, r9⟩ := rels1 r
    obtain ⟨bs, h1, h2⟩ := h
    obtain ⟨q, ws, rfl, g, s⟩ := rdS_ok h1 c r9
    rw [s.bls] at g
    exact ⟨q, bs, rfl, g, hk _ _ _ _ _ h2 (Le.refl I) c (by rw [Rel])⟩
  · exact h.elim
section
variable {ga : AA}
theorem e_str (hm : X.mg "str" = none) (ha : PA X (e :: es) (liftA X.K ga)) (hg : Gl X "str" := by rfl) (he : starEach (e :: es) X.env = (false, eval e X.env) :: starEach es X.env := by rfl) (hpl : (backTo pos (starEach es X.env)).any (·.1) = false := by rfl) :
    PE X (.Call (.Name "str" p) (e :: es) [] pos) (lift X.K (aCB cStr ga)) := e_callTy call_str_int cStr_ok hm (by decide +kernel) ha hg (by decide) (by decide) he hpl
theorem e_int (hm : X.mg "int" = none) (ha : PA X (e :: es) (liftA X.K ga)) (hg : Gl X "int" := by rfl) (he : starEach (e :: es) X.env = (false, eval e X.env) :: starEach es X.env := by rfl) (hpl : (backTo pos (starEach es X.env)).any (·.1) = false := by rfl) :
    PE X (.Call (.Name "int" p) (e :: es) [] pos) (lift X.K (aCB cInt ga)) := e_callTy call_int_str cInt_ok hm (by decide +kernel) ha hg (by decide) (by decide) he hpl
theorem e_all (hc : X.calm = true) (hm : X.mg "all" = none) (ha : PA X (e :: es) (liftA X.K ga)) (hg : Gl X "all" := by rfl) (he : starEach (e :: es) X.env = (false, eval e X.env) :: starEach es X.env := by rfl) (hpl : (backTo pos (starEach es X.env)).any (·.1) = false := by rfl) :
    PE X (.Call (.Name "all" p) (e :: es) [] pos) (lift X.K (aCB cAll ga)) := e_callB (cr_all hc) cAll_ok hm (by decide +kernel) ha hg (by decide) (by decide) he hpl
theorem e_any (hc : X.calm = true) (hm : X.mg "any" = none) (ha : PA X (e :: es) (liftA X.K ga)) (hg : Gl X "any" := by rfl) (he : starEach (e :: es) X.env = (false, eval e X.env) :: starEach es X.env := by rfl) (hpl : (backTo pos (starEach es X.env)).any (·.1) = false := by rfl) :
    PE X (.Call (.Name "any" p) (e :: es) [] pos) (lift X.K (aCB cAny ga)) := e_callB (cr_any hc) cAny_ok hm (by decide +kernel) ha hg (by decide) (by decide) he hpl
end
/-- one sign in a text -/
def bInS (neg : Bool) : AB := fun d e M k => match d, e with
  | .str x, .str y => ∃ c : Nat, x = ⟨#[c]⟩ ∧ neg = false ∧ k (.bl (decide (c ∈ y.cps.toList))) M
  | _, _ => False
theorem bInS_ok {neg : Bool} : OkB K (fun x y H Q => ∃ (c : Nat) (z : Str), x = .str ⟨#[c]⟩ ∧ y = .str z ∧ Q (.bl (decide (c ∈ z.cps.toList))) H) (bInS neg) := by
  intro d e M k v u H I F Q h c r1 r2 hk
  unfold bInS at h
  split at h
  · rw [Rel] at r1 r2
    subst r1 r2
    obtain ⟨c', rfl, _, h⟩ := h
    exact ⟨_, _, rfl, rfl, hk _ M _ H I h (Le.refl I) c (by rw [Rel])⟩
  · exact h.elim
theorem e_inS {fa fb : AE} (ha : PE X a (lift X.K fa)) (hb : PE X b (lift X.K fb)) (hm : behindInMarks .In b = false := by with_unfolding_all rfl) : PE X (.Compare a [.In] [b] pos) (lift X.K (aOp (bInS false) fa fb)) := (pe_cmpR op_in_sign ha hb hm).imp (lift_op bInS_ok)
theorem t_inS {fa fb : AE} (ha : PE X a (lift X.K fa)) (hb : PE X b (lift X.K fb)) (hm : behindInMarks .In b = false := by with_unfolding_all rfl) : PT X (.Compare a [.In] [b] pos) (liftT X.K (aB (aOp (bInS false) fa fb))) := t_op op_in_sign bInS_ok ha hb hm
/-- a text so many times -/
def repS (x : Str) (n : Nat) : Str := ⟨(List.replicate n x.cps).foldl (· ++ ·) #[]⟩
def bRepS : AB := fun d e M k => match d, e with
  | .str x, .int n => (2 ≤ n ∧ n < 1000000 ∧ 1 ≤ x.length ∧ x.length * n.toNat ≤ sizeLine) ∧ k (.str (repS x n.toNat)) M
  | _, _ => False
theorem op_repSt : OpR X (binaryOp .Mult) (fun x y H Q => ∃ z n, x = .str z ∧ y = .int n ∧ 2 ≤ n ∧ n < 1000000 ∧ 1 ≤ z.length ∧ z.length * n.toNat ≤ sizeLine ∧ Q (.str (repS z n.toNat)) H) := by
  intro pins s σ H x y v u Q I rx ry h
  obtain ⟨z, n, rfl, rfl, h1, h2, h3, h4, q⟩ := h
  obtain ⟨t, rfl⟩ := rx
  obtain ⟨t', rfl⟩ := ry
  have n1 : ¬ n < 1 := by omega
  have e1 : (n == 1 || z.length == 0) = false := by
    have a1 : (n == 1) = false := by simp; omega
    have a2 : (z.length == 0) = false := by simp; omega
    rw [a1, a2]; rfl
  refine P.mul_str ?_ (fun _ _ => ?_) (fun _ _ => ?_) ?_
  · rw [decide_eq_false (by omega), decide_eq_false (by omega)]; rfl
  · have : (z.length : Int) ≤ 16777216 := by
      rw [sizeLine_eq] at h4
      have h5 : z.length * 1 ≤ z.length * n.toNat := Nat.mul_le_mul_left _ (by omega)
      omega
    have h6 : (2 : Int) ^ 63 - 1 ≥ 16777216 * n := by omega
    have h7 : 16777216 ≤ ((2 : Int) ^ 63 - 1) / n := Int.le_ediv_of_mul_le (by omega) h6
    omega
  · unfold Builtin.Str.tooLong
    exact decide_eq_false (by omega)
  · rw [if_neg n1, if_neg (by rw [e1]; decide)]
    exact ⟨PySem.fits_reps (by unfold Builtin.Str.tooLong; exact decide_eq_false (by omega)), ⟨.str _, H, I.tok _, ⟨_, rfl⟩, q⟩⟩
theorem bRepS_ok : OkB K (fun x y H Q => ∃ z n, x = .str z ∧ y = .int n ∧ 2 ≤ n ∧ n < 1000000 ∧ 1 ≤ z.length ∧ z.length * n.toNat ≤ sizeLine ∧ Q (.str (repS z n.toNat)) H) bRepS := by
  intro d e M k v u H I F Q h c r1 r2 hk
  unfold bRepS at h
  split at h
  · rw [Rel] at r1
    rw [Rel] at r2
    subst r1 r2
    obtain ⟨⟨h1, h2, h3, h4⟩, h⟩ := h
    exact ⟨_, _, rfl, rfl, h1, h2, h3, h4, hk _ M _ H I h (Le.refl I) c (by rw [Rel])⟩
  · exact h.elim
theorem e_repS {fa fb : AE} (ha : PE X a (lift X.K fa)) (hb : PE X b (lift X.K fb)) : PE X (.BinOp a .Mult b pos) (lift X.K (aOp bRepS fa fb)) := (pe_op op_repSt ha hb).imp (lift_op bRepS_ok)
/-! methods of texts, with one argument -/
abbrev AM1 := D → D → MH → AK → Prop
def OkM1 (K : PySem.W.Frag) (r : V → List V → Hp → VK → Prop) (op : AM1) : Prop := ∀ d e M k v u H I F Q, op d e M k → Conc K H I M F → Rel K I d v → Rel K I e u → kE K I F k Q → r v [u] H Q
def aM1 (op : AM1) (f g : AE) : AE := fun Γ M k => f Γ M fun d M1 => match d with
  | .str x => g Γ M1 fun e M2 => op (.str x) e M2 k
  | _ => False
theorem lift_M1 {r : V → List V → Hp → VK → Prop} {op : AM1} (h : OkM1 K r op) : ∀ σ H Q, lift K (aM1 op f g) σ H Q → tM1 r (lift K f) (lift K g) σ H Q := fun σ H Q ⟨Γ, M, I, F, k, hs, hc, hf, hk⟩ =>
  ⟨Γ, M, I, F, _, hs, hc, hf, fun d M1 v H1 I1 h1 l1 c1 r1 => by
    split at h1
    · rename_i x
      have r1' := r1
      rw [Rel] at r1'
      exact ⟨⟨x, r1'⟩, Γ, M1, I1, F, _, hs.le l1, c1, h1, fun e M2 u H2 I2 h2 l2 c2 r2 => h _ _ _ _ _ _ _ _ _ _ h2 c2 (Rel.le l2 _ _ r1) r2 (hk.le (l1.trans l2))⟩
    · exact h1.elim⟩
def sPart : AM1 := fun d e M k => match d, e with
  | .str a, .str b => ((b.length == 0) = false ∧ a.length ≤ sizeLine) ∧ k (.tup [.str (Txt.partition a b).1, .str (Txt.partition a b).2.1, .str (Txt.partition a b).2.2]) M
  | _, _ => False
theorem sPart_ok : OkM1 K (fun x xs H Q => ∃ a b, x = .str a ∧ xs = [.str b] ∧ (b.length == 0) = false ∧ a.length ≤ sizeLine ∧
    ∀ p, H p = none → Q (.ref p) (upd H p (.tup [.str (Txt.partition a b).1, .str (Txt.partition a b).2.1, .str (Txt.partition a b).2.2]))) sPart := by
  intro d e M k v u H I F Q h c r1 r2 hk
  unfold sPart at h
  split at h
  · rw [Rel] at r1 r2
    subst r1 r2
    exact ⟨_, _, rfl, rfl, h.1.1, h.1.2, fun p hp => nt_ok h.2 c (.cons Rel.str_ (.cons Rel.str_ (.one Rel.str_))) hk hp⟩
  · exact h.elim
def sSplit (m : Bool) : AM1 := fun d e M k => match d, e with
  | .str a, .str b => ((b.length == 0) = false ∧ a.length + 2 ≤ sizeLine) ∧ nl m ((Txt.split a b).map .str) M k
  | _, _ => False
theorem sSplit_ok {m : Bool} : OkM1 K (fun x xs H Q => ∃ a b, x = .str a ∧ xs = [.str b] ∧ (b.length == 0) = false ∧ a.length + 2 ≤ sizeLine ∧ rNewStrs (Txt.split a b) H Q) (sSplit m) := by
  intro d e M k v u H I F Q h c r1 r2 hk
  unfold sSplit at h
  split at h
  · rw [Rel] at r1 r2
    subst r1 r2
    exact ⟨_, _, rfl, rfl, h.1.1, h.1.2, fun p hp => nl_ok h.2 c Rels.of_strs hk hp⟩
  · exact h.elim
def sJoin : AM1 := fun d e M k => match d with
  | .str a => ∃ ys : List Str, rdS M e = some (ys.map .str) ∧ (ys.map (·.length)).sum + ys.length * a.length ≤ 16777216 ∧ k (.str (Txt.join a ys)) M
  | _ => False
theorem sJoin_ok : OkM1 K (fun x xs H Q => ∃ a p, ∃ ys : List Str, x = .str a ∧ xs = [.ref p] ∧ (SqL K H p (ys.map V.str) ∨ SqT K H p (ys.map V.str)) ∧
    (ys.map (·.length)).sum + ys.length * a.length ≤ 16777216 ∧ Q (.str (Txt.join a ys)) H) sJoin := by
  intro d e M k v u H I F Q h c r1 r2 hk
  unfold sJoin at h
  split at h
  · rw [Rel] at r1
    subst r1
    obtain ⟨ys, h1, h2, h3⟩ := h
    obtain ⟨q, ws, rfl, g, s⟩ := rdS_ok h1 c r2
    rw [s.strs] at g
    exact ⟨_, q, ys, rfl, rfl, .inl g, h2, hk _ _ _ _ _ h3 (Le.refl I) c (by rw [Rel])⟩
  · exact h.elim
theorem e_spartition (ho : PE X o (lift X.K f)) (he : PE X e (lift X.K g)) (hs : starEach [e] X.env = [(false, eval e X.env)] := by rfl) (hbase : attributeBase o "partition" X.env (eval o X.env) = eval o X.env := by rfl) (hline : (apos.endLine == pos.line) = true := by rfl) :
    PE X (.Call (.Attribute o "partition" apos) [e] [] pos) (lift X.K (aM1 sPart f g)) := (pe_partition ho he hs hbase hline).imp (lift_M1 sPart_ok)
theorem e_ssplit (m : Bool) (ho : PE X o (lift X.K f)) (he : PE X e (lift X.K g)) (hs : starEach [e] X.env = [(false, eval e X.env)] := by rfl) (hbase : attributeBase o "split" X.env (eval o X.env) = eval o X.env := by rfl) (hline : (apos.endLine == pos.line) = true := by rfl) :
    PE X (.Call (.Attribute o "split" apos) [e] [] pos) (lift X.K (aM1 (sSplit m) f g)) := (pe_split ho he hs hbase hline).imp (lift_M1 sSplit_ok)
theorem e_sjoin (ho : PE X o (lift X.K f)) (he : PE X e (lift X.K g)) (hs : starEach [e] X.env = [(false, eval e X.env)] := by rfl) (hbase : attributeBase o "join" X.env (eval o X.env) = eval o X.env := by rfl) (hline : (apos.endLine == pos.line) = true := by rfl) :
    PE X (.Call (.Attribute o "join" apos) [e] [] pos) (lift X.K (aM1 sJoin f g)) := (pe_join ho he hs hbase hline).imp (lift_M1 sJoin_ok)
/-! texts put together of parts -/
def aFmt (f : AE) : AE := fun Γ M k => f Γ M fun d M1 => match d with
  | .str y => y.length ≤ sizeLine ∧ k (.str y) M1
  | .int i => i.natAbs.log2 < 1920 ∧ k (.str (toString i)) M1
  | _ => False
theorem e_fmt (he : PE X e (lift X.K f)) : PE X (.FormattedValue e (-1) none pos) (lift X.K (aFmt f)) := (pe_fmt he).imp fun σ H Q ⟨Γ, M, I, F, k, hs, hc, hf, hk⟩ =>
  ⟨Γ, M, I, F, _, hs, hc, hf, fun d M1 v H1 I1 h1 l1 c1 r1 => by
    split at h1
    · rename_i y
      rw [Rel] at r1
      exact .inl ⟨y, r1, h1.1, hk _ _ _ _ _ h1.2 l1 c1 (by rw [Rel])⟩
    · rename_i i
      rw [Rel] at r1
      exact .inr ⟨i, r1, h1.1, hk _ _ _ _ _ h1.2 l1 c1 (by rw [Rel])⟩
    · exact h1.elim⟩
def aJs : List AE → Str → AE
  | [], acc => fun _ M k => k (.str acc) M
  | f :: fs, acc => fun Γ M k => f Γ M fun d M1 => match d with
    | .str y => (acc ++ y).length ≤ sizeLine ∧ aJs fs (acc ++ y) Γ M1 k
    | _ => False
theorem lift_js : ∀ (fs : List AE) (acc : Str) (σ : L2.St) (H : Hp) (Q : VK), lift K (aJs fs acc) σ H Q → tJs (fs.map (lift K)) acc σ H fun out H1 => Q (.str out) H1
  | [], acc, σ, H, Q, ⟨Γ, M, I, F, k, hs, hc, hf, hk⟩ => hk _ _ _ _ _ hf (Le.refl I) hc (by rw [Rel])
  | f :: fs, acc, σ, H, Q, ⟨Γ, M, I, F, k, hs, hc, hf, hk⟩ => ⟨Γ, M, I, F, _, hs, hc, hf, fun d M1 v H1 I1 h1 l1 c1 r1 => by
    split at h1
    · rename_i y
      rw [Rel] at r1
      exact ⟨y, r1, h1.1, lift_js fs _ σ H1 Q ⟨Γ, M1, I1, F, k, hs.le l1, c1, h1.2, hk.le l1⟩⟩
    · exact h1.elim⟩
inductive PJ2 (X : Cx) : List Expr → List AE → Prop where
  | nil : PJ2 X [] []
  | cons {e : Expr} {t : AE} {es : List Expr} {ts : List AE} (h : PE X e (lift X.K t)) (r : PJ2 X es ts) : PJ2 X (e :: es) (t :: ts)
theorem PJ2.pj {es : List Expr} {ts : List AE} (h : PJ2 X es ts) : PJ X es (ts.map (lift X.K)) := by
  induction h with
  | nil => exact .nil
  | cons h _ ih => exact .cons h ih
theorem e_joined {v1 v2 : Expr} {rest : List Expr} {fs : List AE} (h : PJ2 X (v1 :: v2 :: rest) fs) : PE X (.JoinedStr (v1 :: v2 :: rest) pos) (lift X.K (aJs fs Str.empty)) := (pe_joined h.pj).imp fun σ H Q q => lift_js fs _ σ H Q q
theorem e_joined1 (he : PE X e (lift X.K f)) : PE X (.JoinedStr [e] pos) (lift X.K f) := pe_joined1 he
/-! steps -/
variable {Γ : G} {M : MH} {k : AK} {x y z : Str} {i n : Int} {bs : List Bool} {d : D}
theorem iStr (h : k (.str (toString i)) M) (l : i.natAbs.log2 < 1920) : cStr [.int i] M k := ⟨l, h⟩
theorem iInt (h : k (.int n) M) (q : PySem.intText? x = some n) (l : x.length ≤ 640) : cInt [.str x] M k := ⟨n, q, l, h⟩
theorem iAll (h : k (.bl (bs.all id)) M) (q : rdS M d = some (bs.map .bl)) : cAll [d] M k := ⟨bs, q, h⟩
theorem iAny (h : k (.bl (bs.any id)) M) (q : rdS M d = some (bs.map .bl)) : cAny [d] M k := ⟨bs, q, h⟩
def kM1 (op : AM1) (g : AE) (Γ : G) (k : AK) : AK := fun d M1 => match d with
  | .str x => g Γ M1 fun e M2 => op (.str x) e M2 k
  | _ => False
theorem eM1 {op : AM1} : (aM1 op f g Γ M k) = (f Γ M (kM1 op g Γ k)) := propext Iff.rfl
theorem eM1s {op : AM1} : (kM1 op g Γ k (.str x) M) = (g Γ M fun e M2 => op (.str x) e M2 k) := propext Iff.rfl
theorem iPart' (h : k (.tup [.str (Txt.partition x y).1, .str (Txt.partition x y).2.1, .str (Txt.partition x y).2.2]) M) (l1 : (y.length == 0) = false) (l2 : x.length ≤ sizeLine) : sPart (.str x) (.str y) M k := ⟨⟨l1, l2⟩, h⟩
def kFm (k : AK) : AK := fun d M1 => match d with
  | .str y => y.length ≤ sizeLine ∧ k (.str y) M1
  | .int i => i.natAbs.log2 < 1920 ∧ k (.str (toString i)) M1
  | _ => False
theorem eFmt : (aFmt f Γ M k) = (f Γ M (kFm k)) := propext Iff.rfl
theorem eFmtS : (kFm k (.str x) M) = (x.length ≤ sizeLine ∧ k (.str x) M) := propext Iff.rfl
theorem eFmtI : (kFm k (.int i) M) = (i.natAbs.log2 < 1920 ∧ k (.str (toString i)) M) := propext Iff.rfl
def kJs (fs : List AE) (acc : Str) (Γ : G) (k : AK) : AK := fun d M1 => match d with
  | .str y => (acc ++ y).length ≤ sizeLine ∧ aJs fs (acc ++ y) Γ M1 k
  | _ => False
theorem eJs0 : (aJs [] x Γ M k) = (k (.str x) M) := propext Iff.rfl
theorem eJs {fs : List AE} : (aJs (f :: fs) x Γ M k) = (f Γ M (kJs fs x Γ k)) := propext Iff.rfl
theorem eJs1 {fs : List AE} : (kJs fs x Γ k (.str y) M) = ((x ++ y).length ≤ sizeLine ∧ aJs fs (x ++ y) Γ M k) := propext Iff.rfl
theorem eRepS : (bRepS (.str x) (.int n) M k) = ((2 ≤ n ∧ n < 1000000 ∧ 1 ≤ x.length ∧ x.length * n.toNat ≤ sizeLine) ∧ k (.str (repS x n.toNat)) M) := propext Iff.rfl
theorem iInS {c : Nat} (h : k (.bl (decide (c ∈ y.cps.toList))) M) (q : x = ⟨#[c]⟩) : bInS false (.str x) (.str y) M k := ⟨c, q, rfl, h⟩
end
end M
/-! MText: texts by their signs; how numbers and fractions are written and read. -/
namespace M
open PySem L2
def S (l : List Nat) : Str := ⟨l.toArray⟩
theorem tl_S (l : List Nat) : TL.tl (S l) = l := by unfold TL.tl S; simp
theorem S_tl (x : Str) : S (TL.tl x) = x := TL.ext_tl (tl_S _)
theorem S_app (a b : List Nat) : S a ++ S b = S (a ++ b) := TL.ext_tl (by rw [TL.tl_append, tl_S, tl_S, tl_S])
theorem S_len (l : List Nat) : (S l).length = l.length := by rw [TL.len_tl, tl_S]
theorem S_inj {a b : List Nat} (h : S a = S b) : a = b := by rw [← tl_S a, ← tl_S b, h]
theorem S_nil : Str.empty = S [] := rfl
theorem signs_S (l : List Nat) : signsD (S l) = l.map fun c => D.str (S [c]) := by
  unfold signsD
  have : (S l).cps.toList = l := tl_S l
  rw [this]; rfl
/-- a whole number's signs -/
def intTx (i : Int) : List Nat := if i < 0 then 45 :: TL.numL i.natAbs else TL.numL i.natAbs
theorem nat_S (n : Nat) : Str.ofString (toString ((n : Nat) : Int)) = S (TL.numL n) := TL.ext_tl (by rw [TL.tl_num, tl_S])
theorem ofS_app (a b : String) : Str.ofString (a ++ b) = Str.ofString a ++ Str.ofString b := by
  apply TL.ext_tl
  rw [TL.tl_append]
  show (Str.ofString (a ++ b)).cps.toList = (Str.ofString a).cps.toList ++ (Str.ofString b).cps.toList
  rw [PyProof.Rows.signs_ofString, PyProof.Rows.signs_ofString, PyProof.Rows.signs_ofString, String.toList_append, List.map_append]
theorem int_S (i : Int) : Str.ofString (toString i) = S (intTx i) := by
  unfold intTx
  by_cases h : i < 0
  · rw [if_pos h, PyProof.Rows.toString_neg h, ofS_app]
    have : (0 : Int) - i = ((i.natAbs : Nat) : Int) := by omega
    rw [this, nat_S, show Str.ofString "-" = S [45] from rfl, S_app]; rfl
  · rw [if_neg h]
    have : i = ((i.natAbs : Nat) : Int) := by omega
    conv => lhs; rw [this]
    exact nat_S _
/-- a fraction's signs -/
def frTx (x : Rat) : List Nat := if x.den = 1 then intTx x.num else intTx x.num ++ 47 :: TL.numL x.den
def isDig (c : Nat) : Bool := decide (48 ≤ c ∧ c ≤ 57)
def numIn (l : List Nat) : Option Int := if 0 < l.length ∧ l.length ≤ 400 ∧ l.all isDig = true then (if l.head? ≠ some 48 ∨ l = [48] then some ((NumText.digitsVal l : Nat) : Int) else none) else none
def topIn (l : List Nat) : Option Int := if l.take 1 ≠ [45] then numIn l else match numIn (l.drop 1) with
  | some n => if n = 0 then none else some (0 - n)
  | none => none
/-- up to the first c, and behind it -/
def cutAt (c : Nat) : List Nat → Option (List Nat × List Nat)
  | [] => none
  | d :: l => if d = c then some ([], l) else match cutAt c l with
    | some (a, b) => some (d :: a, b)
    | none => none
theorem cutAt_some {c : Nat} : ∀ {l a b : List Nat}, cutAt c l = some (a, b) → l = a ++ c :: b ∧ c ∉ a
  | [], _, _, h => by cases h
  | d :: l, a, b, h => by
    unfold cutAt at h
    by_cases q : d = c
    · rw [if_pos q] at h; cases h; subst q; exact ⟨rfl, by simp⟩
    · rw [if_neg q] at h
      cases e : cutAt c l with
      | none => rw [e] at h; cases h
      | some p =>
        obtain ⟨a', b'⟩ := p
        rw [e] at h; cases h
        obtain ⟨h1, h2⟩ := cutAt_some e
        refine ⟨by rw [h1]; rfl, ?_⟩
        rw [List.mem_cons, not_or]
        exact ⟨fun z => q z.symm, h2⟩
theorem cutAt_cons {c d : Nat} {l : List Nat} : cutAt c (d :: l) = if d = c then some ([], l) else match cutAt c l with
    | some (a, b) => some (d :: a, b)
    | none => none := by rw [cutAt]
theorem cutAt_no {c : Nat} : ∀ {l : List Nat}, c ∉ l → cutAt c l = none
  | [], _ => by rw [cutAt]
  | d :: l, h => by
    rw [List.mem_cons, not_or] at h
    rw [cutAt_cons, if_neg (fun z => h.1 z.symm), cutAt_no h.2]
theorem cutAt_app {c : Nat} {b : List Nat} : ∀ {a : List Nat}, c ∉ a → cutAt c (a ++ c :: b) = some (a, b)
  | [], _ => by rw [List.nil_append, cutAt_cons, if_pos rfl]
  | d :: a, h => by
    rw [List.mem_cons, not_or] at h
    rw [List.cons_append, cutAt_cons, if_neg (fun z => h.1 z.symm), cutAt_app h.2]
theorem cutAt_none {c : Nat} : ∀ {l : List Nat}, cutAt c l = none → c ∉ l
  | [], _ => by simp
  | d :: l, h => by
    rw [cutAt_cons] at h
    by_cases q : d = c
    · rw [if_pos q] at h; cases h
    · rw [if_neg q] at h
      cases e : cutAt c l with
      | none => rw [List.mem_cons, not_or]; exact ⟨fun z => q z.symm, cutAt_none e⟩
      | some p => rw [e] at h; cases h
theorem part_S {c : Nat} {l : List Nat} : Txt.partition (S l) (S [c]) = match cutAt c l with
    | some (a, b) => (S a, S [c], S b)
    | none => (S l, S [], S []) := by
  cases e : cutAt c l with
  | none => exact TL.partition_none (y := S [c]) (s := c) (S := []) (tl_S _) (by rw [tl_S]; exact cutAt_none e)
  | some p =>
    obtain ⟨a, b⟩ := p
    obtain ⟨h1, h2⟩ := cutAt_some e
    have := TL.partition_app (y := S [c]) (s := c) (S := []) (tl_S _) (a := S a) (b := S b) (by rw [tl_S]; exact h2)
    rw [S_app, S_app, List.append_assoc] at this
    rw [h1]; exact this
def frIn (l : List Nat) : Option (Int × Int) := match cutAt 47 l with
  | some (a, b) => match topIn a, numIn b with
    | some t, some d => if d < 2 then none else if mkRat t d.toNat = mkRat t d.toNat ∧ (mkRat t d.toNat).num = t ∧ ((mkRat t d.toNat).den : Int) = d then some (t, d) else none
    | _, _ => none
  | none => match topIn l with
    | some t => some (t, 1)
    | none => none
theorem dig_all {l : List Nat} : l.all isDig = true ↔ NumText.AllDigits l := by
  rw [List.all_eq_true]
  exact ⟨fun h c hc => by simpa [isDig] using h c hc, fun h c hc => by simpa [isDig] using h c hc⟩
theorem numL_head : ∀ n : Nat, 0 < n → (TL.numL n).head? ≠ some 48 := by
  intro n
  induction n using Nat.strongRecOn with
  | _ n ih =>
    intro hn
    by_cases h : n < 10
    · rw [TL.numL_lt h]; simp; omega
    · rw [TL.numL_step (by omega)]
      have := ih (n / 10) (by omega) (by omega)
      have ne := TL.numL_ne (n / 10)
      cases q : TL.numL (n / 10) with
      | nil => exact absurd q ne
      | cons x r => rw [q] at this; exact this
theorem numIn_num {n : Nat} (h : (TL.numL n).length ≤ 400) : numIn (TL.numL n) = some (n : Int) := by
  unfold numIn
  rw [if_pos ⟨List.length_pos_iff.mpr (TL.numL_ne n), h, dig_all.mpr (TL.numL_digits n)⟩, TL.numL_val, if_pos]
  by_cases q : n = 0
  · subst q; exact .inr (TL.numL_lt (by decide))
  · exact .inl (numL_head n (by omega))
theorem numL_take {n : Nat} : (TL.numL n).take 1 ≠ [45] := by
  cases q : TL.numL n with
  | nil => exact absurd q (TL.numL_ne n)
  | cons x r =>
    have := TL.numL_digits n x (by rw [q]; exact List.mem_cons_self)
    simp
    omega
theorem topIn_int {i : Int} (h : (TL.numL i.natAbs).length ≤ 400) : topIn (intTx i) = some i := by
  unfold topIn intTx
  by_cases q : i < 0
  · rw [if_pos q]
    rw [if_neg (by simp)]
    show (match numIn (TL.numL i.natAbs) with | some n => if n = 0 then none else some (0 - n) | none => none) = some i
    rw [numIn_num h]
    show (if ((i.natAbs : Nat) : Int) = 0 then none else some (0 - ((i.natAbs : Nat) : Int))) = some i
    rw [if_neg (by omega)]
    congr 1; omega
  · rw [if_neg q, if_pos numL_take, numIn_num h]
    congr 1; omega
theorem intTx_47 (i : Int) : 47 ∉ intTx i := by
  unfold intTx
  split
  · rw [List.mem_cons, not_or]; exact ⟨by decide, TL.numL_free (.inl (by decide))⟩
  · exact TL.numL_free (.inl (by decide))
theorem frIn_fr {x : Rat} (h1 : (TL.numL x.num.natAbs).length ≤ 400) (h2 : (TL.numL x.den).length ≤ 400) : frIn (frTx x) = some (x.num, (x.den : Int)) := by
  unfold frIn frTx
  by_cases q : x.den = 1
  · rw [if_pos q, cutAt_no (intTx_47 _)]
    dsimp only
    rw [topIn_int h1, q]; rfl
  · rw [if_neg q, cutAt_app (intTx_47 _)]
    dsimp only
    rw [topIn_int h1, numIn_num h2]
    dsimp only
    have := x.den_pos
    rw [if_neg (by omega), Int.toNat_natCast, Rat.mkRat_self, if_pos ⟨rfl, rfl, rfl⟩]
/-- figures by size -/
theorem log_lt {n k : Nat} (h : n < 2 ^ k) (hk : 0 < k) : n.log2 < k := by
  by_cases q : n = 0
  · subst q; simpa using hk
  · exact (Nat.log2_lt q).mpr h
theorem ten400 : 10 ^ 400 ≤ 2 ^ 1400 := by decide +kernel
theorem int_log {i : Int} (h : i.natAbs < 10 ^ 400) : i.natAbs.log2 < 1920 := Nat.lt_trans (log_lt (Nat.lt_of_lt_of_le h ten400) (by decide)) (by decide)
theorem numL_400 {n : Nat} (h : n < 10 ^ 400) : (TL.numL n).length ≤ 400 := TL.numL_len (by decide) h
theorem numL_some {n : Nat} (h : n.log2 < 1920) : (TL.numL n).length ≤ 1000 := by
  have h1 : n < 2 ^ 1920 := by
    by_cases q : n = 0
    · subst q; exact Nat.two_pow_pos _
    · exact (Nat.log2_lt q).mp h
  exact TL.numL_len (by decide) (Nat.lt_of_lt_of_le h1 (by decide +kernel))
theorem intTx_len {i : Int} (h : i.natAbs.log2 < 1920) : (intTx i).length ≤ 1001 := by
  have := numL_some h
  unfold intTx
  split
  · rw [List.length_cons]; omega
  · omega
end M
/-! MIn: a datum among the items of a list; texts split at blanks; fractions read. -/
namespace M
open PySem L2
section
variable {X : Cx} {a b : Expr} {pos : Pos} {K : PySem.W.Frag} {fa fb : AE} {k : Nat}
def bInD (neg : Bool) : AB := fun d e M k => ∃ (t : T) (us : List T), RdT M d t ∧ RdT M e (.lst us) ∧ k (.bl (if neg then !(us.any fun u => PyData.eqv u.py t.py) else us.any fun u => PyData.eqv u.py t.py)) M
theorem pys_any (t : T) : ∀ us : List T, ((T.pys us).any fun z => PyData.eqv z t.py) = us.any fun u => PyData.eqv u.py t.py
  | [] => rfl
  | u :: us => by rw [T.pys, List.any_cons, List.any_cons, pys_any t us]
theorem bInD_ok : OkB K (rInD K) (bInD false) := by
  rintro d e M k v u H I F Q ⟨t, us, h1, h2, h⟩ c r1 r2 hk
  refine ⟨t.py, T.pys us, rdD_ok c _ _ _ _ h1.1 r1, ?_, T.shaped h1.2, ?_, hk _ M _ H I h (Le.refl I) c (by rw [Rel, pys_any]; rfl)⟩
  · have := rdD_ok c _ _ _ _ h2.1 r2
    rwa [T.py] at this
  · have := T.shaped h2.2
    rwa [T.py] at this
theorem bNotInD_ok : OkB K (rNotInD K) (bInD true) := by
  rintro d e M k v u H I F Q ⟨t, us, h1, h2, h⟩ c r1 r2 hk
  refine ⟨t.py, T.pys us, rdD_ok c _ _ _ _ h1.1 r1, ?_, T.shaped h1.2, ?_, hk _ M _ H I h (Le.refl I) c (by rw [Rel, pys_any]; rfl)⟩
  · have := rdD_ok c _ _ _ _ h2.1 r2
    rwa [T.py] at this
  · have := T.shaped h2.2
    rwa [T.py] at this
theorem u65 (hr : Room k X.A) : X.A.units + 65 < cLine := by have := hr.un; omega
theorem e_inD (hr : Room k X.A) (ha : PE X a (lift X.K fa)) (hb : PE X b (lift X.K fb)) (hm : behindInMarks .In b = false := by with_unfolding_all rfl) : PE X (.Compare a [.In] [b] pos) (lift X.K (aOp (bInD false) fa fb)) := (pe_cmpR (op_inD (u65 hr)) ha hb hm).imp (lift_op bInD_ok)
theorem e_notInD (hr : Room k X.A) (ha : PE X a (lift X.K fa)) (hb : PE X b (lift X.K fb)) (hm : behindInMarks .NotIn b = false := by with_unfolding_all rfl) : PE X (.Compare a [.NotIn] [b] pos) (lift X.K (aOp (bInD true) fa fb)) := (pe_cmpR (op_notInD (u65 hr)) ha hb hm).imp (lift_op bNotInD_ok)
theorem t_inD (hr : Room k X.A) (ha : PE X a (lift X.K fa)) (hb : PE X b (lift X.K fb)) (hm : behindInMarks .In b = false := by with_unfolding_all rfl) : PT X (.Compare a [.In] [b] pos) (liftT X.K (aB (aOp (bInD false) fa fb))) := t_op (op_inD (u65 hr)) bInD_ok ha hb hm
theorem t_notInD (hr : Room k X.A) (ha : PE X a (lift X.K fa)) (hb : PE X b (lift X.K fb)) (hm : behindInMarks .NotIn b = false := by with_unfolding_all rfl) : PT X (.Compare a [.NotIn] [b] pos) (liftT X.K (aB (aOp (bInD true) fa fb))) := t_op (op_notInD (u65 hr)) bNotInD_ok ha hb hm
end
theorem any_T (t : T) (us : List T) : (us.any fun u => PyData.eqv u.py t.py) = true ↔ t ∈ us := by
  rw [List.any_eq_true]
  exact ⟨fun ⟨u, h1, h2⟩ => by rw [(eqv_T u t).mp h2] at h1; exact h1, fun h => ⟨t, h, (eqv_T t t).mpr rfl⟩⟩
theorem iInD {neg : Bool} {d e : D} {t : T} {us : List T} {M : MH} {k : AK} {b : Bool} (h : k (.bl (if neg then !b else b)) M) (q : b = true ↔ t ∈ us) (h1 : RdT M d t) (h2 : RdT M e (.lst us)) : bInD neg d e M k :=
  ⟨t, us, h1, h2, by
    have : (us.any fun u => PyData.eqv u.py t.py) = b := by
      rw [Bool.eq_iff_iff, any_T, q]
    rw [this]; exact h⟩
theorem iInDf {d e : D} {t : T} {us : List T} {M : MH} {k : AK} {b : Bool} (h : k (.bl b) M) (q : b = true ↔ t ∈ us) (h1 : RdT M d t) (h2 : RdT M e (.lst us)) : bInD false d e M k := iInD (neg := false) h q h1 h2
theorem joinL_len {s B : Nat} : ∀ {ps : List (List Nat)}, (∀ p ∈ ps, p.length ≤ B) → (TL.joinL [s] ps).length ≤ ps.length * (B + 1)
  | [], _ => Nat.zero_le _
  | [p], h => by
    show p.length ≤ 1 * (B + 1)
    have := h p List.mem_cons_self
    omega
  | p :: q :: r, h => by
    show (p ++ ([s] ++ TL.joinL [s] (q :: r))).length ≤ (q :: r).length.succ * (B + 1)
    have h1 := joinL_len (s := s) (B := B) (ps := q :: r) fun z hz => h z (List.mem_cons_of_mem _ hz)
    have h2 := h p List.mem_cons_self
    rw [List.length_append, List.length_append, List.length_singleton, Nat.succ_mul]
    omega
theorem RdT.non {M : MH} : RdT M .non .non := RdT.of M (t := .non) (Nat.zero_le _)
theorem RdT.int {M : MH} {i : Int} : RdT M (.int i) (.int i) := RdT.of M (t := .int i) (Nat.zero_le _)
/-! texts split at a sign -/
def wordsS (c : Nat) (l : List Nat) : List (List Nat) := (Txt.split (S l) (S [c])).map TL.tl
theorem split_S (c : Nat) (l : List Nat) : Txt.split (S l) (S [c]) = (wordsS c l).map S := by
  unfold wordsS
  rw [List.map_map]
  conv => lhs; rw [← List.map_id (Txt.split (S l) (S [c]))]
  exact List.map_congr_left fun x _ => (S_tl x).symm
theorem spl_len {s : Nat} : ∀ (l acc : List Nat) (w : List Nat), w ∈ TL.spl [s] 0 acc l → w.length ≤ acc.length + l.length
  | [], acc, w, h => by
    rw [TL.spl_nil] at h
    rw [List.mem_singleton.mp h]; omega
  | c :: r, acc, w, h => by
    by_cases q : TL.pre [s] (c :: r) = true
    · rw [TL.spl_hit q] at h
      rcases List.mem_cons.mp h with rfl | h
      · omega
      · have := spl_len r [] w h
        rw [List.length_cons]; rw [List.length_nil] at this; omega
    · have e : TL.spl [s] 0 acc (c :: r) = TL.spl [s] 0 (acc ++ [c]) r := by
        rw [TL.spl, if_neg q]
      rw [e] at h
      have := spl_len r (acc ++ [c]) w h
      rw [List.length_append, List.length_singleton] at this
      rw [List.length_cons]; omega
theorem spl_num {s : Nat} : ∀ (l acc : List Nat), (TL.spl [s] 0 acc l).length ≤ l.length + 1
  | [], acc => by rw [TL.spl_nil]; simp
  | c :: r, acc => by
    by_cases q : TL.pre [s] (c :: r) = true
    · rw [TL.spl_hit q]
      have := spl_num (s := s) r []
      show (TL.spl [s] 0 [] r).length + 1 ≤ r.length + 1 + 1
      omega
    · have e : TL.spl [s] 0 acc (c :: r) = TL.spl [s] 0 (acc ++ [c]) r := by
        rw [TL.spl, if_neg q]
      rw [e, List.length_cons]
      have := spl_num (s := s) r (acc ++ [c])
      omega
theorem wordsS_spl {c : Nat} (hc : c < 256) (l : List Nat) : wordsS c l = TL.spl [c] 0 [] l := by
  unfold wordsS
  have := TL.split_spl (S l) (S [c]) (by rw [tl_S]; simp) (TL.kind_ok (by show (S [c]).cps.all (· < 256) = true; unfold S; simp; exact hc))
  rw [this, tl_S, tl_S]
theorem wordsS_len {c : Nat} (hc : c < 256) {l w : List Nat} (h : w ∈ wordsS c l) : w.length ≤ l.length := by
  rw [wordsS_spl hc] at h
  have := spl_len l [] w h
  rw [List.length_nil] at this; omega
theorem wordsS_num {c : Nat} (hc : c < 256) (l : List Nat) : (wordsS c l).length ≤ l.length + 1 := by
  rw [wordsS_spl hc]; exact spl_num l []
theorem wordsS_join {c : Nat} (hc : c < 256) {ps : List (List Nat)} (hne : ps ≠ []) (h : ∀ p ∈ ps, c ∉ p) : wordsS c (TL.tl (Txt.join (S [c]) (ps.map S))) = ps := by
  unfold wordsS
  rw [S_tl, TL.split_join (y := S [c]) (s := c) (S := []) (tl_S _) (by unfold S; simp; exact hc) (by simpa using hne) (fun p hp => by
    obtain ⟨q, hq, rfl⟩ := List.mem_map.mp hp
    rw [tl_S]; exact h q hq), List.map_map]
  conv => rhs; rw [← List.map_id ps]
  exact List.map_congr_left fun x _ => tl_S x
end M
/-! MCls: own classes: fields, methods, instances made. -/
namespace M
open PySem L2
section
variable {K : PySem.W.Frag} {H I F : Hp} {M : MH}
theorem RelF.get : ∀ {ds : List (Str × D)} {vs : List (Str × V)} {f : Str} {d : D}, RelF K I ds vs → ds.lookup f = some d → ∃ v, vs.lookup f = some v ∧ Rel K I d v
  | [], vs, f, d, h, e => by cases e
  | (g, x) :: ds, vs, f, d, ⟨w, ws, h1, h2, h3⟩, e => by
    subst h1
    rw [List.lookup_cons] at e ⊢
    cases q : f == g with
    | true => rw [q] at e; cases e; exact ⟨w, rfl, h2⟩
    | false => rw [q] at e; exact RelF.get h3 e
theorem RelF.no : ∀ {ds : List (Str × D)} {vs : List (Str × V)} {f : Str}, RelF K I ds vs → ds.lookup f = none → vs.lookup f = none
  | [], vs, f, h, e => by rw [show vs = [] from h]; rfl
  | (g, x) :: ds, vs, f, ⟨w, ws, h1, h2, h3⟩, e => by
    subst h1
    rw [List.lookup_cons] at e ⊢
    cases q : f == g with
    | true => rw [q] at e; cases e
    | false => rw [q] at e; exact RelF.no h3 e
theorem RelF.len : ∀ {ds : List (Str × D)} {vs : List (Str × V)}, RelF K I ds vs → ds.length = vs.length
  | [], vs, h => by rw [show vs = [] from h]; rfl
  | (g, x) :: ds, vs, ⟨w, ws, h1, h2, h3⟩ => by subst h1; rw [List.length_cons, List.length_cons, RelF.len h3]
def putD (f : Str) (d : D) : List (Str × D) → List (Str × D)
  | [] => [(f, d)]
  | (g, x) :: r => if g = f then (g, d) :: r else (g, x) :: putD f d r
theorem RelF.put : ∀ {ds : List (Str × D)} {vs : List (Str × V)} {f : Str} {d : D} {v : V}, RelF K I ds vs → Rel K I d v → RelF K I (putD f d ds) (putF f v vs)
  | [], vs, f, d, v, h, r => by rw [show vs = [] from h]; exact ⟨v, [], rfl, r, rfl⟩
  | (g, x) :: ds, vs, f, d, v, ⟨w, ws, h1, h2, h3⟩, r => by
    subst h1
    show RelF K I (if g = f then (g, d) :: ds else (g, x) :: putD f d ds) (if g = f then (g, v) :: ws else (g, w) :: putF f v ws)
    by_cases q : g = f
    · rw [if_pos q, if_pos q]; exact ⟨v, ws, rfl, r, h3⟩
    · rw [if_neg q, if_neg q]; exact ⟨w, _, rfl, h2, RelF.put h3 r⟩
/-- an instance of C without an attribute m, open or boxed -/
def InsO (C : Addr) (m : Str) : MO → Prop
  | .obj (.ins C' fs) => C' = C ∧ fs.lookup m = none
  | .box _ φ => ∀ bs, φ bs → ∃ fs r, bs = .ins C fs :: r ∧ fs.lookup m = none
  | _ => False
def IsI (M : MH) (C : Addr) (m : Str) (a : Addr) : Prop := ∃ o, M a = some o ∧ InsO C m o
theorem IsI.ok {C : Addr} {m : Str} {a : Addr} (h : IsI M C m a) (c : Conc K H I M F) : ∃ dx fs, H a = some (.ins C dx fs) ∧ fs.lookup m = none := by
  obtain ⟨o, e, q⟩ := h
  have r := c.rel a o e
  cases o with
  | obj b =>
    cases b with
    | ins C' fs =>
      obtain ⟨rfl, q⟩ := q
      obtain ⟨dx, vs, h1, h2⟩ := r
      exact ⟨dx, vs, h1, h2.no q⟩
    | lst l => exact q.elim
    | dic l => exact q.elim
    | tbl l => exact q.elim
  | part p => exact q.elim
  | box ps φ =>
    obtain ⟨_, bs, ⟨b, r', e1, e2, e3⟩, h3⟩ := r
    obtain ⟨fs, r2, e4, e5⟩ := q bs h3
    rw [e1] at e4
    cases e4
    obtain ⟨dx, vs, h1, h2⟩ := e2
    exact ⟨dx, vs, h1, h2.no e5⟩
end
section
variable {X : Cx} {e o value : Expr} {es : List Expr} {pos p apos pos' : Pos} {kws : List Keyword}
/-! ### fields -/
def aFld (C : Addr) (f : Str) (fo : AE) : AE := fun Γ M k => fo Γ M fun d M1 => match d with
  | .ref a => (match M1 a with
    | some (.obj (.ins C' fs)) => C' = C ∧ (match fs.lookup f with
      | some v => k v M1
      | none => False)
    | _ => False)
  | _ => False
theorem e_fld {C : Addr} {f : Str} {fo : AE} (c : Cls X.K C) (n : NoAttr X.K C f) (he : PE X e (lift X.K fo)) (hb : attributeBase e f X.env (eval e X.env) = eval e X.env := by rfl) : PE X (.Attribute e f pos) (lift X.K (aFld C f fo)) :=
  (pe_fld he hb).imp fun σ H Q ⟨Γ, M, I, F, k, hs, hc, hf, hk⟩ => ⟨Γ, M, I, F, _, hs, hc, hf, fun d M1 v H1 I1 h1 l1 c1 r1 => by
    split at h1
    · rename_i a
      split at h1
      · rename_i C' fs e0
        obtain ⟨rfl, h1⟩ := h1
        split at h1
        · rename_i d e1
          rw [Rel] at r1
          obtain ⟨dx, vs, h2, h3⟩ := c1.rel a _ e0
          obtain ⟨u, e2, r2⟩ := h3.get e1
          exact ⟨a, _, dx, vs, u, r1, h2, c, n, e2, hk _ _ _ _ _ h1 l1 c1 r2⟩
        · exact h1.elim
      · exact h1.elim
    · exact h1.elim⟩
def kFld (C : Addr) (f : Str) (k : AK) : AK := fun d M1 => match d with
  | .ref a => (match M1 a with
    | some (.obj (.ins C' fs)) => C' = C ∧ (match fs.lookup f with
      | some v => k v M1
      | none => False)
    | _ => False)
  | _ => False
theorem eFld {C : Addr} {f : Str} {fo : AE} {Γ : G} {M : MH} {k : AK} : (aFld C f fo Γ M k) = (fo Γ M (kFld C f k)) := propext Iff.rfl
theorem iKFld {C : Addr} {f : Str} {M : MH} {k : AK} {a : Addr} {fs : List (Str × D)} {v : D} (h : k v M) (q : M a = some (.obj (.ins C fs))) (l : fs.lookup f = some v) : kFld C f k (.ref a) M := by
  show (match M a with
    | some (.obj (.ins C' fs)) => C' = C ∧ (match fs.lookup f with
      | some v => k v M
      | none => False)
    | _ => False)
  rw [q]
  refine ⟨rfl, ?_⟩
  show (match fs.lookup f with
      | some v => k v M
      | none => False)
  rw [l]; exact h
/-- o.f = e -/
def aSFld (C : Addr) (f : Str) (fo fe : AE) : AS := fun Z Γ M => fe Γ M fun d M1 => fo Γ M1 fun b M2 => match b with
  | .ref a => (match M2 a with
    | some (.obj (.ins C' fs)) => C' = C ∧ fs.length < 1000 ∧ Z.nx Γ (up M2 a (.obj (.ins C (putD f d fs))))
    | _ => False)
  | _ => False
theorem s_fld {C : Addr} {f : Str} {fo fe : AE} (c : Cls X.K C) (n : NoAttr X.K C f) (ho : PE X o (lift X.K fo)) (hv : PE X value (lift X.K fe)) (hs : swapsWith value (some (.Attribute o f pos')) pos.line X.env = pure false := by rfl) :
    PS X (.Assign [.Attribute o f pos'] value pos) (liftS X.K (aSFld C f fo fe)) :=
  (ps_fld ho hv hs).imp fun E σ H ⟨Γ, M, I, F, Z, hs, hc, hf, hk⟩ => ⟨Γ, M, I, F, _, hs, hc, hf, fun d M1 y H1 I1 h1 l1 c1 r1 => ⟨Γ, M1, I1, F, _, hs.le l1, c1, h1, fun b M2 x H2 I2 h2 l2 c2 r2 => by
    split at h2
    · rename_i a
      split at h2
      · rename_i C' fs e0
        obtain ⟨rfl, h3, h4⟩ := h2
        rw [Rel] at r2
        obtain ⟨dx, vs, h5, h6⟩ := c2.rel a _ e0
        refine ⟨a, _, dx, vs, r2, h5, c, n, by rw [← h6.len]; exact h3, ?_⟩
        have c3 := c2.set (o := .ins C' dx (putF f y vs)) (b := .ins C' (putD f d fs)) e0 ⟨dx, _, upd_same, h6.put (Rel.le l2 _ _ r1)⟩
        exact hk.nx _ _ _ _ _ h4 (l1.trans l2) c3 (hs.le (l1.trans l2))
      · exact h2.elim
    · exact h2.elim⟩⟩
def kSFld (C : Addr) (f : Str) (Z : AD) (Γ : G) (d : D) : AK := fun b M2 => match b with
  | .ref a => (match M2 a with
    | some (.obj (.ins C' fs)) => C' = C ∧ fs.length < 1000 ∧ Z.nx Γ (up M2 a (.obj (.ins C (putD f d fs))))
    | _ => False)
  | _ => False
theorem eSFld {C : Addr} {f : Str} {fo fe : AE} {Γ : G} {M : MH} {Z : AD} : (aSFld C f fo fe Z Γ M) = (fe Γ M fun d M1 => fo Γ M1 (kSFld C f Z Γ d)) := propext Iff.rfl
theorem iKSFld {C : Addr} {f : Str} {Z : AD} {Γ : G} {d : D} {M : MH} {a : Addr} {fs : List (Str × D)} (h : Z.nx Γ (up M a (.obj (.ins C (putD f d fs))))) (q : M a = some (.obj (.ins C fs))) (l : fs.length < 1000) : kSFld C f Z Γ d (.ref a) M := by
  show (match M a with
    | some (.obj (.ins C' fs)) => C' = C ∧ fs.length < 1000 ∧ Z.nx Γ (up M a (.obj (.ins C (putD f d fs))))
    | _ => False)
  rw [q]
  exact ⟨rfl, l, h⟩
/-! ### methods -/
def aMeth (x : EK) (C : Addr) (m : Str) (F : AF) (dds : List D) (fo : AE) (g : AA) : AE := fun Γ M k => fo Γ M fun d M1 => match d with
  | .ref a => IsI M1 C m a ∧ g Γ M1 fun ds M2 => F (.ref a :: (ds ++ dds)) M2 k x
  | _ => False
section
variable {j k : Nat} {f C : Addr} {fd : FuncData} {ps : List Str} {F : AF} {m x : Str} {dds : List D} {dvs : List V} {ds : List Value} {fo : AE} {g gk : AA} {pl : Sem Bool}
theorem lift_meth {σ : L2.St} {H : Hp} {Q : VK} {K : PySem.W.Frag} (hd : ∀ I, Rels K I dds dvs) (h : lift K (aMeth noX C m F dds fo g) σ H Q) : tMeth C m (liftF K F) dvs E0 (lift K fo) (liftA K g) σ H Q := by
  obtain ⟨Γ, M, I, Fr, k, hs, hc, hf, hk⟩ := h
  refine ⟨Γ, M, I, Fr, _, hs, hc, hf, fun d M1 v H1 I1 h1 l1 c1 r1 => ?_⟩
  split at h1
  · rename_i a
    obtain ⟨h1, h2⟩ := h1
    obtain ⟨dx, fs, e1, e2⟩ := h1.ok c1
    rw [Rel] at r1
    refine ⟨a, dx, fs, r1, e1, e2, Γ, M1, I1, Fr, _, hs.le l1, c1, h2, fun ds M2 vs H2 I2 h3 l2 c2 r2 => ?_⟩
    rw [r1]
    exact ⟨_, M2, I2, Fr, k, noX, .cons (by rw [Rel]) (r2.append (hd I2)), c2, h3, hk.le (l1.trans l2), fun C w M v H I' d z => z.elim⟩
  · exact h1.elim
theorem e_meth (ho : PE X o (lift X.K fo)) (c : Cls X.K C) (hm : Meth X.K C m f) (G : FnOk X.prog X.w X.K X.mg X.base CX0 j f fd ps (liftF X.K F)) (hr : Room k X.A) (hjk : j ≤ k) (hb : Binds X.K fd ps ds) (hd : Dfl X.K dds dvs ds) (ha : PA X (e :: es) (liftA X.K g))
    (hst : starEach (e :: es) X.env = (false, eval e X.env) :: starEach es X.env := by rfl) (hpl : (backTo pos (starEach es X.env)).any (·.1) = false := by rfl)
    (ht : eval (.Call (.Attribute o m apos) (e :: es) [] pos) X.env = (do let ov ← eval o X.env; standAt apos.atName; let (f, first) ← holding [ov] (getMethod ov m pl); callWith pos f first (backTo pos (starEach (e :: es) X.env)) (backToKw pos (keywordEach [] X.env))) := by rfl) :
    PE X (.Call (.Attribute o m apos) (e :: es) [] pos) (lift X.K (aMeth noX C m F dds fo g)) := (pe_meth ho c hm (G.mono hjk) hr hb hd.val pass0 ha hst hpl ht).imp fun σ H Q h => lift_meth hd.rel h
theorem e_meth0 (ho : PE X o (lift X.K fo)) (c : Cls X.K C) (hm : Meth X.K C m f) (G : FnOk X.prog X.w X.K X.mg X.base CX0 j f fd ps (liftF X.K F)) (hr : Room k X.A) (hjk : j ≤ k) (hb : Binds X.K fd ps ds) (hd : Dfl X.K dds dvs ds)
    (ht : eval (.Call (.Attribute o m apos) [] [] pos) X.env = (do let ov ← eval o X.env; standAt apos.atName; let (f, first) ← holding [ov] (getMethod ov m pl); callWith pos f first (backTo pos (starEach [] X.env)) (backToKw pos (keywordEach [] X.env))) := by rfl) :
    PE X (.Call (.Attribute o m apos) [] [] pos) (lift X.K (aMeth noX C m F dds fo aNil)) := (pe_meth0 ho c hm (G.mono hjk) hr hb hd.val pass0 ht).imp fun σ H Q h => by
  obtain ⟨Γ, M, I, Fr, k, hs, hc, hf, hk⟩ := h
  refine ⟨Γ, M, I, Fr, _, hs, hc, hf, fun d M1 v H1 I1 h1 l1 c1 r1 => ?_⟩
  split at h1
  · rename_i a
    obtain ⟨h1, h2⟩ := h1
    obtain ⟨dx, fs, e1, e2⟩ := h1.ok c1
    rw [Rel] at r1
    refine ⟨a, dx, fs, r1, e1, e2, ?_⟩
    rw [r1]
    exact ⟨_, M1, I1, Fr, k, noX, .cons (by rw [Rel]) (Rels.append .nil (hd.rel I1)), c1, h2, hk.le l1, fun C w M v H I' d z => z.elim⟩
  · exact h1.elim
/-! ### instances made -/
def aMake (x : EK) (C : Addr) (F : AF) (dds : List D) (g : AA) : AE := fun Γ M k => g Γ M fun ds M1 => ∀ p, M1 p = none → F (.ref p :: (ds ++ dds)) (up M1 p (.obj (.ins C []))) (fun d M2 => d = .non ∧ k (.ref p) M2) x
theorem Conc.made {K : PySem.W.Frag} {H I F : Hp} {M : MH} {x dx : Addr} (c : Conc K H I M F) (hx : H x = none) (hdx : H dx = none) (ne : dx ≠ x) : Conc K (upd (upd H dx (.own x)) x (.ins C dx [])) I (up M x (.obj (.ins C []))) F := by
  have hx2 : upd H dx (.own x) x = none := by rw [upd_ne (fun z => ne z.symm)]; exact hx
  exact (c.new0 (o := .own x) hdx).newM hx2 ⟨dx, [], upd_same, rfl⟩
theorem lift_make {K : PySem.W.Frag} {H I Fr : Hp} {M : MH} {k : AK} {Q : VK} {x dx : Addr} {ds : List D} {vs : List V} (hk : kE K I Fr k Q) (c : Conc K H I M Fr) (hx : H x = none) (hdx : H dx = none) (ne : dx ≠ x) (r : Rels K I ds vs)
    (h : F ds (up M x (.obj (.ins C []))) (fun d M2 => d = .non ∧ k (.ref x) M2) noX) : liftF K F vs (upd (upd H dx (.own x)) x (.ins C dx [])) (fun v H2 => v = .non ∧ Q (.ref x) H2) E0 := by
  refine ⟨_, _, I, Fr, _, noX, r, c.made hx hdx ne, h, ?_, fun C w M v H I' d z => z.elim⟩
  rintro d M2 v H2 I2 ⟨rfl, h2⟩ l2 c2 r2
  rw [Rel] at r2
  exact ⟨r2, hk _ _ _ _ _ h2 l2 c2 (by rw [Rel])⟩
theorem e_make (Mk_ : Mk X.K C f) (G : FnOk X.prog X.w X.K X.mg X.base CX0 j f fd ps (liftF X.K F)) (hr : Room k X.A) (hjk : j + 1 ≤ k) (hm : X.mg x = some (.ref C)) (hb : Binds X.K fd ps ds) (hd : Dfl X.K dds dvs ds) (ha : PA X (e :: es) (liftA X.K g)) (hg : Gl X x := by rfl)
    (hdb : (x == ("__debug__" : Str)) = false := by decide) (he : starEach (e :: es) X.env = (false, eval e X.env) :: starEach es X.env := by rfl) (hpl : (backTo pos (starEach es X.env)).any (·.1) = false := by rfl) :
    PE X (.Call (.Name x p) (e :: es) [] pos) (lift X.K (aMake noX C F dds g)) := (pe_make Mk_ G (hr.mono hjk) hg hm hb hd.val pass0 ha hdb he hpl).imp fun σ H Q ⟨Γ, M, I, Fr, k, hs, hc, hf, hk⟩ =>
  ⟨Γ, M, I, Fr, _, hs, hc, hf, fun ds M1 vs H1 I1 h1 l1 c1 r1 => fun y dx hy hdx ne => lift_make (hk.le l1) c1 hy hdx ne (.cons (by rw [Rel]) (r1.append (hd.rel I1))) (h1 y (c1.fresh hy).2)⟩
def aMakeK (x : EK) (C : Addr) (F : AF) (n : Nat) (ix : List Nat) (dds : List D) (gk : AA) : AE := fun Γ M k => gk Γ M fun es M1 => es.length = n ∧ ∀ p, M1 p = none → F (pick ix (.ref p :: (es ++ dds))) (up M1 p (.obj (.ins C []))) (fun d M2 => d = .non ∧ k (.ref p) M2) x
variable {ks : List Str} {ix : List Nat}
theorem e_makeK0 (Mk_ : Mk X.K C f) (G : FnOk X.prog X.w X.K X.mg X.base CX0 j f fd ps (liftF X.K F)) (hr : Room k X.A) (hjk : j + 1 ≤ k) (hm : X.mg x = some (.ref C)) (hb : BK X.K fd ps 1 ks ix ds) (hd : Dfl X.K dds dvs ds) (hkw : PK X kws (liftA X.K gk)) (hg : Gl X x := by rfl)
    (hall : (backToKw pos (keywordEach kws X.env)).all (·.1.isSome) = true := by rfl) (hks : (backToKw pos (keywordEach kws X.env)).filterMap (·.1) = ks := by rfl)
    (hdb : (x == ("__debug__" : Str)) = false := by decide) (hpl : ((backTo pos (starEach [] X.env)).any (·.1) || (backToKw pos (keywordEach kws X.env)).any (·.1.isNone)) = false := by rfl) :
    PE X (.Call (.Name x p) [] kws pos) (lift X.K (aMakeK noX C F ks.length ix dds gk)) := (pe_makeK0 Mk_ G (hr.mono hjk) hg hm (hb.kbn hd.val) pass0 hkw hall hks hdb hpl).imp fun σ H Q ⟨Γ, M, I, Fr, k, hs, hc, hf, hk⟩ => by
  show liftA X.K gk σ H fun zs H2 => ([] : List V).length = 0 ∧ zs.length = ks.length ∧ ∀ x dx, H2 x = none → H2 dx = none → dx ≠ x → liftF X.K F (pick ix ([.ref x] ++ zs ++ dvs)) (upd (upd H2 dx (.own x)) x (.ins C dx [])) (fun v H3 => v = .non ∧ Q (.ref x) H3) E0
  refine ⟨Γ, M, I, Fr, _, hs, hc, hf, fun es M1 zs H1 I1 h1 l1 c1 r1 => ⟨rfl, by rw [← r1.length]; exact h1.1, fun y dx hy hdx ne => ?_⟩⟩
  exact lift_make (hk.le l1) c1 hy hdx ne (pick_rels (Rels.append (.cons (by rw [Rel]) r1) (hd.rel I1))) (h1.2 y (c1.fresh hy).2)
def kMeth (C : Addr) (m : Str) (F : AF) (dds : List D) (g : AA) (Γ : G) (k : AK) (x : EK) : AK := fun d M1 => match d with
  | .ref a => IsI M1 C m a ∧ g Γ M1 fun ds M2 => F (.ref a :: (ds ++ dds)) M2 k x
  | _ => False
theorem eMeth {x : EK} {Γ : G} {M : MH} {k : AK} : (aMeth x C m F dds fo g Γ M k) = (fo Γ M (kMeth C m F dds g Γ k x)) := propext Iff.rfl
theorem iKMeth {x : EK} {Γ : G} {M : MH} {k : AK} {a : Addr} {o : MO} (h : g Γ M fun ds M2 => F (.ref a :: (ds ++ dds)) M2 k x) (q : M a = some o) (i : InsO C m o) : kMeth C m F dds g Γ k x (.ref a) M := ⟨⟨o, q, i⟩, h⟩
theorem eMake {x : EK} {Γ : G} {M : MH} {k : AK} : (aMake x C F dds g Γ M k) = (g Γ M fun ds M1 => ∀ p, M1 p = none → F (.ref p :: (ds ++ dds)) (up M1 p (.obj (.ins C []))) (fun d M2 => d = .non ∧ k (.ref p) M2) x) := propext Iff.rfl
theorem eMakeK {x : EK} {n : Nat} {ix : List Nat} {Γ : G} {M : MH} {k : AK} : (aMakeK x C F n ix dds gk Γ M k) = (gk Γ M fun es M1 => es.length = n ∧ ∀ p, M1 p = none → F (pick ix (.ref p :: (es ++ dds))) (up M1 p (.obj (.ins C []))) (fun d M2 => d = .non ∧ k (.ref p) M2) x) := propext Iff.rfl
end
end
/-! ### a History -/
/-- floors, waters (at first and behind each step), steps -/
structure HD where
  ns : List Int
  ws : List (List Rat)
  st : List (List Int × List Rat)
def hF (a b c : Addr) : List (Str × D) := [("floors_held", .ref a), ("waters_held", .ref b), ("steps_held", .ref c)]
def watD (w : List Rat) : D := .lst (w.map frD)
def stepD (s : List Int × List Rat) : D := .tup [.lst (s.1.map .int), .lst (s.2.map frD)]
def hBs (C a b c : Addr) (h : HD) : List BO := [.ins C (hF a b c), .lst (h.ns.map .int), .lst (h.ws.map watD), .lst (h.st.map stepD)]
def hBox (C a b c : Addr) (h : HD) : MO := .box [a, b, c] (fun bs => bs = hBs C a b c h ∧ a ≠ b ∧ a ≠ c ∧ b ≠ c)
section
variable {C a b c : Addr} {h : HD}
theorem hF_a : (hF a b c).lookup ("floors_held" : Str) = some (.ref a) := by
  unfold hF
  rw [List.lookup_cons, show (("floors_held" : Str) == ("floors_held" : Str)) = true by decide +kernel]
theorem hF_b : (hF a b c).lookup ("waters_held" : Str) = some (.ref b) := by
  unfold hF
  rw [List.lookup_cons, show (("waters_held" : Str) == ("floors_held" : Str)) = false by decide +kernel]
  show List.lookup ("waters_held" : Str) _ = _
  rw [List.lookup_cons, show (("waters_held" : Str) == ("waters_held" : Str)) = true by decide +kernel]
theorem hF_c : (hF a b c).lookup ("steps_held" : Str) = some (.ref c) := by
  unfold hF
  rw [List.lookup_cons, show (("steps_held" : Str) == ("floors_held" : Str)) = false by decide +kernel]
  show List.lookup ("steps_held" : Str) _ = _
  rw [List.lookup_cons, show (("steps_held" : Str) == ("waters_held" : Str)) = false by decide +kernel]
  show List.lookup ("steps_held" : Str) _ = _
  rw [List.lookup_cons, show (("steps_held" : Str) == ("steps_held" : Str)) = true by decide +kernel]
theorem hF_no {m : Str} (h1 : (m == ("floors_held" : Str)) = false) (h2 : (m == ("waters_held" : Str)) = false) (h3 : (m == ("steps_held" : Str)) = false) : (hF a b c).lookup m = none := by
  unfold hF
  rw [List.lookup_cons, h1]
  show List.lookup m _ = _
  rw [List.lookup_cons, h2]
  show List.lookup m _ = _
  rw [List.lookup_cons, h3]
  rfl
theorem hF_put (C : Addr) : putD "steps_held" (.ref c) (putD "waters_held" (.ref b) (putD "floors_held" (.ref a) [])) = hF a b c := by
  unfold hF
  have e1 : ¬ (("floors_held" : Str) = ("waters_held" : Str)) := by decide +kernel
  have e2 : ¬ (("floors_held" : Str) = ("steps_held" : Str)) := by decide +kernel
  have e3 : ¬ (("waters_held" : Str) = ("steps_held" : Str)) := by decide +kernel
  show putD "steps_held" (.ref c) (if ("floors_held" : Str) = ("waters_held" : Str) then _ else (("floors_held" : Str), D.ref a) :: putD "waters_held" (.ref b) []) = _
  rw [if_neg e1]
  show (if ("floors_held" : Str) = ("steps_held" : Str) then _ else (("floors_held" : Str), D.ref a) :: (if ("waters_held" : Str) = ("steps_held" : Str) then _ else (("waters_held" : Str), D.ref b) :: putD "steps_held" (.ref c) [])) = _
  rw [if_neg e2, if_neg e3]
  rfl
theorem hBox_ins {m : Str} (h1 : (m == ("floors_held" : Str)) = false := by decide +kernel) (h2 : (m == ("waters_held" : Str)) = false := by decide +kernel) (h3 : (m == ("steps_held" : Str)) = false := by decide +kernel) : InsO C m (hBox C a b c h) := fun bs e => ⟨_, _, e.1, hF_no h1 h2 h3⟩
end
end M
/-! MZip: list(zip(xs, ys)). -/
namespace PySem
open Sem (wp)
theorem lz_no_len : typeLookup (.type "zip") "__len__" = pure none := by rw [typeLookup_type, builtinLookup_eq_fast]; kernel_rfl
theorem lz_no_hint : typeLookup (.type "zip") "__length_hint__" = pure none := by rw [typeLookup_type, builtinLookup_eq_fast]; kernel_rfl
/-- the tuples laid so far -/
structure LzAcc (b0 : Nat) (xs ys : Array Value) (h : Heap) (acc : Array Value) (i : Nat) : Prop where
  size : acc.size = i
  its : ∀ j, j < i → ∃ (T : Addr) (x y : Value), acc[j]? = some (.ref T) ∧ xs[j]? = some x ∧ ys[j]? = some y ∧ IsPair h T x y ∧ b0 ≤ T
  rise : ∀ (j k : Nat) (T U : Addr), j < k → acc[j]? = some (.ref T) → acc[k]? = some (.ref U) → T < U
structure LzSt (b0 : Nat) (z TI TO i1 i2 l1 l2 : Addr) (xs ys : Array Value) (S : Addr) (h : Heap) (acc : Array Value) (i : Nat) : Prop where
  zip : (i = 0 ∧ IsZip h z TI TO .none ∧ ∃ a b, IsPair h TO a b) ∨ (∃ (T : Addr) (f : Bool) (oT : Obj), IsZipHeld h z TI TO T f ∧ h.get? T = some oT ∧ b0 ≤ T)
  ti : IsPair h TI (.ref i1) (.ref i2)
  it1 : h.IsListIter i1 l1 i
  it2 : h.IsListIter i2 l2 i
  ls1 : h.IsList l1 xs
  ls2 : h.IsList l2 ys
  sl : ∃ c, h.get? S = some { cls := .type "list", dict := none, data := .seq acc c, slots := #[] }
  ac : LzAcc b0 xs ys h acc i
  hb : b0 ≤ h.objs.size
section
variable {prog : Program} {w : World} {A : Around} {R : Result → Shared → Prop} {b0 : Nat} {z TI TO i1 i2 l1 l2 S : Addr} {xs ys : Array Value} {n : Nat}
def LzKept (z TO i1 i2 S : Addr) (h h' : Heap) : Prop := ∀ c o, c ≠ S → c ≠ z → c ≠ TO → c ≠ i1 → c ≠ i2 → h.get? c = some o → h'.get? c = some o
theorem lz_ne {a T c : Nat} (h : a < c) (g : c ≤ T) : T ≠ a := Nat.ne_of_gt (Nat.lt_of_lt_of_le h g)
theorem LzAcc.at_ {h h' : Heap} {acc : Array Value} {i : Nat} (a : LzAcc b0 xs ys h acc i) (k : ∀ T o, b0 ≤ T → h.get? T = some o → h'.get? T = some o) : LzAcc b0 xs ys h' acc i :=
  ⟨a.size, fun j hj => let ⟨T, x, y, e1, e2, e3, e4, e5⟩ := a.its j hj; ⟨T, x, y, e1, e2, e3, k T _ e5 e4, e5⟩, a.rise⟩
theorem lz_loop (hh : A.handled = none) (D : ZipApart z TI TO i1 i2 l1 l2) (hn : n ≤ sizeLine) (h1 : n ≤ xs.size) (h2 : n ≤ ys.size) (h3 : xs.size = n ∨ ys.size = n)
    (nS : S ≠ z ∧ S ≠ TI ∧ S ≠ TO ∧ S ≠ i1 ∧ S ≠ i2 ∧ S ≠ l1 ∧ S ≠ l2) (lb : z < b0 ∧ TO < b0 ∧ i1 < b0 ∧ i2 < b0 ∧ S < b0) (res : Value) :
    ∀ (k i : Nat) (s : Shared) (acc : Array Value), n - i = k → i ≤ n → LzSt b0 z TI TO i1 i2 l1 l2 xs ys S s.heap acc i →
    (∀ h' acc' c', LzKept z TO i1 i2 S s.heap h' → h'.get? S = some { cls := .type "list", dict := none, data := .seq acc' c', slots := #[] } → LzAcc b0 xs ys h' acc' n → R (.ok (.ret res)) { s with heap := h' }) →
    codeAny (model prog w) A (.builtin "list.extend.loop" ⟨[.ref S, .ref z, res], []⟩) R s := by
  obtain ⟨n1, n2, n3, n4, n5, n6, n7⟩ := nS
  obtain ⟨b1, b2, b3, b4, b5⟩ := lb
  intro k
  induction k with
  | zero =>
    intro i s acc hk hi st hR
    have hin : i = n := by omega
    subst hin
    refine codeAny_builtin F.entry_extend_loop ?_
    rw [Around.under_plainId F.plain_extend_loop _]
    show wpAny _ A.in1 (pyNext (.ref z) >>= _) _ _ s
    have hend : xs[i]? = none ∨ ys[i]? = none := by
      rcases h3 with h | h
      · exact .inl (by simp; omega)
      · exact .inr (by simp; omega)
    obtain ⟨c, hS⟩ := st.sl
    have fini : ∀ h', (∀ c o, c ≠ z → c ≠ TO → c ≠ i1 → c ≠ i2 → s.heap.get? c = some o → h'.get? c = some o) → R (.ok (.ret res)) { s with heap := h' } := fun h' hk' =>
      hR h' acc c (fun b o _ a1 a2 a3 a4 e => hk' b o a1 a2 a3 a4 e) (hk' S _ n1 n3 n4 n5 hS) (st.ac.at_ fun T o hT e => hk' T o (lz_ne b1 hT) (lz_ne b2 hT) (lz_ne b3 hT) (lz_ne b4 hT) e)
    refine wpAny_bind ?_
    rcases st.zip with ⟨_, hz, a, b, hTO⟩ | ⟨T, f, oT, hz, hT, _⟩
    · exact wpAny_pyNext_zip_end (A := A.in1) hh D hz st.ti hTO st.it1 st.it2 st.ls1 st.ls2 hend fun h' hk' => wpAny_pure (fini h' hk')
    · exact wpAny_pyNext_zip_end_held (A := A.in1) hh D hz hT st.ti st.it1 st.it2 st.ls1 st.ls2 hend fun h' hk' => wpAny_pure (fini h' fun c o a1 _ a3 a4 e => hk' c o a1 a3 a4 e)
  | succ k ih =>
    intro i s acc hk hi st hR
    have hlt : i < n := by omega
    refine codeAny_builtin F.entry_extend_loop ?_
    rw [Around.under_plainId F.plain_extend_loop _]
    show wpAny _ A.in1 (pyNext (.ref z) >>= _) _ _ s
    obtain ⟨x, hx⟩ : ∃ x, xs[i]? = some x := ⟨xs[i], by rw [Array.getElem?_eq_getElem (by omega)]⟩
    obtain ⟨y, hy⟩ : ∃ y, ys[i]? = some y := ⟨ys[i], by rw [Array.getElem?_eq_getElem (by omega)]⟩
    obtain ⟨c, hS⟩ := st.sl
    refine wpAny_bind ?_
    have go : ∀ h', (∃ (T : Addr) (f : Bool) (oT : Obj), IsZipHeld h' z TI TO T f ∧ h'.get? T = some oT ∧ b0 ≤ T) → h'.IsListIter i1 l1 (i + 1) → h'.IsListIter i2 l2 (i + 1) → IsPair h' s.heap.objs.size x y → h'.objs.size = s.heap.objs.size + 1 →
        (∀ c o, c ≠ z → c ≠ TO → c ≠ i1 → c ≠ i2 → s.heap.get? c = some o → h'.get? c = some o) →
        wpAny (model prog w) A.in1 (updateSeq S (·.push (.ref s.heap.objs.size)) >>= fun _ => again (.builtin "list.extend.loop" ⟨[.ref S, .ref z, res], []⟩))
          (fun fin s' => match fin with | .done f => R (.ok f) s' | .again c' => c'.quiet = true ∧ codeAny (model prog w) A c' R s') (fun e s' => R (.error e) s') { s with heap := h' } := by
      intro h' hz' it1' it2' hP hsz hk'
      have hS' := hk' S _ n1 n3 n4 n5 hS
      have hasz := st.ac.size
      refine wpAny_bind ?_
      have sb : Heap.SameBut S h' (h'.update S (Obj.mapSeq (·.push (.ref s.heap.objs.size)))) := Heap.SameBut.update ..
      have up : ∀ c o, c ≠ S → h'.get? c = some o → (h'.update S (Obj.mapSeq (·.push (.ref s.heap.objs.size)))).get? c = some o := fun c o hc e => (sb.2 c hc).trans e
      have hb0 := st.hb
      refine wpAny_updateSeq hS' rfl (wpAny_pure ⟨plainId_quiet F.plain_extend_loop _, ih (i + 1) _ (acc.push (.ref s.heap.objs.size)) (by omega) hlt ?_ fun h'' acc' c' hm hS'' hacc => ?_⟩) (by rw [hasz]; omega) (by show (acc.push _).size ≤ sizeLine + 1; rw [Array.size_push, hasz]; omega)
      · obtain ⟨T, f, oT, q1, q2, q3⟩ := hz'
        refine ⟨.inr ⟨T, f, oT, up _ _ (fun e => n1 e.symm) q1, up _ _ (lz_ne b5 q3) q2, q3⟩, ?_, it1'.at fun o e => up _ _ (fun e => n4 e.symm) e, it2'.at fun o e => up _ _ (fun e => n5 e.symm) e, ?_, ?_, ⟨_, Heap.get?_update_self _ hS' rfl⟩, ?_, ?_⟩
        · exact up _ _ (fun e => n2 e.symm) (hk' _ _ D.TIz D.TITO D.TIi1 D.TIi2 st.ti)
        · obtain ⟨o, e1, e2⟩ := st.ls1
          exact ⟨o, up _ _ (fun e => n6 e.symm) (hk' _ _ D.l1z D.l1TO D.l1i1 D.l1i2 e1), e2⟩
        · obtain ⟨o, e1, e2⟩ := st.ls2
          exact ⟨o, up _ _ (fun e => n7 e.symm) (hk' _ _ D.l2z D.l2TO D.l2i1 D.l2i2 e1), e2⟩
        · have old : ∀ j, j < acc.size → (acc.push (.ref s.heap.objs.size))[j]? = acc[j]? := fun j hj => by rw [Array.getElem?_push, if_neg (by omega)]
          have new : (acc.push (.ref s.heap.objs.size))[acc.size]? = some (.ref s.heap.objs.size) := by rw [Array.getElem?_push, if_pos rfl]
          refine ⟨by rw [Array.size_push, hasz], fun j hj => ?_, fun j k T U hjk e1 e2 => ?_⟩
          · by_cases q : j < i
            · obtain ⟨T, x', y', e1, e2, e3, e4, e5⟩ := st.ac.its j q
              exact ⟨T, x', y', by rw [old j (by omega)]; exact e1, e2, e3, up _ _ (lz_ne b5 e5) (hk' _ _ (lz_ne b1 e5) (lz_ne b2 e5) (lz_ne b3 e5) (lz_ne b4 e5) e4), e5⟩
            · have : j = i := by omega
              subst this
              exact ⟨_, x, y, by rw [← hasz]; exact new, hx, hy, up _ _ (lz_ne b5 hb0) hP, hb0⟩
          · have hkl : k < (acc.push (.ref s.heap.objs.size)).size := by
              have := Array.getElem?_eq_some_iff.mp e2
              exact this.1
            rw [Array.size_push] at hkl
            by_cases q : k < acc.size
            · rw [old j (by omega)] at e1
              rw [old k q] at e2
              exact st.ac.rise j k T U hjk e1 e2
            · have : k = acc.size := by omega
              subst this
              rw [new] at e2
              cases e2
              rw [old j hjk] at e1
              obtain ⟨T', x', y', e1', _, _, e4, _⟩ := st.ac.its j (by omega)
              rw [e1'] at e1
              cases e1
              exact Heap.lt_size e4
        · show b0 ≤ (h'.update S (Obj.mapSeq (·.push (.ref s.heap.objs.size)))).objs.size
          rw [sb.1, hsz]; omega
      · refine hR h'' acc' c' (fun b o a0 a1 a2 a3 a4 e => hm b o a0 a1 a2 a3 a4 (up b o a0 (hk' b o a1 a2 a3 a4 e))) hS'' hacc
    rcases st.zip with ⟨e0, hz, a, b, hTO⟩ | ⟨T, f, oT, hz, hT, hTb⟩
    · exact wpAny_pyNext_zip_item D hz st.ti hTO st.it1 st.it2 st.ls1 st.ls2 hx hy fun h' z' TO' h1' h2' hP hsz hk' => go h' ⟨s.heap.objs.size, false, _, z', hP, st.hb⟩ h1' h2' hP hsz hk'
    · exact wpAny_pyNext_zip_item_held D hz hT st.ti st.it1 st.it2 st.ls1 st.ls2 hx hy fun h' z' h1' h2' hP hsz hk' =>
        go h' ⟨T, true, oT, z', hk' T oT (lz_ne b1 hTb) (lz_ne b3 hTb) (lz_ne b4 hTb) hT, hTb⟩ h1' h2' hP hsz fun c o a1 _ a3 a4 e => hk' c o a1 a3 a4 e
/-- list(z) of a zip that nobody has drawn from -/
theorem call_list_zip {E : Value → Shared → Prop} {s : Shared} {Q : Value → Shared → Prop} {a b : Value} (hh : A.handled = none) (D : ZipApart z TI TO i1 i2 l1 l2) (hn : n ≤ sizeLine) (h1 : n ≤ xs.size) (h2 : n ≤ ys.size) (h3 : xs.size = n ∨ ys.size = n)
    (hz : IsZip s.heap z TI TO .none) (hTI : IsPair s.heap TI (.ref i1) (.ref i2)) (hTO : IsPair s.heap TO a b) (hi1 : s.heap.IsListIter i1 l1 0) (hi2 : s.heap.IsListIter i2 l2 0) (hl1 : s.heap.IsList l1 xs) (hl2 : s.heap.IsList l2 ys)
    (hQ : ∀ h' tk acc c, (∀ c o, c ≠ z → c ≠ TO → c ≠ i1 → c ≠ i2 → s.heap.get? c = some o → h'.get? c = some o) → h'.get? s.heap.objs.size = some { cls := .type "list", dict := none, data := .seq acc c, slots := #[] } →
      LzAcc (s.heap.objs.size + 1) xs ys h' acc n → Q (.ref s.heap.objs.size) { s with heap := h', toks := tk }) :
    wpAny (model prog w) A (call (.type "list") [.ref z]) Q E s := by
  have lt : ∀ {c o}, s.heap.get? c = some o → c < s.heap.objs.size := fun e => Heap.lt_size e
  have lz := lt hz
  have lTI := lt hTI
  have lTO := lt hTO
  have li1 : i1 < s.heap.objs.size := by obtain ⟨o, e, _⟩ := hi1; exact lt e
  have li2 : i2 < s.heap.objs.size := by obtain ⟨o, e, _⟩ := hi2; exact lt e
  have ll1 : l1 < s.heap.objs.size := by obtain ⟨o, e, _⟩ := hl1; exact lt e
  have ll2 : l2 < s.heap.objs.size := by obtain ⟨o, e, _⟩ := hl2; exact lt e
  refine callType_codes (Q₁ := fun obj s₁ => obj = .ref s.heap.objs.size ∧ s₁ = { s with heap := s.heap.push { cls := .type "list", data := .seq #[] } }) F.called_list (F.typeCall_list_1 _) F.entry_list_init
    (code_list_new _ ⟨rfl, rfl⟩) fun obj s₁ h₁ => ?_
  obtain ⟨rfl, rfl⟩ := h₁
  have hS : (s.heap.push { cls := .type "list", data := .seq #[] }).get? s.heap.objs.size = some { cls := .type "list", data := .seq #[] } := Heap.get?_push_size _ rfl
  refine ⟨⟨_, hS, rfl⟩, F.args_list_init_2 _ _, ?_⟩
  show wpAny _ A.in1.in1 (do let old ← Builtin.List.listItems (.ref s.heap.objs.size); Builtin.List.listUpdate (.ref s.heap.objs.size) (fun _ => #[]); letGo old.toList.reverse; Builtin.List.listExtendWith (.ref s.heap.objs.size) (.ref z) .none) _ _ _
  refine wpAny_bind ?_
  unfold Builtin.List.listItems
  refine wpAny_bind (wpAny_seqItems hS rfl (wpAny_pure ?_))
  show wpAny _ A.in1.in1 (updateSeq s.heap.objs.size (fun _ => #[]) >>= fun _ => letGo (#[] : Array Value).toList.reverse >>= fun _ => Builtin.List.listExtendWith (.ref s.heap.objs.size) (.ref z) .none) _ _ _
  refine wpAny_bind (wpAny_updateSeq hS rfl ?_)
  have hS2 := Heap.get?_update_self (Obj.mapSeq (fun _ => (#[] : Array Value))) hS rfl
  refine wpAny_bind (wpAny_letGo ?_)
  unfold Builtin.List.listExtendWith
  have k1 : ∀ b o, s.heap.get? b = some o → (s.heap.push { cls := .type "list", data := .seq #[] }).get? b = some o := fun b o e => Heap.get?_push_of_some _ e
  have up : ∀ (h : Heap) (f : Obj → Obj), (∀ b o, s.heap.get? b = some o → h.get? b = some o) → ∀ b o, s.heap.get? b = some o → (h.update s.heap.objs.size f).get? b = some o := fun h f q b o e =>
    (Heap.get?_update_other _ _ (Ne.symm (Nat.ne_of_lt (Heap.lt_size e)))).trans (q b o e)
  have k2 := up _ (Obj.mapSeq (fun _ => (#[] : Array Value))) k1
  have nSz : s.heap.objs.size ≠ z := Nat.ne_of_gt lz
  have ty : ∀ {h : Heap} {tk : Nat}, (∀ b o, s.heap.get? b = some o → h.get? b = some o) → ({ s with heap := h, toks := tk } : Shared).TypeIs (.ref z) "zip" := fun {h} {tk} q => ⟨_, q _ _ hz, rfl⟩
  refine wpAny_bind (wpAny_typeOf (ty (tk := s.toks) k2) ?_)
  have e1 : Builtin.List.listSameRef (.ref s.heap.objs.size) (.ref z) = false := by simp [Builtin.List.listSameRef, nSz]
  have e2 : (Value.type "zip" == Value.type "list") = false := by decide
  have e3 : (Value.type "zip" == Value.type "tuple") = false := by decide
  simp only [e1, e2, e3, Bool.or_false, Bool.false_eq_true, if_false]
  refine wpAny_bind (wpAny_pyIter_zip (s := { s with heap := _ }) (k2 _ _ hz) ?_)
  refine wpAny_bind (wpAny_holding ?_)
  unfold Builtin.List.listLengthHint
  refine wpAny_bind (wpAny_specialOf (ty (tk := s.toks) k2) lz_no_len ?_)
  show wpAny _ A.in1.in1 (specialOf (Value.ref z) (Str.ofString "__length_hint__") >>= _) _ _ _
  refine wpAny_bind (wpAny_specialOf (ty (tk := s.toks) k2) lz_no_hint ?_)
  refine wpAny_pure ?_
  rw [Bool.true_or, if_pos rfl]
  refine wpAny_bind (wpAny_rule ?_)
  refine wpAny_bind ?_
  show wpAny _ A.in1.in1 (updateSeq s.heap.objs.size (·.push .none) >>= fun _ => updateSeq s.heap.objs.size (·.pop)) _ _ _
  refine wpAny_bind (wpAny_updateSeq hS2 rfl ?_)
  have hS3 := Heap.get?_update_self (Obj.mapSeq (·.push Value.none)) hS2 rfl
  refine wpAny_updateSeq (hz := by seq_fits) hS3 rfl ?_
  have hS4 := Heap.get?_update_self (Obj.mapSeq (·.pop)) hS3 rfl
  have k4 := up _ (Obj.mapSeq (·.pop)) (up _ (Obj.mapSeq (·.push Value.none)) k2)
  generalize hh4 : ((((s.heap.push { cls := .type "list", data := .seq #[] }).update s.heap.objs.size (Obj.mapSeq (fun _ => (#[] : Array Value)))).update s.heap.objs.size (Obj.mapSeq (·.push Value.none))).update s.heap.objs.size (Obj.mapSeq (·.pop))) = h4 at hS4 k4 ⊢
  have hsz : s.heap.objs.size < h4.objs.size := Heap.lt_size hS4
  refine wpAny_pure ⟨plainId_quiet F.plain_extend_loop _, lz_loop (A := A.in1) (b0 := s.heap.objs.size + 1) hh D hn h1 h2 h3 ⟨nSz, Nat.ne_of_gt lTI, Nat.ne_of_gt lTO, Nat.ne_of_gt li1, Nat.ne_of_gt li2, Nat.ne_of_gt ll1, Nat.ne_of_gt ll2⟩
    ⟨Nat.lt_succ_of_lt lz, Nat.lt_succ_of_lt lTO, Nat.lt_succ_of_lt li1, Nat.lt_succ_of_lt li2, Nat.lt_succ_self _⟩ .none n 0 _ #[] rfl (Nat.zero_le _)
    ⟨.inl ⟨rfl, k4 _ _ hz, a, b, k4 _ _ hTO⟩, k4 _ _ hTI, hi1.at fun o e => k4 _ _ e, hi2.at fun o e => k4 _ _ e, ?_, ?_, ⟨_, hS4⟩, ⟨rfl, fun j hj => absurd hj (Nat.not_lt_zero _), fun j k T U _ e => by simp at e⟩, hsz⟩ fun h' acc' c' hm hS' hacc => ?_⟩
  · obtain ⟨o, q1, q2⟩ := hl1
    exact ⟨o, k4 _ _ q1, q2⟩
  · obtain ⟨o, q1, q2⟩ := hl2
    exact ⟨o, k4 _ _ q1, q2⟩
  · exact ⟨rfl, hQ h' s.toks acc' c' (fun c o a1 a2 a3 a4 e => hm c o (Nat.ne_of_lt (Heap.lt_size e)) a1 a2 a3 a4 (k4 _ _ e)) hS' hacc⟩
end
end PySem
/-! MZipL: list(zip(xs, ys)), list(range(..)) as rules. -/
namespace M
open PySem L2 PySem.Spec PyProof.Rows
section
variable {X : Cx} {e a b : Expr} {p p2 pos pos2 : Pos} {K : PySem.W.Frag}
def adr : Value → Addr
  | .ref T => T
  | _ => 0
/-- what a list of pairs is worth -/
def tLz (K : PySem.W.Frag) (ta : TA) : TE := fun σ H Q => ta σ H fun vs H1 => ∃ (a b : Addr) (xs ys : List V), vs = [.ref a, .ref b] ∧ SqL K H1 a xs ∧ SqL K H1 b ys ∧
  ∀ (H2 : Hp) (q : Addr) (Ts : List Addr), H1 q = none → (∀ c o, upd H1 q (.lst (Ts.map V.ref)) c = some o → H2 c = some o) → Ts.length = min xs.length ys.length → Ts.Nodup → (∀ T ∈ Ts, H1 T = none ∧ T ≠ q) →
    (∀ (i : Nat) (T : Addr) (x y : V), Ts[i]? = some T → xs[i]? = some x → ys[i]? = some y → H2 T = some (.tup [x, y])) → Q (.ref q) H2
theorem pe_lzip {ta : TA} (hc : X.calm = true) (hg1 : Gl X "list") (hm1 : X.mg "list" = none) (hg2 : Gl X "zip") (hm2 : X.mg "zip" = none) (ha : PA X [a, b] ta)
    (na : starEach [Expr.Call (.Name "zip" p2) [a, b] [] pos2] X.env = (false, eval (.Call (.Name "zip" p2) [a, b] [] pos2) X.env) :: starEach [] X.env := by rfl)
    (hs : starEach [a, b] X.env = (false, eval a X.env) :: starEach [b] X.env := by rfl) (hpl : (backTo pos2 (starEach [b] X.env)).any (·.1) = false := by rfl) :
    PE X (.Call (.Name "list" p) [.Call (.Name "zip" p2) [a, b] [] pos2] [] pos) (tLz X.K ta) := by
  refine ⟨fun pins s σ H Q I h => ?_⟩
  refine Call_ (ld_blt I hg1 hm1 boot_list (PyProof.Rows.callWith_type1 (args_cons ?_ na) na))
  refine Call_ (ld_blt I hg2 hm2 PyProof.Rows.boot_zip (PyProof.Rows.callWith_type1 (thn (ha.run pos2 pins s σ H _ I h) fun us s1 ⟨vs, H1, I1, r1, q1⟩ => ?_) hs hpl))
  obtain ⟨l1, l2, xs, ys, ex, hqx, hqy, q⟩ := q1
  subst ex
  cases r1 with
  | cons r rr =>
    cases rr with
    | cons r' rr =>
      cases rr
      cases r
      cases r'
      obtain ⟨its, rv, p1, z1⟩ := I1.list hqx
      obtain ⟨its2, rv2, p2, z2⟩ := I1.list hqy
      have la : l1 < s1.heap.objs.size := p1.lt
      have lb : l2 < s1.heap.objs.size := p2.lt
      refine call_zip_2 p1.isList p2.isList fun hz zz hTI hTO h1 h2 hsz hk => args_nil ?_
      have e1 : its.toArray.size = xs.length := by rw [List.size_toArray, rv.length]
      have e2 : its2.toArray.size = ys.length := by rw [List.size_toArray, rv2.length]
      have kl : ∀ {c : Addr} {as : Array Value}, s1.heap.IsList c as → hz.IsList c as := fun ⟨o, q1, q2⟩ => ⟨o, hk _ _ q1, q2⟩
      refine call_list_zip (n := min xs.length ys.length) (s := { s1 with heap := hz }) (I1.ok.hd hc) (PySem.W.ktu_apart s1.heap.objs.size l1 l2 la lb) (Nat.le_trans (Nat.min_le_left _ _) z1) (by rw [e1]; omega) (by rw [e2]; omega) (by rw [e1, e2]; omega) zz hTI hTO h1 h2 (kl p1.isList) (kl p2.isList) fun h' tk acc c hm hS hacc => ?_
      have hn := hacc.size
      have gT : ∀ (i : Nat) (T : Addr), (acc.toList.map adr)[i]? = some T → acc[i]? = some (.ref T) := fun i T e => by
        have hi : i < acc.size := by
          have := (List.getElem?_eq_some_iff.mp e).1
          rwa [List.length_map, Array.length_toList] at this
        obtain ⟨T', x, y, q1, _⟩ := hacc.its i (by omega)
        rw [List.getElem?_map, Array.getElem?_toList, q1] at e
        cases e
        exact q1
      have hTs : (acc.toList.map adr).map Value.ref = acc.toList := by
        refine List.ext_getElem? fun i => ?_
        rw [List.getElem?_map]
        cases e : (acc.toList.map adr)[i]? with
        | none =>
          have := List.getElem?_eq_none_iff.mp e
          rw [List.length_map] at this
          exact (List.getElem?_eq_none_iff.mpr this).symm
        | some T => rw [Array.getElem?_toList, gT i T e]; rfl
      have kk : ∀ b u, s1.heap.get? b = some u → h'.get? b = some u := fun b u e => by
        have hb : b < s1.heap.objs.size := Heap.lt_size e
        exact hm b u (Nat.ne_of_lt (Nat.lt_of_lt_of_le hb (Nat.le_add_right _ _))) (Nat.ne_of_lt (Nat.lt_of_lt_of_le hb (Nat.le_add_right _ _))) (Nat.ne_of_lt hb) (Nat.ne_of_lt (Nat.lt_of_lt_of_le hb (Nat.le_add_right _ _))) (hk b u e)
      have hlen : (acc.toList.map adr).length = min xs.length ys.length := by rw [List.length_map, Array.length_toList, hn]
      have hp : s1.heap.objs.size ≤ hz.objs.size := by omega
      have new : ObjOk X.prog X.w (upd H1 hz.objs.size (.lst ((acc.toList.map adr).map V.ref))) h' hz.objs.size (.lst ((acc.toList.map adr).map V.ref)) :=
        ⟨by rw [List.length_map, hlen]; exact Nat.le_trans (Nat.min_le_left _ _) z1, acc.toList, c, by
          have := vals_refs (acc.toList.map adr)
          rwa [hTs] at this, by rw [Array.toArray_toList]; exact hS⟩
      have I3 := I1.laid (t' := tk) kk hp new
      have hq : H1 hz.objs.size = none := I1.hok.fresh hp
      have big : ∀ T ∈ acc.toList.map adr, ∃ (i : Nat) (x y : Value), (acc.toList.map adr)[i]? = some T ∧ its.toArray[i]? = some x ∧ its2.toArray[i]? = some y ∧ IsPair h' T x y ∧ hz.objs.size + 1 ≤ T := fun T hT => by
        obtain ⟨i, hi⟩ := List.getElem?_of_mem hT
        have hi' : i < acc.size := by
          have := (List.getElem?_eq_some_iff.mp hi).1
          rwa [List.length_map, Array.length_toList] at this
        obtain ⟨T', x, y, q1, q2, q3, q4, q5⟩ := hacc.its i (by omega)
        rw [gT i T hi] at q1
        cases q1
        exact ⟨i, x, y, hi, q2, q3, q4, q5⟩
      have nd : (acc.toList.map adr).Nodup := by
        refine List.pairwise_iff_getElem.mpr fun i j hi hj hij => Nat.ne_of_lt (hacc.rise i j _ _ hij (gT i _ (List.getElem?_eq_getElem hi)) (gT j _ (List.getElem?_eq_getElem hj)))
      have fr : ∀ T ∈ acc.toList.map adr, H1 T = none ∧ T ≠ hz.objs.size := fun T hT => by
        obtain ⟨_, _, _, _, _, _, _, q5⟩ := big T hT
        exact ⟨I1.hok.fresh (by omega), Nat.ne_of_gt (by omega)⟩
      obtain ⟨H2, I4, k4, t4⟩ := L2.DX.takeT (P := fun T vs => ∃ (i : Nat) (x y : V), (acc.toList.map adr)[i]? = some T ∧ xs[i]? = some x ∧ ys[i]? = some y ∧ vs = [x, y]) I1 (acc.toList.map adr) _ I3 nd fun T hT => by
        obtain ⟨i, u, u2, q1, q2, q3, q4, q5⟩ := big T hT
        have hi : i < xs.length ∧ i < ys.length := by
          have := (List.getElem?_eq_some_iff.mp q1).1
          rw [hlen] at this
          omega
        obtain ⟨u', g1, r1⟩ := rv.get (List.getElem?_eq_getElem hi.1)
        obtain ⟨u2', g2, r2⟩ := rv2.get (List.getElem?_eq_getElem hi.2)
        have g1' : its[i]? = some u := by simpa using q2
        have g2' : its2[i]? = some u2 := by simpa using q3
        rw [g1'] at g1; cases g1
        rw [g2'] at g2; cases g2
        refine ⟨by omega, by rw [upd_ne (fr T hT).2]; exact (fr T hT).1, [xs[i], ys[i]], ⟨i, _, _, q1, List.getElem?_eq_getElem hi.1, List.getElem?_eq_getElem hi.2, rfl⟩, fun H2 => ⟨by show 2 ≤ sizeLine; decide, [u, u2], .cons r1 (.cons r2 .nil), ⟨_, q4, rfl, _, rfl⟩⟩⟩
      refine ⟨.ref hz.objs.size, H2, I4, rfl, q H2 hz.objs.size (acc.toList.map adr) hq k4 hlen nd fr fun i T x y e1 e2 e3 => ?_⟩
      obtain ⟨vs, ⟨j, x', y', f1, f2, f3, rfl⟩, hH⟩ := t4 T (List.mem_of_getElem? e1)
      have : i = j := by
        have hi := (List.getElem?_eq_some_iff.mp e1).1
        exact (List.getElem?_inj hi nd).mp (e1.trans f1.symm)
      subst this
      rw [e2] at f2; cases f2
      rw [e3] at f3; cases f3
      exact hH
/-- list(zip(xs, ys)) -/
def aLZip (m : Bool) (g : AA) : AE := fun Γ M k => g Γ M fun ds M1 => match ds with
  | [d, e] => (match rdS M1 d, rdS M1 e with
    | some xs, some ys => nl m (zipD xs ys) M1 k
    | _, _ => False)
  | _ => False
theorem zip_rels {I : Hp} {xs ys : List D} {vs ws : List V} (r1 : Rels K I xs vs) (r2 : Rels K I ys ws) : ∀ {Ts : List Addr}, Ts.length = min vs.length ws.length → (∀ (i : Nat) (T : Addr) (x y : V), Ts[i]? = some T → vs[i]? = some x → ws[i]? = some y → I T = some (.tup [x, y])) → Rels K I (zipD xs ys) (Ts.map V.ref) := by
  induction xs generalizing ys vs ws with
  | nil =>
    intro Ts hl _
    rw [r1.nil_inv] at hl
    have : Ts = [] := List.eq_nil_of_length_eq_zero (by simpa using hl)
    subst this
    exact .nil
  | cons x xs ih =>
    intro Ts hl h
    obtain ⟨v, vs, rfl, a1, a2⟩ := r1.cons_inv
    cases ys with
    | nil =>
      rw [r2.nil_inv] at hl
      have : Ts = [] := List.eq_nil_of_length_eq_zero (by simpa using hl)
      subst this
      exact .nil
    | cons y ys =>
      obtain ⟨w, ws, rfl, b1, b2⟩ := r2.cons_inv
      cases Ts with
      | nil => simp at hl
      | cons T Ts =>
        refine .cons ?_ (ih a2 b2 (by simp at hl; omega) fun i T' x' y' e1 e2 e3 => h (i + 1) T' x' y' e1 e2 e3)
        rw [Rel]
        exact ⟨T, [v, w], rfl, .inl (h 0 T v w rfl rfl rfl), .cons a1 (.one b1)⟩
theorem lift_lzip {m : Bool} {g : AA} : ∀ σ H Q, lift K (aLZip m g) σ H Q → tLz K (liftA K g) σ H Q := by
  rintro σ H Q ⟨Γ, M, I, F, k, hs, hc, hf, hk⟩
  refine ⟨Γ, M, I, F, _, hs, hc, hf, fun ds M1 vs H1 I1 h1 l1 c1 r1 => ?_⟩
  split at h1
  · rename_i d e
    obtain ⟨v, u, rfl, r2, r3⟩ := rels2 r1
    split at h1
    · rename_i xs ys e0 e1
      obtain ⟨q, ws, rfl, g0, s0⟩ := rdS_ok e0 c1 r2
      obtain ⟨q', ws', rfl, g0', s0'⟩ := rdS_ok e1 c1 r3
      refine ⟨q, q', ws, ws', rfl, g0, g0', fun H2 p Ts hp hk2 hl nd fr tt => ?_⟩
      let I2 : Hp := fun c => if c ∈ Ts then H2 c else I1 c
      let H3 : Hp := fun c => if c = p then none else H2 c
      have hT : ∀ T ∈ Ts, ∃ x y, H2 T = some (.tup [x, y]) := fun T hT => by
        obtain ⟨i, hi⟩ := List.getElem?_of_mem hT
        have hb : i < ws.length ∧ i < ws'.length := by
          have := (List.getElem?_eq_some_iff.mp hi).1
          omega
        exact ⟨_, _, tt i T _ _ hi (List.getElem?_eq_getElem hb.1) (List.getElem?_eq_getElem hb.2)⟩
      have lI : Le I1 I2 := fun c o e => by
        show (if c ∈ Ts then H2 c else I1 c) = some o
        by_cases z : c ∈ Ts
        · have := (c1.fresh (fr c z).1).1
          rw [this] at e; cases e
        · rw [if_neg z]; exact e
      have kH : ∀ c o, H1 c = some o → H3 c = some o := fun c o e => by
        have n : c ≠ p := ne_of_none e hp
        show (if c = p then none else H2 c) = some o
        rw [if_neg n]
        exact hk2 c o (by rw [upd_ne n]; exact e)
      have c3 : Conc K H3 I2 M1 F := by
        refine c1.grow lI (fun c o e => ?_) (fun c o _ e => kH c o e) (fun c hm => ?_) fun c o e => ?_
        · have e : (if c ∈ Ts then H2 c else I1 c) = some o := e
          by_cases z : c ∈ Ts
          · rw [if_pos z] at e
            show (if c = p then none else H2 c) = some o
            rw [if_neg (fr c z).2]; exact e
          · rw [if_neg z] at e
            exact kH c o (c1.sub c o e)
        · show (if c ∈ Ts then H2 c else I1 c) = none
          by_cases z : c ∈ Ts
          · exact absurd (c1.fresh (fr c z).1).2 hm
          · rw [if_neg z]; exact c1.fre c hm
        · obtain ⟨b1, b2, b3⟩ := c1.frm c o e
          refine ⟨kH c o b1, ?_⟩
          show (if c ∈ Ts then H2 c else I1 c) = none
          by_cases z : c ∈ Ts
          · rw [(fr c z).1] at b1; cases b1
          · rw [if_neg z]; exact b2
      have hH : upd H3 p (.lst (Ts.map V.ref)) = H2 := by
        funext c
        by_cases z : c = p
        · subst z
          rw [upd_same]
          exact (hk2 _ _ upd_same).symm
        · rw [upd_ne z]
          show (if c = p then none else H2 c) = H2 c
          rw [if_neg z]
      rw [← hH]
      refine nl_ok h1 c3 (zip_rels (Rels.le lI _ _ s0) (Rels.le lI _ _ s0') hl fun i T x y f1 f2 f3 => ?_) ((hk.le l1).le lI) (if_pos rfl)
      show (if T ∈ Ts then H2 T else I1 T) = _
      rw [if_pos (List.mem_of_getElem? f1)]
      exact tt i T x y f1 f2 f3
    · exact h1.elim
  · exact h1.elim
theorem e_lzip (m : Bool) {g : AA} (hc : X.calm = true) (hm1 : X.mg "list" = none) (hm2 : X.mg "zip" = none) (ha : PA X [a, b] (liftA X.K g)) (hg1 : Gl X "list" := by rfl) (hg2 : Gl X "zip" := by rfl)
    (na : starEach [Expr.Call (.Name "zip" p2) [a, b] [] pos2] X.env = (false, eval (.Call (.Name "zip" p2) [a, b] [] pos2) X.env) :: starEach [] X.env := by rfl)
    (hs : starEach [a, b] X.env = (false, eval a X.env) :: starEach [b] X.env := by rfl) (hpl : (backTo pos2 (starEach [b] X.env)).any (·.1) = false := by rfl) :
    PE X (.Call (.Name "list" p) [.Call (.Name "zip" p2) [a, b] [] pos2] [] pos) (lift X.K (aLZip m g)) := (pe_lzip hc hg1 hm1 hg2 hm2 ha na hs hpl).imp lift_lzip
/-- sorted(xs), ints -/
def cSorted (m : Bool) : AC := fun ds M k => match ds with
  | [d] => ∃ ns : List Int, rdS M d = some (ns.map .int) ∧ ∀ ns' : List Int, ns'.Perm ns → ns'.Pairwise (· ≤ ·) → nl m (ns'.map .int) M k
  | _ => False
theorem cSorted_ok {m : Bool} : OkC K (rSortedI K) (cSorted m) := by
  intro ds M k vs H I F Q h c r hk
  unfold cSorted at h
  split at h
  · obtain ⟨v, rfl, r9⟩ := rels1 r
    obtain ⟨ns, h1, h2⟩ := h
    obtain ⟨q, ws, rfl, g, s⟩ := rdS_ok h1 c r9
    rw [s.ints] at g
    exact ⟨q, ns, rfl, g, fun ns' p e1 e2 e3 => nl_ok (h2 ns' e1 e2) c Rels.of_ints hk e3⟩
  · exact h.elim
def cMaxL : AC := fun ds M k => match ds with
  | [d] => ∃ ns : List Int, rdS M d = some (ns.map .int) ∧ 0 < ns.length ∧ ∀ m, m ∈ ns → (∀ y, y ∈ ns → y ≤ m) → k (.int m) M
  | _ => False
def cMinL : AC := fun ds M k => match ds with
  | [d] => ∃ ns : List Int, rdS M d = some (ns.map .int) ∧ 0 < ns.length ∧ ∀ m, m ∈ ns → (∀ y, y ∈ ns → m ≤ y) → k (.int m) M
  | _ => False
theorem cMaxL_ok : OkC K (rMax K) cMaxL := by
  intro ds M k vs H I F Q h c r hk
  unfold cMaxL at h
  split at h
  · obtain ⟨v, rfl, r9⟩ := rels1 r
    obtain ⟨ns, h1, h2, h3⟩ := h
    obtain ⟨q, ws, rfl, g, s⟩ := rdS_ok h1 c r9
    rw [s.ints] at g
    exact ⟨q, ns, rfl, g, h2, fun m e1 e2 => hk _ _ _ _ _ (h3 m e1 e2) (Le.refl I) c (by rw [Rel])⟩
  · exact h.elim
theorem cMinL_ok : OkC K (rMin K) cMinL := by
  intro ds M k vs H I F Q h c r hk
  unfold cMinL at h
  split at h
  · obtain ⟨v, rfl, r9⟩ := rels1 r
    obtain ⟨ns, h1, h2, h3⟩ := h
    obtain ⟨q, ws, rfl, g, s⟩ := rdS_ok h1 c r9
    rw [s.ints] at g
    exact ⟨q, ns, rfl, g, h2, fun m e1 e2 => hk _ _ _ _ _ (h3 m e1 e2) (Le.refl I) c (by rw [Rel])⟩
  · exact h.elim
section
variable {ga : AA} {es : List Expr}
theorem e_sorted (m : Bool) (hm : X.mg "sorted" = none) (ha : PA X (e :: es) (liftA X.K ga)) (hg : Gl X "sorted" := by rfl) (he : starEach (e :: es) X.env = (false, eval e X.env) :: starEach es X.env := by rfl) (hpl : (backTo pos (starEach es X.env)).any (·.1) = false := by rfl) :
    PE X (.Call (.Name "sorted" p) (e :: es) [] pos) (lift X.K (aCB (cSorted m) ga)) := e_callB cr_sortedI cSorted_ok hm (by decide +kernel) ha hg (by decide) (by decide) he hpl
theorem e_maxL (hc : X.calm = true) (hm : X.mg "max" = none) (ha : PA X (e :: es) (liftA X.K ga)) (hg : Gl X "max" := by rfl) (he : starEach (e :: es) X.env = (false, eval e X.env) :: starEach es X.env := by rfl) (hpl : (backTo pos (starEach es X.env)).any (·.1) = false := by rfl) :
    PE X (.Call (.Name "max" p) (e :: es) [] pos) (lift X.K (aCB cMaxL ga)) := e_callB (cr_max hc) cMaxL_ok hm (by decide +kernel) ha hg (by decide) (by decide) he hpl
theorem e_minL (hc : X.calm = true) (hm : X.mg "min" = none) (ha : PA X (e :: es) (liftA X.K ga)) (hg : Gl X "min" := by rfl) (he : starEach (e :: es) X.env = (false, eval e X.env) :: starEach es X.env := by rfl) (hpl : (backTo pos (starEach es X.env)).any (·.1) = false := by rfl) :
    PE X (.Call (.Name "min" p) (e :: es) [] pos) (lift X.K (aCB cMinL ga)) := e_callB (cr_min hc) cMinL_ok hm (by decide +kernel) ha hg (by decide) (by decide) he hpl
end
/-- list(range(..)) -/
def rgOk (i j : Int) : Prop := -(2 ^ 62) ≤ i ∧ i < 2 ^ 62 ∧ -(2 ^ 62) ≤ j ∧ j < 2 ^ 62 ∧ (j - i).toNat ≤ 2 ^ 24
def aLRange1 (m : Bool) (f : AE) : AE := fun Γ M k => f Γ M fun d M1 => match d with
  | .int j => rgOk 0 j ∧ nl m ((rng 0 j.toNat).map .int) M1 k
  | _ => False
def aLRange2 (m : Bool) (f g : AE) : AE := fun Γ M k => f Γ M fun d M1 => g Γ M1 fun e M2 => match d, e with
  | .int i, .int j => rgOk i j ∧ nl m ((rng i (j - i).toNat).map .int) M2 k
  | _, _ => False
theorem rng_rels {I : Hp} {i j : Int} : Rels K I ((rng i (j - i).toNat).map D.int) (rgV i j) := by
  have := Rels.of_ints (K := K) (I := I) (ns := rng i (j - i).toNat)
  unfold rng at this ⊢
  unfold rgV
  rwa [List.map_map (g := V.int)] at this
theorem e_lrange1 (m : Bool) {f : AE} (hc : X.calm = true) (hm1 : X.mg "list" = none) (hm2 : X.mg "range" = none) (ha : PE X a (lift X.K f)) (hg1 : Gl X "list" := by rfl) (hg2 : Gl X "range" := by rfl)
    (n1 : starEach [a] X.env = (false, eval a X.env) :: starEach [] X.env := by rfl) (na : starEach [Expr.Call (.Name "range" p2) [a] [] pos2] X.env = (false, eval (.Call (.Name "range" p2) [a] [] pos2) X.env) :: starEach [] X.env := by rfl) :
    PE X (.Call (.Name "list" p) [.Call (.Name "range" p2) [a] [] pos2] [] pos) (lift X.K (aLRange1 m f)) := (pe_listRg hc hg1 hm1 (prg_1 hg2 hm2 ha n1) na).imp fun σ H Q ⟨Γ, M, I, F, k, hs, hc, hf, hk⟩ =>
  ⟨Γ, M, I, F, _, hs, hc, hf, fun d M1 v H1 I1 h1 l1 c1 r1 => by
    split at h1
    · rename_i j
      rw [Rel] at r1
      refine ⟨j, r1, h1.1, fun q hq => nl_ok h1.2 c1 ?_ (hk.le l1) hq⟩
      have := rng_rels (K := X.K) (I := I1) (i := 0) (j := j)
      rwa [Int.sub_zero] at this
    · exact h1.elim⟩
theorem e_lrange2 (m : Bool) {f g : AE} (hc : X.calm = true) (hm1 : X.mg "list" = none) (hm2 : X.mg "range" = none) (ha : PE X a (lift X.K f)) (hb : PE X b (lift X.K g)) (hg1 : Gl X "list" := by rfl) (hg2 : Gl X "range" := by rfl)
    (n1 : starEach [a, b] X.env = (false, eval a X.env) :: starEach [b] X.env := by rfl) (n2 : starEach [b] X.env = (false, eval b X.env) :: starEach [] X.env := by rfl) (hp : (backTo pos2 (starEach [b] X.env)).any (·.1) = false := by rfl)
    (na : starEach [Expr.Call (.Name "range" p2) [a, b] [] pos2] X.env = (false, eval (.Call (.Name "range" p2) [a, b] [] pos2) X.env) :: starEach [] X.env := by rfl) :
    PE X (.Call (.Name "list" p) [.Call (.Name "range" p2) [a, b] [] pos2] [] pos) (lift X.K (aLRange2 m f g)) := (pe_listRg hc hg1 hm1 (prg_2 hg2 hm2 ha hb n1 n2 hp) na).imp fun σ H Q ⟨Γ, M, I, F, k, hs, hc, hf, hk⟩ =>
  ⟨Γ, M, I, F, _, hs, hc, hf, fun d M1 v H1 I1 h1 l1 c1 r1 => ⟨Γ, M1, I1, F, _, hs.le l1, c1, h1, fun e M2 u H2 I2 h2 l2 c2 r2 => by
    split at h2
    · rename_i i j
      rw [Rel] at r1
      rw [Rel] at r2
      exact ⟨i, j, r1, r2, h2.1, fun q hq => nl_ok h2.2 c2 rng_rels (hk.le (l1.trans l2)) hq⟩
    · exact h2.elim⟩⟩
/-! x += e -/
def ipAdd : AB := fun d e M k => match d with
  | .int i => (match e with
    | .int j => k (.int (i + j)) M
    | _ => False)
  | d => wrL d M fun a xs => match rdL M e with
    | some ys => xs.length + ys.length ≤ sizeLine ∧ k (.ref a) (up M a (.obj (.lst (xs ++ ys))))
    | none => False
def tIp : TIp := fun x y H Q => ipI (fun i j => i + j) x y H Q ∨ rExt2 x y H Q
theorem pip_add : PIp X .Add tIp := fun pins s σ H x y v u Q I r1 r2 h => h.elim (ip_add pins s σ H x y v u Q I r1 r2) (iop_ext pins s σ H x y v u Q I r1 r2)
theorem ipAdd_ok {d e : D} {M : MH} {k : AK} {v u : V} {H I F : Hp} {Q : VK} (h : ipAdd d e M k) (c : Conc K H I M F) (r1 : Rel K I d v) (r2 : Rel K I e u) (hk : kE K I F k Q) : tIp v u H Q := by
  unfold ipAdd at h
  split at h
  · split at h
    · rw [Rel] at r1 r2
      exact .inl ⟨_, _, r1, r2, hk _ _ _ _ _ h (Le.refl I) c (by rw [Rel])⟩
    · exact h.elim
  · obtain ⟨a, xs, vs, rfl, hM, hH, hr, q⟩ := wrL_ok h c r1
    split at q
    · rename_i ys e0
      obtain ⟨b, ws, rfl, g2, s2⟩ := rdL_ok e0 c r2
      refine .inr ⟨a, b, vs, ws, rfl, rfl, hH, g2, by rw [← hr.length, ← s2.length]; exact q.1, hk _ _ _ _ _ q.2 (Le.refl I) (c.set hM ⟨_, upd_same, hr.append s2⟩) (by rw [Rel])⟩
    · exact q.elim
def aAug (i : Nat) (f : AE) : AS := fun D Γ M => match Γ[i]? with
  | some (some d) => f Γ M fun e M1 => ipAdd d e M1 fun z M2 => D.nx (Γ.set i (some z)) M2
  | _ => False
theorem s_aug {i : Nat} {x : Str} {f : AE} (he : PE X e (lift X.K f)) (hN : X.N.Nodup) (hi : X.N[i]? = some x := by rfl) (hx : Loc X.env.scope x := by first | exact Or.inl rfl | exact Or.inr rfl) (hf : X.fn x = true ∨ X.env.scope.names.lookup x = some .local := by first | exact .inl rfl | exact .inr rfl) :
    PS X (.AugAssign (.Name x p) .Add e pos) (liftS X.K (aAug i f)) := (ps_aug hN hi hx he pip_add hf).imp fun E σ H ⟨Γ, M, I, F, D, hs, hc, hf, hk⟩ => by
  unfold aAug at hf
  split at hf
  · rename_i d ed
    obtain ⟨v, e1, r⟩ := hs.get ed
    exact ⟨v, e1, Γ, M, I, F, _, hs, hc, hf, fun e M1 u H1 I1 h1 l1 c1 r1 => ipAdd_ok h1 c1 (Rel.le l1 _ _ r) r1 fun z M2 w H2 I2 h2 l2 c2 r2 => hk.nx _ _ _ _ _ h2 (l1.trans l2) c2 ((hs.le (l1.trans l2)).set r2)⟩
  · exact hf.elim
/-! steps -/
variable {Z : AD} {Γ : G} {M : MH} {k : AK} {f : AE} {d : D} {i j : Int} {n : Nat} {xs ys : List D} {m : Bool}
theorem iSorted {ns : List Int} (h : ∀ ns' : List Int, ns'.Perm ns → ns'.Pairwise (· ≤ ·) → nl m (ns'.map .int) M k) (q : rdS M d = some (ns.map .int)) : cSorted m [d] M k := ⟨ns, q, h⟩
theorem iLZip {g : AA} (h : g Γ M fun ds M1 => match ds with | [d, e] => (match rdS M1 d, rdS M1 e with | some xs, some ys => nl m (zipD xs ys) M1 k | _, _ => False) | _ => False) : aLZip m g Γ M k := h
def kLz (m : Bool) (k : AK) : List D → MH → Prop := fun ds M1 => match ds with
  | [d, e] => (match rdS M1 d, rdS M1 e with
    | some xs, some ys => nl m (zipD xs ys) M1 k
    | _, _ => False)
  | _ => False
theorem eLZ {g : AA} : (aLZip m g Γ M k) = (g Γ M (kLz m k)) := propext Iff.rfl
theorem iLzG {d e : D} (h : nl m (zipD xs ys) M k) (q1 : rdS M d = some xs) (q2 : rdS M e = some ys) : kLz m k [d, e] M := by
  show (match rdS M d, rdS M e with | some xs, some ys => nl m (zipD xs ys) M k | _, _ => False)
  rw [q1, q2]; exact h
def kAg (n : Nat) (Γ : G) (Z : AD) (d : D) : AK := fun e M1 => ipAdd d e M1 fun z M2 => Z.nx (Γ.set n (some z)) M2
theorem iAug (h : f Γ M (kAg n Γ Z d)) (e : Γ[n]? = some (some d)) : aAug n f Z Γ M := by
  unfold aAug; rw [e]; exact h
theorem iAgI (h : Z.nx (Γ.set n (some (.int (i + j)))) M) : kAg n Γ Z (.int i) (.int j) M := h
theorem iAgL {a : Addr} {e : D} (h : Z.nx (Γ.set n (some (.ref a))) (up M a (.obj (.lst (xs ++ ys))))) (q1 : M a = some (.obj (.lst xs))) (q2 : rdL M e = some ys) (l : xs.length + ys.length ≤ sizeLine) : kAg n Γ Z (.ref a) e M := by
  show (match M a with | some (.obj (.lst xs)) => (match rdL M e with | some ys => xs.length + ys.length ≤ sizeLine ∧ Z.nx (Γ.set n (some (.ref a))) (up M a (.obj (.lst (xs ++ ys)))) | none => False) | _ => False)
  rw [q1]
  show (match rdL M e with | some ys => xs.length + ys.length ≤ sizeLine ∧ Z.nx (Γ.set n (some (.ref a))) (up M a (.obj (.lst (xs ++ ys)))) | none => False)
  rw [q2]; exact ⟨l, h⟩
def kRg2 (m : Bool) (k : AK) (d : D) : AK := fun e M2 => match d, e with
  | .int i, .int j => rgOk i j ∧ nl m ((rng i (j - i).toNat).map .int) M2 k
  | _, _ => False
theorem eLRg2 {g : AE} : (aLRange2 m f g Γ M k) = (f Γ M fun d M1 => g Γ M1 (kRg2 m k d)) := propext Iff.rfl
theorem eLRg2i : (kRg2 m k (.int i) (.int j) M) = (rgOk i j ∧ nl m ((rng i (j - i).toNat).map .int) M k) := propext Iff.rfl
def kRg1 (m : Bool) (k : AK) : AK := fun e M2 => match e with
  | .int j => rgOk 0 j ∧ nl m ((rng 0 j.toNat).map .int) M2 k
  | _ => False
theorem eLRg1 : (aLRange1 m f Γ M k) = (f Γ M (kRg1 m k)) := propext Iff.rfl
theorem eLRg1i : (kRg1 m k (.int j) M) = (rgOk 0 j ∧ nl m ((rng 0 j.toNat).map .int) M k) := propext Iff.rfl
end
end M
/-! MTup0: enumerate and sorted of the empty tuple. -/
namespace M
open PySem L2 PySem.Spec PyProof.Rows
open AutoSeq1 (wpAny_loadPart')
section
variable {prog : Program} {w : World} {A : Around} {E : Value → Shared → Prop} {s : Shared}
/-- no item is left of an empty tuple -/
theorem t0_next {I T : Addr} {Q : Value → Shared → Prop} (nh : A.handled = none) (hI : s.heap.IsTupleIter I T 0) (hT : s.heap.IsTuple T #[])
    (k : ∀ g e, Heap.ExtBut I s.heap g → (∃ o, g.get? e = some o ∧ o.cls = .type "StopIteration") → E (.ref e) { s with heap := g }) : wpAny (model prog w) A (Builtin.SmallTypes.nextOf (.ref I)) Q E s := by
  obtain ⟨o, o1, o2, o3⟩ := id hI
  obtain ⟨u, u1, _, un, u3⟩ := hT
  unfold Builtin.SmallTypes.nextOf
  refine wpAny_bind (wpAny_callSpecial?_slot (name := Str.ofString "__next__") hI.typeIs F.slot_tuple_iterator_next (wpAny_call_entry F.slot_tuple_iterator_next hI.typeIs F.entry_tuple_iterator_next ?_ (F.args_tuple_iterator_next_1 _)))
  show wpAny _ _ (field (.ref I) 0 >>= _) _ _ s
  refine wpAny_bind (wpAny_field o1 o3 (x := .ref T) rfl ?_)
  show wpAny _ _ (if (Value.ref T == Value.none) = true then _ else _) _ _ s
  rw [if_neg (show ¬ ((Value.ref T == Value.none) = true) from Bool.false_ne_true)]
  show wpAny _ _ (field (.ref I) 1 >>= _) _ _ s
  refine wpAny_bind (wpAny_field o1 o3 (x := .int 0 0) rfl ?_)
  show wpAny _ _ (seqItems? (.ref T) >>= _) _ _ s
  refine wpAny_bind (wpAny_seqItems u1 u3 ?_)
  have nx : (#[] : Array Value)[(0 : Int).toNat]? = none := rfl
  simp only [nx]
  refine wpAny_bind (wpAny_rule (wpAny_bind (wpAny_setField o1 o3 (by simp) ?_)))
  show wpAny _ _ (newExc (.type "StopIteration") [] >>= _) _ _ _
  refine wpAny_bind ?_
  simp only [newExc, newTuple]
  refine wpAny_bind (wpAny_newObj_type ?_ (by size_fits))
  refine wpAny_bind (m := firstArgMember _ _) (wpAny_of_eq (a := Value.none) (by first | rfl | (simp only [firstArgMember]; rfl)) ?_)
  refine wpAny_newObj_type ?_ (by size_fits)
  simp only [raiseNew]
  refine wpAny_bind (wpAny_handled ?_)
  first | rw [show A.in1.handled = none from nh] | rw [nh]
  refine wpAny_bind (wpAny_pure (wpAny_throw (k _ _ (((Heap.SameBut.update ..).extBut.push _).push _) ⟨_, Heap.get?_push_size _ rfl, rfl⟩)))
end
theorem draws0 {prog : Program} {w : World} {A : Around} (nh : A.handled = none) (I T : Addr) (ne : T ≠ I) : Draws prog w A I [I, T] 0 (fun _ _ => False) (fun i h => h.IsTupleIter I T 0 ∧ h.IsTuple T #[]) where
  live := fun _ _ st => let ⟨o, q, _⟩ := st.1; ⟨o, q⟩
  frame := fun _ _ _ st hk => by
    obtain ⟨⟨o, q1, q2⟩, ⟨u, r1, r2⟩⟩ := st
    exact ⟨⟨o, hk I (by simp) _ q1, q2⟩, ⟨u, hk T (by simp) _ r1, r2⟩⟩
  item := fun i s Q E hi _ _ => absurd hi (Nat.not_lt_zero i)
  done := fun s Q E st hE => t0_next nh st.1 st.2 hE
/-- nothing is walked -/
def It0 (K : PySem.W.Frag) (T : Addr) : It := ⟨fun _ _ => False, fun _ _ _ _ => False, fun _ H => SqT K H T []⟩
section
variable {P : Program} {w : World} {K : PySem.W.Frag} {tg : Expr}
theorem turn0 (T e I : Addr) : Turn P w K tg (It0 K T) [e, I] e (fun i h => (∃ old, IsEnum h e I 0 old) ∧ h.IsTupleIter I T 0) where
  mem := by simp
  obj := fun i h st b hb => by
    obtain ⟨⟨old, he⟩, ⟨o, ho, hc, hd⟩⟩ := st
    have e' : b = e ∨ b = I := by simpa using hb
    rcases e' with z | z
    · rw [z]; exact ⟨_, he, fun v q => nomatch q⟩
    · rw [z]; exact ⟨o, ho, fun v q => by rw [hd] at q; cases q⟩
  keep := fun i h h' st k => by
    obtain ⟨⟨old, he⟩, ⟨o, ho, hc⟩⟩ := st
    exact ⟨⟨old, k e (by simp) _ he⟩, ⟨o, k I (by simp) _ ho, hc⟩⟩
  item := fun X hP hw hK hc i pins s σ H E I' hf st hg => hg.elim
  done := by
    intro X hP hw hK hc i pins s σ H E I' hf st hg
    subst hP hw hK
    obtain ⟨⟨old, he⟩, hit⟩ := st
    obtain ⟨f0, f1, f2, f3, f4, f5⟩ := hf I (by simp)
    obtain ⟨its, rv, p, _⟩ := I'.tuple hg
    have e0 : its = [] := by
      have := rv.length
      exact List.eq_nil_of_length_eq_zero this.symm
    subst e0
    have hT : s.heap.IsTuple T #[] := p
    have ne : T ≠ I := fun z => by
      subst z
      obtain ⟨o, q1, q2, _⟩ := hit
      obtain ⟨u, r1, r2, _⟩ := hT
      rw [q1] at r1
      cases r1
      rw [q2] at r2
      injection r2 with r2
      exact absurd r2 (by decide)
    exact wpAny_pyNext_enum_endD (draws0 (A := X.A.in1) (I'.ok.hd hc) I T ne) he ⟨hit, hT⟩ fun h' eb => ⟨rfl, I'.turned (t' := s.toks) (fun b o hb q => eb b o hb q) f0 f1 f3 f4 f5⟩
  self := fun A i s Q E st h => let ⟨⟨_, he⟩, _⟩ := st; wpAny_pyIter_enum he h
end
section
variable {prog : Program} {w : World} {A : Around} {E : Value → Shared → Prop} {s : Shared}
theorem t0_new (T : Addr) (o : Obj) (n : Nat) (hc : o.cls = .type "tuple") (hd : o.data = .seq #[] n) :
    Meets (Builtin.«enumerate.__new__» ⟨[.type "enumerate", .ref T], []⟩) (fun _ R s => s.heap.get? T = some o ∧
      R (.ok (.ret (.ref (s.heap.push { cls := .type "tuple_iterator", data := .fields #[.ref T, .int 0 0] }).objs.size)))
        { s with heap := (s.heap.push { cls := .type "tuple_iterator", data := .fields #[.ref T, .int 0 0] }).push { cls := .type "enumerate", data := .fields #[.none, .bool false, .ref s.heap.objs.size, rawInt 0, .none, .none] } }) :=
  .of_wp fun prog w A R s h => by
    obtain ⟨hp, g, d, tk, os⟩ := s
    obtain ⟨hl, h⟩ := h
    have hsub := sub_enumerate
    have hL : Heap.IsTuple (Shared.heap ⟨hp, g, d, tk, os⟩) T #[] := ⟨_, hl, hc, n, hd⟩
    wp_walk using wpAny_loadPart' hl
    refine wpAny_stack_any fun st => wpAny_pure ?_
    split
    · rename_i c _ _ _ _ _
      cases (c == Value.type "enumerate")
      · wp_walk using wpAny_loadPart' hl, wpAny_pyIter_tuple hL
        exact ⟨_, rfl, h⟩
      · wp_walk using wpAny_loadPart' hl, wpAny_pyIter_tuple hL
        exact ⟨_, rfl, h⟩
    · wp_walk using wpAny_loadPart' hl, wpAny_pyIter_tuple hL
      exact ⟨_, rfl, h⟩
theorem t0_call {T : Addr} {Q : Value → Shared → Prop} (hT : s.heap.IsTuple T #[])
    (h : ∀ h', IsEnum h' (s.heap.objs.size + 1) s.heap.objs.size 0 .none → h'.IsTupleIter s.heap.objs.size T 0 → (∀ b o, s.heap.get? b = some o → h'.get? b = some o) → Q (.ref (s.heap.objs.size + 1)) { s with heap := h' }) :
    wpAny (model prog w) A (call (.type "enumerate") [.ref T]) Q E s := by
  obtain ⟨o, ho, hc, n, hd⟩ := hT
  refine callType_new F.called_enumerate (by decide) (F.typeCall_enumerate_1 _) (F.newCall_enumerate_1 _) (fun obj => F.args_object_init_2 obj _) F.entry_enumerate_new (t0_new T o n hc hd) ⟨ho, ?_⟩
  generalize hI : ({ cls := .type "tuple_iterator", data := .fields #[.ref T, .int 0 0] } : Obj) = oI
  have hz : (s.heap.push oI).objs.size = s.heap.objs.size + 1 := Heap.size_push ..
  show _ ∧ _
  rw [hz]
  have he := Heap.get?_push_size (s.heap.push oI) (o := { cls := .type "enumerate", data := .fields #[.none, .bool false, .ref s.heap.objs.size, rawInt 0, .none, .none] }) rfl
  rw [hz] at he
  refine ⟨⟨_, he, rfl⟩, h _ he ⟨oI, Heap.get?_push_of_some _ (Heap.get?_push_size _ (by rw [← hI]; rfl)), by rw [← hI], by rw [← hI]; rfl⟩ fun b o x => Heap.get?_push_of_some _ (Heap.get?_push_of_some _ x)⟩
end

section
variable {X : Cx} {tg e a b : Expr} {p pos tpos : Pos} {elts : List Expr} {kk : Nat} {K : PySem.W.Frag}
/-- a list, or the empty tuple -/
def iEnT (K : PySem.W.Frag) (ta : TA) : TI := fun σ H R => ta σ H fun vs H1 => ∃ l, vs = [.ref l] ∧ ((∃ xs, SqL K H1 l xs ∧ R (Ite K l) H1) ∨ (SqT K H1 l [] ∧ R (It0 K l) H1))
theorem pi_enT {ta : TA} (hg : Gl X "enumerate") (hm : X.mg "enumerate" = none) (ha : PA X [e] ta) (hs : starEach [e] X.env = [(false, eval e X.env)] := by rfl) :
    PI X (.Tuple elts kk tpos) (.Call (.Name "enumerate" p) [e] [] pos) (iEnT X.K ta) := by
  constructor
  intro pins s0 σ H R I0 h
  refine Call_ (ld_blt I0 hg hm boot_enumerate (PyProof.Rows.callWith_type1 (thn (ha.run pos pins s0 σ H _ I0 h) fun us s1 ⟨vs, H1, I1, r1, l, ex, q⟩ => ?_) hs rfl))
  subst ex
  cases r1 with
  | cons r rr =>
    cases rr
    cases r
    have fps : ∀ b ∈ [s1.heap.objs.size + 1, s1.heap.objs.size], FpOk X pins H1 b := fun b hb => by
      have hle : s1.heap.objs.size ≤ b := by
        rcases List.mem_cons.mp hb with z | z
        · rw [z]; exact Nat.le_succ _
        · rw [List.mem_singleton.mp z]; exact Nat.le_refl _
      exact I1.fpOk hle (I1.hok.fresh hle)
    rcases q with ⟨xs, hq, q⟩ | ⟨hq, q⟩
    · obtain ⟨its, rv, pl, hz⟩ := I1.list hq
      exact call_enumerate_list pl.isList fun h' he hit hsz hk => wpAny_pyIter_enum he ⟨_, [s1.heap.objs.size + 1, s1.heap.objs.size], _, _, H1, rfl, I1.kept (t' := s1.toks) hk, turn_enum l _ _, ⟨⟨.none, he⟩, hit, Nat.succ_ne_self _⟩, fps, q⟩
    · obtain ⟨its, rv, pl, hz⟩ := I1.tuple hq
      have e0 : its = [] := List.eq_nil_of_length_eq_zero rv.length.symm
      subst e0
      exact t0_call pl fun h' he hit hk => wpAny_pyIter_enum he ⟨_, [s1.heap.objs.size + 1, s1.heap.objs.size], _, _, H1, rfl, I1.kept (t' := s1.toks) hk, turn0 l _ _, ⟨⟨.none, he⟩, hit⟩, fps, q⟩
/-- a list, or the empty tuple, read -/
def rdT (M : MH) : D → Option (List D)
  | .tup [] => some []
  | d => rdS M d
theorem rdT_of {M : MH} {d : D} {ds : List D} (h : rdS M d = some ds) : rdT M d = some ds := by
  cases d with
  | tup l => cases h
  | _ => exact h
theorem rdT_cases {M : MH} {d : D} {ds : List D} (h : rdT M d = some ds) : (d = .tup [] ∧ ds = []) ∨ rdS M d = some ds := by
  cases d with
  | tup l =>
    cases l with
    | nil => exact .inl ⟨rfl, (Option.some.inj h).symm⟩
    | cons x l => cases h
  | _ => exact .inr h
def wEnT (g : AA) : AI := fun Γ M k => g Γ M fun ds M1 => match ds with
  | [d] => (match d with
    | .tup [] => k ⟨[], fun _ => True⟩ M1
    | d => match rdS M1 d with
      | some xs => k ⟨enumD 0 xs, fun M => rdS M d = some xs⟩ M1
      | none => False)
  | _ => False
theorem ite_ok {M : MH} {H I F : Hp} {d : D} {l : Addr} {xs : List D} (r : Rel K I d (.ref l)) : ItOk K F I (Ite K l) ⟨enumD 0 xs, fun M => rdS M d = some xs⟩ := by
  intro i H2 J M2 l2 F2 lf c2 ok
  obtain ⟨q', us, e1, g2, s2⟩ := rdS_ok ok c2 (Rel.le l2 _ _ r)
  cases e1
  constructor
  · intro h
    refine ⟨us, g2, s2.get_none ?_⟩
    have h : (enumD 0 xs)[i]? = none := h
    rw [enumD_get] at h
    cases q : xs[i]? with
    | none => rfl
    | some y => rw [q] at h; cases h
  · intro x h
    have h : (enumD 0 xs)[i]? = some x := h
    rw [enumD_get] at h
    cases q : xs[i]? with
    | none => rw [q] at h; cases h
    | some y =>
      rw [q] at h
      cases h
      obtain ⟨v, hv, rv⟩ := s2.get q
      refine ⟨⟨us, v, g2, hv⟩, fun z H' q2 => ?_⟩
      obtain ⟨T, u, rfl, hT, rfl, q3⟩ := q2
      have := q3 us g2
      rw [hv] at this
      cases this
      have le : Le J (upd J T (.tup [.int (i : Nat), v])) := Le.new (c2.fresh hT).1
      refine ⟨_, le, c2.newF hT, ?_⟩
      rw [Rel]
      exact ⟨T, _, rfl, .inl upd_same, .cons (by rw [Rel, Nat.zero_add]) (.one (Rel.le le _ _ rv))⟩
theorem it0_ok {F I : Hp} {l : Addr} (r : Rel K I (.tup []) (.ref l)) : ItOk K F I (It0 K l) ⟨[], fun _ => True⟩ := by
  intro i H2 J M2 l2 F2 lf c2 _
  constructor
  · intro _
    obtain ⟨l', vs, e, g, s⟩ := rel_tup c2 (Rel.le l2 _ _ r)
    cases e
    rw [s.nil_inv] at g
    exact g
  · intro x h
    cases h
theorem i_enumT {g : AA} (hm : X.mg "enumerate" = none) (ha : PA X [a] (liftA X.K g)) (hg : Gl X "enumerate" := by rfl) (hs : starEach [a] X.env = [(false, eval a X.env)] := by rfl) :
    PI X (.Tuple elts kk tpos) (.Call (.Name "enumerate" p) [a] [] pos) (liftI X.K (wEnT g)) :=
  (pi_enT hg hm ha hs).imp fun σ H R ⟨Γ, M, I, F, k, hs, hc, hf, hk⟩ => ⟨Γ, M, I, F, _, hs, hc, hf, fun ds M1 vs H1 I1 h1 l1 c1 r1 => by
    split at h1
    · rename_i d
      obtain ⟨v, rfl, r2⟩ := rels1 r1
      split at h1
      · obtain ⟨l, ws, rfl, g0, s0⟩ := rel_tup c1 r2
        rw [s0.nil_inv] at g0
        exact ⟨l, rfl, .inr ⟨g0, hk _ _ _ _ _ h1 l1 c1 (it0_ok r2)⟩⟩
      · split at h1
        · rename_i xs e0
          obtain ⟨q, ws, rfl, g0, s0⟩ := rdS_ok e0 c1 r2
          exact ⟨q, rfl, .inl ⟨ws, g0, hk _ _ _ _ _ h1 l1 c1 (ite_ok (M := M1) (H := H1) r2)⟩⟩
        · exact h1.elim
    · exact h1.elim⟩
theorem iEnT0 {g : AA} {Γ : G} {M : MH} {k : AIt → MH → Prop} (h : g Γ M fun ds M1 => match ds with
  | [d] => (match d with
    | .tup [] => k ⟨[], fun _ => True⟩ M1
    | d => match rdS M1 d with
      | some xs => k ⟨enumD 0 xs, fun M => rdS M d = some xs⟩ M1
      | none => False)
  | _ => False) : wEnT g Γ M k := h
def kEnT (k : AIt → MH → Prop) : List D → MH → Prop := fun ds M1 => match ds with
  | [d] => (match d with
    | .tup [] => k ⟨[], fun _ => True⟩ M1
    | d => match rdS M1 d with
      | some xs => k ⟨enumD 0 xs, fun M => rdS M d = some xs⟩ M1
      | none => False)
  | _ => False
theorem eEnT {g : AA} {Γ : G} {M : MH} {k : AIt → MH → Prop} : (wEnT g Γ M k) = (g Γ M (kEnT k)) := propext Iff.rfl
theorem kEnT_l {k : AIt → MH → Prop} {d : D} {xs : List D} {M : MH} (h : k ⟨enumD 0 xs, fun M => rdS M d = some xs⟩ M) (q : rdS M d = some xs) : kEnT k [d] M := by
  have g : (match rdS M d with
      | some xs => k ⟨enumD 0 xs, fun M => rdS M d = some xs⟩ M
      | none => False) := by rw [q]; exact h
  cases d with
  | tup l => cases q
  | _ => exact g
theorem kEnT_0 {k : AIt → MH → Prop} {M : MH} (h : k ⟨[], fun _ => True⟩ M) : kEnT k [.tup []] M := h
/-! sorted -/
def rSorted0 (K : PySem.W.Frag) : List V → Hp → VK → Prop := fun vs H Q => ∃ l : Addr, vs = [V.ref l] ∧ SqT K H l [] ∧ ∀ q : Addr, H q = none → Q (.ref q) (upd H q (.lst []))
theorem t0_collect {prog : Program} {w : World} {A : Around} {E : Value → Shared → Prop} {s : Shared} {l : Addr} {Q : List Value → Shared → Prop} (hT : s.heap.IsTuple l #[])
    (hQ : ∀ h' : Heap, h'.objs.size = s.heap.objs.size + 1 → (∀ b u, s.heap.get? b = some u → h'.get? b = some u) → Q [] { s with heap := h' }) : wpAny (model prog w) A (collect (.ref l)) Q E s := by
  obtain ⟨o, ho, hc, n, hd⟩ := hT
  generalize ha : s.heap.objs.size = a
  have p1 : (s.heap.push { cls := .type "list", data := .seq ([] : List Value).toArray }).get? a = some { cls := .type "list", data := .seq #[] 0 } := by rw [← ha]; exact Heap.get?_push_size _ rfl
  have p2 := Heap.get?_update_self (Obj.mapSeq (· ++ #[])) p1 rfl
  unfold collect
  refine wpAny_bind (wpAny_runValue (codeAny_builtin F.entry_proto_collect ?_))
  rw [Around.under_plainId F.plain_proto_collect _]
  show wpAny _ A.in1 (newList [] >>= fun l' => again (.builtin "list.__iadd__" ⟨[l', .ref l], []⟩)) _ _ s
  refine wpAny_bind (wpAny_newObj_type (wpAny_pure ⟨plainId_quiet F.plain_list_iadd _, codeAny_builtin F.entry_list_iadd ?_⟩))
  rw [Around.under_plainId F.plain_list_iadd _, ha]
  have last : wpAny (model prog w) A (match Value.ref a with
      | Value.ref a => do
        match (← load a).data with
          | Data.seq xs _ => pure xs.toList
          | _ => unsupported "internal:collect"
      | _ => unsupported "internal:collect") Q E { s with heap := (s.heap.push { cls := .type "list", data := .seq ([] : List Value).toArray }).update a (Obj.mapSeq (· ++ #[])) } := by
    show wpAny _ A (load a >>= _) _ _ _
    refine wpAny_bind (wpAny_load p2 (wpAny_pure (hQ _ (by rw [Heap.size_update, Heap.size_push]) fun b u hb => ?_)))
    exact (Heap.get?_update_other _ _ (by rw [← ha]; exact Nat.ne_of_gt (Heap.lt_size hb))).trans (Heap.get?_push_of_some _ hb)
  show wpAny _ A.in1 (Builtin.List.listExtendWith (.ref a) (.ref l) (.ref a)) _ _ _
  refine wpAny_mono (wpAny_extend_seq (hsz := Nat.zero_le _) (A := A) (R := fun r s' => r = .ok (.ret (.ref a)) ∧ s' = { s with heap := (s.heap.push { cls := .type "list", data := .seq ([] : List Value).toArray }).update a (Obj.mapSeq (· ++ #[])) }) (s := { s with heap := s.heap.push { cls := .type "list", data := .seq ([] : List Value).toArray } }) _ l _ 0 (.inr rfl) p1 (Heap.get?_push_of_some _ ho) hc hd ⟨rfl, rfl⟩) (fun fin s' h => ?_) (fun e s' h => absurd h.1 (by simp))
  cases fin with
  | done f =>
    obtain ⟨e, rfl⟩ := h
    cases e
    exact last
  | again c' => exact ⟨h.1, codeAny_mono h.2 fun r s'' hr => by obtain ⟨rfl, rfl⟩ := hr; exact last⟩
theorem cr_sorted0 : CallR X (.builtin "sorted") (rSorted0 X.K) := by
  intro pins s σ H vs us Q I r h
  obtain ⟨l, rfl, hs, q⟩ := h
  obtain ⟨its, rv, hl, hz⟩ := I.tuple hs
  rw [Vals.ref1 r]
  have e0 : its = [] := List.eq_nil_of_length_eq_zero rv.length.symm
  subst e0
  refine Calls.call_function_entry kind_sorted plain_sorted entry_sorted (args_sorted1 _) ?_
  unfold Builtin.«sorted»
  refine wpAny_bind (m := checkCount "sorted" 1 1 _) (wpAny_pure ?_)
  refine wpAny_bind (t0_collect hl fun h1 z1 k1 => ?_)
  refine wpAny_bind (wpAny_newList ?_ (Nat.zero_le _))
  have hL : (h1.push (seqObj "list" ([] : List Value).toArray 0)).get? h1.objs.size = some (seqObj "list" ([] : List Value).toArray 0) := Heap.get?_push_size _ rfl
  refine wpAny_bind (wpAny_holding (wpAny_call_entry slot_list_sort ⟨_, hL, rfl⟩ entry_list_sort (SrtO.list_sort_ord SrtO.swo_int hL (Nat.zero_le _) (fun h2 => absurd h2 (by decide)) fun out hs hb => ⟨_, rfl, ?_⟩) (args_list_sort _)))
  refine wpAny_pure ⟨_, rfl, ?_⟩
  have e1 : out = [] := List.Perm.eq_nil hb.perm
  subst e1
  obtain ⟨ep, he⟩ := PyProof.Rows.sortedHeap_at (vs := []) (out := ([] : List Value).toArray) hL
  have hf : H h1.objs.size = none := I.hok.fresh (by omega)
  refine ⟨.ref _, upd H h1.objs.size (.lst []), I.laid (t' := s.toks) (fun b u hb => ?_) (by omega) ⟨Nat.zero_le _, [], ep, .nil, he⟩, rfl, q _ hf⟩
  have hlt := Heap.lt_size hb
  have hl2 : b < h1.objs.size := Nat.lt_of_lt_of_le hlt (by rw [z1]; exact Nat.le_succ _)
  rw [PyProof.Rows.sortedHeap_old (Nat.ne_of_lt hl2) (by rw [Heap.size_push]; exact Nat.lt_succ_of_lt hl2)]
  exact Heap.get?_push_of_some _ (k1 b u hb)
/-- sorted(xs), ints, of a list or the empty tuple -/
def cSortedT (m : Bool) : AC := fun ds M k => match ds with
  | [d] => ∃ ns : List Int, rdT M d = some (ns.map .int) ∧ ∀ ns' : List Int, ns'.Perm ns → ns'.Pairwise (· ≤ ·) → nl m (ns'.map .int) M k
  | _ => False
def rSortedT (K : PySem.W.Frag) : List V → Hp → VK → Prop := fun vs H Q => rSortedI K vs H Q ∨ rSorted0 K vs H Q
theorem cr_sortedT : CallR X (.builtin "sorted") (rSortedT X.K) := fun pins s σ H vs us Q I r h => h.elim (cr_sortedI pins s σ H vs us Q I r) (cr_sorted0 pins s σ H vs us Q I r)
theorem cSortedT_ok {m : Bool} : OkC K (rSortedT K) (cSortedT m) := by
  intro ds M k vs H I F Q h c r hk
  unfold cSortedT at h
  split at h
  · rename_i d
    obtain ⟨ns, h1, h2⟩ := h
    by_cases z : d = .tup []
    · subst z
      obtain ⟨v, rfl, r9⟩ := rels1 r
      obtain ⟨l, ws, rfl, g0, s0⟩ := rel_tup c r9
      rw [s0.nil_inv] at g0
      have e0 : ns = [] := by
        have : ns.map D.int = [] := (Option.some.inj h1).symm
        exact List.map_eq_nil_iff.mp this
      subst e0
      exact .inr ⟨l, rfl, g0, fun q hq => nl_ok (h2 [] (List.Perm.refl _) List.Pairwise.nil) c .nil hk hq⟩
    · have h1' : rdS M d = some (ns.map .int) := by
        cases d with
        | tup l =>
          cases l with
          | nil => exact absurd rfl z
          | cons x l => cases h1
        | _ => exact h1
      exact .inl (cSorted_ok (m := m) [d] M k vs H I F Q ⟨ns, h1', h2⟩ c r hk)
  · exact h.elim
theorem e_sortedT (m : Bool) {es : List Expr} {ga : AA} (hm : X.mg "sorted" = none) (ha : PA X (e :: es) (liftA X.K ga)) (hg : Gl X "sorted" := by rfl) (he : starEach (e :: es) X.env = (false, eval e X.env) :: starEach es X.env := by rfl) (hpl : (backTo pos (starEach es X.env)).any (·.1) = false := by rfl) :
    PE X (.Call (.Name "sorted" p) (e :: es) [] pos) (lift X.K (aCB (cSortedT m) ga)) := e_callB cr_sortedT cSortedT_ok hm (by decide +kernel) ha hg (by decide) (by decide) he hpl
theorem iSortedT {m : Bool} {d : D} {M : MH} {k : AK} {ns : List Int} (h : ∀ ns' : List Int, ns'.Perm ns → ns'.Pairwise (· ≤ ·) → nl m (ns'.map .int) M k) (q : rdT M d = some (ns.map .int)) : cSortedT m [d] M k := ⟨ns, q, h⟩
end
end M
/-! MFlt: comprehensions with a test. -/
namespace M
open PySem L2
theorem lc_sf {m : Bool} {ok : MH → Prop} {g : AG} {tt : AT} {te : AE} {Γ : G} {k : List D → MH → Prop} {xs : List D} (W : Nat → List D → MH → Prop) (hl : xs.length ≤ 1000000)
    (step : ∀ i x acc M, xs[i]? = some x → acc.length ≤ i → W i acc M → ok M ∧ ∀ (k1 : AK) (k2 : MH → Prop), (∀ d M2, W (i + 1) (acc ++ [d]) M2 → k1 d M2) → (∀ M2, W (i + 1) acc M2 → k2 M2) → g x Γ M fun Γ' M' => tt Γ' M' fun b M1 => if b = true then te Γ' M1 k1 else k2 M1)
    (hend : ∀ acc M, acc.length ≤ xs.length → W xs.length acc M → ok M ∧ k acc M) : ∀ {M : MH}, W 0 [] M → lcGo m ok g tt te Γ xs [] M k := by
  have go : ∀ (n i : Nat) (acc : List D) (M : MH), n = xs.length - i → i ≤ xs.length → acc.length ≤ i → W i acc M → lcGo m ok g tt te Γ (xs.drop i) acc M k := by
    intro n
    induction n with
    | zero =>
      intro i acc M hn hi ha w
      have : i = xs.length := by omega
      subst this
      rw [List.drop_length]
      exact hend acc M ha w
    | succ n ih =>
      intro i acc M hn hi ha w
      have hlt : i < xs.length := by omega
      rw [List.drop_eq_getElem_cons hlt]
      obtain ⟨h1, h2⟩ := step i xs[i] acc M (List.getElem?_eq_getElem hlt) ha w
      refine ⟨h1, ?_⟩
      exact h2 _ _ (fun d M2 w2 => ⟨by rw [sizeLine_eq]; omega, ih (i + 1) _ M2 (by omega) hlt (by rw [List.length_append, List.length_singleton]; omega) w2⟩) fun M2 w2 => ih (i + 1) _ M2 (by omega) hlt (by omega) w2
  intro M w
  exact go xs.length 0 [] M rfl (Nat.zero_le _) (Nat.zero_le _) w
/-- items kept by a test of their own, the small heap as it is -/
theorem lc_flt {α : Type} {m : Bool} {ok : MH → Prop} {g : AG} {tt : AT} {te : AE} {Γ : G} {M : MH} {k : List D → MH → Prop} {xs : List α} {ι fn : α → D} (q : α → Bool) (hl : xs.length ≤ 1000000) (ho : ok M)
    (step : ∀ x ∈ xs, ∀ (k1 : AK) (k2 : MH → Prop), (q x = true → k1 (fn x) M) → (q x = false → k2 M) → g (ι x) Γ M fun Γ' M' => tt Γ' M' fun b M1 => if b = true then te Γ' M1 k1 else k2 M1) (h : k ((xs.filter q).map fn) M) : lcGo m ok g tt te Γ (xs.map ι) [] M k := by
  refine lc_sf (fun i acc M' => M' = M ∧ acc = ((xs.take i).filter q).map fn) (by rw [List.length_map]; exact hl) ?_ ?_ ⟨rfl, rfl⟩
  · rintro i x acc M' hx ha ⟨rfl, rfl⟩
    obtain ⟨y, hy, rfl⟩ := map_get hx
    refine ⟨ho, fun k1 k2 h1 h2 => step y (List.mem_of_getElem? hy) k1 k2 (fun hq => h1 _ _ ⟨rfl, ?_⟩) fun hq => h2 _ ⟨rfl, ?_⟩⟩
    · rw [take_succ hy, List.filter_append, List.filter_cons_of_pos hq, List.map_append]; rfl
    · rw [take_succ hy, List.filter_append, List.filter_cons_of_neg (by rw [hq]; exact Bool.false_ne_true), List.filter_nil, List.append_nil]
  · rintro acc M' ha ⟨rfl, rfl⟩
    refine ⟨ho, ?_⟩
    rw [List.length_map, List.take_length]
    exact h
theorem seq_ix {n r : Nat} {i : Int} (h : i = (r : Int)) (l : r < n) : seqIndex? i n = some r := by
  subst h
  unfold seqIndex?
  simp
  omega
theorem erase_perm {α : Type} : ∀ {l : List α} {i : Nat} (h : i < l.length), (l[i] :: l.eraseIdx i).Perm l
  | [], i, h => absurd h (Nat.not_lt_zero i)
  | a :: l, 0, h => List.Perm.refl _
  | a :: l, i + 1, h => by
    rw [List.eraseIdx_cons_succ, List.getElem_cons_succ]
    exact (List.Perm.swap _ _ _).trans ((erase_perm (by simpa using h)).cons a)
theorem erase_map {α β : Type} (f : α → β) : ∀ {l : List α} {i : Nat}, (l.map f).eraseIdx i = (l.eraseIdx i).map f
  | [], i => rfl
  | a :: l, 0 => rfl
  | a :: l, i + 1 => by
    rw [List.map_cons, List.eraseIdx_cons_succ, List.eraseIdx_cons_succ, List.map_cons, erase_map f]
/-- int(x) of a truth or a number -/
def cIntB : AC := fun ds M k => match ds with
  | [.bl b] => k (.int (if b then 1 else 0)) M
  | [.int i] => k (.int i) M
  | _ => False
section
variable {X : Cx} {K : PySem.W.Frag} {e : Expr} {es : List Expr} {p pos : Pos} {ga : AA}
theorem cIntB_ok : OkC K (fun xs H Q => (∃ i, xs = [.int i] ∧ Q (.int i) H) ∨ ∃ k, xs = [.bl k] ∧ Q (.int (if k then 1 else 0)) H) cIntB := by
  intro ds M k vs H I F Q h c r hk
  unfold cIntB at h
  split at h
  · rename_i b
    obtain ⟨v, rfl, r2⟩ := rels1 r
    rw [Rel] at r2; subst r2
    exact .inr ⟨_, rfl, hk _ _ _ _ _ h (Le.refl I) c (by rw [Rel])⟩
  · rename_i i
    obtain ⟨v, rfl, r2⟩ := rels1 r
    rw [Rel] at r2; subst r2
    exact .inl ⟨_, rfl, hk _ _ _ _ _ h (Le.refl I) c (by rw [Rel])⟩
  · exact h.elim
theorem e_intB (hm : X.mg "int" = none) (ha : PA X (e :: es) (liftA X.K ga)) (hg : Gl X "int" := by rfl) (he : starEach (e :: es) X.env = (false, eval e X.env) :: starEach es X.env := by rfl) (hpl : (backTo pos (starEach es X.env)).any (·.1) = false := by rfl) :
    PE X (.Call (.Name "int" p) (e :: es) [] pos) (lift X.K (aCB cIntB ga)) := e_callTy call_int1 cIntB_ok hm (by decide +kernel) ha hg (by decide) (by decide) he hpl
theorem eIntB {b : Bool} {M : MH} {k : AK} : (cIntB [.bl b] M k) = (k (.int (if b then 1 else 0)) M) := propext Iff.rfl
end
end M
/-! MDef: defs with defaults. -/
namespace M
open PySem L2 PySem.Spec PyProof.Rows
/-- a def with a tuple of defaults, as it stands behind the top -/
structure FunT (K : PySem.W.Frag) (x qual : Str) (st : Stmt) (f : Addr) (fd : FuncData) (its : List Value) : Prop where
  ex : ∃ (T : Addr) (oT : Obj) (n : Nat) (oc : Value) (od : Option Addr) (kV doc pm : Value) (an : Option Addr) (cdv ct : Value) (osl : Array (Option Value)),
    fd = PySem.W.fnOf x qual (defArgs st) (defBody st) (defScope st) (.ref T) kV doc pm an cdv ct ∧ K.lookup f = some ⟨oc, od, .func fd, osl⟩ ∧ PySem.W.codeIn K cdv qual = true ∧ K.lookup T = some oT ∧ oT.data = .seq its.toArray n
  kp : PySem.W.keepIn K (.ref f) = true
theorem funT_mk {K : PySem.W.Frag} {x qual : Str} {st : Stmt} {f T : Addr} {its : List Value} {its' : Array Value} {n : Nat} {oc oc2 : Value} {od od2 an : Option Addr} {osl osl2 : Array (Option Value)} {kV doc pm cdv ct : Value}
    (l : K.lookup f = some ⟨oc, od, .func (PySem.W.fnOf x qual (defArgs st) (defBody st) (defScope st) (.ref T) kV doc pm an cdv ct), osl⟩) (c : PySem.W.codeIn K cdv qual = true) (k : PySem.W.keepIn K (.ref f) = true) (lT : K.lookup T = some ⟨oc2, od2, .seq its' n, osl2⟩) (e : its' = its.toArray) :
    FunT K x qual st f (PySem.W.fnOf x qual (defArgs st) (defBody st) (defScope st) (.ref T) kV doc pm an cdv ct) its := ⟨⟨T, _, n, oc, od, kV, doc, pm, an, cdv, ct, osl, rfl, l, c, lT, by rw [e]⟩, k⟩
section
variable {K : PySem.W.Frag} {x qual : Str} {st : Stmt} {f : Addr} {fd : FuncData} {its : List Value} {ps : List Str}
theorem FunT.to (F : FunT K x qual st f fd its) {args : Args} {binds : List (Str × Value)}
    (h : ∀ (T : Addr) (kV doc pm : Value) (an : Option Addr) (cdv ct : Value), ∃ k, bindArgs (PySem.W.fnOf x qual (defArgs st) (defBody st) (defScope st) (.ref T) kV doc pm an cdv ct) args = seqItems? (.ref T) >>= k ∧ k (some its.toArray) = pure binds) (s : Shared) (X : K.In s.heap) : BindsTo s fd args binds := by
  obtain ⟨T, oT, n, oc, od, kV, doc, pm, an, cdv, ct, osl, rfl, lk, hcd, lT, dT⟩ := F.ex
  obtain ⟨k, e1, e2⟩ := h T kV doc pm an cdv ct
  refine BindsTo.of_looks fun M => ?_
  rw [e1]
  exact looks_items X lT dT (.of_pure e2)
theorem FunT.binds {ds : List Value} (n : Nat) (hn : n + ds.length = ps.length) (F : FunT K x qual st f fd its)
    (h : ∀ (T : Addr) (kV doc pm : Value) (an : Option Addr) (cdv ct : Value) (us : List Value), us.length = n → ∃ k, bindArgs (PySem.W.fnOf x qual (defArgs st) (defBody st) (defScope st) (.ref T) kV doc pm an cdv ct) ⟨us, []⟩ = seqItems? (.ref T) >>= k ∧ k (some its.toArray) = pure (ps.zip (us ++ ds))) : Binds K fd ps ds := fun s us X hl => F.to (fun T kV doc pm an cdv ct => h T kV doc pm an cdv ct us (by rw [List.length_append] at hl; omega)) s X
theorem FunT.bk {ds : List Value} {n : Nat} {ks : List Str} {ix : List Nat} (F : FunT K x qual st f fd its)
    (h : ∀ (T : Addr) (kV doc pm : Value) (an : Option Addr) (cdv ct : Value) (us ws : List Value), us.length = n → ws.length = ks.length → ∃ k, bindArgs (PySem.W.fnOf x qual (defArgs st) (defBody st) (defScope st) (.ref T) kV doc pm an cdv ct) ⟨us, ks.zip ws⟩ = seqItems? (.ref T) >>= k ∧ k (some its.toArray) = pure (ps.zip (pick ix (us ++ ws ++ ds)))) : BK K fd ps n ks ix ds :=
  ⟨fun s us ws X h1 h2 => F.to (fun T kV doc pm an cdv ct => h T kV doc pm an cdv ct us ws h1 h2) s X⟩
end
section
variable {P : Program} {w : World} {K : PySem.W.Frag} {mg : Str → Option Value} {base : Heap}
theorem fn_okT {x qual : Str} {st : Stmt} {f : Addr} {fd : FuncData} {its : List Value} {N ps : List Str} {k : Nat} {F : AF} {body : AS} (Fu : FunT K x qual st f fd its) (S : FnScope N ps (defScope st)) (len : ∀ ds M k x, F ds M k x → ds.length = ps.length)
    (hb : ∀ (cdv : Value) (A : Around) (outer : List Env) (s : Shared) (H : Hp) (E : XK), Room k (A.deeper (PyProof.Rows.envOfC qual (defScope st) s.heap.objs.size f cdv)) → PSs (cxOf CX0 P w K mg base N qual (defScope st) f cdv A outer s H E).nox (defBody st) (liftS K body))
    (ok : ∀ ds M k x, F ds M k x → body { nx := fun _ M' => fin k .non M', rt := fin k } (startG N.length ds) M) : FnOk P w K mg base CX0 (k + 1) f fd ps (liftF K F) := by
  obtain ⟨T, oT, n, oc, od, kV, doc, pm, an, cdv, ct, osl, rfl, lk, hcd, lT, dT⟩ := Fu.ex
  refine fn_of lk hcd S (fun vs H Q E ⟨ds, M, I, Fr, k, x, r, c, h, _, _⟩ => by rw [← r.length]; exact len _ _ _ _ h) fun A outer s H vs Q E hr ⟨ds, M, I, Fr, k, x, r, c, h, hk, hx⟩ => ⟨_, (hb cdv A outer s H E hr).nox, ?_⟩
  refine ⟨startG N.length ds, M, I, Fr, _, ?_, c, ok ds M k x h, ⟨?_, ?_, ?_, ?_⟩⟩
  · unfold startG L2.start
    rw [r.length]
    exact RelS.start r
  · rintro Γ M' σ H' I' ⟨M2, ab, q⟩ l c' s'
    exact hk _ _ _ _ _ q l (ab _ _ _ _ c') (by rw [Rel])
  · rintro d M' v H' I' ⟨M2, ab, q⟩ l c' r'
    exact hk _ _ _ _ _ q l (ab _ _ _ _ c') r'
  · intro Γ M' σ H' I' q; exact q.elim
  · intro Γ M' σ H' I' q; exact q.elim
end
/-- the empty tuple as a default -/
theorem Dfl.tup0 {K : PySem.W.Frag} {e : Addr} {od : Option Addr} {n : Nat} {sl : Array (Option Value)} (h : K.lookup e = some ⟨.type "tuple", od, .seq #[] n, sl⟩) : Dfl K [.tup []] [.ref e] [.ref e] :=
  ⟨.cons rfl .nil, fun I => .cons (by
    rw [Rel]
    exact ⟨e, [], rfl, .inr ⟨_, #[], n, h, rfl, rfl, Nat.zero_le _, .nil⟩, .nil⟩) .nil⟩
theorem Dfl.non {K : PySem.W.Frag} : Dfl K [.non] [.non] [.none] := ⟨.cons rfl .nil, fun I => .cons (by rw [Rel]) .nil⟩
end M
/-! MRev: xs[::-1]. -/
namespace M
open PySem L2
theorem rels_rev {K : PySem.W.Frag} {I : Hp} : ∀ {ds : List D} {vs : List V}, Rels K I ds vs → Rels K I ds.reverse vs.reverse
  | [], vs, h => by rw [h.nil_inv]; exact .nil
  | d :: ds, vs, h => by
    obtain ⟨w, ws, rfl, h1, h2⟩ := h.cons_inv
    rw [List.reverse_cons, List.reverse_cons]
    exact (rels_rev h2).append (.cons h1 .nil)
def sRev (m : Bool) (d : D) (M : MH) (k : AK) : Prop := ∃ ds, rdS M d = some ds ∧ nl m ds.reverse M k
def aRev (m : Bool) (f : AE) : AE := fun Γ M k => f Γ M fun d M1 => sRev m d M1 k
theorem iRevL {m : Bool} {ds : List D} {M : MH} {k : AK} (h : nl m ds.reverse M k) : sRev m (.lst ds) M k := ⟨_, rfl, h⟩
section
variable {X : Cx} {e : Expr} {f : AE} {j : Nat} {p1 p2 p3 pos : Pos}
theorem e_rev (m : Bool) (he : PE X e (lift X.K f)) : PE X (.Subscript e (.Slice none none (some (.UnaryOp .USub (.Constant (.int 1) j p1) p2)) p3) pos) (lift X.K (aRev m f)) := by
  refine (pe_revL he).imp fun σ H Q ⟨Γ, M, I, F, k, hs, hc, hf, hk⟩ => ?_
  refine ⟨Γ, M, I, F, _, hs, hc, hf, fun d M1 v H1 I1 h1 l1 c1 r1 => ?_⟩
  obtain ⟨ds, e0, h2⟩ := h1
  obtain ⟨a, vs, rfl, g, s⟩ := rdS_ok e0 c1 r1
  exact ⟨a, vs, rfl, g, fun p hp => nl_ok h2 c1 (rels_rev s) (hk.le l1) hp⟩
end
end M
/-! MIdx: l.count(b) and l.index(b) of truth values. -/
namespace M
open PySem PySem.Spec PyProof.Rows L2
variable {X : Cx} {K : PySem.W.Frag}
def rCntF (K : PySem.W.Frag) : V → List V → Hp → VK → Prop := fun x xs H Q => ∃ (p : Addr) (ys : List V) (y : V), x = .ref p ∧ xs = [y] ∧ SqL K H p ys ∧ flatV y = true ∧ ys.all flatV = true ∧ Q (.int ((ys.countP fun z => eqV z y : Nat) : Int)) H
theorem count_eqU {x : V} : ∀ {xs : List V} {us : List Value}, Vals xs us → xs.all flatV = true → us.countP (eqU x) = xs.countP fun y => eqV y x
  | _, _, .nil, _ => rfl
  | y :: xs, u :: us, .cons r t, f => by
    rw [List.all_cons, Bool.and_eq_true] at f
    rw [List.countP_cons, List.countP_cons, count_eqU t f.2, eqU_of r f.1]
theorem mt_countF : MtR X "list.count" (rCntF X.K) := by
  intro pins s σ H x xs v us Q I rx rxs h
  obtain ⟨p, ys, y, rfl, rfl, hs, fy, fys, q⟩ := h
  cases rx
  cases rxs with
  | cons ry rt =>
    rename_i uy ut
    cases rt
    obtain ⟨its, rv, ⟨⟨cls, dd, data, sl⟩, n, ho, hc, hdn, hd⟩, hlen⟩ := I.list hs
    simp only at hc hd
    subst hc hd
    refine call_meets PySem.F.slot_list_count ⟨_, ho, rfl⟩ PySem.F.entry_list_count (PySem.F.args_list_count_2 _ _)
      (SeqAt.list_countAt p its.toArray n dd sl uy (eqU y)) ⟨ho, fun u' hu' => mem_eqAt ry fy rv fys u' (by simpa using hu'), ?_⟩
    refine ⟨.int ((ys.countP fun z => eqV z y : Nat) : Int), H, I.tok _, ⟨s.toks, ?_⟩, q⟩
    rw [← count_eqU rv fys]
theorem flat_bl (bs : List Bool) : (bs.map V.bl).all flatV = true := by
  rw [List.all_map]; exact List.all_eq_true.mpr fun b _ => rfl
def mCount : AM := fun d es M k => match es with
  | [.bl b] => ∃ bs : List Bool, rdL M d = some (bs.map D.bl) ∧ k (.int (bs.count b : Nat)) M
  | _ => False
theorem mCount_ok : OkM K (rCntF K) mCount := by
  intro d es M k v vs H I F Q h c r rs hk
  unfold mCount at h
  split at h
  · rename_i b
    obtain ⟨w, rfl, rw'⟩ := rels1 rs
    rw [Rel] at rw'; subst rw'
    obtain ⟨bs, e0, q⟩ := h
    obtain ⟨a, ws, rfl, hH, hr⟩ := rdL_ok e0 c r
    rw [Rels.bls hr] at hH
    refine ⟨a, _, .bl b, rfl, rfl, SqL.of hH, rfl, flat_bl bs, hk _ _ _ _ _ q (Le.refl I) c ?_⟩
    rw [Rel, List.countP_map]; rfl
  · exact h.elim
def mIndex : AM := fun d es M k => match es with
  | [.bl b] => ∃ (bs : List Bool) (j : Nat), rdL M d = some (bs.map D.bl) ∧ bs[j]? = some b ∧ (∀ m, m < j → bs[m]? ≠ some b) ∧ k (.int j) M
  | _ => False
theorem mIndex_ok : OkM K (rIndex K) mIndex := by
  intro d es M k v vs H I F Q h c r rs hk
  unfold mIndex at h
  split at h
  · rename_i b
    obtain ⟨w, rfl, rw'⟩ := rels1 rs
    rw [Rel] at rw'; subst rw'
    obtain ⟨bs, j, e0, hj, hno, q⟩ := h
    obtain ⟨a, ws, rfl, hH, hr⟩ := rdL_ok e0 c r
    rw [Rels.bls hr] at hH
    refine ⟨a, _, .bl b, j, .bl b, rfl, rfl, SqL.of hH, rfl, flat_bl bs, by rw [List.getElem?_map, hj]; rfl, by show (b == b) = true; exact beq_self_eq_true b, fun m z hm hz => ?_, hk _ _ _ _ _ q (Le.refl I) c (by rw [Rel])⟩
    rw [List.getElem?_map] at hz
    cases e : bs[m]? with
    | none => rw [e] at hz; cases hz
    | some b' =>
      rw [e] at hz
      cases hz
      show (b' == b) = false
      exact beq_eq_false_iff_ne.mpr fun z => hno m hm (by rw [e, z])
  · exact h.elim
section
variable {o e : Expr} {es : List Expr} {f : AE} {g : AA} {apos cpos : Pos}
theorem e_count (ho : PE X o (lift X.K f)) (ha : PA X (e :: es) (liftA X.K g)) (hbase : attributeBase o "count" X.env (eval o X.env) = eval o X.env := by rfl)
    (hfew : ((backTo cpos (starEach (e :: es) X.env)).all (fun x => !x.1) && (backToKw cpos (keywordEach [] X.env)).all (fun x => x.1.isSome)
      && decide ((e :: es).length + ([] : List Keyword).length + (if ([] : List Keyword).isEmpty then 0 else 1) < 30)) = true := by rfl)
    (hline : (apos.endLine == cpos.line) = true := by rfl) (hs : starEach (e :: es) X.env = (false, eval e X.env) :: starEach es X.env := by rfl) (hplain : (backTo cpos (starEach es X.env)).any (·.1) = false := by rfl) :
    PE X (.Call (.Attribute o "count" apos) (e :: es) [] cpos) (lift X.K (aMt mCount f g)) := (pe_bm PySem.F.plainAttrs_list PySem.F.slot_list_count PySem.F.type_list_count mt_countF ho ha hbase hfew hline hs hplain).imp (lift_Mt mCount_ok)
theorem e_index (ho : PE X o (lift X.K f)) (ha : PA X (e :: es) (liftA X.K g)) (hbase : attributeBase o "index" X.env (eval o X.env) = eval o X.env := by rfl)
    (hfew : ((backTo cpos (starEach (e :: es) X.env)).all (fun x => !x.1) && (backToKw cpos (keywordEach [] X.env)).all (fun x => x.1.isSome)
      && decide ((e :: es).length + ([] : List Keyword).length + (if ([] : List Keyword).isEmpty then 0 else 1) < 30)) = true := by rfl)
    (hline : (apos.endLine == cpos.line) = true := by rfl) (hs : starEach (e :: es) X.env = (false, eval e X.env) :: starEach es X.env := by rfl) (hplain : (backTo cpos (starEach es X.env)).any (·.1) = false := by rfl) :
    PE X (.Call (.Attribute o "index" apos) (e :: es) [] cpos) (lift X.K (aMt mIndex f g)) := (pe_bm PySem.F.plainAttrs_list PySem.F.slot_list_index PySem.F.type_list_index mt_index ho ha hbase hfew hline hs hplain).imp (lift_Mt mIndex_ok)
end
theorem iCount {d : D} {b : Bool} {M : MH} {k : AK} {bs : List Bool} (h : k (.int (bs.count b : Nat)) M) (e : rdL M d = some (bs.map D.bl)) : mCount d [.bl b] M k := ⟨bs, e, h⟩
theorem iIndex {d : D} {b : Bool} {M : MH} {k : AK} {bs : List Bool} (j : Nat) (h : k (.int j) M) (e : rdL M d = some (bs.map D.bl)) (hj : bs[j]? = some b) (hno : ∀ m, m < j → bs[m]? ≠ some b) : mIndex d [.bl b] M k := ⟨bs, j, e, hj, hno, h⟩
end M
/-! MExcH: own exceptions over the heap: made, caught and held, asked. -/
namespace M
open PySem L2 PySem.Spec PyProof.Rows
/-! ### Base.__init__(self, ..), Base an own class without own __init__ -/
structure FlapT (K : PySem.W.Frag) (CF : Addr) : Prop where
  ve : PySem.W.findCls K (.ref CF) (.type "type") "__init__" = some (.val (.builtin "ValueError.__init__"))
  rd : PySem.W.readsIn K CF (.type "type") = true
  ga : PySem.W.specialIn K (.ref CF) "__getattribute__" = some (some (.builtin "type.__getattribute__"))
section
variable {X : Cx} {o e : Expr} {es : List Expr} {to te : TE} {ta : TA} {f : Str} {p p' p1 p2 pos : Pos} {CF : Addr} {x : Str}
theorem pe_feinit {pl : Sem Bool} (T : FlapT X.K CF) (hm : X.mg x = some (.ref CF)) (ha : PA X (e :: es) ta) (hg : Gl X x := by rfl) (hd : (x == ("__debug__" : Str)) = false := by decide)
    (hc : eval (.Call (.Attribute (.Name x p1) "__init__" p2) (e :: es) [] pos) X.env = (do
      let ov ← eval (.Name x p1) X.env
      standAt p2.atName
      let (f, first) ← holding [ov] (getMethod ov "__init__" pl)
      callWith pos f first (backTo pos (starEach (e :: es) X.env)) (backToKw pos (keywordEach [] X.env))) := by rfl)
    (he : starEach (e :: es) X.env = (false, eval e X.env) :: starEach es X.env := by rfl) (hpl : (backTo pos (starEach es X.env)).any (·.1) = false := by rfl) :
    PE X (.Call (.Attribute (.Name x p1) "__init__" p2) (e :: es) [] pos) (tVeI X.K ta) := by
  refine ⟨fun pins s σ H Q I h => ?_⟩
  refine PySem.W.methodCall_KW (ld_glob I hg hm ?_ hd) hc
  refine PySem.W.method_cls I.kIn T.ga (PySem.W.cls_value I.kIn T.rd T.ve (by decide +kernel) ?_)
  show wpAny _ _ (callWith pos (Value.builtin "ValueError.__init__") [] (backTo pos (starEach (e :: es) X.env)) []) _ _ _
  refine PyProof.Rows.callWith_method1 (thn (ha.run pos pins _ σ H _ (I.tok _) h) fun us s1 ⟨vs, H1, I1, r1, a, C, ws, ev, hl, T, ea, q⟩ => ?_) he hpl
  subst ev
  cases r1 with
  | @cons _ u0 _ ur ra rw' =>
    obtain rfl : u0 = Value.ref a := ra
    have hlen : ur.length ≤ sizeLine := by
      rw [← Paired.length rw', sizeLine_eq]
      omega
    exact oinit_ok T I1 ea hlen fun s' J => ⟨.non, H1, J, rfl, q⟩
end
/-! ### the exceptions' classes -/
abbrev excMro (CF : Addr) : List Value := [.ref CF, .type "ValueError", .type "Exception", .type "BaseException", .type "object"]
structure ErrT (K : PySem.W.Frag) (CF C : Addr) : Prop where
  lk : ∃ nm q N bs sn sub ab col dd k0 k1 k2 k3 k5, K.lookup C = some (excClassObj nm q C N bs (excMro CF) true sn sub ab col dd k0 k1 k2 k3 k5 "ValueError.__new__")
  sa : PySem.W.findIn K (.ref C) "__setattr__" = some (some (.builtin "object.__setattr__"))
  kC : PySem.W.keepIn K (.ref C) = true
  nW : PySem.W.findIn K (.ref C) "what" = some none
  ga : PySem.W.findIn K (.ref C) "__getattribute__" = some (some (.builtin "BaseException.__getattribute__"))
  gg : PySem.W.findIn K (.ref C) "__getattr__" = some none
  ha : PySem.W.findIn K (.ref C) "__class__" = some (some (.builtin "object.__class__"))
section
variable {K : PySem.W.Frag} {CF C : Addr}
theorem excMro_ok : PySem.HandSPX.refsVE (excMro CF) = true := by
  show (PySem.HandSPX.veTail == PySem.HandSPX.veTail) = true
  decide +kernel
theorem ErrT.cls (T : ErrT K CF C) : ∃ cd : ClassData, PySem.W.clsIn K C = some cd ∧ cd.mro = .ref C :: excMro CF ∧ cd.hasDict = true := by
  obtain ⟨nm, q, N, bs, sn, sub, ab, col, dd, k0, k1, k2, k3, k5, h⟩ := T.lk
  refine ⟨_, by unfold PySem.W.clsIn; rw [h] <;> rfl, rfl, rfl⟩
theorem ErrT.mro (T : ErrT K CF C) (v : Value) : PySem.W.mroIn K C v = some ((Value.ref C :: excMro CF).contains v) := by
  obtain ⟨cd, h1, h2, h3⟩ := T.cls
  unfold PySem.W.mroIn
  rw [h1, Option.bind_some, h2]
  rfl
theorem ErrT.ty (T : ErrT K CF C) : PySem.W.typeIn K (.ref C) = some (.type "type") := by
  obtain ⟨nm, q, N, bs, sn, sub, ab, col, dd, k0, k1, k2, k3, k5, h⟩ := T.lk
  show (K.lookup C).map (·.cls) = _
  rw [h]; rfl
theorem ErrT.exC (T : ErrT K CF C) : PySem.W.subIn K (.ref C) (.type "BaseException") = some true := by
  show PySem.W.mroIn K C _ = _
  rw [T.mro]
  simp
theorem ErrT.oex (T : ErrT K CF C) : OexC K C := by
  obtain ⟨nm, q, N, bs, sn, sub, ab, col, dd, k0, k1, k2, k3, k5, h⟩ := T.lk
  exact ⟨⟨nm, q, N, bs, _, sn, sub, ab, col, dd, k0, k1, k2, k3, k5, h, excMro_ok⟩, T.sa, T.exC, T.ty, T.kC⟩
theorem ErrT.hd (T : ErrT K CF C) : PySem.W.hasDictIn K C = true := by
  obtain ⟨cd, h1, h2, h3⟩ := T.cls
  unfold PySem.W.hasDictIn
  rw [h1]; exact h3
theorem ErrT.xf (T : ErrT K CF C) : XfC K C := ⟨T.ga, T.gg, T.exC, T.hd⟩
end
/-! ### __init__ -/
def spInit (K : PySem.W.Frag) : Sp := fun vs H Q _ => ∃ (a C : Addr) (v : V), vs = [.ref a, v] ∧ OexC K C ∧ PySem.W.findIn K (.ref C) "what" = some none ∧ H a = some (exo a C none) ∧
  ∀ d, H d = none → d ≠ a → Q .non (upd (upd H d (exd d [(("what" : Str), v)])) a (exo a C (some d)))
section
variable {P : Program} {w : World} {K : PySem.W.Frag} {mg : Str → Option Value} {base : Heap}
theorem init_fn {qual : Str} {st : Stmt} {f : Addr} {fd : FuncData} {m : Str} (Fu : Fun K "__init__" qual st f fd) (S : FnScope ["self", "what"] ["self", "what"] (defScope st))
    (hb : ∀ (cdv : Value) (A : Around) (outer : List Env) (s : Shared) (H : Hp) (E : XK), PSs (cxOf CX0 P w K mg base ["self", "what"] qual (defScope st) f cdv A outer s H E).nox (defBody st)
      (tSeq (tDrop (tVeI K (tCons (tVar 0) (tCons (tC (.str m)) tNil)))) (tOst K "what" (tVar 0) (tVar 1)))) : FnOk P w K mg base CX0 1 f fd ["self", "what"] (spInit K) := by
  refine Fu.ok S (fun vs H Q E ⟨a, C, v, h, _⟩ => by rw [h]; rfl) fun cdv A outer s H vs Q E hr ⟨a, C, v, ev, T, nW, ea, hq⟩ => ⟨_, hb cdv A outer s H E, ?_⟩
  subst ev
  refine ⟨_, rfl, a, C, _, rfl, by simp, T, ea, ?_⟩
  exact ⟨_, rfl, _, rfl, a, C, rfl, T, nW, .inl ⟨ea, fun d hd hne => hq d hd hne⟩⟩
end
/-! ### try: body, except X as n: suite; the exception is held -/
section
variable {X : Cx} {pins : List (Addr × Obj)} {σ : L2.St} {H : Hp} {s : Shared} {a : Addr}
theorem exz_ok {P : Program} {w : World} {H : Hp} {h : Heap} {cls : Value} {d : Option Addr} {oe : Obj} (e : h.get? a = some oe) (z : Zc cls d oe) (hd : ∃ vs, oe.data = .fields vs) : ObjOk P w H h a (ExZ cls d a) :=
  ⟨⟨oe, e, z, hd⟩, ⟨oe, e⟩, fun _ _ ⟨o, q, r⟩ k => ⟨o, k o q, r⟩⟩
theorem exz_at {P : Program} {w : World} {h : Heap} {cls : Value} {d : Option Addr} (hok : HOk P w H h) (e : H a = some (ExZ cls d a)) : ∃ oe : Obj, h.get? a = some oe ∧ Zc cls d oe ∧ ∃ vs, oe.data = .fields vs := by
  have x : ObjOk P w H h a (ExZ cls d a) := hok a _ e
  exact x.1
theorem inv_track {oe : Obj} {o : HO} (I : Inv X pins σ H s) (he : s.heap.get? a = some oe) (hdt : ∃ vs, oe.data = .fields vs) (na : H a = none) (n0 : X.s_0.heap.get? a = none) (nL : a ≠ X.env.locals) (nP : ∀ p ∈ X.pn ++ pins, p.1 ≠ a)
    (new : ObjOk X.prog X.w (upd H a o) s.heap a o) : Inv X pins σ (upd H a o) s := by
  have ne0 : ∀ b u, X.s_0.heap.get? b = some u → b ≠ a := fun b u e z => by rw [z, n0] at e; cases e
  refine ⟨I.ok, I.os, I.bare, ⟨I.base.keep, I.base.slot, fun b u e n hx => ?_, I.base.there, fun b xs e => ?_, fun b u v e => ?_, fun b ps e => ?_⟩, I.loc, I.cell, ?_, fun x c e => ?_, fun p hp => ?_, fun b u e => ?_, I.len⟩
  · rw [upd_ne (ne0 b u e)]; exact I.base.free b u e n hx
  · have q := I.base.tups b xs e
    rw [upd_ne (ne_of_none q na)]; exact q
  · have q := I.base.frzs b u v e
    rw [upd_ne (ne_of_none q na)]; exact q
  · obtain ⟨m, q⟩ := I.base.tbls b ps e
    exact ⟨m, by rw [upd_ne (ne_of_none q na)]; exact q⟩
  · rw [upd_ne nL.symm]; exact I.free
  · have : c ≠ a := fun z => by
      obtain ⟨v, oc, h1, h2⟩ := I.cell x c e
      rw [z, he] at h1
      cases h1
      obtain ⟨vs, hv⟩ := hdt
      rw [hv] at h2; cases h2
    rw [upd_ne this]; exact I.freeC x c e
  · obtain ⟨e, n, ne, nf, d⟩ := I.pin p hp
    exact ⟨e, by rw [upd_ne (nP p hp)]; exact n, ne, nf, d⟩
  · by_cases hb : b = a
    · subst hb
      rw [upd_same] at e
      cases e
      exact new
    · rw [upd_ne hb] at e
      exact (I.hok b u e).stay (fun c v _ q => q) (fun c q => by rw [upd_ne (ne_of_none q na)]; exact q) fun c xs q => by rw [upd_ne (ne_of_none q na)]; exact q
theorem inv_suite0 (I : Inv X pins σ H s) (a : Addr) : Inv (X.suite a (X.pn ++ pins)) [] σ H s :=
  ⟨I.ok.suite _ _, I.os, I.bare, I.base, I.loc, I.cell, I.free, I.freeC, fun p hp => I.pin p (by rw [List.append_nil] at hp; exact hp), I.hok, I.len⟩
theorem inv_unsuite0 {pn' : List (Addr × Obj)} (I : Inv (X.suite a (X.pn ++ pins)) pn' σ H s) (ok : X.Ok) : Inv X pins σ H s :=
  ⟨ok, I.os, I.bare, I.base, I.loc, I.cell, I.free, I.freeC, fun p hp => I.pin p (List.mem_append_left _ hp), I.hok, I.len⟩
/-- what the clause wishes of an exception of the body -/
def wAsE (K : PySem.W.Frag) (c : Value) (i : Nat) (ts : TS) (D : Ends) : WX := fun cls d σ H =>
  PySem.W.exmOne K cls c = some true ∧ ∀ a, H a = none → ts { nx := fun σ' H' => D.nx (σ'.set i none) H', rt := D.rt, bk := fun σ' H' => D.bk (σ'.set i none) H', ct := fun σ' H' => D.ct (σ'.set i none) H' } (σ.set i (some (.ref a))) (upd H a (ExZ cls d a))
end
section
variable {X : Cx} {x n : Str} {c : Value} {i : Nat} {body suite : List Stmt} {b₀ : Stmt} {np pos pos' : Pos} {tb : WX → TS} {ts : TS}
theorem ps_try_asE (hs : X.stack = X.env :: X.outer) (hf : X.env.frame = some X.env.locals) (hex : X.ex = []) (hN : X.N.Nodup) (hi : X.N[i]? = some n) (hln : X.env.kindOf n = some .local) (hc : Names X x c)
    (hb : ∀ (W : WX) (pn : List (Addr × Obj)) (xe : Value → Shared → Prop), Takes (X.tr pn xe) W → PassesOwn (model X.prog X.w) X.A X.env xe → PSs (X.tr pn xe) body (tb W))
    (hsu : ∀ (a : Addr) (pn : List (Addr × Obj)), PSs (X.suite a pn) (b₀ :: suite) ts) :
    PS X (.Try body [.ExceptHandler (some (.Name x np)) (some n) (b₀ :: suite) pos'] [] [] pos) (fun D σ H => tb (wAsE X.K c i ts D) D σ H) := by
  refine ⟨fun pins s σ H D I h => ?_⟩
  have ok := I.ok
  have hfr : X.A.frames = some (X.env :: X.outer) := by rw [ok.frames, hs]
  have hloc : Loc X.env.scope n := .inl hln
  refine wpAny_Try_except ?_
  refine wpAny_mono ((hb (wAsE X.K c i ts D) (X.pn ++ pins) (fun e s₁ => wpAny (model X.prog X.w) X.A (noteFrame e X.env) (fun _ s₂ => wpAny (model X.prog X.w) X.A (setFlight e none) (fun _ s₃ =>
    wpAny (model X.prog X.w) X.A (handleBy e X.env [.ExceptHandler (some (.Name x np)) (some n) (b₀ :: suite) pos']) (SP X pins D) X.xe s₃) X.xe s₂) X.xe s₁) (fun u s' xx => ?_) PassesOwn.looking).run [] s σ H D (I.toTry _) h) (fun f s1 hsp => ?_) (fun e s1 he => he)
  · -- the catch
    obtain ⟨a, B, sI, pins', σ', H', cls, d, rfl, J', nb, up, sky, na, os, ag, hb1, hyes⟩ := xx
    have J : Inv X pins σ' H' sI := J'.ofTry ok
    have sky' : Sky B (X.env :: X.outer) a (Zc cls d) X.env.locals s'.heap := by rw [← hs]; exact sky
    show wpAny (model X.prog X.w) X.A (noteFrame (.ref a) X.env) _ _ _
    refine Sky.land Zc.steady hfr hf sky' fun h3 fl3 up3 => ?_
    have J3 : Inv X pins σ' H' { s' with heap := h3 } := J.landed nb fl3.1 (up.trans up3) os ag
    obtain ⟨oe3, vs3, he3, hz3, hd3⟩ := fl3.there
    have notFr : ∀ {h : Heap} {o : Obj} {vs : Array Value}, h.FunFrames B (X.env :: X.outer) → h.get? a = some o → o.data = .fields vs → a ∉ frs (X.env :: X.outer) := fun {h o vs} ff e dd hm => by
      obtain ⟨_, o', e', hnf⟩ := ff.mem hm
      rw [e] at e'; cases e'
      exact hnf _ dd
    have nfr := notFr fl3.2.2.1 he3 hd3
    have nL : a ≠ X.env.locals := fun z => nfr (List.mem_filterMap.mpr ⟨X.env, List.mem_cons_self, by rw [hf, z]⟩)
    have nI : sI.heap.get? a = none := by
      cases q : sI.heap.get? a with
      | none => rfl
      | some o =>
        have z := nb a o q (by rw [hs]; exact nfr)
        have z2 : B.get? a = none := fl3.2.1
        rw [z2] at z; cases z
    have n0 : X.s_0.heap.get? a = none := by
      cases q : X.s_0.heap.get? a with
      | none => rfl
      | some o =>
        obtain ⟨o', e'⟩ := J.base.there a o q (by rw [hex]; simp)
        rw [nI] at e'; cases e'
    have nP : ∀ p ∈ X.pn ++ pins, p.1 ≠ a := fun p hp z => by
      obtain ⟨e, _⟩ := J.pin p hp
      rw [z, nI] at e; cases e
    have S3 := inv_suite0 J3 a
    refine wpAny_handleBy_cons (codeAny_handlers_test ?_) (by intro q; cases q)
    have LT : PySem.W.Looks (model X.prog X.w) h3 (typeOf (.ref a)) cls := fun A Q E s k q => wpAny_typeOf_ref (k _ _ he3) (by rw [hz3.1]; exact q)
    have LM := PySem.W.exm_one (M := model X.prog X.w) (J3.kIn) LT hb1
    have test : ∀ {Q : Value → Shared → Prop} {E : Value → Shared → Prop}, Q c { s' with heap := h3 } → wpAny (model X.prog X.w) (X.A.mark (some (.ref a))) (eval (.Name x np) X.env) Q E { s' with heap := h3 } := fun {Q E} q => by
      obtain ⟨hg, hdbg, hm | ⟨hm, hv, hnn⟩⟩ := hc
      · exact ld_glob (X := X.suite a (X.pn ++ pins)) S3 hg hm q hdbg
      · exact ld_blt (X := X.suite a (X.pn ++ pins)) S3 hg hm hv q hnn hdbg
    refine test (LM.here ?_)
    refine codeAny_handlers_suite_as ?_
    refine HandSPX.lands_againZ fl3 fun h4 fl4 up4 => ?_
    have J4 : Inv X pins σ' H' { s' with heap := h4 } := J.landed nb fl4.1 ((up.trans up3).trans up4) os ag
    obtain ⟨oe4, vs4, he4, hz4, hd4⟩ := fl4.there
    have J5 : Inv X pins σ' (upd H' a (ExZ cls d a)) { s' with heap := h4 } := inv_track J4 he4 ⟨_, hd4⟩ na n0 nL nP (exz_ok he4 hz4 ⟨_, hd4⟩)
    have S4 := inv_suite0 J5 a
    refine store_ok (X := X.suite a (X.pn ++ pins)) (v := .ref a) S4 hN hi hloc rfl (fun s5 S5 => ?_) (.inr hln)
    refine wpAny_mono ((hsu a (X.pn ++ pins)).run [] s5 _ _ _ S5 (hyes a na)) (fun f s6 hsp => ?_) (fun _ _ z => False.elim z)
    have end_ : ∀ {σ6 : L2.St} {H6 : Hp} {Q : Shared → Prop}, Inv (X.suite a (X.pn ++ pins)) [] σ6 H6 s6 → (∀ s7, Inv X pins (σ6.set i none) H6 s7 → Q s7) →
        wpAny (model X.prog X.w) X.A (do bindName X.env n .none; unbindBehindTheSuite X.env n pos') (fun _ s7 => Q s7) X.xe s6 := fun {σ6 H6 Q} S6 hq => gone_ok (inv_unsuite0 S6 ok) hN hi hln hq
    cases f with
    | next =>
      obtain ⟨σ6, H6, S6, q6⟩ := hsp
      exact end_ S6 fun s7 J7 => ⟨_, _, J7, q6⟩
    | brk =>
      obtain ⟨σ6, H6, S6, q6⟩ := hsp
      exact end_ S6 fun s7 J7 => ⟨_, _, J7, q6⟩
    | cont =>
      obtain ⟨σ6, H6, S6, q6⟩ := hsp
      exact end_ S6 fun s7 J7 => ⟨_, _, J7, q6⟩
    | ret u =>
      obtain ⟨v6, σ6, H6, S6, r6, q6⟩ := hsp
      exact end_ S6 fun s7 J7 => ⟨_, _, _, J7, r6, q6⟩
  · cases f with
    | next =>
      obtain ⟨σ', H', J', q⟩ := hsp
      exact wpAny_execs_nil ⟨σ', H', J'.ofTry ok, q⟩
    | brk =>
      obtain ⟨σ', H', J', q⟩ := hsp
      exact ⟨σ', H', J'.ofTry ok, q⟩
    | cont =>
      obtain ⟨σ', H', J', q⟩ := hsp
      exact ⟨σ', H', J'.ofTry ok, q⟩
    | ret u =>
      obtain ⟨v, σ', H', J', r, q⟩ := hsp
      exact ⟨v, σ', H', J'.ofTry ok, r, q⟩
end
/-! ### a held exception asked -/
/-- e.what -/
def tXz (K : PySem.W.Frag) (n : Str) (te : TE) : TE := fun σ H Q => te σ H fun x H1 => ∃ (a C d CF : Addr) (fs : List (Str × V)) (v : V), x = .ref a ∧ H1 a = some (ExZ (.ref C) (some d) a) ∧ ErrT K CF C ∧ PySem.W.findIn K (.ref C) n = some none ∧ H1 d = some (.xd fs) ∧ fs.lookup n = some v ∧ Q v H1
theorem inst_z {X : Cx} {pins : List (Addr × Obj)} {σ : L2.St} {H : Hp} {s : Shared} {a C d : Addr} {fs : List (Str × V)} (I : Inv X pins σ H s) (ea : H a = some (ExZ (.ref C) (some d) a)) (ed : H d = some (.xd fs)) :
    ∃ (ox od : Obj) (mA : Str → Option Value), PySem.W.InstAt s.heap a ox C (some od) ∧ (∀ name, PySem.W.lookIn name od = some (mA name)) ∧ ∀ f, RelO (fs.lookup f) (mA f) := by
  obtain ⟨oe, he, hz, vs, hd⟩ := exz_at I.hok ea
  have hx : ObjOk X.prog X.w H s.heap d (.xd fs) := I.hok d _ ed
  obtain ⟨mA, hns, hr⟩ := hx
  obtain ⟨od, ho, hl⟩ := lookIn_ns hns
  exact ⟨oe, od, mA, ⟨he, hz.1, by unfold PySem.W.notCls; rw [hd] <;> rfl, by rw [hz.2]; exact ho⟩, hl, hr⟩
theorem pe_xz {X : Cx} {e : Expr} {te : TE} {pos : Pos} {n : Str} (he : PE X e te) (hb : attributeBase e n X.env (eval e X.env) = eval e X.env := by rfl) : PE X (.Attribute e n pos) (tXz X.K n te) := by
  refine ⟨fun pins s σ H Q I h => ?_⟩
  refine attr_of hb (thn (he.run pins s σ H _ I h) fun u s1 hh => ?_)
  obtain ⟨x, H1, I1, rx, a, C, d, CF, fs, v, ex, ea, T, hno, ed, l, q⟩ := hh
  subst ex
  obtain rfl : u = Value.ref a := rx
  obtain ⟨ox, od, mA, J, hl, hr⟩ := inst_z I1 ea ed
  obtain ⟨u, hu, ru⟩ := RelO.some_of (v := v) (o := mA n) (by rw [← l]; exact hr n)
  exact HandSPX.exc_get I1.kIn J T.ga T.gg T.exC (PySem.W.findObj_own T.hd hno rfl (by rw [hl, hu])) (handed_of ru) ⟨v, H1, I1.tok _, ru, q⟩
/-- isinstance(e, c) -/
structure ClsE (K : PySem.W.Frag) : Prop where
  hn : PySem.W.specialIn K (.builtin "object.__class__") "__get__" = some (some (.builtin "getset_descriptor.__get__"))
  ht : PySem.W.takesIn K (.builtin "object.__class__") = some true
theorem ErrT.kitx {K : PySem.W.Frag} {CF C x : Addr} {ox : Obj} {od : Option Obj} (T : ErrT K CF C) (c : ClsE K) : PySem.W.KitX K (.ref x) (.ref C) (fun h => PySem.W.InstAt h x ox C od) := by
  obtain ⟨cd, h1, h2, h3⟩ := T.cls
  exact PySem.W.kitx_exc (by rw [h1]; rfl) T.ga T.gg T.exC T.ha c.hn c.ht (by rw [T.mro]; simp)
def rIsZ (K : PySem.W.Frag) : List V → Hp → VK → Prop := fun xs H Q => ∃ (a D d CF : Addr) (fs : List (Str × V)) (c : V) (cv : Value) (b : Bool), xs = [.ref a, c] ∧ H a = some (ExZ (.ref D) (some d) a) ∧ H d = some (.xd fs) ∧ ErrT K CF D ∧ (∀ u, RelV c u → u = cv) ∧ PySem.W.kitOne K (.ref D) cv = some b ∧ Q (.bl b) H
theorem call_isZ {X : Cx} (c : ClsE X.K) : CallR X (.builtin "isinstance") (rIsZ X.K) := by
  intro pins s σ H xs us Q I r h
  obtain ⟨a, D, d, CF, fs, c', cv, b, rfl, ea, ed, T, hcv, e, q⟩ := h
  cases r with
  | cons rx rr =>
    cases rr with
    | cons rt rr =>
      cases rr
      cases rx
      have ec := hcv _ rt
      subst ec
      obtain ⟨ox, od, mA, J, _, _⟩ := inst_z I ea ed
      exact PySem.W.kia_one (T.kitx c) I.kIn J e (fun z => nomatch z) fun tk => ⟨.bl b, H, I.kept (t' := tk) fun _ _ z => z, rfl, q⟩
/-- isinstance(e, (c, ..)) -/
def rIsZT (K : PySem.W.Frag) : List V → Hp → VK → Prop := fun xs H Q => ∃ (a D d CF t : Addr) (fs : List (Str × V)) (cs : List V) (cvs : List Value) (b : Bool), xs = [.ref a, .ref t] ∧ H a = some (ExZ (.ref D) (some d) a) ∧ H d = some (.xd fs) ∧ ErrT K CF D ∧ (H t = some (.tup cs) ∨ ∃ (o : Obj) (its : Array Value) (n : Nat), K.lookup t = some o ∧ o.cls = .type "tuple" ∧ o.data = .seq its n ∧ Vals cs its.toList) ∧ (∀ us, Vals cs us → us = cvs) ∧ PySem.W.kitAny K (.ref D) cvs = some b ∧ Q (.bl b) H
theorem call_isZT {X : Cx} (c : ClsE X.K) : CallR X (.builtin "isinstance") (rIsZT X.K) := by
  intro pins s σ H xs us Q I r h
  obtain ⟨a, D, d, CF, t, fs, cs, cvs, b, rfl, ea, ed, T, et, hcv, e, q⟩ := h
  cases r with
  | cons rx rr =>
    cases rr with
    | cons rt rr =>
      cases rr
      cases rx
      cases rt
      obtain ⟨ox, od, mA, J, _, _⟩ := inst_z I ea ed
      have fin : ∀ {o : Obj} {us : List Value} {n : Nat}, Vals cs us → s.heap.get? t = some o → o.cls = .type "tuple" → o.data = .seq us.toArray n → wpAny (model X.prog X.w) X.A (call (.builtin "isinstance") [.ref a, .ref t]) (EP X pins σ Q) X.xe s := fun {o us n} ru ho hc hd => by
        have eu := hcv _ ru
        subst eu
        obtain ⟨oc, od', oda, osl⟩ := o
        dsimp only at hc hd
        subst hc hd
        exact PySem.W.kia_tup (T.kitx c) I.kIn J ho e (fun z => nomatch z) fun tk => ⟨.bl b, H, I.kept (t' := tk) fun _ _ z => z, rfl, q⟩
      rcases et with et | ⟨o, its, n, e1, e2, e3, e4⟩
      · have hx : ObjOk X.prog X.w H s.heap t (.tup cs) := I.hok t _ et
        obtain ⟨_, us, ru, o, ho, hc, n, hd⟩ := hx
        exact fin ru ho hc hd
      · exact fin e4 (I.kIn _ _ e1) e2 (by rw [e3, Array.toArray_toList])
end M
/-! MExc: own exceptions over data: raise, calls that may raise, try, what a caught one tells. -/
namespace M
open PySem L2
inductive EN where
  | flap | floors | water | fp | step | table | rows | drop | tank | rain | order | text
deriving DecidableEq
abbrev EA := EN → Addr
/-- one of these classes -/
def isErr (EC : EA) (L : List EN) (C : Addr) : Prop := ∃ n, n ∈ L ∧ C = EC n
def EN.idx : EN → Nat
  | .flap => 0 | .floors => 1 | .water => 2 | .fp => 3 | .step => 4 | .table => 5 | .rows => 6 | .drop => 7 | .tank => 8 | .rain => 9 | .order => 10 | .text => 11
theorem EN.idx_inj {n m : EN} (h : n.idx = m.idx) : n = m := by cases n <;> cases m <;> first | rfl | (exact absurd h (by decide))
theorem EN.idx_lt (n : EN) : n.idx < 12 := by cases n <;> decide
def ecOf (l : List Addr) : EA := fun n => l.getD n.idx 0
theorem ecOf_inj {l : List Addr} (h : l.Nodup) (hl : l.length = 12) {n m : EN} (e : ecOf l n = ecOf l m) : n = m := by
  unfold ecOf at e
  have h1 := n.idx_lt
  have h2 := m.idx_lt
  rw [List.getD_eq_getElem?_getD, List.getD_eq_getElem?_getD, List.getElem?_eq_getElem (by omega), List.getElem?_eq_getElem (by omega)] at e
  exact EN.idx_inj ((List.getElem_inj h).mp e)
/-! ### the wish -/
def kW (K : PySem.W.Frag) (I F : Hp) (x : Addr × D → G → MH → Prop) (W : WX) : Prop := ∀ C w Γ M v σ H I' d, x (C, w) Γ M → RelS K I' Γ σ → Le I I' → Conc K H I' M F → I' d = some (.xd [(("what" : Str), v)]) → Rel K I' w v → W (.ref C) (some d) σ H
theorem kW.le {K : PySem.W.Frag} {I J F : Hp} {x : Addr × D → G → MH → Prop} {W : WX} (h : kW K I F x W) (e : Le I J) : kW K J F x W := fun C w Γ M v σ H I' d a b l => h C w Γ M v σ H I' d a b (e.trans l)
def liftX (K : PySem.W.Frag) (W : WX) (f : AS) : TS := fun E σ H => ∃ Γ M I F D, RelS K I Γ σ ∧ Conc K H I M F ∧ f D Γ M ∧ kS K I F D E ∧ kW K I F D.ex W
abbrev AX := G → MH → AK → EK → Prop
def kXe (K : PySem.W.Frag) (I F : Hp) (x : EK) (E : Value → Option Addr → Hp → Prop) : Prop := ∀ C w M v H I' d, x (C, w) M → Le I I' → Conc K H I' M F → I' d = some (.xd [(("what" : Str), v)]) → Rel K I' w v → E (.ref C) (some d) H
theorem kXe.le {K : PySem.W.Frag} {I J F : Hp} {x : EK} {E : Value → Option Addr → Hp → Prop} (h : kXe K I F x E) (e : Le I J) : kXe K J F x E := fun C w M v H I' d a l => h C w M v H I' d a (e.trans l)
def liftE (K : PySem.W.Frag) (W : WX) (f : AX) : TE := fun σ H Q => ∃ Γ M I F k x, RelS K I Γ σ ∧ Conc K H I M F ∧ f Γ M k x ∧ kE K I F k Q ∧ kXe K I F x (fun cls d H => W cls d σ H)
def liftFX (K : PySem.W.Frag) (f : AF) : Sp := fun vs H Q E => ∃ ds M I F k x, Rels K I ds vs ∧ Conc K H I M F ∧ f ds M k x ∧ kE K I F k Q ∧ kXe K I F x E
def finX (x : EK) : EK := fun p M => ∃ M', Abs M M' ∧ x p M'
theorem finX.of {x : EK} {p : Addr × D} {M : MH} (h : x p M) : finX x p M := ⟨M, Abs.refl M, h⟩
def aDropX (f : AX) : AS := fun D Γ M => f Γ M (fun _ M1 => D.nx Γ M1) fun p M1 => D.ex p Γ M1
def aSetX (i : Nat) (f : AX) : AS := fun D Γ M => f Γ M (fun d M1 => D.nx (Γ.set i (some d)) M1) fun p M1 => D.ex p Γ M1
def aRetX (f : AX) : AS := fun D Γ M => f Γ M D.rt fun p M1 => D.ex p Γ M1
def aRaise (C : Addr) (f : AE) : AS := fun D Γ M => f Γ M fun d M1 => D.ex (C, d) Γ M1
def aNoEx (s : AS) : AS := fun D Γ M => s { D with ex := fun _ _ _ => False } Γ M
def aCallX (F : AF) (dds : List D) (g : AA) : AX := fun Γ M k x => g Γ M fun ds M1 => F (ds ++ dds) M1 k x
def aCallKX (F : AF) (n m : Nat) (ix : List Nat) (dds : List D) (g gk : AA) : AX := fun Γ M k x => g Γ M fun ds M1 => gk Γ M1 fun es M2 => ds.length = n ∧ es.length = m ∧ F (pick ix (ds ++ es ++ dds)) M2 k x
section
variable {X : Cx} {W : WX} {st : Stmt} {rest : List Stmt} {s t : AS} {e : Expr} {es : List Expr} {pos p p2 : Pos} {K : PySem.W.Frag}
theorem x_of (h : PS X st (liftS X.K s)) : PS X st (liftX X.K W s) := h.imp fun E σ H ⟨Γ, M, I, F, D, hs, hc, hf, hk, _⟩ => ⟨Γ, M, I, F, D, hs, hc, hf, hk⟩
theorem xs_of {sts : List Stmt} (h : PSs X sts (liftS X.K s)) : PSs X sts (liftX X.K W s) := h.imp fun E σ H ⟨Γ, M, I, F, D, hs, hc, hf, hk, _⟩ => ⟨Γ, M, I, F, D, hs, hc, hf, hk⟩
/-- what follows raises nothing -/
theorem xs_tail {sts : List Stmt} (h : PSs X sts (liftS X.K s)) : PSs X sts (liftX X.K W (aNoEx s)) := h.imp fun E σ H ⟨Γ, M, I, F, D, hs, hc, hf, hk, _⟩ => ⟨Γ, M, I, F, { D with ex := fun _ _ _ => False }, hs, hc, hf, ⟨hk.nx, hk.rt, hk.bk, hk.ct⟩⟩
theorem xs_nil : PSs X [] (liftX X.K W aNext) := xs_of ss_nil
theorem xs_cons (h1 : PS X st (liftX X.K W s)) (h2 : PSs X rest (liftX X.K W t)) : PSs X (st :: rest) (liftX X.K W (aSeq s t)) := (pss_cons h1 h2).imp fun E σ H ⟨Γ, M, I, F, D, hs, hc, hf, hk, hw⟩ =>
  ⟨Γ, M, I, F, { D with nx := fun Γ M => t D Γ M }, hs, hc, hf, ⟨fun Γ1 M1 σ1 H1 I1 h1 l1 c1 s1 => ⟨Γ1, M1, I1, F, D, s1, c1, h1, hk.le l1, hw.le l1⟩, hk.rt, hk.bk, hk.ct⟩, hw⟩
theorem xs_one (h1 : PS X st (liftX X.K W s)) : PSs X [st] (liftX X.K W s) := pss_one h1
theorem x_if {c : Expr} {x y : List Stmt} {tc : AT} (hc : PT X c (liftT X.K tc)) (ha : PSs X x (liftX X.K W s)) (hb : PSs X y (liftX X.K W t)) : PS X (.If c x y pos) (liftX X.K W (aIfS tc s t)) := (ps_if hc ha hb).imp fun E σ H ⟨Γ, M, I, F, D, hs, hc, hf, hk, hw⟩ =>
  ⟨Γ, M, I, F, _, hs, hc, hf, fun b M1 H1 I1 h1 l1 c1 => by
    cases b with
    | true => exact ⟨Γ, M1, I1, F, D, hs.le l1, c1, h1, hk.le l1, hw.le l1⟩
    | false => exact ⟨Γ, M1, I1, F, D, hs.le l1, c1, h1, hk.le l1, hw.le l1⟩⟩
theorem x_for {tg iter : Expr} {body : List Stmt} {w : AI} {g : AG} (hi : PI X tg iter (liftI X.K w)) (hg : PG X tg (liftG X.K g)) (hb : PSs X body (liftX X.K W s)) (hc : X.calm = true) (hp : PassesOwn (model X.prog X.w) X.A X.env X.xe) (hs : ∀ x, foldedSetIterable iter X.env x = pure x := by intro _; rfl) :
    PS X (.For tg iter body [] pos) (liftX X.K W (aFor w g s)) := (ps_for hp hc hi hg hb hs).imp fun E σ H ⟨Γ, M, I, F, D, hs, hc, hf, hk, hw⟩ => by
    refine ⟨Γ, M, I, F, _, hs, hc, hf, ?_⟩
    rintro A M1 J H1 I1 ⟨W', w0, step⟩ l1 c1 ok
    refine ⟨fun i m σ H => ∃ Γ M J, W' i Γ M ∧ i ≤ A.items.length ∧ m = A.items.length - i ∧ Le I1 J ∧ RelS X.K J Γ σ ∧ Conc X.K H J M F, ⟨_, Γ, M1, I1, w0, Nat.zero_le _, rfl, Le.refl _, hs.le l1, c1⟩, ?_⟩
    rintro i m σ2 H2 ⟨Γ2, M2, J2, w2, hi, rfl, l2, s2, c2⟩
    obtain ⟨aok, st⟩ := step i Γ2 M2 hi w2
    obtain ⟨o1, o2⟩ := ok i H2 J2 M2 l2 F (Le.refl F) c2 aok
    cases q : A.items[i]? with
    | none =>
      rw [q] at st
      exact .inl ⟨o1 q, hk.nx _ _ _ _ _ st (l1.trans l2) c2 s2⟩
    | some x =>
      rw [q] at st
      have hlt : i < A.items.length := (List.getElem?_eq_some_iff.mp q).1
      obtain ⟨go, yl⟩ := o2 x q
      refine .inr ⟨go, fun σ' H' => ∃ m', m' < A.items.length - i ∧ ∃ Γ M J, W' (i + 1) Γ M ∧ i + 1 ≤ A.items.length ∧ m' = A.items.length - (i + 1) ∧ Le I1 J ∧ RelS X.K J Γ σ' ∧ Conc X.K H' J M F, fun _ _ q => q, fun v H3 y => ?_⟩
      obtain ⟨I3, l3, c3, r3⟩ := yl v H3 y
      refine ⟨x, Γ2, M2, I3, F, _, r3, s2.le l3, c3, st, fun Γ4 M4 σ4 H4 I4 h4 l4 c4 s4 => ?_⟩
      have la : Le I I4 := ((l1.trans l2).trans l3).trans l4
      refine ⟨Γ4, M4, I4, F, _, s4, c4, h4, ⟨?_, hk.rt.le la, hk.nx.le la, ?_⟩, hw.le la⟩
      · intro Γ5 M5 σ5 H5 I5 h5 l5 c5 s5
        exact ⟨_, by omega, Γ5, M5, I5, h5, hlt, rfl, ((l2.trans l3).trans l4).trans l5, s5, c5⟩
      · intro Γ5 M5 σ5 H5 I5 h5 l5 c5 s5
        exact ⟨_, by omega, Γ5, M5, I5, h5, hlt, rfl, ((l2.trans l3).trans l4).trans l5, s5, c5⟩
theorem x_expr {f : AX} (he : PE X e (liftE X.K W f)) (hs : swapsWith e none pos.line X.env = pure false := by rfl) : PS X (.Expr e pos) (liftX X.K W (aDropX f)) := (ps_expr he hs).imp fun E σ H ⟨Γ, M, I, F, D, hs, hc, hf, hk, hw⟩ =>
  ⟨Γ, M, I, F, _, _, hs, hc, hf, fun d M1 v H1 I1 h1 l1 c1 r1 => hk.nx _ _ _ _ _ h1 l1 c1 (hs.le l1), fun C w M1 v H1 I1 d h1 l1 c1 e1 r1 => hw C w Γ M1 v σ H1 I1 d h1 (hs.le l1) l1 c1 e1 r1⟩
theorem x_ret {f : AX} (he : PE X e (liftE X.K W f)) : PS X (.Return (some e) pos) (liftX X.K W (aRetX f)) := (ps_ret he).imp fun E σ H ⟨Γ, M, I, F, D, hs, hc, hf, hk, hw⟩ =>
  ⟨Γ, M, I, F, _, _, hs, hc, hf, hk.rt, fun C w M1 v H1 I1 d h1 l1 c1 e1 r1 => hw C w Γ M1 v σ H1 I1 d h1 (hs.le l1) l1 c1 e1 r1⟩
theorem x_set {i : Nat} {x : Str} {f : AX} {pos' : Pos} (he : PE X e (liftE X.K W f)) (hN : X.N.Nodup) (hi : X.N[i]? = some x := by rfl) (hx : Loc X.env.scope x := by first | exact Or.inl rfl | exact Or.inr rfl) (hs : swapsWith e (some (.Name x pos')) pos.line X.env = pure false := by rfl) (hf : X.fn x = true ∨ X.env.scope.names.lookup x = some .local := by first | exact .inl rfl | exact .inr rfl | assumption) :
    PS X (.Assign [.Name x pos'] e pos) (liftX X.K W (aSetX i f)) := (ps_set hN hi hx he hs hf).imp fun E σ H ⟨Γ, M, I, F, D, hs, hc, hf, hk, hw⟩ =>
  ⟨Γ, M, I, F, _, _, hs, hc, hf, fun d M1 v H1 I1 h1 l1 c1 r1 => hk.nx _ _ _ _ _ h1 l1 c1 ((hs.le l1).set r1), fun C w M1 v H1 I1 d h1 l1 c1 e1 r1 => hw C w Γ M1 v σ H1 I1 d h1 (hs.le l1) l1 c1 e1 r1⟩
end
/-! ### raise -/
theorem del_upd {H : Hp} {a d : Addr} {o o' u u' : HO} (ha : H a = none) (hd : d ≠ a) : upd (del (upd (upd (upd H a o) d u) a o') a) d u' = upd H d u' := by
  funext b
  by_cases h : b = d
  · rw [h, upd_same, upd_same]
  · rw [upd_ne h, upd_ne h]
    by_cases h2 : b = a
    · rw [h2, del_same, ha]
    · rw [del_ne h2, upd_ne h2, upd_ne h, upd_ne h2]
/-- an exception's class with its __init__ -/
structure ErrI (P : Program) (w : World) (K : PySem.W.Frag) (mg : Str → Option Value) (base : Heap) (CF C fI : Addr) (fd : FuncData) (x : Str) : Prop where
  T : ErrT K CF C
  gC : mg x = some (.ref C)
  iC : PySem.W.findIn K (.ref C) "__init__" = some (some (.ref fI))
  tI : PySem.W.typeIn K (.ref fI) = some (.type "function")
  F : FnOk P w K mg base CX0 1 fI fd ["self", "what"] (spInit K)
  b : Binds K fd ["self", "what"] []
section
variable {X : Cx} {W : WX} {e : Expr} {es : List Expr} {pos p p2 : Pos} {CF C fI : Addr} {fd : FuncData} {x : Str} {f : AE} {k : Nat}
theorem x_raise (T : ErrI X.prog X.w X.K X.mg X.base CF C fI fd x) (tk : Takes X W) (hr : Room k X.A) (hk : 2 ≤ k) (he : PE X e (lift X.K f)) (hc : X.calm = true := by rfl) (hg : Gl X x := by rfl)
    (hdb : (x == ("__debug__" : Str)) = false := by decide) (hs : starEach [e] X.env = (false, eval e X.env) :: starEach [] X.env := by rfl) (hpl : (backTo pos (starEach [] X.env)).any (·.1) = false := by rfl) :
    PS X (.Raise (some (.Call (.Name x p) [e] [] pos)) none p2) (liftX X.K W (aRaise C f)) := by
  have ta : PA X [e] (tCons (lift X.K f) tNil) := pa_cons he pa_nil hs
  have mk := pmk_oex (p := p) (pos := pos) (ds := []) (dvs := []) T.T.oex T.iC T.tI T.F (hr.mono hk) T.b .nil pass0 hg T.gC ta hdb hs hpl
  refine (ps_raise hc tk mk).imp fun E σ H ⟨Γ, M, I, F, D, hs, hc, hf, hkS, hw⟩ => ?_
  refine ⟨Γ, M, I, F, _, hs, hc, hf, fun w M1 v H1 I1 h1 l1 c1 r1 => ?_⟩
  refine ⟨by simp, fun a ha => ⟨a, C, v, rfl, T.T.oex, T.T.nW, upd_same, fun d hd hne => ⟨rfl, d, [(("what" : Str), v)], upd_same, ?_, ?_, ?_⟩⟩⟩
  · rw [upd_ne hne, upd_same]
  · rwa [upd_ne hne] at hd
  · rw [upd_ne hne] at hd
    rw [del_upd ha hne]
    refine hw C w Γ M1 v σ _ (upd I1 d (.xd [(("what" : Str), v)])) d h1 (hs.le (l1.trans (Le.new (c1.fresh hd).1))) (l1.trans (Le.new (c1.fresh hd).1)) (c1.newF hd) upd_same (Rel.le (Le.new (c1.fresh hd).1) _ _ r1)
end
/-! ### calls that may raise -/
section
variable {X : Cx} {W : WX} {F : AF} {g gk : AA} {f : Addr} {fd : FuncData} {ps : List Str} {x : Str} {j k : Nat} {dds : List D} {dvs : List V} {ds : List Value} {sp : Sp} {e : Expr} {es : List Expr} {pos p : Pos}
theorem run_fnX {pins : List (Addr × Obj)} {σ : L2.St} {H : Hp} {s : Shared} {Q : VK} {us : List Value} {vs : List V} (F : FnOk X.prog X.w X.K X.mg X.base (L2.CX X.prog X.w) k f fd ps sp) (hr : Room k X.A) (hb : Binds X.K fd ps ds) (hd : Vals dvs ds) (tk : Takes X W)
    (I : Inv X pins σ H s) (r : Vals vs us) (h : sp (vs ++ dvs) H Q (WE W σ)) : wpAny (model X.prog X.w) X.A (call (.ref f) us) (EP X pins σ Q) X.xe s := by
  have r2 : Vals (vs ++ dvs) (us ++ ds) := r.append hd
  have hl : (us ++ ds).length = ps.length := by rw [← r2.length]; exact F.len _ _ _ _ h
  refine wpAny_call (codeAny_mono (F.run X.A X.stack s H ⟨us, []⟩ (us ++ ds) (vs ++ dvs) Q (WE W σ) hr I.env0 (hb s us I.kIn hl) r2 h) fun r s' hq => ?_)
  cases r with
  | error e => exact passAt tk σ pins H s e s' I hq
  | ok fl =>
    cases fl with
    | ret u => exact I.after hq
    | next => exact False.elim hq
    | brk => exact False.elim hq
    | cont => exact False.elim hq
theorem run_fnNX {n : Nat} {ks : List Str} {g : List Value → List Value → List Value} {gV : List V → List V → List V} {pins : List (Addr × Obj)} {σ : L2.St} {H : Hp} {s : Shared} {Q : VK} {us ws : List Value} {vs zs : List V} (F : FnOk X.prog X.w X.K X.mg X.base (L2.CX X.prog X.w) k f fd ps sp) (hr : Room k X.A) (hb : KBn X.K fd ps n ks g gV) (tk : Takes X W)
    (I : Inv X pins σ H s) (r : Vals vs us) (rz : Vals zs ws) (l1 : vs.length = n) (l2 : zs.length = ks.length) (h : sp (gV vs zs) H Q (WE W σ)) : wpAny (model X.prog X.w) X.A (call (.ref f) us (ks.zip ws)) (EP X pins σ Q) X.xe s := by
  have r2 := hb.rel r rz
  refine wpAny_call (codeAny_mono (F.run X.A X.stack s H ⟨us, ks.zip ws⟩ (g us ws) (gV vs zs) Q (WE W σ) hr I.env0 (hb.to s us ws I.kIn (r.length.symm.trans l1) (rz.length.symm.trans l2)) r2 h) fun r s' hq => ?_)
  cases r with
  | error e => exact passAt tk σ pins H s e s' I hq
  | ok fl =>
    cases fl with
    | ret u => exact I.after hq
    | next => exact False.elim hq
    | brk => exact False.elim hq
    | cont => exact False.elim hq
theorem e_callX (G : FnOk X.prog X.w X.K X.mg X.base (L2.CX X.prog X.w) j f fd ps (liftFX X.K F)) (hr : Room k X.A) (hjk : j ≤ k) (hm : X.mg x = some (.ref f)) (hk : PySem.W.keepIn X.K (.ref f) = true) (hb : Binds X.K fd ps ds) (hd : Dfl X.K dds dvs ds) (tk : Takes X W) (ha : PA X (e :: es) (liftA X.K g)) (hg : Gl X x := by rfl)
    (hdb : (x == ("__debug__" : Str)) = false := by decide) (he : starEach (e :: es) X.env = (false, eval e X.env) :: starEach es X.env := by rfl) (hpl : (backTo pos (starEach es X.env)).any (·.1) = false := by rfl) :
    PE X (.Call (.Name x p) (e :: es) [] pos) (liftE X.K W (aCallX F dds g)) := by
  refine ⟨fun pins s σ H Q I h => ?_⟩
  obtain ⟨Γ, M, I0, Fr, k0, x0, hs, hc, hf, hkE, hkX⟩ := h
  have ht : liftA X.K g σ H fun vs H1 => liftFX X.K F (vs ++ dvs) H1 Q (WE W σ) := ⟨Γ, M, I0, Fr, _, hs, hc, hf, fun ds M1 vs H1 I1 h1 l1 c1 r1 => ⟨ds ++ dds, M1, I1, Fr, k0, x0, r1.append (hd.rel I1), c1, h1, hkE.le l1, hkX.le l1⟩⟩
  refine wpAny_Call_Name_kw (ld_glob I hg hm ?_ hdb)
  refine PySem.W.callWith_K (h₀ := X.base) I.ok.mod.kin hk (thn (ha.run pos pins s σ H _ I ht) fun us s1 ⟨vs, H1, I1, r, q⟩ => ⟨I1.kIn, ?_⟩) he hpl
  exact run_fnX (G.mono hjk) hr hb hd.val tk I1 r q
theorem e_callKX {n : Nat} {ks : List Str} {ix : List Nat} {kws : List Keyword} (G : FnOk X.prog X.w X.K X.mg X.base (L2.CX X.prog X.w) j f fd ps (liftFX X.K F)) (hr : Room k X.A) (hjk : j ≤ k) (hm : X.mg x = some (.ref f)) (hk : PySem.W.keepIn X.K (.ref f) = true) (hb : BK X.K fd ps n ks ix ds) (hd : Dfl X.K dds dvs ds) (tk : Takes X W) (ha : PA X (e :: es) (liftA X.K g)) (hkw : PK X kws (liftA X.K gk)) (hg : Gl X x := by rfl)
    (hall : (backToKw pos (keywordEach kws X.env)).all (·.1.isSome) = true := by rfl) (hks : (backToKw pos (keywordEach kws X.env)).filterMap (·.1) = ks := by rfl)
    (hdb : (x == ("__debug__" : Str)) = false := by decide) (he : starEach (e :: es) X.env = (false, eval e X.env) :: starEach es X.env := by rfl)
    (hpl : ((backTo pos (starEach (e :: es) X.env)).any (·.1) || (backToKw pos (keywordEach kws X.env)).any (·.1.isNone)) = false := by rfl) :
    PE X (.Call (.Name x p) (e :: es) kws pos) (liftE X.K W (aCallKX F n ks.length ix dds g gk)) := by
  refine ⟨fun pins s σ H Q I h => ?_⟩
  obtain ⟨Γ, M, I0, Fr, k0, x0, hs, hc, hf, hkE, hkX⟩ := h
  have ht : liftA X.K g σ H fun vs H1 => liftA X.K gk σ H1 fun zs H2 => vs.length = n ∧ zs.length = ks.length ∧ liftFX X.K F (pick ix (vs ++ zs ++ dvs)) H2 Q (WE W σ) := ⟨Γ, M, I0, Fr, _, hs, hc, hf, fun ds M1 vs H1 I1 h1 l1 c1 r1 =>
    ⟨Γ, M1, I1, Fr, _, hs.le l1, c1, h1, fun es M2 zs H2 I2 ⟨a1, a2, a3⟩ l2 c2 r2 => by
      have r1' := Rels.le l2 _ _ r1
      exact ⟨by rw [← r1.length]; exact a1, by rw [← r2.length]; exact a2, _, M2, I2, Fr, k0, x0, pick_rels ((r1'.append r2).append (hd.rel I2)), c2, a3, hkE.le (l1.trans l2), hkX.le (l1.trans l2)⟩⟩⟩
  refine wpAny_Call_Name_kw (ld_glob I hg hm ?_ hdb)
  refine PySem.W.callWith_KW (h₀ := X.base) I.ok.mod.kin hk hall (thn (ha.run pos pins s σ H _ I ht) fun us s1 ⟨vs, H1, I1, r, q⟩ => ?_) hpl he
  refine thn (hkw.run pos pins s1 σ H1 _ I1 q) fun ws s2 ⟨zs, H2, I2, rz, l1, l2, q2⟩ => ⟨I2.kIn, ?_⟩
  rw [hks]
  exact run_fnNX (G.mono hjk) hr (hb.kbn hd.val) tk I2 r rz l1 l2 q2
theorem e_callK0X {ks : List Str} {ix : List Nat} {kws : List Keyword} (G : FnOk X.prog X.w X.K X.mg X.base (L2.CX X.prog X.w) j f fd ps (liftFX X.K F)) (hr : Room k X.A) (hjk : j ≤ k) (hm : X.mg x = some (.ref f)) (hk : PySem.W.keepIn X.K (.ref f) = true) (hb : BK X.K fd ps 0 ks ix ds) (hd : Dfl X.K dds dvs ds) (tk : Takes X W) (hkw : PK X kws (liftA X.K gk)) (hg : Gl X x := by rfl)
    (hall : (backToKw pos (keywordEach kws X.env)).all (·.1.isSome) = true := by rfl) (hks : (backToKw pos (keywordEach kws X.env)).filterMap (·.1) = ks := by rfl)
    (hdb : (x == ("__debug__" : Str)) = false := by decide)
    (hpl : ((backTo pos (starEach [] X.env)).any (·.1) || (backToKw pos (keywordEach kws X.env)).any (·.1.isNone)) = false := by rfl) :
    PE X (.Call (.Name x p) [] kws pos) (liftE X.K W (aCallKX F 0 ks.length ix dds aNil gk)) := by
  refine ⟨fun pins s σ H Q I h => ?_⟩
  obtain ⟨Γ, M, I0, Fr, k0, x0, hs, hc, hf, hkE, hkX⟩ := h
  have ht : liftA X.K gk σ H fun zs H2 => zs.length = ks.length ∧ liftFX X.K F (pick ix ([] ++ zs ++ dvs)) H2 Q (WE W σ) := ⟨Γ, M, I0, Fr, _, hs, hc, hf, fun es M2 zs H2 I2 ⟨a1, a2, a3⟩ l2 c2 r2 =>
      ⟨by rw [← r2.length]; exact a2, _, M2, I2, Fr, k0, x0, pick_rels ((Rels.nil.append r2).append (hd.rel I2)), c2, a3, hkE.le l2, hkX.le l2⟩⟩
  refine wpAny_Call_Name_kw (ld_glob I hg hm ?_ hdb)
  refine PySem.W.callWith_KW0 (h₀ := X.base) I.ok.mod.kin hk hall (thn (hkw.run pos pins s σ H _ I ht) fun ws s2 ⟨zs, H2, I2, rz, l2, q2⟩ => ⟨I2.kIn, ?_⟩) hpl
  rw [hks]
  exact run_fnNX (G.mono hjk) hr (hb.kbn hd.val) tk I2 .nil rz rfl l2 q2
end
/-! ### a def that may raise -/
section
variable {P : Program} {w : World} {K : PySem.W.Frag} {mg : Str → Option Value} {base : Heap}
theorem fn_okX {x qual : Str} {st : Stmt} {f : Addr} {fd : FuncData} {N ps : List Str} {k : Nat} {F : AF} {body : AS} (Fu : Fun K x qual st f fd) (S : FnScope N ps (defScope st)) (len : ∀ ds M k x, F ds M k x → ds.length = ps.length)
    (hb : ∀ (cdv : Value) (A : Around) (outer : List Env) (s : Shared) (H : Hp) (E : XK) (W : WX), Room k (A.deeper (PyProof.Rows.envOfC qual (defScope st) s.heap.objs.size f cdv)) → Takes (cxOf (L2.CX P w) P w K mg base N qual (defScope st) f cdv A outer s H E) W →
      PassesOwn (model P w) (cxOf (L2.CX P w) P w K mg base N qual (defScope st) f cdv A outer s H E).A (cxOf (L2.CX P w) P w K mg base N qual (defScope st) f cdv A outer s H E).env (cxOf (L2.CX P w) P w K mg base N qual (defScope st) f cdv A outer s H E).xe →
      PSs (cxOf (L2.CX P w) P w K mg base N qual (defScope st) f cdv A outer s H E) (defBody st) (liftX K W body))
    (ok : ∀ ds M k x, F ds M k x → body { nx := fun _ M' => fin k .non M', rt := fin k, ex := fun p _ M' => finX x p M' } (startG N.length ds) M) : FnOk P w K mg base (L2.CX P w) (k + 1) f fd ps (liftFX K F) := by
  refine Fu.okX S (fun vs H Q E ⟨ds, M, I, Fr, k, x, r, c, h, _, _⟩ => by rw [← r.length]; exact len _ _ _ _ h) fun cdv A outer s H vs Q E hr ⟨ds, M, I, Fr, k, x, r, c, h, hk, hx⟩ =>
    ⟨_, hb cdv A outer s H E (fun cls d _ H => E cls d H) hr (takes_of rfl rfl rfl rfl) (passes_of rfl), ?_⟩
  refine ⟨startG N.length ds, M, I, Fr, _, ?_, c, ok ds M k x h, ⟨?_, ?_, ?_, ?_⟩, ?_⟩
  · unfold startG L2.start
    rw [r.length]
    exact RelS.start r
  · rintro Γ M' σ H' I' ⟨M2, ab, q⟩ l c' s'
    exact hk _ _ _ _ _ q l (ab _ _ _ _ c') (by rw [Rel])
  · rintro d M' v H' I' ⟨M2, ab, q⟩ l c' r'
    exact hk _ _ _ _ _ q l (ab _ _ _ _ c') r'
  · intro Γ M' σ H' I' q; exact q.elim
  · intro Γ M' σ H' I' q; exact q.elim
  · rintro C w Γ M' v σ H' I' d ⟨M2, ab, q⟩ hs l c' e r'
    exact hx C w M2 v H' I' d q l (ab _ _ _ _ c') e r'
end
/-! ### try -/
/-- S: the classes that may come; x: the slot of the name -/
def aTry (S : Addr → Prop) (i : Nat) (body suite : AS) : AS := fun D Γ M => body { D with ex := fun p Γ' M' => S p.1 ∧ suite { nx := fun Γ M => D.nx (Γ.set i none) M, rt := D.rt, bk := fun Γ M => D.bk (Γ.set i none) M, ct := fun Γ M => D.ct (Γ.set i none) M } (Γ'.set i (some (.exc p.1 p.2))) M' } Γ M
section
variable {X : Cx} {S : Addr → Prop} {x n : Str} {i : Nat} {body suite : List Stmt} {b₀ : Stmt} {np pos pos' : Pos} {CF : Addr} {b t : AS}
theorem s_try (hS : ∀ C, S C → PySem.W.exmOne X.K (.ref C) (.ref CF) = some true) (hm : X.mg x = some (.ref CF)) (hN : X.N.Nodup)
    (hb : ∀ (W : WX) (pn : List (Addr × Obj)) (xe : Value → Shared → Prop), Takes (X.tr pn xe) W → PassesOwn (model X.prog X.w) X.A X.env xe → PSs (X.tr pn xe) body (liftX X.K W b))
    (hsu : ∀ (a : Addr) (pn : List (Addr × Obj)), PSs (X.suite a pn) (b₀ :: suite) (liftS X.K t))
    (hs : X.stack = X.env :: X.outer := by rfl) (hf : X.env.frame = some X.env.locals := by rfl) (hex : X.ex = [] := by rfl) (hi : X.N[i]? = some n := by rfl) (hln : X.env.kindOf n = some .local := by rfl) (hg : Gl X x := by rfl) (hdb : (x == ("__debug__" : Str)) = false := by decide) :
    PS X (.Try body [.ExceptHandler (some (.Name x np)) (some n) (b₀ :: suite) pos'] [] [] pos) (liftS X.K (aTry S i b t)) := by
  refine (ps_try_asE (tb := fun W => liftX X.K W b) (ts := liftS X.K t) (c := .ref CF) hs hf hex hN hi hln ⟨hg, hdb, .inl hm⟩ hb hsu).imp fun E σ H ⟨Γ, M, I, F, D, hs, hc, hf, hk⟩ => ?_
  refine ⟨Γ, M, I, F, _, hs, hc, hf, ⟨hk.nx, hk.rt, hk.bk, hk.ct⟩, ?_⟩
  rintro C w Γ1 M1 v σ1 H1 I1 d ⟨hC, h1⟩ s1 l1 c1 ed r1
  refine ⟨hS C hC, fun a ha => ?_⟩
  obtain ⟨ia, ma⟩ := c1.fresh ha
  have l2 : Le I1 (upd I1 a (ExZ (.ref C) (some d) a)) := Le.new ia
  refine ⟨_, M1, upd I1 a (ExZ (.ref C) (some d) a), F, _, (s1.le l2).set (by rw [Rel]; exact ⟨a, d, v, rfl, upd_same, l2 _ _ ed, Rel.le l2 _ _ r1⟩), c1.newF ha, h1, ⟨?_, ?_, ?_, ?_⟩⟩
  · intro Γ2 M2 σ2 H2 I2 h2 l3 c2 s2
    exact hk.nx _ _ _ _ _ h2 ((l1.trans l2).trans l3) c2 s2.forget
  · intro e2 M2 v2 H2 I2 h2 l3 c2 r2
    exact hk.rt _ _ _ _ _ h2 ((l1.trans l2).trans l3) c2 r2
  · intro Γ2 M2 σ2 H2 I2 h2 l3 c2 s2
    exact hk.bk _ _ _ _ _ h2 ((l1.trans l2).trans l3) c2 s2.forget
  · intro Γ2 M2 σ2 H2 I2 h2 l3 c2 s2
    exact hk.ct _ _ _ _ _ h2 ((l1.trans l2).trans l3) c2 s2.forget
end
/-! ### what a caught one tells -/
def kWhat (S : Addr → Prop) (k : AK) : AK := fun d M => match d with
  | .exc C w => S C ∧ k w M
  | _ => False
def aWhat (S : Addr → Prop) (f : AE) : AE := fun Γ M k => f Γ M (kWhat S k)
theorem eWhat {S : Addr → Prop} {f : AE} {Γ : G} {M : MH} {k : AK} : (aWhat S f Γ M k) = (f Γ M (kWhat S k)) := propext Iff.rfl
theorem iKWhat {S : Addr → Prop} {C : Addr} {w : D} {M : MH} {k : AK} (h : k w M) (s : S C) : kWhat S k (.exc C w) M := ⟨s, h⟩
section
variable {X : Cx} {S : Addr → Prop} {e : Expr} {es : List Expr} {pos p : Pos} {f : AE} {CF : Addr}
theorem e_what (hS : ∀ C, S C → ErrT X.K CF C) (he : PE X e (lift X.K f)) (hb : attributeBase e "what" X.env (eval e X.env) = eval e X.env := by rfl) : PE X (.Attribute e "what" pos) (lift X.K (aWhat S f)) :=
  (pe_xz he hb).imp fun σ H Q ⟨Γ, M, I, F, k, hs, hc, hf, hk⟩ => ⟨Γ, M, I, F, _, hs, hc, hf, fun d M1 v H1 I1 h1 l1 c1 r1 => by
    unfold kWhat at h1
    split at h1
    · rename_i C w
      rw [Rel] at r1
      obtain ⟨a, dd, u, rfl, ea, ed, r2⟩ := r1
      exact ⟨a, C, dd, CF, _, u, rfl, c1.sub _ _ ea, hS C h1.1, (hS C h1.1).nW, c1.sub _ _ ed, by simp [List.lookup], hk _ _ _ _ _ h1.2 l1 c1 r2⟩
    · exact h1.elim⟩
/-! isinstance -/
/-- the classes asked of, and the answers -/
def isE (EC : EA) (C a : Addr) (b : Bool) : Prop := ∃ n m, C = EC n ∧ a = EC m ∧ b = (decide (n = m) || decide (m = .flap))
def isEs (EC : EA) (C : Addr) : List D → Bool → Prop
  | [], b => b = false
  | .ref a :: r, b => ∃ b1 b2, isE EC C a b1 ∧ isEs EC C r b2 ∧ b = (b1 || b2)
  | _, _ => False
def cIsE (EC : EA) (S : Addr → Prop) : AC := fun ds M k => match ds with
  | [.exc C w, .ref a] => S C ∧ ∃ b, isE EC C a b ∧ k (.bl b) M
  | [.exc C w, .ty T] => S C ∧ T = "ValueError" ∧ k (.bl true) M
  | [.exc C w, .tup cs] => S C ∧ ∃ b, isEs EC C cs b ∧ k (.bl b) M
  | _ => False
/-- what is to be known of the classes -/
structure IsT (K : PySem.W.Frag) (EC : EA) (S : Addr → Prop) : Prop where
  c : ClsE K
  T : ∀ C, S C → ErrT K (EC .flap) C
  one : ∀ n m, S (EC n) → PySem.W.kitOne K (.ref (EC n)) (.ref (EC m)) = some (decide (n = m) || decide (m = .flap))
/-- what is to be known of the base of all -/
structure FlapK (K : PySem.W.Frag) (CF : Addr) : Prop where
  ex : PySem.W.subIn K (.ref CF) (.type "BaseException") = some true
  cl : PySem.W.isClsIn K CF = true
  ty : PySem.W.typeIn K (.ref CF) = some (.type "type")
theorem exm_flap {K : PySem.W.Frag} {CF C : Addr} (T : ErrT K CF C) (h : FlapK K CF) : PySem.W.exmOne K (.ref C) (.ref CF) = some true := by
  unfold PySem.W.exmOne
  rw [h.ex, if_pos (by simp)]
  have e : ((PySem.W.clsIn K CF).isSome && PySem.W.typeIn K (.ref CF) == some (.type "type")) = true := by
    have h2 : (PySem.W.clsIn K CF).isSome = true := h.cl
    rw [h2, h.ty] <;> rfl
  show (if ((PySem.W.clsIn K CF).isSome && PySem.W.typeIn K (.ref CF) == some (.type "type")) = true then PySem.W.subIn K (.ref C) (.ref CF) else none) = some true
  rw [if_pos e]
  show PySem.W.mroIn K C _ = _
  rw [T.mro]; simp
theorem exm_own {K : PySem.W.Frag} {CF C : Addr} (T : ErrT K CF C) : PySem.W.exmOne K (.ref C) (.ref C) = some true := by
  unfold PySem.W.exmOne
  rw [T.exC, if_pos (by simp)]
  have e : ((PySem.W.clsIn K C).isSome && PySem.W.typeIn K (.ref C) == some (.type "type")) = true := by
    obtain ⟨cd, h1, _⟩ := T.cls
    rw [h1, T.ty] <;> rfl
  show (if ((PySem.W.clsIn K C).isSome && PySem.W.typeIn K (.ref C) == some (.type "type")) = true then PySem.W.subIn K (.ref C) (.ref C) else none) = some true
  rw [if_pos e]
  show PySem.W.mroIn K C _ = _
  rw [T.mro]; simp
/-- a class of the program -/
def IsCls (K : PySem.W.Frag) (C : Addr) : Prop := PySem.W.isClsIn K C = true ∧ PySem.W.typeIn K (.ref C) = some (.type "type")
theorem ist_mk {K : PySem.W.Frag} {l : List Addr} {L : List EN} (nd : l.Nodup) (hl : l.length = 12) (c : ClsE K) (T : ∀ n ∈ L, n ≠ .flap ∧ ErrT K (ecOf l .flap) (ecOf l n)) (cl : ∀ n, IsCls K (ecOf l n)) : IsT K (ecOf l) (isErr (ecOf l) L) := by
  refine ⟨c, fun C ⟨n, hn, e⟩ => by rw [e]; exact (T n hn).2, fun n m ⟨n', hn, e⟩ => ?_⟩
  have e := ecOf_inj nd hl e
  subst e
  obtain ⟨nf, t⟩ := T n hn
  obtain ⟨c1, c2⟩ := cl m
  have e : ((PySem.W.clsIn K (ecOf l m)).isSome && PySem.W.typeIn K (.ref (ecOf l m)) == some (.type "type")) = true := by
    have h2 : (PySem.W.clsIn K (ecOf l m)).isSome = true := c1
    rw [h2, c2] <;> rfl
  have k : PySem.W.kitCls K (.ref (ecOf l n)) (.ref (ecOf l m)) = some ((Value.ref (ecOf l n) :: excMro (ecOf l .flap)).contains (.ref (ecOf l m))) := by
    show (if ((PySem.W.clsIn K (ecOf l m)).isSome && PySem.W.typeIn K (.ref (ecOf l m)) == some (.type "type")) = true then PySem.W.subIn K (.ref (ecOf l n)) (.ref (ecOf l m)) else none) = _
    rw [if_pos e]
    exact t.mro _
  unfold PySem.W.kitOne
  by_cases h : n = m
  · subst h
    rw [if_pos (by simp)]; simp
  · have hne : ecOf l n ≠ ecOf l m := fun z => h (ecOf_inj nd hl z)
    rw [if_neg (by simpa using hne), k]
    by_cases hf : m = .flap
    · subst hf; simp
    · have hne2 : ecOf l m ≠ ecOf l .flap := fun z => hf (ecOf_inj nd hl z)
      simp [h, hf, hne.symm, hne2]
theorem kit_ve {K : PySem.W.Frag} {CF C : Addr} (T : ErrT K CF C) : PySem.W.kitOne K (.ref C) (.type "ValueError") = some true := by
  have e : PySem.W.kitMeta "ValueError" = true := by decide +kernel
  unfold PySem.W.kitOne
  rw [if_neg (by simp)]
  show (if PySem.W.kitMeta "ValueError" = true then PySem.W.subIn K (.ref C) (.type "ValueError") else none) = some true
  rw [if_pos e]
  show PySem.W.mroIn K C _ = _
  rw [T.mro]; simp
theorem isEs_kit {K : PySem.W.Frag} {EC : EA} {S : Addr → Prop} (T : IsT K EC S) {C : Addr} (hC : S C) : ∀ {cs : List D} {b : Bool} {I : Hp} {vs : List V}, isEs EC C cs b → Rels K I cs vs → ∃ cvs : List Value, (∀ us, Vals vs us → us = cvs) ∧ PySem.W.kitAny K (.ref C) cvs = some b
  | [], b, I, vs, h, r => by
    rw [r.nil_inv]
    refine ⟨[], fun us hu => by cases hu; rfl, ?_⟩
    rw [show b = false from h]; rfl
  | d :: cs, b, I, vs, h, r => by
    obtain ⟨w, ws, rfl, r1, r2⟩ := r.cons_inv
    cases d with
    | ref a =>
      obtain ⟨b1, b2, ⟨n, m, rfl, rfl, e1⟩, h2, rfl⟩ := h
      rw [Rel] at r1
      subst r1
      obtain ⟨cvs, q1, q2⟩ := isEs_kit T hC h2 r2
      refine ⟨.ref (EC m) :: cvs, fun us hu => ?_, ?_⟩
      · cases hu with
        | cons ru rr =>
          rw [q1 _ rr]
          cases ru
          rfl
      · unfold PySem.W.kitAny
        rw [T.one n m hC, ← e1]
        cases b1 with
        | true => rfl
        | false => exact q2
    | _ => exact h.elim
theorem cIsE_ok {K : PySem.W.Frag} {EC : EA} {S : Addr → Prop} (T : IsT K EC S) : OkC K (fun xs H Q => rIsZ K xs H Q ∨ rIsZT K xs H Q) (cIsE EC S) := by
  intro ds M k vs H I F Q h c rs hk
  unfold cIsE at h
  split at h
  · rename_i C w a
    obtain ⟨hC, b, ⟨n, m, rfl, rfl, eb⟩, h⟩ := h
    obtain ⟨u, u', rfl, r1, r2⟩ := rels2 rs
    rw [Rel] at r1
    rw [Rel] at r2
    obtain ⟨a1, d, v, rfl, ea, ed, _⟩ := r1
    subst r2
    refine .inl ⟨a1, EC n, d, EC .flap, _, .ref (EC m), .ref (EC m), b, rfl, c.sub _ _ ea, c.sub _ _ ed, T.T _ hC, fun u hu => by cases hu; rfl, ?_, hk _ _ _ _ _ h (Le.refl I) c (by rw [Rel])⟩
    rw [T.one n m hC, eb]
  · rename_i C w t
    obtain ⟨hC, rfl, h⟩ := h
    obtain ⟨u, u', rfl, r1, r2⟩ := rels2 rs
    rw [Rel] at r1
    rw [Rel] at r2
    obtain ⟨a1, d, v, rfl, ea, ed, _⟩ := r1
    subst r2
    exact .inl ⟨a1, C, d, EC .flap, _, _, .type "ValueError", true, rfl, c.sub _ _ ea, c.sub _ _ ed, T.T _ hC, fun u hu => by cases hu; rfl, kit_ve (T.T _ hC), hk _ _ _ _ _ h (Le.refl I) c (by rw [Rel])⟩
  · rename_i C w cs
    obtain ⟨hC, b, hb, h⟩ := h
    obtain ⟨u, u', rfl, r1, r2⟩ := rels2 rs
    rw [Rel] at r1
    rw [Rel] at r2
    obtain ⟨a1, d, v, rfl, ea, ed, _⟩ := r1
    obtain ⟨t, ws, rfl, et, r3⟩ := r2
    obtain ⟨cvs, q1, q2⟩ := isEs_kit T hC hb r3
    refine .inr ⟨a1, C, d, EC .flap, t, _, ws, cvs, b, rfl, c.sub _ _ ea, c.sub _ _ ed, T.T _ hC, ?_, q1, q2, hk _ _ _ _ _ h (Le.refl I) c (by rw [Rel])⟩
    rcases et with et | ⟨o, its, n, e1, e2, e3, e4, e5⟩
    · exact .inl (c.sub _ _ et)
    · exact .inr ⟨o, its, n, e1, e2, e3, e5⟩
  · exact h.elim
section
variable {X : Cx} {EC : EA} {S : Addr → Prop} {e : Expr} {es : List Expr} {g : AA} {p pos : Pos}
theorem call_or {X : Cx} {f : Value} {r r' : List V → Hp → VK → Prop} (h : CallR X f r) (h' : CallR X f r') : CallR X f (fun xs H Q => r xs H Q ∨ r' xs H Q) := fun pins s σ H xs us Q I rv q => q.elim (h pins s σ H xs us Q I rv) (h' pins s σ H xs us Q I rv)
theorem e_isE (T : IsT X.K EC S) (hm : X.mg "isinstance" = none) (ha : PA X (e :: es) (liftA X.K g)) (hg : Gl X "isinstance" := by rfl) (he : starEach (e :: es) X.env = (false, eval e X.env) :: starEach es X.env := by rfl) (hpl : (backTo pos (starEach es X.env)).any (·.1) = false := by rfl) :
    PE X (.Call (.Name "isinstance" p) (e :: es) [] pos) (lift X.K (aCB (cIsE EC S) g)) := e_callB (call_or (call_isZ T.c) (call_isZT T.c)) (cIsE_ok T) hm (by decide +kernel) ha hg (by decide) (by decide) he hpl
/-- a class of the module as a value -/
theorem e_clsE {x : Str} {C : Addr} (hm : X.mg x = some (.ref C)) (hg : Gl X x := by rfl) (hd : (x == ("__debug__" : Str)) = false := by decide) : PE X (.Name x pos) (lift X.K (aC (.ref C))) :=
  (pe_glob (v := .ref C) hg hm rfl hd).imp (lift_c fun _ => by rw [Rel])
theorem e_ve (hm : X.mg "ValueError" = none) (hg : Gl X "ValueError" := by rfl) : PE X (.Name "ValueError" pos) (lift X.K (aC (.ty "ValueError"))) := e_ty hm (by decide +kernel) hg
end
end
/-! ### step equations -/
section
variable {Z : AD} {Γ : G} {M : MH} {k : AK} {x : EK} {f : AX} {fe : AE} {C : Addr} {i : Nat} {F : AF} {dds : List D} {g gk : AA} {n m : Nat} {ix : List Nat} {S : Addr → Prop} {b t : AS} {EC : EA} {w : D}
theorem eRaise : (aRaise C fe Z Γ M) = (fe Γ M fun d M1 => Z.ex (C, d) Γ M1) := propext Iff.rfl
theorem eNoEx {s : AS} : (aNoEx s Z Γ M) = (s { Z with ex := fun _ _ _ => False } Γ M) := propext Iff.rfl
theorem eDropX : (aDropX f Z Γ M) = (f Γ M (fun _ M1 => Z.nx Γ M1) fun p M1 => Z.ex p Γ M1) := propext Iff.rfl
theorem eSetX : (aSetX i f Z Γ M) = (f Γ M (fun d M1 => Z.nx (Γ.set i (some d)) M1) fun p M1 => Z.ex p Γ M1) := propext Iff.rfl
theorem eRetX : (aRetX f Z Γ M) = (f Γ M Z.rt fun p M1 => Z.ex p Γ M1) := propext Iff.rfl
theorem eCallX : (aCallX F dds g Γ M k x) = (g Γ M fun ds M1 => F (ds ++ dds) M1 k x) := propext Iff.rfl
theorem eCallKX : (aCallKX F n m ix dds g gk Γ M k x) = (g Γ M fun ds M1 => gk Γ M1 fun es M2 => ds.length = n ∧ es.length = m ∧ F (pick ix (ds ++ es ++ dds)) M2 k x) := propext Iff.rfl
theorem eTry : (aTry S i b t Z Γ M) = (b { Z with ex := fun p Γ' M' => S p.1 ∧ t { nx := fun Γ M => Z.nx (Γ.set i none) M, rt := Z.rt, bk := fun Γ M => Z.bk (Γ.set i none) M, ct := fun Γ M => Z.ct (Γ.set i none) M } (Γ'.set i (some (.exc p.1 p.2))) M' } Γ M) := propext Iff.rfl
theorem iIsE {n m : EN} (h : k (.bl (decide (n = m) || decide (m = .flap))) M) (s : S (EC n)) : cIsE EC S [.exc (EC n) w, .ref (EC m)] M k := ⟨s, _, ⟨n, m, rfl, rfl, rfl⟩, h⟩
theorem iIsV {C : Addr} (h : k (.bl true) M) (s : S C) : cIsE EC S [.exc C w, .ty "ValueError"] M k := ⟨s, rfl, h⟩
theorem isEs_any {n : EN} : ∀ ms : List EN, isEs EC (EC n) (ms.map fun m => D.ref (EC m)) (ms.any fun m => decide (n = m) || decide (m = .flap))
  | [] => rfl
  | m :: ms => ⟨_, _, ⟨n, m, rfl, rfl, rfl⟩, isEs_any ms, rfl⟩
theorem iIsEs {n : EN} (ms : List EN) (h : k (.bl (ms.any fun m => decide (n = m) || decide (m = .flap))) M) (s : S (EC n)) : cIsE EC S [.exc (EC n) w, .tup (ms.map fun m => D.ref (EC m))] M k := ⟨s, _, isEs_any ms, h⟩
theorem isErr_of {L : List EN} {n : EN} (h : n ∈ L) : isErr EC L (EC n) := ⟨n, h, rfl⟩
end
end M
/-! MSortK: sorted(pairs, key=lambda x: x[0]); the table of code objects in the small heap. -/
namespace M
open PySem PySem.Spec PyProof.Rows L2 LamX
/-! the call of the lambda -/
theorem key_call {prog : Program} {w : World} {A : Around} {s : Shared} {f c' t : Addr} {qual x : Str} {params : Arguments} {scope : Scope} {cl : List (Str × Addr)} {pm ctv : Value} {j : Nat} {p1 p2 p3 : Pos} {its : Array Value} {n : Int} {tk : Tok}
    (hf : s.heap.get? f = some (PySem.W.kla_obj "<lambda>" qual params (.Subscript (.Name x p1) (.Constant (.int 0) j p2) p3) scope cl pm c' ctv)) (hc : s.heap.CodeRec (.ref c') qual) (lim : s.heap.NoLimit) (hd : A.depth < recursionLimit)
    (hb : ∀ v : Value, bindArgs (PySem.W.kla_fn "<lambda>" qual params (.Subscript (.Name x p1) (.Constant (.int 0) j p2) p3) scope cl pm (.ref c') ctv) ⟨[v], []⟩ = pure [(x, v)])
    (hk : scope.kind = .function) (hco : scope.isCoroutine = false) (hgn : scope.isGenerator = false) (hce : ∀ y ∈ scope.names, y.2 ≠ .cell) (hlo : scope.names.lookup x = some .local) (hdb : (x == ("__debug__" : Str)) = false)
    (ht : IsTup s.heap t its) (h0 : its[0]? = some (.int n tk)) :
    wpAny (model prog w) A (call (.ref f) [.ref t]) (PySem.W.KeyPure (.int n) s) (fun _ _ => False) s := by
  refine wpAny_call ?_
  refine PySem.W.kla_callFunE hd hf rfl hco hgn rfl hc ?_
  rw [hb]
  refine wpAny_pure (wpAny_newFunctionEnv hce (by intro y hy; rw [List.mem_singleton.mp hy]; exact hlo) (fun h₁ hns sb => ⟨lim.fresh _ sb, ?_⟩) hk)
  have up1 : ∀ b o, s.heap.get? b = some o → h₁.get? b = some o := fun b o e => sb.extBut b o (Nat.ne_of_lt (Heap.lt_size e)) (Heap.get?_push_of_some _ e)
  refine PySem.W.kla_codeExpr ?_
  refine Subscript_ ?_
  refine wpAny_Name (wpAny_loadName_local (v := Value.ref t) hk hlo hns (by simp [List.lookup]) ?_) hdb
  refine wpAny_Constant_int ?_
  have ht1 : IsTup h₁ t its := by
    exact ht.keeps up1
  have hs0 : 0 < its.size := (Array.getElem?_eq_some_iff.mp h0).1
  refine item_tuple (j := 0) ht1 (by decide) (by decide) ?_ h0 ?_
  · exact seqIndex_of (Int.le_refl 0) (by omega)
  exact ⟨h₁, _, rfl, up1, Reads.int n tk⟩

/-! the making of the lambda -/
structure Tabd (H : Hp) (q : Str) (ps : Array Value) : Prop where
  tri : TriplesOk ps.toList
  cod : ∀ (pos : Pos) (cv : Value), codeAmong pos ps.toList = some cv → ∃ c0, cv = .ref c0 ∧ H c0 = some (CodeO c0 q)
/-- the heap behind it: as it was, or with one more code object -/
inductive Grew (P : Addr) (q : Str) (ps : Array Value) (H : Hp) : Hp → Prop
  | same : Grew P q ps H H
  | more (c1 : Addr) (more : Array Value) : H c1 = none → TriplesOk (ps ++ more).toList → (∀ (pos : Pos) (cv : Value), codeAmong pos (ps ++ more).toList = some cv → codeAmong pos ps.toList = some cv ∨ cv = .ref c1) → Grew P q ps H (upd (upd H P (.tbl (ps ++ more))) c1 (CodeO c1 q))
section
variable {X : Cx} {pins : List (Addr × Obj)} {σ : L2.St} {H : Hp} {s : Shared}
theorem lam3 {q : Str} {c P : Addr} {ps : Array Value} {params : Arguments} {body : Expr} {scope : Scope} {pos : Pos} {E : Value → Shared → Prop} {Q : Value → Shared → Prop} (J : Inv X pins σ H s) (TB : TabB X.base X.mg c P) (hcd : X.env.code = .ref c) (hq : X.env.qual ++ "<lambda>" = q)
    (hP : H P = some (.tbl ps)) (T : Tabd H q ps) (hdf : defaultsOf params X.env = ([], [])) (hfr : ∀ y ∈ scope.names, y.2 ≠ .free)
    (go : ∀ (f c1 : Addr) (pm ctv : Value) (H1 : Hp) (s1 : Shared), Inv X pins σ H1 s1 → Grew P q ps H H1 → H1 c1 = some (CodeO c1 q) →
      s1.heap.get? f = some (PySem.W.kla_obj "<lambda>" q params body scope (cloFrom X.env.cells scope.names []) pm c1 ctv) → Q (.ref f) s1) :
    wpAny (model X.prog X.w) X.A (eval (.Lambda params body scope pos) X.env) Q E s := by
  refine PySem.W.kla_eval hdf ?_
  rw [hq]
  have at0 := J.hok P _ hP
  have bt := TB.bm.keeps J.bk
  have cl := closure_ok (env := X.env) (scope := scope) fun y hy e => absurd e (hfr y hy)
  cases hit : codeAmong pos ps.toList with
  | some cv =>
    obtain ⟨c1, rfl, hc1⟩ := T.cod pos cv hit
    refine PySem.W.kla_makeFunctionHit (mg := X.mg) (ps := ps) cl J.ok.glob (J.mod.glob.keeps J.bk) hcd (TB.code.keeps J.bk) at0 T.tri hit bt fun ctv g tk keep size => ?_
    exact go g.objs.size c1 _ ctv H _ (J.kept fun b o e => Heap.get?_push_of_some _ (keep b o e)) .same hc1 (Heap.get?_push_size _ rfl)
  | none =>
    refine PySem.W.kla_makeFunction (mg := X.mg) (ps := ps) cl J.ok.glob (J.mod.glob.keeps J.bk) hcd (TB.code.keeps J.bk) at0 T.tri hit TB.gP bt fun c1 ctv g tk ext ge lt rec tab => ?_
    obtain ⟨c2, ob, fs, tq, ec, hob, hfs, hq1⟩ := rec
    cases ec
    have n1 : H c1 = none := J.hok.fresh ge
    have nP : P ≠ c1 := fun z => by rw [z, n1] at hP; cases hP
    have eL : (ps ++ #[rawInt pos.line, rawInt pos.col, .ref c1]).toList = ps.toList ++ [rawInt pos.line, rawInt pos.col, .ref c1] := by simp
    refine go g.objs.size c1 _ ctv _ _ (inv_table (t' := tk) (more := #[rawInt pos.line, rawInt pos.col, .ref c1]) (c := c1) (q := q) J hP (fun b o hb e => Heap.get?_push_of_some _ (ext b o hb e)) (Heap.get?_push_of_some _ tab) ge ⟨ob, fs, tq, Heap.get?_push_of_some _ hob, hfs, hq1⟩) (.more c1 _ n1 ?_ ?_) upd_same (Heap.get?_push_size _ rfl)
    · rw [eL]; exact PySem.TriplesOk_snoc _ _ _ _ T.tri
    · intro p2 cv hcv
      rw [eL] at hcv
      exact among_app _ T.tri hcv
end
theorem Conc.grew {K : PySem.W.Frag} {H H1 I F : Hp} {M : MH} {P : Addr} {q : Str} {ps : Array Value} (c : Conc K H I M F) (hM : M P = some (.obj (.tbl q))) (g : Grew P q ps H H1) (hP : H P = some (.tbl ps)) (T : Tabd I q ps) :
    ∃ I1, Le I I1 ∧ Conc K H1 I1 M F ∧ (∀ b u, H b = some u → (∀ r, u ≠ .tbl r) → H1 b = some u) := by
  cases g with
  | same => exact ⟨I, Le.refl I, c, fun b u e _ => e⟩
  | more c1 more n t1 t2 =>
    have nP : P ≠ c1 := fun z => by rw [z, n] at hP; cases hP
    have c2 := c.newF (o := CodeO c1 q) n
    have iP : I P = none := c.fre P (by rw [hM]; simp)
    have n2 := (c.fresh n).1
    have T2 : Tabd (upd I c1 (CodeO c1 q)) q (ps ++ more) := ⟨t1, fun pos cv e => by
      rcases t2 pos cv e with z | z
      · obtain ⟨c0, e1, e2⟩ := T.cod pos cv z
        exact ⟨c0, e1, by rw [upd_ne (ne_of_none e2 n2)]; exact e2⟩
      · exact ⟨c1, z, upd_same⟩⟩
    have c3 := c2.set (b := .tbl q) (o := .tbl (ps ++ more)) hM ⟨_, upd_same, T2.tri, T2.cod⟩
    rw [up_self hM] at c3
    have eH : upd (upd H c1 (CodeO c1 q)) P (.tbl (ps ++ more)) = upd (upd H P (.tbl (ps ++ more))) c1 (CodeO c1 q) := by
      funext b
      by_cases b1 : b = P
      · rw [b1, upd_same, upd_ne nP, upd_same]
      · by_cases b2 : b = c1
        · rw [b2, upd_ne (Ne.symm nP), upd_same, upd_same]
        · rw [upd_ne b1, upd_ne b2, upd_ne b2, upd_ne b1]
    rw [eH] at c3
    refine ⟨_, Le.new n2, c3, fun b u e h => ?_⟩
    rw [upd_ne (ne_of_none e n), upd_ne (fun z => by rw [z, hP] at e; exact h ps (Option.some.inj e).symm)]
    exact e
/-! the rule -/
def pairD (r : Int × List D) : D := .tup (.int r.1 :: r.2)
def aSortK (P : Addr) (q : Str) (m : Bool) (f : AE) : AE := fun Γ M k => f Γ M fun d M1 => M1 P = some (.obj (.tbl q)) ∧ ∃ rs : List (Int × List D), rdS M1 d = some (rs.map pairD) ∧
  ∀ rs' : List (Int × List D), rs'.Perm rs → rs'.Pairwise (fun a b => a.1 ≤ b.1) → nl m (rs'.map pairD) M1 k
/-- what the lambda's text must be -/
structure Key0 (params : Arguments) (scope : Scope) (x : Str) : Prop where
  kind : scope.kind = .function
  co : scope.isCoroutine = false
  gen : scope.isGenerator = false
  cell : ∀ y ∈ scope.names, y.2 ≠ .cell
  free : ∀ y ∈ scope.names, y.2 ≠ .free
  loc : scope.names.lookup x = some .local
  nd : (x == ("__debug__" : Str)) = false
theorem rels_pairs {K : PySem.W.Frag} {I : Hp} : ∀ {rs : List (Int × List D)} {vs : List V}, Rels K I (rs.map pairD) vs → ∃ bs : List ((Int × List D) × V), rs = bs.map (·.1) ∧ vs = bs.map (·.2) ∧ ∀ x ∈ bs, Rel K I (pairD x.1) x.2
  | [], vs, h => ⟨[], rfl, by simpa using h.nil_inv, fun x hx => nomatch hx⟩
  | r :: rs, vs, h => by
    rw [List.map_cons] at h
    obtain ⟨v, ws, rfl, h1, h2⟩ := h.cons_inv
    obtain ⟨bs, e1, e2, e3⟩ := rels_pairs h2
    exact ⟨(r, v) :: bs, by rw [e1]; rfl, by rw [e2]; rfl, fun x hx => by
      rcases List.mem_cons.mp hx with z | z
      · rw [z]; exact h1
      · exact e3 x z⟩
theorem pairs_rels {K : PySem.W.Frag} {I : Hp} : ∀ {bs : List ((Int × List D) × V)}, (∀ x ∈ bs, Rel K I (pairD x.1) x.2) → Rels K I ((bs.map (·.1)).map pairD) (bs.map (·.2))
  | [], _ => .nil
  | b :: bs, h => .cons (h b List.mem_cons_self) (pairs_rels fun x hx => h x (List.mem_cons_of_mem _ hx))
theorem each_vals {bs : List ((Int × List D) × V)} : ∀ {us : List Value}, Vals (bs.map (·.2)) us → PySem.W.EachIs (fun u b => L2.RelV b.2 u) us bs := by
  induction bs with
  | nil => intro us h; rw [Vals.zero h]; exact PySem.W.EachIs.nil
  | cons b bs ih =>
    intro us h
    cases h with
    | cons h1 h2 => exact PySem.W.EachIs.cons h1 (ih h2)
theorem vals_each {bs : List ((Int × List D) × V)} : ∀ {us : List Value}, PySem.W.EachIs (fun u b => L2.RelV b.2 u) us bs → Vals (bs.map (·.2)) us := by
  induction bs with
  | nil => intro us h; cases h; exact .nil
  | cons b bs ih =>
    intro us h
    cases h with
    | cons h1 h2 => exact .cons h1 (ih h2)
section
variable {X : Cx} {e : Expr} {f : AE} {p pos lpos kpos p1 p2 p3 : Pos} {x : Str} {j : Nat} {params : Arguments} {scope : Scope}
theorem e_sortK (m : Bool) {q : Str} {c P : Addr} {k0 : Nat} (TB : TabB X.base X.mg c P) (hcd : X.env.code = .ref c) (hr : Room k0 X.A) (hm : X.mg "sorted" = none) (he : PE X e (lift X.K f)) (L : Key0 params scope x)
    (hb : ∀ (q : Str) (cl : List (Str × Addr)) (pm cv ctv v : Value), bindArgs (PySem.W.kla_fn "<lambda>" q params (.Subscript (.Name x p1) (.Constant (.int 0) j p2) p3) scope cl pm cv ctv) ⟨[v], []⟩ = pure [(x, v)])
    (hq : X.env.qual ++ "<lambda>" = q := by rfl) (hdf : defaultsOf params X.env = ([], []) := by rfl) (hg : Gl X "sorted" := by rfl)
    (n0 : starEach [e] X.env = (false, eval e X.env) :: starEach [] X.env := by rfl) (n1 : backTo pos (starEach [e] X.env) = (false, eval e X.env) :: backTo pos (starEach [] X.env) := by rfl) (n2 : (backTo pos (starEach [e] X.env)).any (·.1) = false := by rfl) :
    PE X (.Call (.Name "sorted" p) [e] [⟨some "key", .Lambda params (.Subscript (.Name x p1) (.Constant (.int 0) j p2) p3) scope lpos, kpos⟩] pos) (lift X.K (aSortK P q m f)) := by
  refine ⟨fun pins s σ H Q J h => ?_⟩
  obtain ⟨Γ, M, I, F, k, hs, hc, hf, hk⟩ := h
  refine wpAny_Call_Name_kw (ld_blt (u := .builtin "sorted") J hg hm (by decide +kernel) ?_ (by decide) (by decide))
  refine PyProof.Rows.callWith_kw (thn ((pa_cons he pa_nil n0).run pos pins s σ H (fun vs H1 => ∃ d M1 v I1, vs = [v] ∧ Le I I1 ∧ Conc X.K H1 I1 M1 F ∧ Rel X.K I1 d v ∧ M1 P = some (.obj (.tbl q)) ∧ ∃ rs : List (Int × List D), rdS M1 d = some (rs.map pairD) ∧
      ∀ rs' : List (Int × List D), rs'.Perm rs → rs'.Pairwise (fun a b => a.1 ≤ b.1) → nl m (rs'.map pairD) M1 k) J ⟨Γ, M, I, F, _, hs, hc, hf, fun d M1 v H1 I1 h1 l1 c1 r1 => ⟨d, M1, v, I1, rfl, l1, c1, r1, h1⟩⟩) fun us s1 ⟨vs, H1, J1, r1, d, M1, v, I1, ev, l1, c1, rd, hM, rs, hrs, go⟩ => ?_) n1 n2
  subst ev
  obtain ⟨a, ws, rfl, sq, rw1⟩ := rdS_ok hrs c1 rd
  obtain rfl := Vals.ref1 r1
  obtain ⟨bs, eb, ew, hbs⟩ := rels_pairs rw1
  obtain ⟨ps, hP, t1, t2⟩ := c1.rel P _ hM
  have T1 : Tabd I1 q ps := ⟨t1, t2⟩
  have T1H : Tabd H1 q ps := ⟨t1, fun pos cv e => by obtain ⟨c0, e1, e2⟩ := t2 pos cv e; exact ⟨c0, e1, c1.sub _ _ e2⟩⟩
  refine PyProof.Rows.kwAll_cons (lam3 J1 TB hcd hq hP T1H hdf L.free fun g cc pm ctv H2 s2 J2 gr hcc hg2 => PyProof.Rows.kwAll_nil ?_)
  obtain ⟨I2, l2, c2, kp2⟩ := c1.grew hM gr hP T1
  have sq2 : SqL X.K H2 a ws := by
    rcases sq with z | z
    · rcases z with z | ⟨o, z⟩
      · exact .inl (.inl (kp2 _ _ z fun r y => by cases y))
      · exact .inl (.inr ⟨o, kp2 _ _ z fun r y => by cases y⟩)
    · exact .inr z
  obtain ⟨its, rv, hl, hz⟩ := J2.list sq2
  have hlen0 : bs.length = its.length := by rw [← rv.length, ew, List.length_map]
  have hLs : bs.length ≤ sizeLine := by rw [ew, List.length_map] at hz; exact hz
  have ev : PySem.W.EachIs (fun u (b : (Int × List D) × V) => L2.RelV b.2 u) its bs := each_vals (by rw [← ew]; exact rv)
  have dle := PySem.W.dataLe_int (β := (Int × List D) × V) fun b => b.1.1
  show wpAny _ _ (call (.builtin "sorted") [.ref a] [(Str.ofString "key", .ref g)]) _ _ _
  refine PySem.W.sorted_key_data (β := (Int × List D) × V) (b := false) (fun b => .int b.1.1) hl.isList ev (PySem.W.AllAlike.of fun _ _ => by simp [PySem.W.alike]) (PySem.W.Sortable.others fun _ => ⟨by simp, by simp⟩) hLs (fun b _ => ?_) (PyProof.Rows.ksk_s1 _ _) (fun _ => PyProof.Rows.ksk_l1 _ _) (fun _ => PyProof.Rows.ksk_t1 _ _) (fun u b hR hb2 h3 tk keep => ?_) fun out cc2 h3 tk keep fr hD hln he2 => ?_
  · have := hr.units
    show X.A.units + 2 + 0 < _
    omega
  · have hrel := hbs b hb2
    unfold pairD at hrel
    rw [Rel] at hrel
    obtain ⟨t, tv, e1, e2, e3⟩ := hrel
    obtain ⟨w0, wr, rfl, e4, _⟩ := e3.cons_inv
    rw [Rel] at e4
    subst e4
    rw [e1] at hR
    obtain rfl : u = Value.ref t := hR
    obtain ⟨tits, tv2, tt, _⟩ := J2.tuple ((e2.le l2).le c2.sub).sqt
    cases tv2 with
    | cons q1 q2 =>
      obtain ⟨tk0, rfl⟩ := q1
      obtain ⟨⟨oc, fs, tq, k1, k2, k3⟩, _, _⟩ := J2.hok cc _ hcc
      exact key_call (s := { s2 with heap := h3, toks := tk }) (keep _ _ hg2) ⟨cc, oc, fs, tq, rfl, keep _ _ k1, k2, k3⟩ (J2.nolimit.keeps keep) hr.depth (fun v => hb _ _ _ _ _ v) L.kind L.co L.gen L.cell L.loc L.nd (tt.keeps keep) rfl
  · have hout := vals_each he2
    rw [dle] at hout
    have hl2 : ((bs.mergeSort fun a b => decide (a.1.1 ≤ b.1.1)).map (·.2)).length ≤ sizeLine := by rw [List.length_map, List.length_mergeSort]; exact hLs
    have nf := J2.hok.fresh (Nat.le_succ s2.heap.objs.size)
    refine ⟨.ref _, upd H2 (s2.heap.objs.size + 1) (.lst ((bs.mergeSort fun a b => decide (a.1.1 ≤ b.1.1)).map (·.2))), J2.laid (t' := tk) (fun b o e => keep b o e) (Nat.le_succ _) ⟨hl2, _, cc2, hout, hD⟩, rfl, ?_⟩
    refine nl_ok (m := m) (ds := ((bs.mergeSort fun a b => decide (a.1.1 ≤ b.1.1)).map (·.1)).map pairD) (go _ ?_ ?_) c2 (pairs_rels fun x hx => Rel.le l2 _ _ (hbs x ((List.mergeSort_perm bs _).mem_iff.mp hx))) (hk.le (l1.trans l2)) nf
    · rw [eb]
      exact (List.mergeSort_perm bs _).map _
    · rw [List.pairwise_map]
      have := List.pairwise_mergeSort (le := fun (a b : (Int × List D) × V) => decide (a.1.1 ≤ b.1.1)) (fun a b c h1 h2 => by simp only [decide_eq_true_eq] at *; omega) (fun a b => by simp only [Bool.or_eq_true, decide_eq_true_eq]; omega) bs
      exact this.imp fun {a b} h => by simpa using h
end
end M
/-! MEndT: a def with a lambda; the end of a law over a table of code objects. -/
namespace M
open PySem PySem.Spec PyProof.Rows L2 LamX
/-- a def whose code object is known -/
structure FunC (K : PySem.W.Frag) (x qual : Str) (st : Stmt) (f : Addr) (fd : FuncData) (c : Addr) : Prop where
  ex : ∃ (oc : Value) (od : Option Addr) (kV doc pm : Value) (an : Option Addr) (ct : Value) (sl : Array (Option Value)),
    fd = PySem.W.fnOf x qual (defArgs st) (defBody st) (defScope st) .none kV doc pm an (.ref c) ct ∧ K.lookup f = some ⟨oc, od, .func fd, sl⟩ ∧ PySem.W.codeIn K (.ref c) qual = true
section
variable {P : Program} {w : World} {K : PySem.W.Frag} {mg : Str → Option Value} {base : Heap}
theorem fn_okC {x qual : Str} {st : Stmt} {f c : Addr} {fd : FuncData} {N ps : List Str} {k : Nat} {F : AF} {body : AS} (Fu : FunC K x qual st f fd c) (S : FnScope N ps (defScope st)) (len : ∀ ds M k x, F ds M k x → ds.length = ps.length)
    (hb : ∀ (A : Around) (outer : List Env) (s : Shared) (H : Hp) (E : XK), Room k (A.deeper (PyProof.Rows.envOfC qual (defScope st) s.heap.objs.size f (.ref c))) → PSs (cxOf CX0 P w K mg base N qual (defScope st) f (.ref c) A outer s H E).nox (defBody st) (liftS K body))
    (ok : ∀ ds M k x, F ds M k x → body { nx := fun _ M' => fin k .non M', rt := fin k } (startG N.length ds) M) : FnOk P w K mg base CX0 (k + 1) f fd ps (liftF K F) := by
  obtain ⟨oc, od, kV, doc, pm, an, ct, sl, rfl, lk, hcd⟩ := Fu.ex
  refine fn_of lk hcd S (fun vs H Q E ⟨ds, M, I, Fr, k, x, r, c, h, _, _⟩ => (r.length).symm.trans (len _ _ _ _ h)) fun A outer s H vs Q E hr ⟨ds, M, I, Fr, k, x, r, cc, h, hk, hx⟩ => ⟨_, (hb A outer s H E hr).nox, startG N.length ds, M, I, Fr, _, ?_, cc, ok ds M k x h, ⟨?nx, ?rt, ?br, ?co⟩⟩
  · unfold startG L2.start
    rw [r.length]
    exact RelS.start r
  case nx =>
    rintro Γ M' σ H' I' ⟨M2, ab, q⟩ l c' s'
    exact hk _ _ _ _ _ q l (ab _ _ _ _ c') (by rw [Rel])
  case rt =>
    rintro d M' v H' I' ⟨M2, ab, q⟩ l c' r'
    exact hk _ _ _ _ _ q l (ab _ _ _ _ c') r'
  case br => intro Γ M' σ H' I' q; exact q.elim
  case co => intro Γ M' σ H' I' q; exact q.elim
end
def MT (P : Addr) (q : Str) : MH := fun b => if b = P then some (.obj (.tbl q)) else none
theorem law_startT {K : PySem.W.Frag} {F : AF} {ns : List Int} {H : Hp} {a P : Addr} {q : Str} (h : ∀ (k : AK) (M : MH), M P = some (.obj (.tbl q)) → (∀ M', k (.bl true) M') → F [.scr ns] M k noX) (hP : H P = some (.tbl #[])) (hS : SqL K H a (ns.map V.int)) :
    liftF K F [.ref a] H (fun v _ => v = .bl true) fun _ _ _ => False := by
  have tab : ∀ (b : Addr) (u : HO), (∀ ps, u ≠ .tbl ps) → H b = some u → (fun b => if b = P then none else H b) b = some u := fun b u n e => by
    show (if b = P then none else H b) = some u
    rw [if_neg (fun z => by rw [z, hP] at e; exact n _ (Option.some.inj e).symm)]
    exact e
  refine ⟨[.scr ns], MT P q, fun b => if b = P then none else H b, fun _ => Option.none, fun d _ => d = .bl true, noX, .cons ?_ .nil, ⟨?_, ?_, ?_, ?_⟩, h _ _ (if_pos rfl) fun _ => rfl, ?_, ?_⟩
  · rw [Rel]
    refine ⟨a, rfl, ?_⟩
    rcases hS with (z | ⟨o, z⟩) | z
    · exact .inl (.inl (tab _ _ (fun ps y => by cases y) z))
    · exact .inl (.inr ⟨o, tab _ _ (fun ps y => by cases y) z⟩)
    · exact .inr z
  · intro b u e
    have e : (if b = P then none else H b) = some u := e
    split at e
    · cases e
    · exact e
  · intro b m
    unfold MT at m
    by_cases z : b = P
    · exact if_pos z
    · rw [if_neg z] at m; exact absurd rfl m
  · intro b o e
    unfold MT at e
    split at e
    · rename_i z
      cases e
      rw [z]
      exact ⟨#[], hP, True.intro, fun pos cv hc => by
        have z : codeAmong pos [] = some cv := hc
        simp [codeAmong] at z⟩
    · cases e
  · intro b o e; cases e
  · rintro d M v H' I' rfl l c r
    rwa [Rel] at r
  · intro C w M v H I' d z
    exact z.elim
theorem lawAtT {l : PySem.W.OpenLaw} {w : World} {K : PySem.W.Frag} {k : Nat} {mg : Str → Option Value} {fa c P : Addr} {h : Heap} {fd : FuncData} {q : Str} {F : AF} (hT : h.get? P = some { cls := .none, data := .fields #[] }) (nT : K.lookup P = none) (C : PySem.W.CodeHd h c P)
    (hb : ∀ (s : Shared) (u : Value), BindsTo s fd ⟨[u], []⟩ [("script", u)]) (st : ∀ (ns : List Int), ns.length ≤ 63 → ∀ (k : AK) (M : MH), M P = some (.obj (.tbl q)) → (∀ M', k (.bl true) M') → F [.scr ns] M k noX)
    (G : ∀ base : Heap, K.In base → base.Ns mainGlobals mg → TabB base mg c P → FnOk l.prog w K mg base CX0 k fa fd ["script"] (liftF K F)) : LawAtS l w K CX0 k 63 "script" mg fa h :=
  ⟨fd, [(c, P)], liftF K F, fun p hp => by rw [List.mem_singleton.mp hp]; exact hT, fun p hp => by rw [List.mem_singleton.mp hp]; exact nT, fun p hp => by rw [List.mem_singleton.mp hp]; exact C, hb,
    fun H a ns h1 _ h3 h4 => law_startT (q := q) (st ns h1) (h3 (c, P) (List.mem_singleton.mpr rfl)) h4, fun base h1 h2 h3 => G base h1 h2 (h3 (c, P) (List.mem_singleton.mpr rfl))⟩
end M
/-! MExcT: a def with a lambda that may raise. -/
namespace M
open PySem PySem.Spec PyProof.Rows L2 LamX
theorem fn_okXC {P : Program} {w : World} {K : PySem.W.Frag} {mg : Str → Option Value} {base : Heap} {x qual : Str} {st : Stmt} {f c0 : Addr} {fd : FuncData} {N ps : List Str} {k : Nat} {F : AF} {body : AS} (Fu : FunC K x qual st f fd c0) (S : FnScope N ps (defScope st)) (len : ∀ ds M k x, F ds M k x → ds.length = ps.length)
    (hb : ∀ (A : Around) (outer : List Env) (s : Shared) (H : Hp) (E : XK) (W : WX), Room k (A.deeper (PyProof.Rows.envOfC qual (defScope st) s.heap.objs.size f (.ref c0))) → Takes (cxOf (L2.CX P w) P w K mg base N qual (defScope st) f (.ref c0) A outer s H E) W →
      PassesOwn (model P w) (cxOf (L2.CX P w) P w K mg base N qual (defScope st) f (.ref c0) A outer s H E).A (cxOf (L2.CX P w) P w K mg base N qual (defScope st) f (.ref c0) A outer s H E).env (cxOf (L2.CX P w) P w K mg base N qual (defScope st) f (.ref c0) A outer s H E).xe →
      PSs (cxOf (L2.CX P w) P w K mg base N qual (defScope st) f (.ref c0) A outer s H E) (defBody st) (liftX K W body))
    (ok : ∀ ds M k x, F ds M k x → body { nx := fun _ M' => fin k .non M', rt := fin k, ex := fun p _ M' => finX x p M' } (startG N.length ds) M) : FnOk P w K mg base (L2.CX P w) (k + 1) f fd ps (liftFX K F) := by
  obtain ⟨oc, od, kV, doc, pm, an, ct, sl, rfl, lk, hcd⟩ := Fu.ex
  refine fn_of lk hcd S (fun vs H Q E ⟨ds, M, I, Fr, k, x, r, c, h, _, _⟩ => (r.length).symm.trans (len _ _ _ _ h)) fun A outer s H vs Q E hr ⟨ds, M, I, Fr, k, x, r, c, h, hk, hx⟩ =>
    ⟨_, hb A outer s H E (fun cls d _ H => E cls d H) hr (takes_of rfl rfl rfl rfl) (passes_of rfl), startG N.length ds, M, I, Fr, _, ?_, c, ok ds M k x h, ⟨?nx, ?rt, ?br, ?co⟩, ?ex⟩
  · unfold startG L2.start
    rw [r.length]
    exact RelS.start r
  case nx =>
    rintro Γ M' σ H' I' ⟨M2, ab, q⟩ l c' s'
    exact hk _ _ _ _ _ q l (ab _ _ _ _ c') (by rw [Rel])
  case rt =>
    rintro d M' v H' I' ⟨M2, ab, q⟩ l c' r'
    exact hk _ _ _ _ _ q l (ab _ _ _ _ c') r'
  case br => intro Γ M' σ H' I' q; exact q.elim
  case co => intro Γ M' σ H' I' q; exact q.elim
  case ex =>
    rintro C w Γ M' v σ H' I' d ⟨M2, ab, q⟩ s' l c' e r'
    exact hx _ _ _ _ _ _ _ q l (ab _ _ _ _ c') e r'
end M
/-! MRep: a list so many times; == of written data. -/
namespace M
open PySem L2
section
variable {X : Cx} {a b : Expr} {pos : Pos} {K : PySem.W.Frag}
def bRepL (m : Bool) : AB := fun d e M k => match e with
  | .int n => ∃ ds, rdL M d = some ds ∧ (-(2 ^ 63) ≤ n ∧ n < 2 ^ 63 ∧ ds.length * n.toNat ≤ sizeLine) ∧ nl m (List.replicate n.toNat ds).flatten M k
  | _ => False
theorem rels_rep {I : Hp} {ds : List D} {vs : List V} (r : Rels K I ds vs) : ∀ n : Nat, Rels K I (List.replicate n ds).flatten (List.replicate n vs).flatten
  | 0 => .nil
  | n + 1 => by
    rw [List.replicate_succ, List.replicate_succ, List.flatten_cons, List.flatten_cons]
    exact r.append (rels_rep r n)
theorem bRepL_ok {m : Bool} : OkB K rRep (bRepL m) := by
  intro d e M k v u H I F Q h c r1 r2 hk
  unfold bRepL at h
  split at h
  · rename_i n
    obtain ⟨ds, h1, ⟨a1, a2, a3⟩, h⟩ := h
    rw [Rel] at r2
    obtain ⟨l, vs, e1, e2, e3⟩ := rdL_ok h1 c r1
    exact ⟨l, n, vs, e1, r2, e2, a1, a2, by rw [← e3.length]; exact a3, fun p hp => nl_ok h c (rels_rep e3 _) hk hp⟩
  · exact h.elim
theorem e_repL (m : Bool) {fa fb : AE} (ha : PE X a (lift X.K fa)) (hb : PE X b (lift X.K fb)) : PE X (.BinOp a .Mult b pos) (lift X.K (aOp (bRepL m) fa fb)) := (pe_op op_rep ha hb).imp (lift_op bRepL_ok)
end
theorem iRepL {m : Bool} {d : D} {ds : List D} {n : Int} {M : MH} {k : AK} (h : nl m (List.replicate n.toNat ds).flatten M k) (h1 : rdL M d = some ds) (h2 : 0 ≤ n) (h3 : ds.length * n.toNat ≤ 1000000) (h4 : n ≤ 1000000) : bRepL m d (.int n) M k :=
  ⟨ds, h1, ⟨by omega, by omega, by rw [sizeLine_eq]; omega⟩, h⟩
/-- written data: x, y what they are -/
theorem iEqC {neg : Bool} {d e : D} {M : MH} {k : AK} (x y : PyData) (b : Bool) (h : k (.bl (if neg then !b else b)) M) (hx : (rdD M 4 d).py = some x) (hy : (rdD M 4 e).py = some y) (sx : SeqAt.shaped x = true) (sy : SeqAt.shaped y = true) (hb : PyData.eqv x y = b)
    (ni : ∀ i j, d = .int i → e = .int j → False) (ns : ∀ i j, d = .str i → e = .str j → False) : bEq neg d e M k := by
  subst hb
  unfold bEq
  split
  · exact (ni _ _ rfl rfl).elim
  · exact (ns _ _ rfl rfl).elim
  · exact ⟨x, y, hx, hy, sx, sy, h⟩
end M
/-! MRepr: repr of lists; defs that run where no repr is under way. -/
namespace M
open PySem PySem.Spec PyProof.Rows L2 LamX
section
variable {X : Cx} {K : PySem.W.Frag}
/-- a list's text -/
def rRepr (K : PySem.W.Frag) : List V → Hp → VK → Prop := fun xs H Q => ∃ (a : Addr) (ds : List PyData), xs = [.ref a] ∧ Dp K H (.ref a) (.list ds) ∧ (PyData.list ds).showable = true ∧ (PyData.list ds).hasDict = false ∧ (PyData.list ds).depth ≤ 64 ∧ (PyData.list ds).shown.length ≤ sizeLine ∧ Q (.str (PyData.list ds).shown) H
theorem call_repr {k : Nat} (hG : X.A.guards = some []) (hr : Room k X.A) : CallR X (.builtin "repr") (rRepr X.K) := by
  intro pins s σ H xs us Q I r h
  obtain ⟨a, ds, rfl, hd, h1, h2, h3, h4, q⟩ := h
  obtain ⟨u, rfl, ru⟩ := vals1 r
  obtain ⟨as, rd⟩ := Dp.reads I _ _ _ hd ru
  cases ru
  have un := hr.un
  exact PySem.repr_of_reads' rd h1 (PyData.noDict_hsm h2) hG (by omega) (fun b o e => e) (fun h' u tk hk => ⟨.str _, H, I.kept hk, ⟨_, rfl⟩, q⟩) h4
/-- repr of a list's data -/
def cRepr : AC := fun ds M k => match ds with
  | [d] => ∃ ts : List T, RdT M d (.lst ts) ∧ (T.lst ts).py.showable = true ∧ (T.lst ts).py.bulk ≤ 8000 ∧ k (.str (T.lst ts).py.shown) M
  | _ => False
mutual
theorem T.noDict : ∀ t : T, t.py.hasDict = false
  | .non => by rw [T.py, PyData.hasDict]
  | .int i => by rw [T.py, PyData.hasDict]
  | .tup ts => by rw [T.py, PyData.hasDict]; exact T.noDicts ts
  | .lst ts => by rw [T.py, PyData.hasDict]; exact T.noDicts ts
theorem T.noDicts : ∀ ts : List T, PyData.hasDictAll (T.pys ts) = false
  | [] => by rw [T.pys, PyData.hasDictAll]
  | t :: ts => by rw [T.pys, PyData.hasDictAll, T.noDict t, T.noDicts ts]; rfl
end
mutual
theorem T.leaves : ∀ t : T, t.py.showable = true → t.py.leavesShort 1921 = true
  | .non, _ => by rw [T.py, PyData.leavesShort]
  | .int i, h => by
    rw [T.py, PyData.showable] at h
    rw [T.py, PyData.leavesShort]
    refine decide_eq_true ?_
    rw [PyData.shown]
    exact int_text_len_1921 (of_decide_eq_true h)
  | .tup ts, h => by
    rw [T.py, PyData.showable] at h
    rw [T.py, PyData.leavesShort]; exact T.leavess ts h
  | .lst ts, h => by
    rw [T.py, PyData.showable] at h
    rw [T.py, PyData.leavesShort]; exact T.leavess ts h
theorem T.leavess : ∀ ts : List T, PyData.showableAll (T.pys ts) = true → PyData.leavesShortAll 1921 (T.pys ts) = true
  | [], _ => by rw [T.pys, PyData.leavesShortAll]
  | t :: ts, h => by
    rw [T.pys, PyData.showableAll, Bool.and_eq_true] at h
    rw [T.pys, PyData.leavesShortAll, T.leaves t h.1, T.leavess ts h.2]; rfl
end
theorem cRepr_ok : OkC K (rRepr K) cRepr := by
  intro ds M k vs H I F Q h c r hk
  unfold cRepr at h
  split at h
  · obtain ⟨ts, hd, h1, h2, h3⟩ := h
    obtain ⟨v, rfl, rv⟩ := rels1 r
    have dp := rdD_ok c _ _ _ _ hd.1 rv
    rw [T.py] at dp
    have hdep := T.shaped hd.2
    have len := PyData.shown_le_bulk 1921 (by decide) (T.lst ts).py (T.leaves _ h1)
    have hdd : (T.lst ts).py.depth ≤ 64 := by rw [(T.lst ts).lay.2]; exact hd.2
    have hll : (T.lst ts).py.shown.length ≤ sizeLine := by
      have : (1921 + 2) * (T.lst ts).py.bulk ≤ (1921 + 2) * 8000 := Nat.mul_le_mul_left _ h2
      rw [sizeLine_eq]
      show _ ≤ 16777216
      omega
    have hnd := T.noDict (.lst ts)
    rw [T.py] at h1 hdd hll hnd h3
    cases dp with
    | lst hs ha => exact ⟨_, _, rfl, .lst hs ha, h1, hnd, hdd, hll, hk _ M _ H I h3 (Le.refl I) c (by rw [Rel])⟩
  · exact h.elim
theorem e_repr {e : Expr} {es : List Expr} {p pos : Pos} {g : AA} {k : Nat} (hG : X.A.guards = some []) (hr : Room k X.A) (hm : X.mg "repr" = none) (ha : PA X (e :: es) (liftA X.K g)) (hg : Gl X "repr" := by rfl)
    (he : starEach (e :: es) X.env = (false, eval e X.env) :: starEach es X.env := by rfl) (hpl : (backTo pos (starEach es X.env)).any (·.1) = false := by rfl) :
    PE X (.Call (.Name "repr" p) (e :: es) [] pos) (lift X.K (aCB cRepr g)) := e_callB (call_repr hG hr) cRepr_ok hm (by decide +kernel) ha hg (by decide) (by decide) he hpl
end
/-! ### defs that run where no repr is under way -/
section
variable {P : Program} {w : World} {K : PySem.W.Frag} {mg : Str → Option Value} {base : Heap}
structure FnOkG (P : Program) (w : World) (K : PySem.W.Frag) (mg : Str → Option Value) (base : Heap) (k : Nat) (f : Addr) (fd : FuncData) (ps : List Str) (sp : Sp) : Prop where
  ar : ∀ vs H Q E, sp vs H Q E → vs.length = ps.length
  go : ∀ (B : Around) (fr : List Env) (s : Shared) (H : Hp) (xs : Args) (us : List Value) (vs : List V) (Q : VK) (E : XK), B.guards = some [] → Room k B → Env0 P w K mg base B fr s H → BindsTo s fd xs (ps.zip us) → Vals vs us → sp vs H Q E → codeAny (model P w) B (.call (.ref f) xs) (CR CX0 fr P w H s Q E) s
theorem FnOkG.up {j k : Nat} {f : Addr} {fd : FuncData} {ps : List Str} {sp : Sp} (G : FnOkG P w K mg base j f fd ps sp) (h : j ≤ k) : FnOkG P w K mg base k f fd ps sp :=
  ⟨G.ar, fun B fr s H xs us vs Q E hG hr => G.go B fr s H xs us vs Q E hG (hr.mono h)⟩
theorem fn_okG {x qual : Str} {st : Stmt} {f : Addr} {fd : FuncData} {N ps : List Str} {k : Nat} {F : AF} {body : AS} (Fu : Fun K x qual st f fd) (S : FnScope N ps (defScope st)) (ar : ∀ ds M k x, F ds M k x → ds.length = ps.length)
    (hb : ∀ (cdv : Value) (A : Around) (fr : List Env) (s : Shared) (H : Hp) (E : XK), Room k (A.deeper (PyProof.Rows.envOfC qual (defScope st) s.heap.objs.size f cdv)) → (A.deeper (PyProof.Rows.envOfC qual (defScope st) s.heap.objs.size f cdv)).guards = some [] →
      PSs (cxOf CX0 P w K mg base N qual (defScope st) f cdv A fr s H E).nox (defBody st) (liftS K body))
    (ok : ∀ ds M k x, F ds M k x → body { nx := fun _ M' => fin k .non M', rt := fin k } (startG N.length ds) M) : FnOkG P w K mg base (k + 1) f fd ps (liftF K F) := by
  obtain ⟨oc, od, kV, doc, pm, an, cdv, ct, sl, rfl, lk, hcd⟩ := Fu.ex
  refine ⟨fun vs H Q E ⟨ds, M, I, Fr, k, x, r, c, h, _, _⟩ => (r.length).symm.trans (ar _ _ _ _ h), fun B fr s H xs us vs Q E hG hr e0 hbi rv ⟨ds, M, I, Fr, k, x, r, cc, h, hk, hx⟩ => ?_⟩
  refine run_ofS lk hcd S hr e0 hbi rv ((r.length).symm.trans (ar _ _ _ _ h)) fun hr2 => ⟨_, (hb cdv B fr s H E hr2 hG).nox, startG N.length ds, M, I, Fr, _, ?_, cc, ok ds M k x h, ⟨?nx, ?rt, ?br, ?co⟩⟩
  · unfold startG L2.start
    rw [r.length]
    exact RelS.start r
  case nx =>
    rintro Γ M' σ H' I' ⟨M2, ab, q⟩ l c' s'
    exact hk _ _ _ _ _ q l (ab _ _ _ _ c') (by rw [Rel])
  case rt =>
    rintro d M' v H' I' ⟨M2, ab, q⟩ l c' r'
    exact hk _ _ _ _ _ q l (ab _ _ _ _ c') r'
  case br => intro Γ M' σ H' I' q; exact q.elim
  case co => intro Γ M' σ H' I' q; exact q.elim
end
section
variable {X : Cx} {e : Expr} {es : List Expr} {pos p : Pos} {F : AF} {g : AA} {f : Addr} {fd : FuncData} {ps : List Str} {x : Str} {j k : Nat} {dds : List D} {dvs : List V} {ds : List Value}
theorem go_fn {pins : List (Addr × Obj)} {σ : L2.St} {H : Hp} {s : Shared} {Q : VK} {us : List Value} {vs : List V} {sp : Sp} {dv : List V} (G : FnOkG X.prog X.w X.K X.mg X.base k f fd ps sp) (hG : X.A.guards = some []) (hr : Room k X.A) (hb : Binds X.K fd ps ds) (hd : Vals dv ds) (I : Inv X pins σ H s) (r : Vals vs us) (h : sp (vs ++ dv) H Q E0) :
    wpAny (model X.prog X.w) X.A (call (.ref f) us) (EP X pins σ Q) X.xe s := by
  have rr : Vals (vs ++ dv) (us ++ ds) := r.append hd
  have ll : (us ++ ds).length = ps.length := (rr.length).symm.trans (G.ar _ _ _ _ h)
  refine wpAny_call (codeAny_mono (G.go X.A X.stack s H ⟨us, []⟩ (us ++ ds) (vs ++ dv) Q E0 hG hr I.env0 (hb s us I.kIn ll) rr h) fun res s' hq => ?_)
  match res, hq with
  | .ok (.ret u), hq => exact I.after hq
theorem e_callG (G : FnOkG X.prog X.w X.K X.mg X.base j f fd ps (liftF X.K F)) (hG : X.A.guards = some []) (hr : Room k X.A) (hjk : j ≤ k) (hm : X.mg x = some (.ref f)) (hk : PySem.W.keepIn X.K (.ref f) = true) (hb : Binds X.K fd ps ds) (hd : Dfl X.K dds dvs ds) (ha : PA X (e :: es) (liftA X.K g)) (hg : Gl X x := by rfl)
    (hdb : (x == ("__debug__" : Str)) = false := by decide) (he : starEach (e :: es) X.env = (false, eval e X.env) :: starEach es X.env := by rfl) (hpl : (backTo pos (starEach es X.env)).any (·.1) = false := by rfl) :
    PE X (.Call (.Name x p) (e :: es) [] pos) (lift X.K (aCall noX F dds g)) := by
  refine ⟨fun pins s σ H Q I h => wpAny_Call_Name_kw (ld_glob I hg hm ?_ hdb)⟩
  refine PySem.W.callWith_K (h₀ := X.base) I.ok.mod.kin hk (thn (ha.run pos pins s σ H _ I (lift_call hd.rel h)) fun us s1 hu => ?_) he hpl
  obtain ⟨vs, H1, I1, r, q⟩ := hu
  exact ⟨I1.kIn, go_fn (G.up hjk) hG hr hb hd.val I1 r q⟩
end
/-! ### the end -/
/-- what of the script is tracked: nothing, or the list as it is -/
theorem script_heap {P : Program} {w : World} {K : PySem.W.Frag} {h : Heap} {a : Addr} {vs : List Value} {ns : List Int} (KX : K.In h) (ha : h.get? a = some { cls := .type "list", data := .seq vs.toArray }) (hi : IntsAre vs ns) (hl : ns.length ≤ sizeLine) :
    ∃ H : Hp, Only H ∧ SqL K H a (ns.map V.int) ∧ HOk P w H h ∧ ∀ b, H b ≠ none → b = a ∧ K.lookup b = none := by
  have rv := vals_ints hi
  cases q : K.lookup a with
  | none =>
    refine ⟨fun b => if b = a then some (.frz { cls := .type "list", data := .seq vs.toArray } (.lst (ns.map V.int))) else none, fun b => ?_, .inl (.inr ⟨_, if_pos rfl⟩), fun b u z => ?_, fun b z => ?_⟩
    all_goals by_cases y : b = a
    · exact .inr ⟨_, _, if_pos y⟩
    · exact .inl (if_neg y)
    · have z := (if_pos y).symm.trans z
      cases z
      subst y
      exact ⟨ha, by rw [List.length_map]; exact hl, vs, _, rv, ha⟩
    · have z := (if_neg y).symm.trans z
      cases z
    · subst y; exact ⟨rfl, q⟩
    · exact absurd (if_neg y) z
  | some o =>
    have e := KX a o q
    rw [ha] at e
    cases e
    refine ⟨fun _ => none, fun _ => .inl rfl, .inr ⟨_, vs.toArray, _, q, rfl, rfl, rfl, by rw [List.size_toArray, hi.length]; exact hl, by simpa using rv⟩, ?_, fun b z => absurd rfl z⟩
    intro b u z
    cases z
theorem law_go {P : Program} {w : World} {K : PySem.W.Frag} {mg mb : Str → Option Value} {k : Nat} {fa a : Addr} {fd : FuncData} {x : Str} {sp : Sp} {s : Shared} {vs : List Value} {ns : List Int} (KX : K.In s.heap) (hns : s.heap.Ns mainGlobals mg) (hb : s.heap.Ns builtinsNs mb) (hbb : ∀ x : Str, x ≠ "__name__" → mb x = bootBuiltins x)
    (hlim : s.heap.NoLimit) (hg : s.gens = #[]) (ha : s.heap.get? a = some { cls := .type "list", data := .seq vs.toArray }) (hi : IntsAre vs ns) (hl : ns.length ≤ sizeLine) (hr : Room k callerA)
    (F : ∀ base : Heap, K.In base → base.Ns mainGlobals mg → FnOkG P w K mg base k fa fd [x] sp) (hbind : ∀ (s : Shared) (u : Value), BindsTo s fd ⟨[u], []⟩ [(x, u)]) (hsp : ∀ H : Hp, SqL K H a (ns.map V.int) → sp [.ref a] H (fun v _ => v = .bl true) fun _ _ _ => False) :
    codeAny (model P w) callerA (.call (.ref fa) ⟨[.ref a], []⟩) (fun r s' => r = .ok (.ret (.bool true)) ∧ OldK s.heap s'.heap ∧ s'.os = s.os ∧ AllBare s'.gens) s := by
  obtain ⟨H, only, sq, ok, one⟩ := script_heap (P := P) (w := w) KX ha hi hl
  have free : ∀ {b : Addr} {o : Obj}, s.heap.get? b = some o → (K.lookup b ≠ none ∨ ∃ es n, o.data = .dict es n) → H b = none := fun {b o} e z => by
    refine Classical.byContradiction fun y => ?_
    obtain ⟨rfl, no⟩ := one b y
    rcases z with z | ⟨es, n, z⟩
    · exact z no
    · rw [ha] at e
      cases e
      cases z
  have nsB : ∀ {b : Addr} {m : Str → Option Value}, s.heap.Ns b m → (hidT s.heap H).Ns b m := fun {b m} ⟨o, es, n, e, z, r⟩ => ⟨o, es, n, hidT_get e (free e (.inr ⟨es, n, z⟩)), z, r⟩
  have inB : K.In (hidT s.heap H) := fun b o e => hidT_get (KX b o e) (free (KX b o e) (.inl (by rw [e]; simp)))
  have md : L2.Mod K mg (hidT s.heap H) := by
    obtain ⟨mc, l1, l2⟩ := hlim
    exact ⟨inB, nsB hns, ⟨mb, nsB hb, hbb⟩, mc, nsB l1, l2⟩
  have env : Env0 P w K mg (hidT s.heap H) callerA [] s H := by
    refine ⟨rfl, md, fun b o e => of_hidT e, Nat.le_of_eq (hidT_size _ _), trivial, fun b hb => ?_, ok, .of_eq hg⟩
    have : b ∈ ([] : List Addr) := hb
    cases this
  refine codeAny_mono ((F _ inB (nsB hns)).go callerA [] s H ⟨[.ref a], []⟩ [.ref a] [.ref a] _ _ rfl hr env (hbind s (.ref a)) (.cons rfl .nil) (hsp H sq)) fun res s' hq => ?_
  match res, hq with
  | .ok (.ret u), ⟨v, H', os, bare, un, ok', rv, q⟩ =>
    have q : v = .bl true := q
    subst q
    have rv : u = Value.bool true := rv
    subst rv
    refine ⟨rfl, OldK.of_keep fun b o e => ?_, os, bare⟩
    rcases only b with z | ⟨ob, xs, z⟩
    · refine un.keep b o e z (fun y => ?_) (by simp)
      have : b ∈ ([] : List Addr) := y
      cases this
    · have e1 := (ok b _ z).1
      rw [e] at e1
      cases e1
      exact (ok' b _ (un.frzs b _ _ z)).1
theorem walkG {l : PySem.W.OpenLaw} {n k : Nat} {q : Program} {loose : List Str} {XP : (Str → Option Value) → Heap → Prop} {YP : World → Heap → Prop} {d : DefRec} {K : Params → PySem.W.Frag} {F : AF} (hn : l.most = some n) (hn2 : n ≤ sizeLine) (hdf : d.params.defaults = []) (hr : Room k callerA)
    (hY : ∀ (w : World) (h : Heap), YP w h → (K w.params).In h)
    (G : ∀ (w : World) (mg : Str → Option Value) (fa : Addr) (h : Heap), (K w.params).In h → h.Ns mainGlobals mg → mg d.name = some (.ref fa) →
      ∃ fd : FuncData, (∀ (s : Shared) (u : Value), BindsTo s fd ⟨[u], []⟩ [("script", u)]) ∧ ∀ base : Heap, (K w.params).In base → base.Ns mainGlobals mg → FnOkG l.prog w (K w.params) mg base k fa fd ["script"] (liftF (K w.params) F))
    (st : ∀ (ns : List Int), ns.length ≤ n → ∀ (k : AK) (M : MH), (∀ M', k (.bl true) M') → F [.scr ns] M k noX) : PySem.W.WalkO q loose XP YP l.row.toRowW d [] (fun f vs => PySem.call f vs) := by
  refine Att.attach_call hn hdf fun w s0 s1 mg mb fa o pm cd doc a vs ns gr Y _ _ _ hmg hobj hints hlen hg => ?_
  obtain ⟨fd, hb, hF⟩ := G w mg fa _ (hY w _ Y) gr.T.g hmg
  exact law_go (hY w _ Y) gr.T.g gr.T.b gr.T.builtins gr.T.nolimit hg hobj hints (Nat.le_trans hlen hn2) hr hF hb fun H hS => law_start (st ns hlen) hS
end M
/-! MReprT: the end of a law that tells texts of data and makes code objects. -/
namespace M
open PySem PySem.Spec PyProof.Rows L2 LamX
theorem law_goT {P : Program} {w : World} {K : PySem.W.Frag} {mg mb : Str → Option Value} {k : Nat} {fa a c Pa : Addr} {fd : FuncData} {x : Str} {sp : Sp} {s : Shared} {vs : List Value} {ns : List Int} (KX : K.In s.heap) (hns : s.heap.Ns mainGlobals mg) (hb : s.heap.Ns builtinsNs mb) (hbb : ∀ x : Str, x ≠ "__name__" → mb x = bootBuiltins x)
    (hlim : s.heap.NoLimit) (hg : s.gens = #[]) (hT : s.heap.get? Pa = some { cls := .none, data := .fields #[] }) (nT : K.lookup Pa = none) (C : PySem.W.CodeHd s.heap c Pa)
    (hbm : ∃ (bm : Addr) (ob : Obj), mg "__builtins__" = some (.ref bm) ∧ bm ≠ builtinsNs ∧ s.heap.get? bm = some ob ∧ ob.cls = .type "module" ∧ ob.dict = some builtinsNs ∧ ob.data = .plain)
    (ha : s.heap.get? a = some { cls := .type "list", data := .seq vs.toArray }) (hi : IntsAre vs ns) (hl : ns.length ≤ sizeLine) (hr : Room k callerA)
    (F : ∀ base : Heap, K.In base → base.Ns mainGlobals mg → TabB base mg c Pa → FnOkG P w K mg base k fa fd [x] sp) (hbind : ∀ (s : Shared) (u : Value), BindsTo s fd ⟨[u], []⟩ [(x, u)])
    (hsp : ∀ H : Hp, H Pa = some (.tbl #[]) → SqL K H a (ns.map V.int) → sp [.ref a] H (fun v _ => v = .bl true) fun _ _ _ => False) :
    codeAny (model P w) callerA (.call (.ref fa) ⟨[.ref a], []⟩) (fun r s' => r = .ok (.ret (.bool true)) ∧ OldK s.heap s'.heap ∧ s'.os = s.os ∧ AllBare s'.gens) s := by
  obtain ⟨H0, only, sq0, ok0, one⟩ := script_heap (P := P) (w := w) KX ha hi hl
  have na : a ≠ Pa := fun z => by rw [z, hT] at ha; cases ha
  have n0 : H0 Pa = none := Classical.byContradiction fun y => na (one Pa y).1.symm
  have lift : ∀ b o, H0 b = some o → upd H0 Pa (.tbl #[]) b = some o := fun b o e => by
    rw [upd_ne (fun z => by rw [z, n0] at e; cases e)]; exact e
  have hPa : upd H0 Pa (.tbl #[]) Pa = some (.tbl #[]) := upd_same
  have hne : ∀ b, b ≠ Pa → upd H0 Pa (.tbl #[]) b = H0 b := fun b z => upd_ne z
  generalize upd H0 Pa (.tbl #[]) = H at lift hPa hne
  have sq : SqL K H a (ns.map V.int) := sql_le lift sq0
  have ok : HOk P w H s.heap := fun b u e => by
    by_cases z : b = Pa
    · subst z
      rw [hPa] at e
      cases e
      exact hT
    · rw [hne b z] at e
      exact (ok0 b u e).stay (fun c v _ q => q) (fun c q => lift _ _ q) fun c xs q => lift _ _ q
  have free : ∀ {b : Addr} {o : Obj}, s.heap.get? b = some o → b ≠ Pa → (K.lookup b ≠ none ∨ ∀ vs n, o.data ≠ .seq vs n) → H b = none := fun {b o} e n z => by
    rw [hne b n]
    refine Classical.byContradiction fun y => ?_
    obtain ⟨rfl, no⟩ := one b y
    rcases z with z | z
    · exact z no
    · rw [ha] at e
      cases e
      exact z _ _ rfl
  have notP : ∀ {b : Addr} {o : Obj}, s.heap.get? b = some o → o.data ≠ .fields #[] → b ≠ Pa := fun {b o} e n z => by
    rw [z, hT] at e
    cases e
    exact n rfl
  have nsB : ∀ {b : Addr} {m : Str → Option Value}, s.heap.Ns b m → (hidT s.heap H).Ns b m := fun {b m} ⟨o, es, n, e, z, r⟩ => ⟨o, es, n, hidT_get e (free e (notP e (by rw [z]; simp)) (.inr (by rw [z]; simp))), z, r⟩
  have inB : K.In (hidT s.heap H) := fun b o e => hidT_get (KX b o e) (free (KX b o e) (fun z => by rw [z, nT] at e; cases e) (.inl (by rw [e]; simp)))
  have md : L2.Mod K mg (hidT s.heap H) := by
    obtain ⟨mc, l1, l2⟩ := hlim
    exact ⟨inB, nsB hns, ⟨mb, nsB hb, hbb⟩, mc, nsB l1, l2⟩
  have tb : TabB (hidT s.heap H) mg c Pa := by
    refine ⟨?_, ?_, fun z => ?_⟩
    · obtain ⟨o, us, file, tf, flags, tg, inF, text, tt, g, r1, d, d3, rest⟩ := C
      refine ⟨o, us, file, tf, flags, tg, inF, text, tt, hidT_get g (free g (notP g fun y => ?_) (.inr (by rw [d]; simp))), r1, d, d3, rest⟩
      rw [d] at y
      cases y
      simp at d3
    · obtain ⟨bm, ob, m1, m2, m3, m4, m5, m6⟩ := hbm
      have p9 := notP m3 (by rw [m6]; simp)
      refine ⟨bm, ob, m1, m2, fun y => ?_, p9, hidT_get m3 (free m3 p9 (.inr (by rw [m6]; simp))), m4, m5, m6⟩
      obtain ⟨o, es, n, e, d, _⟩ := hns
      rw [y, e] at m3
      cases m3
      rw [d] at m6
      cases m6
    · obtain ⟨o, es, n, e, d, _⟩ := hns
      rw [z, hT] at e
      cases e
      cases d
  have env : Env0 P w K mg (hidT s.heap H) callerA [] s H := by
    refine ⟨rfl, md, fun b o e => of_hidT e, Nat.le_of_eq (hidT_size _ _), trivial, fun b hb => ?_, ok, .of_eq hg⟩
    have : b ∈ ([] : List Addr) := hb
    cases this
  refine codeAny_mono ((F _ inB (nsB hns) tb).go callerA [] s H ⟨[.ref a], []⟩ [.ref a] [.ref a] _ _ rfl hr env (hbind s (.ref a)) (.cons rfl .nil) (hsp H hPa sq)) fun res s' hq => ?_
  match res, hq with
  | .ok (.ret u), ⟨v, H', os, bare, un, ok', rv, q⟩ =>
    have q : v = .bl true := q
    subst q
    have rv : u = Value.bool true := rv
    subst rv
    have same : ∀ b o, b ≠ Pa → s.heap.get? b = some o → s'.heap.get? b = some o := fun b o n e => by
      rcases only b with z | ⟨ob, xs, z⟩
      · refine un.keep b o e (by rw [hne b n]; exact z) (fun y => ?_) (by simp)
        have : b ∈ ([] : List Addr) := y
        cases this
      · have z := lift _ _ z
        have e1 := (ok b _ z).1
        rw [e] at e1
        cases e1
        exact (ok' b _ (un.frzs b _ _ z)).1
    obtain ⟨more, hm⟩ : ∃ more : Array Value, s'.heap.get? Pa = some { cls := .none, data := .fields more } := by
      obtain ⟨m, z⟩ := un.tbls Pa #[] hPa
      exact ⟨_, ok' Pa _ z⟩
    refine ⟨rfl, ⟨fun b o e => ?_, fun b o e => ?_⟩, os, bare⟩
    · by_cases z : b = Pa
      · subst z
        rw [hT] at e
        cases e
        refine .inr (.inl ⟨(C.tab hT).isCodeTable, rfl, #[], more, rfl, ?_⟩)
        rw [Array.empty_append]; exact hm
      · exact .inl (same b o z e)
    · by_cases z : b = Pa
      · subst z; exact ⟨_, hm⟩
      · exact ⟨o, same b o z e⟩
/-- what is known of a law's promise where it is called -/
def LawAtG (l : PySem.W.OpenLaw) (w : World) (K : PySem.W.Frag) (k : Nat) (mg : Str → Option Value) (fa : Addr) (h : Heap) (F : AF) : Prop := ∃ (c Pa : Addr) (fd : FuncData) (q : Str), h.get? Pa = some { cls := .none, data := .fields #[] } ∧ K.lookup Pa = none ∧ PySem.W.CodeHd h c Pa ∧
  (∀ (s : Shared) (u : Value), BindsTo s fd ⟨[u], []⟩ [("script", u)]) ∧ (∀ (ns : List Int), ns.length ≤ 63 → ∀ (k : AK) (M : MH), M Pa = some (.obj (.tbl q)) → (∀ M', k (.bl true) M') → F [.scr ns] M k noX) ∧
  ∀ base : Heap, K.In base → base.Ns mainGlobals mg → TabB base mg c Pa → FnOkG l.prog w K mg base k fa fd ["script"] (liftF K F)
theorem walkGT {l : PySem.W.OpenLaw} {k : Nat} {q : Program} {loose : List Str} {XP : (Str → Option Value) → Heap → Prop} {YP : World → Heap → Prop} {d : DefRec} {K : Params → PySem.W.Frag} (hn : l.most = some 63) (hdf : d.params.defaults = []) (hr : Room k callerA)
    (hY : ∀ (w : World) (h : Heap), YP w h → (K w.params).In h)
    (G : ∀ (w : World) (mg : Str → Option Value) (fa : Addr) (h : Heap), YP w h → (K w.params).In h → h.Ns mainGlobals mg → mg d.name = some (.ref fa) → ∃ F : AF, LawAtG l w (K w.params) k mg fa h F) : PySem.W.WalkO q loose XP YP l.row.toRowW d [] (fun f vs => PySem.call f vs) := by
  refine Att.attach_callB hn hdf fun w s0 s1 mg mb fa o pm cd doc a vs ns gr Y h1 h2 h3 hmg hobj hints hlen hbits hg => ?_
  have KX := hY w _ Y
  obtain ⟨F, c, Pa, fd, q, hT, nT, C, hb, st, hF⟩ := G w mg fa _ Y KX gr.T.g hmg
  exact law_goT KX gr.T.g gr.T.b gr.T.builtins gr.T.nolimit hg hT nT C gr.T.bmain hobj hints (Nat.le_trans hlen (by decide)) hr hF hb fun H hH hS => law_startT (q := q) (st ns hlen) hH hS
end M
/-! MRest: water at rest, in plain words: pools, the line under all heaps. -/
namespace M
section
variable {P H : Nat → Rat} {s n b c e m k : Nat}
/-- how steep the heaps are from b to e -/
def slope (P H : Nat → Rat) (b e : Nat) : Rat := (H e - H b) / (P e - P b)
theorem slope_mul (h : P b < P e) : slope P H b e * (P e - P b) = H e - H b := by
  unfold slope
  have : P e - P b ≠ 0 := by grind
  rw [Rat.div_def, Rat.mul_assoc, Rat.inv_mul_cancel _ this, Rat.mul_one]
theorem mul_mono {x y t : Rat} (h : x ≤ y) (ht : 0 ≤ t) : x * t ≤ y * t := Rat.mul_le_mul_of_nonneg_right h ht
/-- the heaps within b .. e are not below the straight line -/
def InPool (P H : Nat → Rat) (b e : Nat) : Prop := ∀ k, b ≤ k → k ≤ e → H b + slope P H b e * (P k - P b) ≤ H k
/-- between: a pool of two, the right one lower -/
theorem slope_mid (h1 : P b < P c) (h2 : P c < P e) (h : slope P H c e ≤ slope P H b c) : slope P H c e ≤ slope P H b e ∧ slope P H b e ≤ slope P H b c := by
  have e1 := slope_mul (H := H) h1
  have e2 := slope_mul (H := H) h2
  have e3 := slope_mul (H := H) (show P b < P e by grind)
  have u : 0 < P c - P b := by grind
  have v : 0 < P e - P c := by grind
  have w : 0 < P e - P b := by grind
  have q1 := mul_mono h (t := P c - P b) (by grind)
  have q2 := mul_mono h (t := P e - P c) (by grind)
  constructor
  · refine Rat.le_of_mul_le_mul_right (c := P e - P b) ?_ w
    grind
  · refine Rat.le_of_mul_le_mul_right (c := P e - P b) ?_ w
    grind
theorem InPool.merge (mono : ∀ i j, i ≤ j → j ≤ n → P i ≤ P j) (hn : e ≤ n) (h1 : P b < P c) (h2 : P c < P e) (hbc : b ≤ c) (hce : c ≤ e) (p1 : InPool P H b c) (p2 : InPool P H c e) (h : slope P H c e ≤ slope P H b c) : InPool P H b e := by
  obtain ⟨m1, m2⟩ := slope_mid h1 h2 h
  have e1 := slope_mul (H := H) h1
  have e2 := slope_mul (H := H) h2
  have e3 := slope_mul (H := H) (show P b < P e by grind)
  intro k hk1 hk2
  by_cases q : k ≤ c
  · have := p1 k hk1 q
    have t : 0 ≤ P k - P b := by have := mono b k hk1 (by omega); grind
    have := mul_mono m2 t
    grind
  · have := p2 k (by omega) hk2
    have t : 0 ≤ P e - P k := by have := mono k e hk2 hn; grind
    have := mul_mono m1 t
    grind
theorem InPool.one (h : P b < P (b + 1)) : InPool P H b (b + 1) := by
  intro k h1 h2
  have e1 := slope_mul (H := H) h
  have : k = b ∨ k = b + 1 := by omega
  rcases this with rfl | rfl
  · grind
  · grind
/-- pools from s on, the last one first, each at least as steep as the one before -/
inductive Stk (P H : Nat → Rat) (s : Nat) : Nat → List (Nat × Nat) → Prop where
  | nil : Stk P H s s []
  | cons {b e : Nat} {st : List (Nat × Nat)} (h : Stk P H s b st) (lt : b < e) (p : InPool P H b e) (up : ∀ q r, st = q :: r → slope P H q.1 q.2 ≤ slope P H b e) : Stk P H s e ((b, e) :: st)
theorem Stk.le {st : List (Nat × Nat)} (h : Stk P H s n st) : s ≤ n := by
  induction h with
  | nil => exact Nat.le_refl _
  | cons _ lt _ _ ih => omega
/-- a new pool is pushed: as long as the last one is higher both become one -/
def pushS (P H : Nat → Rat) : List (Nat × Nat) → Nat → Nat → List (Nat × Nat)
  | [], b, e => [(b, e)]
  | q :: st, b, e => if slope P H b e < slope P H q.1 q.2 then pushS P H st q.1 e else (b, e) :: q :: st
theorem Stk.push {N : Nat} (strict : ∀ i j, i < j → j ≤ N → P i < P j) : ∀ {st : List (Nat × Nat)} {b e : Nat}, Stk P H s b st → b < e → e ≤ N → InPool P H b e → Stk P H s e (pushS P H st b e)
  | [], b, e, h, lt, hN, p => by
    cases h
    exact .cons .nil lt p fun q r z => by cases z
  | q :: st, b, e, h, lt, hN, p => by
    unfold pushS
    cases h with
    | @cons b' _ _ h' lt' p' up' =>
      by_cases z : slope P H b e < slope P H b' b
      · rw [if_pos z]
        refine Stk.push strict h' (by omega) hN (InPool.merge (n := N) (fun i j h1 h2 => ?_) hN (strict _ _ lt' (by omega)) (strict _ _ lt hN) (by omega) (by omega) p' p (by grind))
        by_cases w : i = j
        · rw [w]; exact Rat.le_refl
        · have := strict i j (by omega) h2; grind
      · rw [if_neg z]
        refine .cons (.cons h' lt' p' up') lt p fun q r w => ?_
        cases w
        show slope P H b' b ≤ _
        grind
/-- every pool's line runs under all heaps -/
theorem Stk.under {N : Nat} (strict : ∀ i j, i < j → j ≤ N → P i < P j) {st : List (Nat × Nat)} (h : Stk P H s n st) (hN : n ≤ N) : ∀ q ∈ st, ∀ m, s ≤ m → m ≤ n → H q.1 + slope P H q.1 q.2 * (P m - P q.1) ≤ H m := by
  have mono : ∀ i j, i ≤ j → j ≤ N → P i ≤ P j := fun i j h1 h2 => by
    by_cases w : i = j
    · rw [w]; exact Rat.le_refl
    · have := strict i j (by omega) h2; grind
  induction h with
  | nil => intro q hq; cases hq
  | @cons b e st h lt p up ih =>
    have ih := ih (by omega)
    have slopes : ∀ q ∈ st, slope P H q.1 q.2 ≤ slope P H b e := by
      have go : ∀ {b : Nat} {st : List (Nat × Nat)} {x : Rat}, Stk P H s b st → (∀ q r, st = q :: r → slope P H q.1 q.2 ≤ x) → ∀ q ∈ st, slope P H q.1 q.2 ≤ x := by
        intro b st x h
        induction h generalizing x with
        | nil => intro _ q hq; cases hq
        | @cons b e st h lt p up ih =>
          intro hx q hq
          have h0 := hx (b, e) st rfl
          rcases List.mem_cons.mp hq with rfl | hq
          · exact h0
          · exact ih (fun q r z => Rat.le_trans (up q r z) h0) q hq
      exact go h up
    intro q hq m h1 h2
    rcases List.mem_cons.mp hq with rfl | hq
    · by_cases z : b ≤ m
      · exact p m z h2
      · cases h with
        | nil => omega
        | @cons b' _ st' h' lt' p' up' =>
          have i1 := ih (b', b) List.mem_cons_self m h1 (by omega)
          have i2 := slopes (b', b) List.mem_cons_self
          have e1 := slope_mul (H := H) (strict b' b lt' (by omega))
          have t : 0 ≤ P b - P m := by have := mono m b (by omega) (by omega); grind
          have := mul_mono i2 t
          dsimp only at *
          grind
    · by_cases z : m ≤ b
      · exact ih q hq m h1 z
      · have i1 := ih q hq b h.le (Nat.le_refl _)
        have i2 := slopes q hq
        have i3 := p m (by omega) h2
        have t : 0 ≤ P m - P b := by have := mono b m (by omega) (by omega); grind
        have := mul_mono i2 t
        grind
end
end M
/-! MRest2: chords; a fraction by a whole number. -/
namespace M
open PySem L2
section
variable {P H : Nat → Rat} {i j k : Nat} {σ a : Rat}
/-- the straight line over i and j, at k -/
def chord (P H : Nat → Rat) (i j k : Nat) : Rat := H i + slope P H i j * (P k - P i)
theorem chord_ge (hij : P i < P j) (h1 : P i ≤ P k) (h2 : P k ≤ P j) (l1 : a + σ * P i ≤ H i) (l2 : a + σ * P j ≤ H j) : a + σ * P k ≤ chord P H i j k := by
  have e := slope_mul (H := H) hij
  have u : 0 ≤ P k - P i := by grind
  have v : 0 ≤ P j - P k := by grind
  have w : 0 < P j - P i := by grind
  have q1 := mul_mono l1 v
  have q2 := mul_mono l2 u
  have e2 : slope P H i j * (P j - P i) * (P k - P i) = (H j - H i) * (P k - P i) := by rw [e]
  unfold chord
  refine Rat.le_of_mul_le_mul_right (c := P j - P i) ?_ w
  grind
end
theorem by_rat {x : Rat} {w : Int} (hw : 0 < w) : mkRat x.num ((x.den : Int) * w).toNat = x / (w : Rat) := by
  have hw0 : (w : Rat) ≠ 0 := by
    intro h
    have : (w : Rat) = ((0 : Int) : Rat) := by rw [h]; rfl
    have := Rat.intCast_inj.mp this
    omega
  have e : ((x.den : Int) * w).toNat = x.den * w.toNat := by
    have : w = ((w.toNat : Nat) : Int) := by omega
    conv => lhs; rw [this]
    rw [← Int.natCast_mul]; rfl
  have key : mkRat x.num (x.den * w.toNat) * (w : Rat) = x := by
    rw [show (w : Rat) = mkRat w 1 from (Rat.mkRat_one w).symm, Rat.mkRat_mul_mkRat, Nat.mul_one]
    have : w = ((w.toNat : Nat) : Int) := by omega
    conv => lhs; lhs; rw [this]
    rw [Rat.mkRat_mul_right (by omega), Rat.mkRat_self]
  rw [e, Rat.div_def]
  conv => rhs; rw [← key]
  rw [Rat.mul_assoc, Rat.mul_inv_cancel _ hw0, Rat.mul_one]
end M
/-! MEnv: the one rest, in plain words: what it is place by place, that it is one, and how it grows. -/
namespace M
/-- rises by floors never fall between a and b -/
def Shaped (P X : Nat → Rat) (a b : Nat) : Prop := ∀ k, a < k → k < b → slope P X (k - 1) k ≤ slope P X k (k + 1)
/-- places rise -/
def Strict (P : Nat → Rat) (n : Nat) : Prop := ∀ i j, i < j → j ≤ n → P i < P j
/-- from one cut to the next -/
structure Stretch (n : Nat) (B : Nat → Prop) (a b : Nat) : Prop where
  lo : B a
  hi : B b
  le : a ≤ b
  n : b ≤ n
  no : ∀ j, a < j → j < b → ¬ B j
/-- X is the rest of the heaps H over the places P, cut where B says -/
structure Rest (n : Nat) (P H X : Nat → Rat) (B : Nat → Prop) : Prop where
  le : ∀ k, k ≤ n → X k ≤ H k
  cut : ∀ k, k ≤ n → B k → X k = H k
  up : ∀ k, 0 < k → k < n → ¬ B k → slope P X (k - 1) k ≤ slope P X k (k + 1)
  eq : ∀ k, 0 < k → k < n → ¬ B k → X k < H k → slope P X (k - 1) k = slope P X k (k + 1)
section
variable {P H H' X X' Y Z : Nat → Rat} {B B' : Nat → Prop} {a b i j k m n : Nat} {σ c : Rat}
theorem Strict.mono (h : Strict P n) (hij : i ≤ j) (hj : j ≤ n) : P i ≤ P j := by
  by_cases w : i = j
  · rw [w]; exact Rat.le_refl
  · have := h i j (by omega) hj; grind
theorem Strict.to (h : Strict P n) (hm : m ≤ n) : Strict P m := fun i j h1 h2 => h i j h1 (Nat.le_trans h2 hm)
/-- a step up by the slope -/
theorem slope_step (h : P k < P (k + 1)) : X (k + 1) = X k + slope P X k (k + 1) * (P (k + 1) - P k) := by
  have := slope_mul (H := X) h
  grind
theorem Shaped.le_slope (s : Strict P n) (hb : b ≤ n) (h : Shaped P X a b) : ∀ d i, a ≤ i → i + d < b → slope P X i (i + 1) ≤ slope P X (i + d) (i + d + 1) := by
  intro d
  induction d with
  | zero => intro i _ _; exact Rat.le_refl
  | succ d ih =>
    intro i h1 h2
    have e1 := ih i h1 (by omega)
    have e2 := h (i + (d + 1)) (by omega) h2
    rw [show i + (d + 1) - 1 = i + d by omega] at e2
    rw [show i + d + 1 = i + (d + 1) by omega] at e1
    exact Rat.le_trans e1 e2
theorem Shaped.right (s : Strict P n) (hb : b ≤ n) (h : Shaped P X a b) (ha : a ≤ k) (hk : k < b) : ∀ d, k + d ≤ b → X k + slope P X k (k + 1) * (P (k + d) - P k) ≤ X (k + d) := by
  intro d
  induction d with
  | zero => intro _; show X k + _ * (P k - P k) ≤ X k; grind
  | succ d ih =>
    intro hd
    have e1 := ih (by omega)
    have lt := s (k + d) (k + d + 1) (Nat.lt_succ_self _) (by omega)
    have e2 := slope_step (X := X) lt
    have e3 := h.le_slope s hb d k ha (by omega)
    have e4 := mul_mono e3 (t := P (k + d + 1) - P (k + d)) (by grind)
    show X k + _ * (P (k + d + 1) - P k) ≤ X (k + d + 1)
    grind
theorem Shaped.left (s : Strict P n) (hb : b ≤ n) (h : Shaped P X a b) (hk : k < b) : ∀ d, a + d ≤ k → X k - slope P X k (k + 1) * (P k - P (k - d)) ≤ X (k - d) := by
  intro d
  induction d with
  | zero => intro _; show X k - _ * (P k - P k) ≤ X k; grind
  | succ d ih =>
    intro hd
    have e1 := ih (by omega)
    obtain ⟨q, hq⟩ : ∃ q, k - d = q + 1 := ⟨k - d - 1, by omega⟩
    have hq2 : k - (d + 1) = q := by omega
    rw [hq] at e1
    rw [hq2]
    have lt := s q (q + 1) (Nat.lt_succ_self _) (by omega)
    have e2 := slope_step (X := X) lt
    have e3 := h.le_slope s hb (k - q) q (by omega) (by omega)
    rw [show q + (k - q) = k by omega] at e3
    have e4 := mul_mono e3 (t := P (q + 1) - P q) (by grind)
    grind
/-- a line under all, through one place -/
theorem Shaped.support (s : Strict P n) (hb : b ≤ n) (h : Shaped P X a b) (ha : a ≤ k) (hk : k ≤ b) : ∃ σ : Rat, ∀ m, a ≤ m → m ≤ b → X k + σ * (P m - P k) ≤ X m := by
  have core : ∀ k, a ≤ k → k < b → ∀ m, a ≤ m → m ≤ b → X k + slope P X k (k + 1) * (P m - P k) ≤ X m := fun k ha hk m h1 h2 => by
    by_cases w : k ≤ m
    · have := h.right s hb ha hk (m - k) (by omega)
      rwa [show k + (m - k) = m by omega] at this
    · have := h.left s hb hk (k - m) (by omega)
      rw [show k - (k - m) = m by omega] at this
      grind
  by_cases q : k < b
  · exact ⟨_, core k ha q⟩
  · have e : k = b := by omega
    subst e
    by_cases w : a = k
    · refine ⟨0, fun m h1 h2 => ?_⟩
      have : m = k := by omega
      rw [this]; grind
    · obtain ⟨p, rfl⟩ : ∃ p, k = p + 1 := ⟨k - 1, by omega⟩
      have e1 := core p (by omega) (by omega)
      have lt := s p (p + 1) (Nat.lt_succ_self _) hb
      have e2 := slope_step (X := X) lt
      refine ⟨slope P X p (p + 1), fun m h1 h2 => ?_⟩
      have := e1 m h1 h2
      grind
theorem Shaped.le_chord (s : Strict P n) (hb : b ≤ n) (h : Shaped P X a b) (h1 : a ≤ i) (h2 : i ≤ k) (h3 : k ≤ j) (h4 : j ≤ b) (hij : i < j) : X k ≤ chord P X i j k := by
  obtain ⟨σ, hσ⟩ := h.support s hb (k := k) (by omega) (by omega)
  have e1 := hσ i h1 (by omega)
  have e2 := hσ j (by omega) h4
  have := chord_ge (P := P) (H := X) (i := i) (j := j) (k := k) (σ := σ) (a := X k - σ * P k) (s i j hij (by omega)) (s.mono h2 (by omega)) (s.mono h3 (by omega)) (by grind) (by grind)
  grind
/-- higher ends, a higher line -/
theorem chord_mono (s : Strict P n) (hj : j ≤ n) (hij : i < j) (h1 : i ≤ k) (h2 : k ≤ j) (l1 : X i ≤ Y i) (l2 : X j ≤ Y j) : chord P X i j k ≤ chord P Y i j k := by
  have lt := s i j hij hj
  have e := slope_mul (H := X) lt
  have h := chord_ge (H := Y) lt (s.mono h1 (by omega)) (s.mono h2 hj) (σ := slope P X i j) (a := X i - slope P X i j * P i) (by grind) (by grind)
  have h2 : chord P X i j k = X i - slope P X i j * P i + slope P X i j * P k := by unfold chord; grind
  rw [h2]; exact h
theorem chord_le (s : Strict P n) (hb : b ≤ n) (h : Shaped P Y a b) (l : ∀ m, a ≤ m → m ≤ b → Y m ≤ H m) (h1 : a ≤ i) (h2 : i ≤ k) (h3 : k ≤ j) (h4 : j ≤ b) (hij : i < j) : Y k ≤ chord P H i j k :=
  Rat.le_trans (h.le_chord s hb h1 h2 h3 h4 hij) (chord_mono s (by omega) hij h2 h3 (l i h1 (by omega)) (l j (by omega) h4))
theorem Rest.shaped (r : Rest n P H X B) (t : Stretch n B a b) : Shaped P X a b := fun k h1 h2 => r.up k (by omega) (by have := t.n; omega) (t.no k h1 h2)
/-- straight where nothing touches -/
theorem straight (s : Strict P n) (hj : j ≤ n) (h : ∀ m, i < m → m < j → slope P X (m - 1) m = slope P X m (m + 1)) : ∀ d, i + d < j → slope P X (i + d) (i + d + 1) = slope P X i (i + 1) ∧ X (i + d + 1) = X i + slope P X i (i + 1) * (P (i + d + 1) - P i) := by
  intro d
  induction d with
  | zero => intro hd; exact ⟨rfl, slope_step (s i (i + 1) (Nat.lt_succ_self _) (by omega))⟩
  | succ d ih =>
    intro hd
    obtain ⟨e1, e2⟩ := ih (by omega)
    have e3 := h (i + d + 1) (by omega) hd
    rw [show i + d + 1 - 1 = i + d by omega, e1] at e3
    have e4 := slope_step (X := X) (s (i + d + 1) (i + d + 1 + 1) (Nat.lt_succ_self _) (by omega))
    refine ⟨e3.symm, ?_⟩
    show X (i + d + 1 + 1) = X i + _ * (P (i + d + 1 + 1) - P i)
    rw [← e3] at e4
    grind
theorem straight_chord (s : Strict P n) (hj : j ≤ n) (hij : i < j) (h : ∀ m, i < m → m < j → slope P X (m - 1) m = slope P X m (m + 1)) (h1 : i ≤ k) (h2 : k ≤ j) : X k = chord P X i j k := by
  have at_ : ∀ m, i ≤ m → m ≤ j → X m = X i + slope P X i (i + 1) * (P m - P i) := fun m h1 h2 => by
    by_cases w : m = i
    · rw [w]; grind
    · have := (straight s hj h (m - i - 1) (by omega)).2
      rwa [show i + (m - i - 1) + 1 = m by omega] at this
  have e1 := at_ j (by omega) (Nat.le_refl _)
  have e2 := at_ k h1 h2
  have lt := s i j hij hj
  have e3 := slope_mul (H := X) lt
  have e4 : slope P X i j = slope P X i (i + 1) := by
    have : (slope P X i j - slope P X i (i + 1)) * (P j - P i) = 0 := by grind
    have h0 : P j - P i ≠ 0 := by grind
    rcases Rat.mul_eq_zero.mp this with q | q
    · grind
    · exact absurd q h0
  unfold chord
  rw [e4, e2]
/-- the nearest places at which both are alike -/
theorem contact_lo {T : Nat → Prop} (ha : T a) : ∀ k, a ≤ k → ∃ i, a ≤ i ∧ i ≤ k ∧ T i ∧ ∀ m, i < m → m ≤ k → ¬ T m := by
  intro k
  induction k with
  | zero => intro h; exact ⟨a, Nat.le_refl _, h, ha, fun m h1 h2 => by omega⟩
  | succ k ih =>
    intro h
    by_cases w : T (k + 1)
    · exact ⟨k + 1, h, Nat.le_refl _, w, fun m h1 h2 => by omega⟩
    · by_cases q : a = k + 1
      · rw [q] at ha; exact absurd ha w
      · obtain ⟨i, h1, h2, h3, h4⟩ := ih (by omega)
        refine ⟨i, h1, by omega, h3, fun m m1 m2 => ?_⟩
        by_cases z : m = k + 1
        · rw [z]; exact w
        · exact h4 m m1 (by omega)
theorem contact_hi {T : Nat → Prop} (hb : T b) : ∀ d k, k + d = b → ∃ j, k ≤ j ∧ j ≤ b ∧ T j ∧ ∀ m, k ≤ m → m < j → ¬ T m := by
  intro d
  induction d with
  | zero => intro k h; exact ⟨b, by omega, Nat.le_refl _, hb, fun m h1 h2 => by omega⟩
  | succ d ih =>
    intro k h
    by_cases w : T k
    · exact ⟨k, Nat.le_refl _, by omega, w, fun m h1 h2 => by omega⟩
    · obtain ⟨j, h1, h2, h3, h4⟩ := ih (k + 1) (by omega)
      refine ⟨j, by omega, h2, h3, fun m m1 m2 => ?_⟩
      by_cases z : m = k
      · rw [z]; exact w
      · exact h4 m (by omega) m2
/-- at each place the rest is a straight line between two places where it touches the heaps -/
theorem Rest.line (s : Strict P n) (r : Rest n P H X B) (t : Stretch n B a b) (h1 : a ≤ k) (h2 : k ≤ b) :
    ∃ i j, a ≤ i ∧ i ≤ k ∧ k ≤ j ∧ j ≤ b ∧ X i = H i ∧ X j = H j ∧ ((i = k ∧ j = k) ∨ (i < k ∧ k < j ∧ X k = chord P H i j k ∧ X k = chord P X i j k)) := by
  have ta := r.cut a (by have := t.n; omega) t.lo
  have tb := r.cut b t.n t.hi
  obtain ⟨i, i1, i2, i3, i4⟩ := contact_lo (T := fun m => X m = H m) ta k h1
  obtain ⟨j, j1, j2, j3, j4⟩ := contact_hi (T := fun m => X m = H m) tb (b - k) k (by omega)
  refine ⟨i, j, i1, i2, j1, j2, i3, j3, ?_⟩
  by_cases w : X k = H k
  · left
    constructor
    · by_cases z : i = k
      · exact z
      · exact absurd w (i4 k (by omega) (Nat.le_refl _))
    · by_cases z : j = k
      · exact z
      · exact absurd w (j4 k (Nat.le_refl _) (by omega))
  · right
    have hik : i < k := by
      by_cases z : i = k
      · rw [z] at i3; exact absurd i3 w
      · omega
    have hkj : k < j := by
      by_cases z : j = k
      · rw [z] at j3; exact absurd j3 w
      · omega
    have := straight_chord (X := X) (k := k) s (by have := t.n; omega) (show i < j by omega) (fun m m1 m2 => by
      have hn : ¬ B m := t.no m (by omega) (by omega)
      have hm : X m ≠ H m := by
        by_cases z : m ≤ k
        · exact i4 m m1 z
        · exact j4 m (by omega) m2
      have := r.le m (by have := t.n; omega)
      exact r.eq m (by omega) (by have := t.n; omega) hn (by grind)) i2 j1
    refine ⟨hik, hkj, ?_, this⟩
    rw [this]
    unfold chord slope
    rw [i3, j3]
/-- what is shaped and not above the heaps is not above the rest -/
theorem Rest.greatest (s : Strict P n) (r : Rest n P H X B) (t : Stretch n B a b) (hY : Shaped P Y a b) (l : ∀ m, a ≤ m → m ≤ b → Y m ≤ H m) (h1 : a ≤ k) (h2 : k ≤ b) : Y k ≤ X k := by
  obtain ⟨i, j, i1, i2, j1, j2, e1, e2, h⟩ := r.line s t h1 h2
  rcases h with ⟨rfl, rfl⟩ | ⟨q1, q2, e, _⟩
  · rw [e1]; exact l _ h1 h2
  · rw [e]
    exact chord_le s t.n hY l i1 i2 j1 j2 (by omega)
theorem Rest.le_chord (s : Strict P n) (r : Rest n P H X B) (t : Stretch n B a b) (h1 : a ≤ i) (h2 : i ≤ k) (h3 : k ≤ j) (h4 : j ≤ b) (hij : i < j) : X k ≤ chord P H i j k :=
  chord_le s t.n (r.shaped t) (fun m m1 m2 => r.le m (by have := t.n; omega)) h1 h2 h3 h4 hij
/-- each place lies in a stretch -/
theorem stretch_of (h0 : B 0) (hn : B n) (hk : k ≤ n) : ∃ a b, Stretch n B a b ∧ a ≤ k ∧ k ≤ b ∧ ((a = k ∧ b = k) ∨ (a < k ∧ k < b)) := by
  obtain ⟨i, i1, i2, i3, i4⟩ := contact_lo h0 k (Nat.zero_le _)
  obtain ⟨j, j1, j2, j3, j4⟩ := contact_hi hn (n - k) k (by omega)
  refine ⟨i, j, ⟨i3, j3, by omega, j2, fun m m1 m2 => ?_⟩, i2, j1, ?_⟩
  · by_cases z : m ≤ k
    · exact i4 m m1 z
    · exact j4 m (by omega) m2
  · by_cases w : B k
    · left
      constructor
      · by_cases z : i = k
        · exact z
        · exact absurd w (i4 k (by omega) (Nat.le_refl _))
      · by_cases z : j = k
        · exact z
        · exact absurd w (j4 k (Nat.le_refl _) (by omega))
    · right
      constructor
      · by_cases z : i = k
        · rw [z] at i3; exact absurd i3 w
        · omega
      · by_cases z : j = k
        · rw [z] at j3; exact absurd j3 w
        · omega
/-- shaped in each stretch -/
def Shapes (n : Nat) (P X : Nat → Rat) (B : Nat → Prop) : Prop := ∀ k, 0 < k → k < n → ¬ B k → slope P X (k - 1) k ≤ slope P X k (k + 1)
theorem Shapes.on (h : Shapes n P X B) (t : Stretch n B a b) : Shaped P X a b := fun k h1 h2 => h k (by omega) (by have := t.n; omega) (t.no k h1 h2)
/-- the rest is the greatest of all that are shaped and nowhere above -/
theorem Rest.max (s : Strict P n) (h0 : B 0) (hn : B n) (r : Rest n P H X B) (hY : Shapes n P Y B) (l : ∀ m, m ≤ n → Y m ≤ H m) (hk : k ≤ n) : Y k ≤ X k := by
  obtain ⟨a, b, t, h1, h2, _⟩ := stretch_of h0 hn hk
  exact r.greatest s t (hY.on t) (fun m _ m2 => l m (Nat.le_trans m2 t.n)) h1 h2
/-- more water, more bolts: no less -/
theorem Rest.mono (s : Strict P n) (h0 : B 0) (hn : B n) (r : Rest n P H X B) (r' : Rest n P H' X' B') (hB : ∀ k, B k → B' k) (hH : ∀ k, k ≤ n → H k ≤ H' k) (hk : k ≤ n) : X k ≤ X' k :=
  r'.max s (hB 0 h0) (hB n hn) (fun m m1 m2 hm => r.up m m1 m2 fun z => hm (hB m z)) (fun m hm => Rat.le_trans (r.le m hm) (hH m hm)) hk
theorem Rest.one (s : Strict P n) (h0 : B 0) (hn : B n) (r : Rest n P H X B) (r' : Rest n P H X' B) (hk : k ≤ n) : X k = X' k :=
  Rat.le_antisymm (r.mono s h0 hn r' (fun _ h => h) (fun _ _ => Rat.le_refl) hk) (r'.mono s h0 hn r (fun _ h => h) (fun _ _ => Rat.le_refl) hk)
theorem slope_add : slope P (fun k => X k + Y k) i j = slope P X i j + slope P Y i j := by
  unfold slope
  rw [Rat.div_def, Rat.div_def, Rat.div_def]
  grind
theorem slope_scale : slope P (fun k => c * X k) i j = c * slope P X i j := by
  unfold slope
  rw [Rat.div_def, Rat.div_def]
  grind
theorem Shapes.add (h : Shapes n P X B) (g : Shapes n P Y B) : Shapes n P (fun k => X k + Y k) B := fun k h1 h2 h3 => by
  rw [slope_add, slope_add]
  have := h k h1 h2 h3
  have := g k h1 h2 h3
  grind
theorem Rest.shapes (r : Rest n P H X B) : Shapes n P X B := r.up
/-- both together: no less -/
theorem Rest.super (s : Strict P n) (h0 : B 0) (hn : B n) (r : Rest n P H X B) (r' : Rest n P H' X' B) (q : Rest n P (fun k => H k + H' k) Y B) (hk : k ≤ n) : X k + X' k ≤ Y k :=
  q.max (Y := fun k => X k + X' k) s h0 hn (r.shapes.add r'.shapes) (fun m hm => by have := r.le m hm; have := r'.le m hm; grind) hk
theorem Rest.scale (hc : 0 ≤ c) (r : Rest n P H X B) : Rest n P (fun k => c * H k) (fun k => c * X k) B := by
  refine ⟨fun k hk => ?_, fun k hk hB => ?_, fun k h1 h2 h3 => ?_, fun k h1 h2 h3 h4 => ?_⟩
  · exact Rat.mul_le_mul_of_nonneg_left (r.le k hk) hc
  · show c * X k = c * H k
    rw [r.cut k hk hB]
  · rw [slope_scale, slope_scale]
    exact Rat.mul_le_mul_of_nonneg_left (r.up k h1 h2 h3) hc
  · rw [slope_scale, slope_scale]
    by_cases z : X k < H k
    · rw [r.eq k h1 h2 h3 z]
    · have := r.le k (by omega)
      have e : X k = H k := by grind
      rw [e] at h4
      grind
/-- at rest already -/
theorem Rest.self (h : Shapes n P H B) : Rest n P H H B := ⟨fun _ _ => Rat.le_refl, fun _ _ _ => rfl, h, fun k _ _ _ h4 => absurd h4 (by grind)⟩
/-- the same by the same heaps -/
theorem Rest.congr (r : Rest n P H X B) (hH : ∀ k, k ≤ n → H k = H' k) (hX : ∀ k, k ≤ n → X k = X' k) (hB : ∀ k, k ≤ n → (B k ↔ B' k)) : Rest n P H' X' B' := by
  have sl : ∀ i j, i ≤ n → j ≤ n → slope P X i j = slope P X' i j := fun i j h1 h2 => by unfold slope; rw [hX i h1, hX j h2]
  refine ⟨fun k hk => ?_, fun k hk hb => ?_, fun k h1 h2 h3 => ?_, fun k h1 h2 h3 h4 => ?_⟩
  · rw [← hH k hk, ← hX k hk]; exact r.le k hk
  · rw [← hH k hk, ← hX k hk]; exact r.cut k hk ((hB k hk).mpr hb)
  · rw [← sl _ _ (by omega) (by omega), ← sl _ _ (by omega) (by omega)]; exact r.up k h1 h2 fun z => h3 ((hB k (by omega)).mp z)
  · rw [← sl _ _ (by omega) (by omega), ← sl _ _ (by omega) (by omega)]
    rw [← hH k (by omega), ← hX k (by omega)] at h4
    exact r.eq k h1 h2 (fun z => h3 ((hB k (by omega)).mp z)) h4
end
end M
/-! MIns: xs.insert(i, y). -/
namespace M
open PySem L2
def mInsert : AM := fun d es M k => match es with
  | [.int i, x] => wrL d M fun a ds => ds.length < sizeLine ∧ (0 ≤ i ∧ i < 2 ^ 63) ∧ k .non (up M a (.obj (.lst (ds.take i.toNat ++ [x] ++ ds.drop i.toNat))))
  | _ => False
abbrev rInsert : V → List V → Hp → VK → Prop := fun x vs H Q => ∃ (l : Addr) (xs : List V) (i : Int) (y : V), x = .ref l ∧ vs = [.int i, y] ∧ H l = some (.lst xs) ∧ xs.length < sizeLine ∧ 0 ≤ i ∧ i < 2 ^ 63 ∧ Q .non (L2.upd H l (.lst (xs.take i.toNat ++ [y] ++ xs.drop i.toNat)))
theorem mInsert_ok {K : PySem.W.Frag} : OkM K rInsert mInsert := by
  intro d es M k v vs H I F Q h c r rs hk
  unfold mInsert at h
  split at h
  · rename_i i x
    obtain ⟨w, w', rfl, r1, r2⟩ := rels2 rs
    rw [Rel] at r1; subst r1
    obtain ⟨a, ds, ws, rfl, hM, hH, hr, hl, ⟨b1, b2⟩, q⟩ := wrL_ok h c r
    exact ⟨a, ws, i, w', rfl, rfl, hH, by rw [← hr.length]; exact hl, b1, b2, hk _ _ _ _ _ q (Le.refl I) (c.set hM ⟨_, upd_same, ((hr.take _).append (.one r2)).append (hr.drop _)⟩) (by rw [Rel])⟩
  · exact h.elim
theorem e_insert {X : Cx} {o e : Expr} {es : List Expr} {f : AE} {g : AA} {apos cpos : Pos} (ho : PE X o (lift X.K f)) (ha : PA X (e :: es) (liftA X.K g)) (hbase : attributeBase o "insert" X.env (eval o X.env) = eval o X.env := by rfl)
    (hfew : ((backTo cpos (starEach (e :: es) X.env)).all (fun x => !x.1) && (backToKw cpos (keywordEach [] X.env)).all (fun x => x.1.isSome)
      && decide ((e :: es).length + ([] : List Keyword).length + (if ([] : List Keyword).isEmpty then 0 else 1) < 30)) = true := by rfl)
    (hline : (apos.endLine == cpos.line) = true := by rfl) (hs : starEach (e :: es) X.env = (false, eval e X.env) :: starEach es X.env := by rfl) (hplain : (backTo cpos (starEach es X.env)).any (·.1) = false := by rfl) :
    PE X (.Call (.Attribute o "insert" apos) (e :: es) [] cpos) (lift X.K (aMt mInsert f g)) := (pe_bm PySem.F.plainAttrs_list PySem.F.slot_list_insert PySem.F.type_list_insert mt_insert ho ha hbase hfew hline hs hplain).imp (lift_Mt mInsert_ok)
theorem iInsert {M : MH} {a : Addr} {ds : List D} {i : Int} {d : D} {k : AK} (h : k .non (up M a (.obj (.lst (ds.take i.toNat ++ [d] ++ ds.drop i.toNat))))) (q : M a = some (.obj (.lst ds))) (l : ds.length < sizeLine) (b : 0 ≤ i ∧ i < 2 ^ 63) : mInsert (.ref a) [.int i, d] M k := by
  show match M a with | some (.obj (.lst ds)) => ds.length < sizeLine ∧ (0 ≤ i ∧ i < 2 ^ 63) ∧ k .non (up M a (.obj (.lst (ds.take i.toNat ++ [d] ++ ds.drop i.toNat)))) | _ => False
  rw [q]; exact ⟨l, b, h⟩
end M
local macro_rules | `(tactic| walk_at "st") => `(tactic| simp only [M.startG, List.map_cons, List.map_nil, List.length_cons, List.length_nil, List.replicate, List.cons_append, List.nil_append, List.append_nil, Nat.reduceSub, Nat.reduceAdd, Nat.zero_add])
local macro_rules | `(tactic| walk_at "mul") => `(tactic| first | assumption | exact M.Sm.mnd (by assumption) (by assumption) | exact M.Sm.mdd (by assumption) (by assumption) | exact M.Sm.mnn (by assumption) (by assumption) | exact M.mul_okL (by omega) (by omega) | exact M.mul_okR (by omega) (by omega))
local macro_rules | `(tactic| walk_at "pow") => `(tactic| first | assumption | (unfold L2.CPow; exact ⟨by decide, by decide, by decide⟩) | (unfold L2.CPow; exact ⟨by omega, by omega, by omega⟩))
local macro_rules | `(tactic| walk_at "sx") => `(tactic| first | assumption | exact M.ix_c0 | exact M.ix_c1 | exact M.ix_c2 | exact M.ix_c3 | (unfold L2.ixN; simp; done) | (unfold L2.ixN; simp; omega))
local macro_rules | `(tactic| walk_at "ty") => `(tactic| first | assumption | exact M.ty_bl | exact M.ty_int | exact M.ty_str | exact M.ty_tup | exact M.ty_lst | exact M.ty_non)
local macro_rules | `(tactic| walk_at "kb") => `(tactic| first | assumption | exact M.kb_tuple_bool | exact M.kb_tuple_int | exact M.kb_tuple_str | exact M.kb_tuple_list | exact M.kb_tuple_tuple | exact M.kb_list_bool | exact M.kb_list_int | exact M.kb_list_str | exact M.kb_list_list | exact M.kb_list_tuple)
local macro_rules | `(tactic| walk_at "sz") => `(tactic| first | assumption | ((rw [PySem.sizeLine_eq]; try simp only [List.length_cons, List.length_nil, List.length_append, List.length_map, List.length_singleton]) <;> omega))
local macro_rules | `(tactic| walk_at "at") => `(tactic| first | assumption | exact M.up_same | (rw [M.up_ne (by first | assumption | (apply Ne.symm; assumption))]; walk_at "at"))
local macro_rules | `(tactic| walk_at "fl") => `(tactic| first | assumption | exact M.hF_a | exact M.hF_b | exact M.hF_c)
local macro_rules | `(tactic| walk_at "ins") => `(tactic| first | assumption | exact M.hBox_ins)
local macro_rules | `(tactic| walk_at "ix") => `(tactic| first | assumption | with_reducible exact L2.atI_last _ _)
local macro_rules | `(tactic| walk_at "eq") => `(tactic| simp only [↓M.eSeq, ↓M.eNext, ↓M.eDrop, ↓M.eRet, ↓M.eRetN, ↓M.eIfS, ↓M.eSet, ↓M.ePar, ↓M.ePar2, ↓M.eAsg, ↓M.eVar0, ↓M.eVar1, ↓M.eVar2, ↓M.eVar3, ↓M.eVar4, ↓M.eVar5, ↓M.eVar6, ↓M.eVar7, ↓M.eVar8, ↓M.eVar9, ↓M.eVar10, ↓M.eVar11, ↓M.eVar12, ↓M.eVar13, ↓M.eVar14, ↓M.eVar15, ↓M.eVar16, ↓M.eVar17, ↓M.eVar18, ↓M.eVar19, ↓M.eVar20, ↓M.eVar21, ↓M.eVar22, ↓M.eVar23, ↓M.eVar24, ↓M.eVar25, ↓M.eC, ↓M.eOp, ↓M.eAddI, ↓M.eSub, ↓M.eLt, ↓M.eLe, ↓M.eGt, ↓M.eGe, ↓M.eEqI, ↓M.eNeI, ↓M.eEqS, ↓M.eNeS, ↓M.eIsN, ↓M.eNotN, ↓M.eNeg, ↓M.eNeg1, ↓M.eB, ↓M.eB1, ↓M.eAnd, ↓M.eOr, ↓M.eNot, ↓M.eAndV, ↓M.eAndV1, ↓M.eOrV, ↓M.eOrV1, ↓M.eNotV, ↓M.eNotV1, ↓M.eIf, ↓M.eNil, ↓M.eCons, ↓M.eTup, ↓M.eLst, ↓M.eNlF, ↓M.eNlT, ↓M.eCB, ↓M.eCall, ↓M.eCallK, ↓M.eNoPart, ↓M.ePart, ↓M.ePart1, ↓M.eCut, ↓M.eCutL, ↓M.eCutSc, ↓M.eLenT, ↓M.eLenL, ↓M.eLenSc, ↓M.eAbs, ↓M.eMax2, ↓M.eMin2, ↓M.eSumL, ↓M.eListL, ↓M.eListT, ↓M.eMt, ↓M.eMt0, ↓M.eFrz, ↓M.eFrzL, ↓M.eFld, ↓M.eSFld, ↓M.eMeth, ↓M.eMake, ↓M.eMakeK, ↓M.eGNm, ↓M.eGTu, ↓M.eGCo, ↓M.eGNi, ↓M.eGIx, ↓M.eChain, ↓M.eCh1, ↓M.eCh2, ↓M.eInL, ↓M.eNotInL, ↓M.eFor, ↓M.eWL, ↓M.eWLL, ↓M.eWLS, ↓M.eR1, ↓M.eR1i, ↓M.eR2, ↓M.eR2i, ↓M.eEn, ↓M.eEnL, ↓M.eEnS, ↓M.eZp, ↓M.eZpL, ↓M.eWT, ↓M.eWT1, ↓M.eWS, ↓M.eWS1, ↓M.eLc, ↓M.eYes, ↓M.eIxT, ↓M.eIxL, ↓M.eIxSc, ↓M.eIx1, ↓M.eIteT, ↓M.eIteF, ↓M.eIsi_non_bool, ↓M.eIsi_non_int, ↓M.eIsi_non_str, ↓M.eIsi_non_list, ↓M.eIsi_non_tuple, ↓M.eIsi_non_dict, ↓M.eIsi_bl_bool, ↓M.eIsi_bl_int, ↓M.eIsi_bl_str, ↓M.eIsi_bl_list, ↓M.eIsi_bl_tuple, ↓M.eIsi_bl_dict, ↓M.eIsi_int_bool, ↓M.eIsi_int_int, ↓M.eIsi_int_str, ↓M.eIsi_int_list, ↓M.eIsi_int_tuple, ↓M.eIsi_int_dict, ↓M.eIsi_str_bool, ↓M.eIsi_str_int, ↓M.eIsi_str_str, ↓M.eIsi_str_list, ↓M.eIsi_str_tuple, ↓M.eIsi_str_dict, ↓M.eIsi_tup_bool, ↓M.eIsi_tup_int, ↓M.eIsi_tup_str, ↓M.eIsi_tup_list, ↓M.eIsi_tup_tuple, ↓M.eIsi_tup_dict, ↓M.eIsi_lst_bool, ↓M.eIsi_lst_int, ↓M.eIsi_lst_str, ↓M.eIsi_lst_list, ↓M.eIsi_lst_tuple, ↓M.eIsi_lst_dict, ↓M.eLZ, ↓M.eLRg1, ↓M.eLRg1i, ↓M.eLRg2, ↓M.eLRg2i, ↓M.eM1, ↓M.eM1s, ↓M.eFmt, ↓M.eFmtS, ↓M.eFmtI, ↓M.eJs0, ↓M.eJs, ↓M.eJs1, ↓M.eRepS, M.isNon_non, M.isNon_bl, M.isNon_int, M.isNon_str, M.isNon_tup, M.isNon_lst, M.isNon_ref, M.not_t, M.not_f, M.dec_t, M.dec_f, Int.reducePow, Int.reduceToNat, Int.reduceSub, Int.reduceAdd, Int.reduceMul, Int.reduceNeg, M.atI_c0, M.atI_c1, M.atI_c2, M.atI_c3, M.atI_c4, List.set_cons_zero, List.set_cons_succ, List.append_nil, List.cons_append, List.nil_append])
local macro_rules | `(tactic| walk_at "e1") => `(tactic| first
  | (with_reducible apply M.iPow; rotate_left; (walk_at "pow")) | (with_reducible apply M.iMul; rotate_left; (walk_at "mul")) | (with_reducible apply M.iMod; rotate_left; (first | assumption | omega)) | (with_reducible apply M.iFdiv; rotate_left; (first | assumption | exact M.cdivS (by omega) (by omega)))
  | ((with_reducible apply And.intro); (with_reducible show _ ≤ PySem.sizeLine); (walk_at "sz")) | ((with_reducible apply And.intro); (exact (rfl : (_ : Nat) = _)))
  | (with_reducible apply M.iKFld; rotate_left; (walk_at "at"); (walk_at "fl")) | (with_reducible apply M.iKMeth; rotate_left; (walk_at "at"); (walk_at "ins")) | (with_reducible apply M.iIxL; rotate_left; (walk_at "ix")) | (with_reducible apply M.iIxRk; rotate_left; (walk_at "at")) | (with_reducible apply M.iStIx; rotate_left; (walk_at "at"); (walk_at "sx")) | (with_reducible apply M.iKIx; rotate_left; (walk_at "ix"))
  | (with_reducible apply M.iKMt; rotate_left; (walk_at "at")) | (with_reducible apply M.iKMt0; rotate_left; (walk_at "at")) | (with_reducible apply M.iAppend; rotate_left; (walk_at "at"); (walk_at "sz")) | (with_reducible apply M.iExtendL; rotate_left; (walk_at "at"); (walk_at "sz"))
  | (with_reducible apply M.iReverse; rotate_left; (walk_at "at")) | (with_reducible apply M.iClear; rotate_left; (walk_at "at")) | (with_reducible apply M.iLenR; rotate_left; (walk_at "at")) | (with_reducible apply M.iLenS; rotate_left; (walk_at "sz"))
  | (with_reducible apply M.iListR; rotate_left; (walk_at "at")) | (with_reducible apply M.iIsi; rotate_left; (assumption); (walk_at "kb")) | (with_reducible apply M.iEqBs) | ((with_reducible apply M.iAug); rotate_left; exact rfl) | (with_reducible apply M.iAgI) | (with_reducible apply M.iLzG; rotate_left; (assumption); (assumption)) | (with_reducible apply M.iStr; rotate_left; (assumption)) | (with_reducible apply M.iAll; rotate_left; (assumption)) | (with_reducible apply M.iAny; rotate_left; (assumption)) | (with_reducible apply M.iInt; rotate_left; (assumption); (assumption)) | (with_reducible apply M.iPart'; rotate_left; (assumption); (assumption)) | (with_reducible apply M.iCutS; rotate_left; (walk_at "sz")) | (with_reducible apply M.iKFrz; rotate_left; (walk_at "at")) | (with_reducible apply M.iCutR; rotate_left; (walk_at "at"))
  | (with_reducible apply M.iLenG; rotate_left; (assumption)) | (with_reducible apply M.iWLG; rotate_left; (assumption)) | (with_reducible apply M.iEnG; rotate_left; (assumption)) | (with_reducible apply M.iZpG; rotate_left; (assumption); (assumption)) | (with_reducible apply M.iIxG; rotate_left; (assumption); (walk_at "ix")) | (with_reducible apply M.iCutG; rotate_left; (assumption)) | (with_reducible apply M.iListG; rotate_left; (assumption)) | (with_reducible apply M.iSumG; rotate_left; (assumption)) | (with_reducible apply M.iteT) | (with_reducible apply M.iteF) | (with_reducible apply M.iteNT) | (with_reducible apply M.iteNF) | (with_reducible apply M.iAddL; rotate_left; (walk_at "sz")) | (with_reducible apply M.iAddS; rotate_left; (walk_at "sz")))
local macro_rules | `(tactic| walk_at "ev") => `(tactic| repeat first | walk_at "eq" | walk_at "e1")
local macro_rules | `(tactic| walk_at "tr") => `(tactic| first | rfl | trivial | assumption | omega)
namespace M
open PySem L2
def F_lowest : AF := fun ds M k x => ∃ a b : Int, ds = [.int a, .int b] ∧ 0 < b ∧ b.natAbs < b89 ∧ k (frD (mkRat a b.toNat)) M
/-- lowest -/
def b_lowest : AS := (aSeq (aPar 2 3 (aCons (aCB cAbs (aCons (aVar 0) aNil)) (aCons (aVar 1) aNil)))
  (aSeq (aWhile (aB (aOp bGt (aVar 2) (aC (.int 0))))
  (aPar 2 3 (aCons (aOp bMod (aVar 3) (aVar 2)) (aCons (aVar 2) aNil))))
  (aRet (aTup (aCons (aOp bFdiv (aVar 0) (aVar 3)) (aCons (aOp bFdiv (aVar 1) (aVar 3)) aNil))))))
theorem len_lowest : ∀ ds M k x, F_lowest ds M k x → ds.length = 2 := by
  rintro ds M k x ⟨a, b, rfl, _⟩; rfl
theorem gcd_end {a b v : Int} (hb : 0 < b) (hs : b.natAbs < b89) (hv : 0 < v) (h : Nat.gcd (0 : Int).toNat v.toNat = Nat.gcd a.natAbs b.toNat) : v = ((Nat.gcd a.natAbs b.toNat : Nat) : Int) ∧ v.natAbs < b89 := by
  have e : v = ((Nat.gcd a.natAbs b.toNat : Nat) : Int) := by
    rw [← h]
    simp only [Int.toNat_zero, Nat.gcd_zero_left]
    omega
  refine ⟨e, ?_⟩
  have : Nat.gcd a.natAbs b.toNat ≤ b.toNat := Nat.gcd_le_right _ (by omega)
  omega
theorem lowest_out {a b v : Int} (hb : 0 < b) (e : v = ((Nat.gcd a.natAbs b.toNat : Nat) : Int)) : D.tup [D.int (a / v), D.int (b / v)] = frD (mkRat a b.toNat) := by
  unfold frD
  rw [mkRat_num hb, mkRat_den hb, ← e]
theorem ok_lowest : ∀ ds M k x, F_lowest ds M k x → b_lowest { nx := fun _ M' => fin k .non M', rt := fin k } (startG 4 ds) M := by
  rintro ds M k x ⟨a, b, rfl, hb, hs, hk⟩
  walk_at "st"
  unfold b_lowest
  walk_at "ev"
  refine while_st (α := Int × Int) (fun s => [some (.int a), some (.int b), some (.int s.1), some (.int s.2)]) (fun _ => M) (fun s => 0 ≤ s.1 ∧ 0 < s.2 ∧ Nat.gcd s.1.toNat s.2.toNat = Nat.gcd a.natAbs b.toNat) (fun s => s.1.toNat) (if a < 0 then -a else a, b) ⟨by dsimp only; split <;> omega, hb, ?_⟩ rfl rfl ?_
  · have : (if a < 0 then -a else a).toNat = a.natAbs := by split <;> omega
    dsimp only
    rw [this]
  · rintro ⟨u, v⟩ ⟨h1, h2, h4⟩
    dsimp only at h1 h2 h4
    walk_at "ev"
    refine iteD (fun hu => ?_) (fun hu => ?_)
    · walk_at "ev"
      refine WNext.of (v % u, u) rfl rfl ⟨Int.emod_nonneg _ (by omega), hu, ?_⟩ ?_
      · dsimp only
        rw [gcd_step hu (Int.le_of_lt h2)]; exact h4
      · have := Int.emod_lt_of_pos v hu
        have := Int.emod_nonneg v (show u ≠ 0 by omega)
        dsimp only
        omega
    · have : u = 0 := by omega
      subst this
      obtain ⟨e, hv⟩ := gcd_end hb hs h2 h4
      have cd : ∀ i, CDivW i v := fun i => cdiv h2 hv
      have ca := cd a
      have cb := cd b
      walk_at "ev"
      rw [lowest_out hb e]
      exact fin.of hk
end M
namespace M
open PySem L2
def F_by : AF := fun ds M k _ => ∃ (x : Rat) (w : Int), ds = [frD x, .int w] ∧ Sm x ∧ 0 < w ∧ w < 18446744073709551616 ∧ k (frD (x / (w : Rat))) M
/-- by -/
def b_by : AS := (aRet (aCall noX F_lowest [] (aCons (aOp bIx (aVar 0) (aC (.int 0))) (aCons (aOp bMul (aOp bIx (aVar 0) (aC (.int 1))) (aVar 1)) aNil))))
theorem len_by : ∀ ds M k x, F_by ds M k x → ds.length = 2 := by
  rintro ds M k x ⟨a, b, rfl, _⟩; rfl
theorem ok_by : ∀ ds M k x, F_by ds M k x → b_by { nx := fun _ M' => fin k .non M', rt := fin k } (startG 2 ds) M := by
  rintro ds M k _ ⟨x, w, rfl, hx, h0, h1, hk⟩
  unfold frD
  walk_at "st"
  unfold b_by
  have hm : IntMulOk (x.den : Int) w := mul_okR (by omega) (by omega)
  walk_at "ev"
  have hw : w.natAbs < 2 ^ 64 := by omega
  refine ⟨_, _, rfl, Int.mul_pos (den_pos' x) h0, lt_b89 (wide_lt hx.d hw) (by decide), ?_⟩
  rw [by_rat h0]
  exact fin.of hk
end M
namespace M
open PySem L2
def F_is_below : AF := fun ds M k _ => ∃ x y : Rat, ds = [frD x, frD y] ∧ Sm x ∧ Sm y ∧ k (.bl (decide (x < y))) M
/-- is_below -/
def b_is_below : AS := (aRet (aOp bLt (aOp bMul (aOp bIx (aVar 0) (aC (.int 0))) (aOp bIx (aVar 1) (aC (.int 1)))) (aOp bMul (aOp bIx (aVar 1) (aC (.int 0))) (aOp bIx (aVar 0) (aC (.int 1))))))
theorem len_is_below : ∀ ds M k x, F_is_below ds M k x → ds.length = 2 := by
  rintro ds M k x ⟨a, b, rfl, _⟩; rfl
theorem ok_is_below : ∀ ds M k x, F_is_below ds M k x → b_is_below { nx := fun _ M' => fin k .non M', rt := fin k } (startG 2 ds) M := by
  rintro ds M k _ ⟨x, y, rfl, hx, hy, hk⟩
  unfold frD
  walk_at "st"
  unfold b_is_below
  walk_at "ev"
  rw [lt_rat]
  exact fin.of hk
end M
namespace M
open PySem L2
def F_add : AF := fun ds M k _ => ∃ x y : Rat, ds = [frD x, frD y] ∧ Sm x ∧ Sm y ∧ k (frD (x + y)) M
/-- add -/
def b_add : AS := (aRet (aCall noX F_lowest [] (aCons (aOp (bAdd false) (aOp bMul (aOp bIx (aVar 0) (aC (.int 0))) (aOp bIx (aVar 1) (aC (.int 1)))) (aOp bMul (aOp bIx (aVar 1) (aC (.int 0))) (aOp bIx (aVar 0) (aC (.int 1))))) (aCons (aOp bMul (aOp bIx (aVar 0) (aC (.int 1))) (aOp bIx (aVar 1) (aC (.int 1)))) aNil))))
theorem len_add : ∀ ds M k x, F_add ds M k x → ds.length = 2 := by
  rintro ds M k x ⟨a, b, rfl, _⟩; rfl
theorem ok_add : ∀ ds M k x, F_add ds M k x → b_add { nx := fun _ M' => fin k .non M', rt := fin k } (startG 2 ds) M := by
  rintro ds M k _ ⟨x, y, rfl, hx, hy, hk⟩
  unfold frD
  walk_at "st"
  unfold b_add
  walk_at "ev"
  refine ⟨_, _, rfl, Sm.dd_pos, Sm.dd_lt hx hy, ?_⟩
  rw [add_rat]
  exact fin.of hk
end M
namespace M
open PySem L2
/-- a pool as data -/
def poD (q : Int × Rat) : D := .tup [.int q.1, frD q.2]
/-- a new pool pushed: the last one first -/
def pushP : List (Int × Rat) → Int × Rat → List (Int × Rat)
  | [], p => [p]
  | q :: st, p => if p.2 / (p.1 : Rat) < q.2 / (q.1 : Rat) then pushP st (p.1 + q.1, p.2 + q.2) else p :: q :: st
def poolsP : List (Int × Rat) → List (Int × Rat) := List.foldl pushP []
def DenD (D : Nat) (x : Rat) : Prop := ∃ a : Int, x * (D : Rat) = (a : Rat)
theorem DenD.add {D : Nat} {x y : Rat} (h : DenD D x) (g : DenD D y) : DenD D (x + y) := by
  obtain ⟨a, ha⟩ := h
  obtain ⟨b, hb⟩ := g
  exact ⟨a + b, by rw [Rat.add_mul, ha, hb, Rat.intCast_add]⟩
/-- room for fractions: values to V, bottoms dividing D -/
structure Rm (V D : Nat) : Prop where
  d0 : 0 < D
  d : D < 2 ^ 1800
  v : V < 2 ^ 1800
theorem Rm.sm {V D : Nat} (r : Rm V D) {x : Rat} (h : DenD D x) (h0 : 0 ≤ x) (h1 : x ≤ (V : Rat)) : Sm x := by
  refine Bnd.sm ⟨h, ?_, h1⟩ r.d0 ?_ ?_
  · have : (0 : Rat) ≤ (V : Rat) := Rat.natCast_nonneg
    grind
  · rw [b40_eq]; exact lt_pow r.d (by decide)
  · rw [b40_eq]; exact lt_pow (a := 3600) (by rw [show (3600 : Nat) = 1800 + 1800 from rfl, Nat.pow_add]; exact Nat.mul_lt_mul'' r.v r.d) (by decide)
theorem le_div {x : Rat} {w : Int} (h0 : 0 ≤ x) (hw : 1 ≤ w) : 0 ≤ x / (w : Rat) ∧ x / (w : Rat) ≤ x ∧ x / (w : Rat) * (w : Rat) = x := by
  have hw1 : (1 : Rat) ≤ (w : Rat) := by
    have := Rat.intCast_le_intCast.mpr hw
    exact this
  have hne : (w : Rat) ≠ 0 := by grind
  have e : x / (w : Rat) * (w : Rat) = x := by rw [Rat.div_def, Rat.mul_assoc, Rat.inv_mul_cancel _ hne, Rat.mul_one]
  have p : 0 ≤ x / (w : Rat) := by
    refine Rat.le_of_mul_le_mul_right (c := (w : Rat)) ?_ (by grind)
    rw [e]; grind
  refine ⟨p, ?_, e⟩
  have := mul_mono (x := 0) (y := (w : Rat) - 1) (t := x / (w : Rat)) (by grind) p
  grind
theorem Rm.smBy {V D : Nat} (r : Rm V D) {x : Rat} {w : Int} (h : DenD D x) (h0 : 0 ≤ x) (h1 : x ≤ (V : Rat)) (hw : 1 ≤ w) (hw2 : w < 1152921504606846976) : Sm (x / (w : Rat)) := by
  obtain ⟨p1, p2, p3⟩ := le_div h0 hw
  have hn : w.toNat < 2 ^ 60 := by omega
  refine Bnd.sm (V := V) (D := D * w.toNat) ⟨?_, ?_, by grind⟩ (Nat.mul_pos r.d0 (by omega)) ?_ ?_
  · obtain ⟨a, ha⟩ := h
    refine ⟨a, ?_⟩
    have e : ((D * w.toNat : Nat) : Rat) = (D : Rat) * (w : Rat) := by
      rw [Rat.natCast_mul]
      congr 1
      have : ((w.toNat : Nat) : Int) = w := by omega
      rw [← Rat.intCast_natCast, this]
    rw [e, ← ha]
    grind
  · have : (0 : Rat) ≤ (V : Rat) := Rat.natCast_nonneg
    grind
  · rw [b40_eq]; exact lt_pow (a := 1860) (by rw [show (1860 : Nat) = 1800 + 60 from rfl, Nat.pow_add]; exact Nat.mul_lt_mul'' r.d hn) (by decide)
  · rw [b40_eq]
    refine lt_pow (a := 3660) ?_ (by decide)
    rw [show (3660 : Nat) = 1800 + (1800 + 60) from rfl, Nat.pow_add, Nat.pow_add]
    exact Nat.mul_lt_mul'' r.v (Nat.mul_lt_mul'' r.d hn)
/-- tanks: floors from 1 on, amounts from 0 on -/
structure TkOk (V D : Nat) (ps : List (Int × Rat)) : Prop where
  w : ∀ q ∈ ps, 1 ≤ q.1
  a : ∀ q ∈ ps, 0 ≤ q.2
  d : ∀ q ∈ ps, DenD D q.2
  sw : (ps.map (·.1)).sum < 1152921504606846976
  sa : (ps.map (·.2)).sum ≤ (V : Rat)
theorem sum_nonneg : ∀ {xs : List Rat}, (∀ x ∈ xs, 0 ≤ x) → 0 ≤ xs.sum
  | [], _ => by rw [List.sum_nil]; exact Rat.le_refl
  | x :: xs, h => by
    rw [List.sum_cons]
    have h1 := h x List.mem_cons_self
    have h2 := sum_nonneg fun y hy => h y (List.mem_cons_of_mem x hy)
    grind
theorem sum_nonnegI : ∀ {xs : List Int}, (∀ x ∈ xs, 0 ≤ x) → 0 ≤ xs.sum
  | [], _ => by rw [List.sum_nil]; exact Int.le_refl _
  | x :: xs, h => by
    rw [List.sum_cons]
    have h1 := h x List.mem_cons_self
    have h2 := sum_nonnegI fun y hy => h y (List.mem_cons_of_mem x hy)
    omega
theorem TkOk.head {V D : Nat} {q : Int × Rat} {ps : List (Int × Rat)} (h : TkOk V D (q :: ps)) : q.1 < 1152921504606846976 ∧ q.2 ≤ (V : Rat) ∧ TkOk V D ps := by
  have h1 := h.sw
  have h2 := h.sa
  rw [List.map_cons, List.sum_cons] at h1 h2
  have h3 : 0 ≤ (ps.map (·.1)).sum := sum_nonnegI fun x hx => by
    obtain ⟨r, hr, rfl⟩ := List.mem_map.mp hx
    have := h.w r (List.mem_cons_of_mem _ hr)
    omega
  have h4 : 0 ≤ (ps.map (·.2)).sum := sum_nonneg fun x hx => by
    obtain ⟨r, hr, rfl⟩ := List.mem_map.mp hx
    exact h.a r (List.mem_cons_of_mem _ hr)
  have h5 := h.w q List.mem_cons_self
  have h6 := h.a q List.mem_cons_self
  exact ⟨by omega, by grind, fun r hr => h.w r (List.mem_cons_of_mem _ hr), fun r hr => h.a r (List.mem_cons_of_mem _ hr), fun r hr => h.d r (List.mem_cons_of_mem _ hr), by omega, by grind⟩
theorem TkOk.merge {V D : Nat} {p q : Int × Rat} {ps : List (Int × Rat)} (h : TkOk V D (p :: q :: ps)) : TkOk V D ((p.1 + q.1, p.2 + q.2) :: ps) := by
  obtain ⟨h1, h2, h3⟩ := h.head
  have e1 := h.sw
  have e2 := h.sa
  have w1 := h.w p List.mem_cons_self
  have w2 := h.w q (List.mem_cons_of_mem _ List.mem_cons_self)
  have a1 := h.a p List.mem_cons_self
  have a2 := h.a q (List.mem_cons_of_mem _ List.mem_cons_self)
  simp only [List.map_cons, List.sum_cons] at e1 e2
  refine ⟨fun r hr => ?_, fun r hr => ?_, fun r hr => ?_, ?_, ?_⟩
  · rcases List.mem_cons.mp hr with rfl | hr
    · show 1 ≤ p.1 + q.1
      omega
    · exact h3.w r (List.mem_cons_of_mem _ hr)
  · rcases List.mem_cons.mp hr with rfl | hr
    · show 0 ≤ p.2 + q.2
      grind
    · exact h3.a r (List.mem_cons_of_mem _ hr)
  · rcases List.mem_cons.mp hr with rfl | hr
    · exact (h.d p List.mem_cons_self).add (h.d q (List.mem_cons_of_mem _ List.mem_cons_self))
    · exact h3.d r (List.mem_cons_of_mem _ hr)
  · rw [List.map_cons, List.sum_cons]; show p.1 + q.1 + _ < _; omega
  · rw [List.map_cons, List.sum_cons]; show p.2 + q.2 + _ ≤ _; grind
def poT (q : Int × Rat) : T := .tup [.int q.1, tF q.2]
theorem poT_d (q : Int × Rat) : (poT q).d = poD q := rfl
theorem RdT.pools {M : MH} {a : Addr} {st : List (Int × Rat)} (h : M a = some (.obj (.lst (st.map poD)))) : RdT M (.ref a) (.lst (st.map poT)) := by
  refine RdT.ref ?_ ?_
  · rw [ds_map]; exact h
  · have : T.deps (st.map poT) ≤ 2 := deps_le fun q _ => by show T.dep (.tup [.int q.1, tF q.2]) ≤ 2; simp [T.dep, T.deps, tF_dep]
    omega
theorem iPopL {a : Addr} {l : List D} {x : D} {M : MH} {k : AK} (h : k x (up M a (.obj (.lst l)))) (q : M a = some (.obj (.lst (l ++ [x])))) : mPop (.ref a) [] M k := by
  refine iPop (e := x) (ds := l ++ [x]) ?_ q (by simp)
  rw [List.dropLast_concat]; exact h
theorem T_lst_ne {x : T} {xs : List T} : (T.lst (xs ++ [x])) ≠ tI [] := by
  unfold tI; intro h; injection h with h; simp at h
def F_pools_of : AF := fun ds M k _ => ∃ (d e : D) (ps : List (Int × Rat)) (V D : Nat), ds = [d, e] ∧ rdS M d = some (ps.map fun q => .int q.1) ∧ rdS M e = some (ps.map fun q => frD q.2) ∧ Rm V D ∧ (∀ i, TkOk V D (ps.take i)) ∧ ps.length ≤ 1000000 ∧ k (.lst ((poolsP ps).reverse.map poD)) M
/-- pools_of -/
def b_pools_of : AS := (aSeq (aSet 2 (aLst true aNil))
  (aSeq (aFor (wZp (aCons (aVar 0) (aCons (aVar 1) aNil))) (gTu 2 (gCo (gNm 3) (gCo (gNm 4) gNi)))
  (aSeq (aWhile (aAnd (aB (aOp (bEq true) (aVar 2) (aLst false aNil))) (aB (aCall noX F_is_below [] (aCons (aCall noX F_by [] (aCons (aVar 4) (aCons (aVar 3) aNil))) (aCons (aCall noX F_by [] (aCons (aOp bIx (aOp bIx (aVar 2) (aNeg (aC (.int 1)))) (aC (.int 1))) (aCons (aOp bIx (aOp bIx (aVar 2) (aNeg (aC (.int 1)))) (aC (.int 0))) aNil))) aNil)))))
  (aSeq (aAsg (aMt0 mPop (aVar 2)) (gTu 2 (gCo (gNm 5) (gCo (gNm 6) gNi))))
  (aPar 3 4 (aCons (aOp (bAdd false) (aVar 3) (aVar 5)) (aCons (aCall noX F_add [] (aCons (aVar 4) (aCons (aVar 6) aNil))) aNil)))))
  (aDrop (aMt mAppend (aVar 2) (aCons (aTup (aCons (aVar 3) (aCons (aVar 4) aNil))) aNil)))))
  (aRet (aFrz (aVar 2)))))
theorem len_pools_of : ∀ ds M k x, F_pools_of ds M k x → ds.length = 2 := by
  rintro ds M k x ⟨a, b, _, _, _, rfl, _⟩; rfl
theorem zip_get1 {ps : List (Int × Rat)} {i : Nat} {x : D} (h : (zipD (ps.map fun q => D.int q.1) (ps.map fun q => frD q.2))[i]? = some x) : ∃ q, ps[i]? = some q ∧ x = .tup [.int q.1, frD q.2] := by
  obtain ⟨q, r, h1, h2, h3⟩ := zip_get (ι := fun q : Int × Rat => D.int q.1) (κ := fun q : Int × Rat => frD q.2) h
  rw [h1] at h2; cases h2
  exact ⟨q, h1, h3⟩
theorem poolsP_snoc (ps : List (Int × Rat)) (q : Int × Rat) : poolsP (ps ++ [q]) = pushP (poolsP ps) q := by
  unfold poolsP; rw [List.foldl_append]; rfl
theorem pushP_len : ∀ (st : List (Int × Rat)) (p : Int × Rat), (pushP st p).length ≤ st.length + 1
  | [], p => by simp [pushP]
  | q :: st, p => by
    unfold pushP
    split
    · have := pushP_len st (p.1 + q.1, p.2 + q.2)
      rw [List.length_cons]; omega
    · simp
theorem pushP_ok {V D : Nat} : ∀ {st : List (Int × Rat)} {p : Int × Rat}, TkOk V D (p :: st) → TkOk V D (pushP st p)
  | [], p, h => h
  | q :: st, p, h => by
    unfold pushP
    split
    · exact pushP_ok h.merge
    · exact h
theorem pushP_sum1 : ∀ (st : List (Int × Rat)) (p : Int × Rat), ((pushP st p).map (·.1)).sum = p.1 + (st.map (·.1)).sum
  | [], p => by simp [pushP]
  | q :: st, p => by
    unfold pushP
    split
    · rw [pushP_sum1 st, List.map_cons, List.sum_cons]; show p.1 + q.1 + _ = _; omega
    · rw [List.map_cons, List.sum_cons]
theorem pushP_sum2 : ∀ (st : List (Int × Rat)) (p : Int × Rat), ((pushP st p).map (·.2)).sum = p.2 + (st.map (·.2)).sum
  | [], p => by simp [pushP]
  | q :: st, p => by
    unfold pushP
    split
    · rw [pushP_sum2 st, List.map_cons, List.sum_cons]; show p.2 + q.2 + _ = _; grind
    · rw [List.map_cons, List.sum_cons]
def El (D : Nat) (q : Int × Rat) : Prop := 1 ≤ q.1 ∧ 0 ≤ q.2 ∧ DenD D q.2
theorem pushP_el {D : Nat} : ∀ {st : List (Int × Rat)} {p : Int × Rat}, (∀ q ∈ st, El D q) → El D p → ∀ q ∈ pushP st p, El D q
  | [], p, _, h2 => fun q hq => by rw [show q = p from List.mem_singleton.mp hq]; exact h2
  | r :: st, p, h1, h2 => by
    unfold pushP
    split
    · have hr := h1 r List.mem_cons_self
      refine pushP_el (fun q hq => h1 q (List.mem_cons_of_mem _ hq)) ⟨?_, ?_, h2.2.2.add hr.2.2⟩
      · have := h2.1; have := hr.1; show 1 ≤ p.1 + r.1; omega
      · have := h2.2.1; have := hr.2.1; show 0 ≤ p.2 + r.2; grind
    · intro q hq
      rcases List.mem_cons.mp hq with rfl | hq
      · exact h2
      · exact h1 q hq
theorem foldP_sum : ∀ (l st : List (Int × Rat)), ((l.foldl pushP st).map (·.1)).sum = (st.map (·.1)).sum + (l.map (·.1)).sum ∧ ((l.foldl pushP st).map (·.2)).sum = (st.map (·.2)).sum + (l.map (·.2)).sum
  | [], st => by simp; exact (Rat.add_zero _).symm
  | p :: l, st => by
    obtain ⟨h1, h2⟩ := foldP_sum l (pushP st p)
    rw [List.foldl_cons, h1, h2, pushP_sum1, pushP_sum2, List.map_cons, List.map_cons, List.sum_cons, List.sum_cons]
    exact ⟨by omega, by grind⟩
theorem foldP_el {D : Nat} : ∀ {l st : List (Int × Rat)}, (∀ q ∈ st, El D q) → (∀ q ∈ l, El D q) → ∀ q ∈ l.foldl pushP st, El D q
  | [], _, h1, _ => h1
  | p :: l, st, h1, h2 => by
    rw [List.foldl_cons]
    exact foldP_el (pushP_el h1 (h2 p List.mem_cons_self)) fun q hq => h2 q (List.mem_cons_of_mem _ hq)
theorem TkOk.pools {V D : Nat} {l : List (Int × Rat)} {q0 : Int × Rat} (h : TkOk V D (l ++ [q0])) : TkOk V D (q0 :: poolsP l) := by
  have hl : ∀ q ∈ l, El D q := fun q hq => ⟨h.w q (List.mem_append_left _ hq), h.a q (List.mem_append_left _ hq), h.d q (List.mem_append_left _ hq)⟩
  have h0 : El D q0 := by
    have : q0 ∈ l ++ [q0] := by simp
    exact ⟨h.w q0 this, h.a q0 this, h.d q0 this⟩
  have hp : ∀ q ∈ q0 :: poolsP l, El D q := fun q hq => by
    rcases List.mem_cons.mp hq with rfl | hq
    · exact h0
    · exact foldP_el (fun q hq => by cases hq) hl q hq
  obtain ⟨s1, s2⟩ := foldP_sum l []
  have e1 := h.sw
  have e2 := h.sa
  rw [List.map_append, List.map_singleton, sum_snocI] at e1
  rw [List.map_append, List.map_singleton, sum_snoc] at e2
  rw [List.map_nil, List.sum_nil] at s1 s2
  refine ⟨fun q hq => (hp q hq).1, fun q hq => (hp q hq).2.1, fun q hq => (hp q hq).2.2, ?_, ?_⟩
  · rw [List.map_cons, List.sum_cons]; unfold poolsP; rw [s1]; omega
  · rw [List.map_cons, List.sum_cons]; unfold poolsP; rw [s2]; grind
theorem ok_pools_of : ∀ ds M k x, F_pools_of ds M k x → b_pools_of { nx := fun _ M' => fin k .non M', rt := fin k } (startG 7 ds) M := by
  rintro ds M k _ ⟨d, e, ps, V, Dn, rfl, hd, he, hR, hok, hlen, hk⟩
  walk_at "st"
  unfold b_pools_of
  walk_at "ev"
  intro p hp
  walk_at "ev"
  refine iZpG ?_ (rdS_new hd hp) (rdS_new he hp)
  have pl : ∀ i, (poolsP (ps.take i)).length ≤ i := by
    intro i
    induction i with
    | zero => simp [poolsP]
    | succ i ih =>
      cases q : ps[i]? with
      | none =>
        have := List.getElem?_eq_none_iff.mp q
        rw [List.take_of_length_le (by omega)]
        rw [List.take_of_length_le (by omega)] at ih
        omega
      | some x =>
        rw [take_succ q, poolsP_snoc]
        have := pushP_len (poolsP (ps.take i)) x
        omega
  refine for_go (fun i Γ M' => i ≤ ps.length ∧ M' = up M p (.obj (.lst ((poolsP (ps.take i)).reverse.map poD))) ∧ ∃ x3 x4 x5 x6, Γ = [some d, some e, some (.ref p), x3, x4, x5, x6]) ⟨Nat.zero_le _, rfl, _, _, _, _, rfl⟩ ?_ ?_
  · rintro i Γ _ x hx ⟨hi, rfl, x3, x4, x5, x6, rfl⟩
    obtain ⟨q0, hq, rfl⟩ := zip_get1 hx
    have hl : i < ps.length := (List.getElem?_eq_some_iff.mp hq).1
    refine ⟨⟨rdS_new hd hp, rdS_new he hp⟩, ?_⟩
    have hT : TkOk V Dn (q0 :: poolsP (ps.take i)) := by
      have := hok (i + 1)
      rw [take_succ hq] at this
      exact this.pools
    have hpl := pl i
    have hnext : poolsP (ps.take (i + 1)) = pushP (poolsP (ps.take i)) q0 := by rw [take_succ hq, poolsP_snoc]
    walk_at "ev"
    refine while_st (α := List (Int × Rat) × (Int × Rat) × Option D × Option D) (fun s => [some d, some e, some (.ref p), some (.int s.2.1.1), some (frD s.2.1.2), s.2.2.1, s.2.2.2]) (fun s => up M p (.obj (.lst (s.1.reverse.map poD)))) (fun s => pushP s.1 s.2.1 = pushP (poolsP (ps.take i)) q0 ∧ TkOk V Dn (s.2.1 :: s.1) ∧ s.1.length ≤ i) (fun s => s.1.length) (poolsP (ps.take i), q0, x5, x6) ⟨rfl, hT, hpl⟩ rfl rfl ?_
    rintro ⟨st, ⟨w, a⟩, y5, y6⟩ ⟨h1, h2, h3⟩
    dsimp only at h1 h2 h3
    obtain ⟨w2, a2, hst⟩ := h2.head
    have w1 := h2.w (w, a) List.mem_cons_self
    have a1 := h2.a (w, a) List.mem_cons_self
    have d1 := h2.d (w, a) List.mem_cons_self
    dsimp only at w1 a1 d1 w2 a2
    have fini : pushP (poolsP (ps.take i)) q0 = (w, a) :: st → up M p (.obj (.lst (st.reverse.map poD ++ [D.tup [.int w, frD a]]))) = up M p (.obj (.lst ((poolsP (ps.take (i + 1))).reverse.map poD))) := fun z => by
      rw [hnext, z, List.reverse_cons, List.map_append]; rfl
    have hs : (st.reverse.map poD).length < sizeLine := by rw [List.length_map, List.length_reverse, sizeLine_eq]; omega
    have e0 : up M p (.obj (.lst (st.reverse.map poD))) p = some (.obj (.lst (st.reverse.map poD))) := up_same
    walk_at "ev"
    cases st with
    | nil =>
      refine iEqE (neg := true) ?_ rfl (RdT.pools (st := []) e0) (RdT.ints (ns := []))
      walk_at "ev"
      rw [up_up]
      exact ⟨hl, fini h1.symm, _, _, _, _, rfl⟩
    | cons q r =>
      refine iEqN (neg := true) ?_ (by rw [List.reverse_cons, List.map_append]; exact T_lst_ne) (RdT.pools (st := (q :: r).reverse) e0) (RdT.ints (ns := []))
      walk_at "ev"
      obtain ⟨w4, a4, hr⟩ := hst.head
      have w3 := hst.w q List.mem_cons_self
      have a3 := hst.a q List.mem_cons_self
      have d3 := hst.d q List.mem_cons_self
      have hlast : atI ((q :: r).reverse.map poD) (-1) = some (.tup [.int q.1, frD q.2]) := by
        rw [List.reverse_cons, List.map_append]
        exact L2.atI_last _ _
      have epop : up M p (.obj (.lst ((q :: r).reverse.map poD))) p = some (.obj (.lst (r.reverse.map poD ++ [.tup [.int q.1, frD q.2]]))) := by
        rw [up_same, List.reverse_cons, List.map_append]; rfl
      have sa := hR.sm d1 a1 a2
      have sq := hR.sm d3 a3 a4
      refine ⟨a, w, rfl, sa, by omega, by omega, ?_⟩
      walk_at "ev"
      refine ⟨q.2, q.1, rfl, sq, by omega, by omega, ?_⟩
      refine ⟨_, _, rfl, hR.smBy d1 a1 a2 w1 w2, hR.smBy d3 a3 a4 w3 w4, ?_⟩
      walk_at "ev"
      refine iteD (fun hlt => ?_) (fun hlt => ?_)
      · refine iKMt0 ?_ e0
        refine iPopL ?_ epop
        rw [up_up]
        walk_at "ev"
        refine ⟨a, q.2, rfl, sa, sq, ?_⟩
        refine WNext.of (r, (w + q.1, a + q.2), some (.int q.1), some (frD q.2)) rfl rfl ⟨?_, h2.merge, ?_⟩ (Nat.lt_succ_self _)
        · rw [← h1, pushP, if_pos hlt]
        · rw [List.length_cons] at h3; show r.length ≤ i; omega
      · clear epop hlast
        walk_at "ev"
        rw [up_up]
        refine ⟨hl, fini ?_, _, _, _, _, rfl⟩
        rw [← h1, pushP, if_neg hlt]
  · rintro Γ _ ⟨hi, rfl, x3, x4, x5, x6, rfl⟩
    refine ⟨⟨rdS_new hd hp, rdS_new he hp⟩, ?_⟩
    have hl : (zipD (ps.map fun q => D.int q.1) (ps.map fun q => frD q.2)).length = ps.length := by
      clear hd he hok hlen hi pl hk
      induction ps with
      | nil => rfl
      | cons q ps ih => rw [List.map_cons, List.map_cons, zipD, List.length_cons, ih, List.length_cons]
    walk_at "ev"
    rw [dl_up hp, hl, List.take_length]
    exact fin.of hk
end M
namespace M
open PySem L2
/-- places, whole -/
def plI (ps : List (Int × Rat)) (k : Nat) : Int := ((ps.take k).map (·.1)).sum
/-- places -/
def plR (ps : List (Int × Rat)) (k : Nat) : Rat := (plI ps k : Rat)
/-- heaps -/
def hpR (ps : List (Int × Rat)) (k : Nat) : Rat := ((ps.take k).map (·.2)).sum
/-- the pool of a segment -/
def poolS (ps : List (Int × Rat)) (q : Nat × Nat) : Int × Rat := (plI ps q.2 - plI ps q.1, hpR ps q.2 - hpR ps q.1)
theorem plI_succ {ps : List (Int × Rat)} {i : Nat} {q : Int × Rat} (h : ps[i]? = some q) : plI ps (i + 1) = plI ps i + q.1 := by
  unfold plI
  rw [take_succ h, List.map_append, List.map_singleton, sum_snocI]
theorem hpR_succ {ps : List (Int × Rat)} {i : Nat} {q : Int × Rat} (h : ps[i]? = some q) : hpR ps (i + 1) = hpR ps i + q.2 := by
  unfold hpR
  rw [take_succ h, List.map_append, List.map_singleton, sum_snoc]
theorem plR_strict {ps : List (Int × Rat)} (h : ∀ q ∈ ps, 1 ≤ q.1) : ∀ i j, i < j → j ≤ ps.length → plR ps i < plR ps j := by
  have step : ∀ i, i < ps.length → plI ps i < plI ps (i + 1) := fun i hi => by
    have e := List.getElem?_eq_getElem hi
    rw [plI_succ e]
    have := h _ (List.mem_of_getElem? e)
    omega
  have go : ∀ i d, i + d + 1 ≤ ps.length → plI ps i < plI ps (i + d + 1) := by
    intro i d
    induction d with
    | zero => intro hd; exact step i (by omega)
    | succ d ih =>
      intro hd
      have h1 := ih (by omega)
      have h2 := step (i + d + 1) (by omega)
      show plI ps i < plI ps (i + (d + 1) + 1)
      rw [show i + (d + 1) + 1 = i + d + 1 + 1 by omega]
      omega
  intro i j hij hj
  have := go i (j - i - 1) (by omega)
  rw [show i + (j - i - 1) + 1 = j by omega] at this
  exact Rat.intCast_lt_intCast.mpr this
theorem poolS_slope (ps : List (Int × Rat)) (b e : Nat) : (poolS ps (b, e)).2 / ((poolS ps (b, e)).1 : Rat) = slope (plR ps) (hpR ps) b e := by
  unfold poolS slope plR
  rw [Rat.intCast_sub]
theorem link {ps : List (Int × Rat)} {s : Nat} : ∀ {st : List (Nat × Nat)} {b e : Nat}, Stk (plR ps) (hpR ps) s b st → pushP (st.map (poolS ps)) (poolS ps (b, e)) = (pushS (plR ps) (hpR ps) st b e).map (poolS ps)
  | [], b, e, _ => rfl
  | q :: st, b, e, h => by
    cases h with
    | @cons b' _ _ h' lt p up =>
      rw [List.map_cons, pushP, pushS, poolS_slope, poolS_slope]
      by_cases z : slope (plR ps) (hpR ps) b e < slope (plR ps) (hpR ps) b' b
      · rw [if_pos z, if_pos z]
        have e1 : ((poolS ps (b, e)).1 + (poolS ps (b', b)).1, (poolS ps (b, e)).2 + (poolS ps (b', b)).2) = poolS ps (b', e) := by
          unfold poolS
          refine Prod.ext ?_ ?_
          · show plI ps e - plI ps b + (plI ps b - plI ps b') = plI ps e - plI ps b'
            omega
          · show hpR ps e - hpR ps b + (hpR ps b - hpR ps b') = hpR ps e - hpR ps b'
            grind
        rw [e1]
        exact link h'
      · rw [if_neg z, if_neg z]; rfl
theorem pools_segs {ps : List (Int × Rat)} (h : ∀ q ∈ ps, 1 ≤ q.1) : ∀ i, i ≤ ps.length → ∃ segs, Stk (plR ps) (hpR ps) 0 i segs ∧ poolsP (ps.take i) = segs.map (poolS ps) := by
  intro i
  induction i with
  | zero => intro _; exact ⟨[], .nil, rfl⟩
  | succ i ih =>
    intro hi
    obtain ⟨segs, h1, h2⟩ := ih (by omega)
    have e := List.getElem?_eq_getElem (show i < ps.length by omega)
    have st := plR_strict h
    refine ⟨pushS (plR ps) (hpR ps) segs i (i + 1), Stk.push (N := ps.length) st h1 (Nat.lt_succ_self _) hi (InPool.one (st i (i + 1) (Nat.lt_succ_self _) hi)), ?_⟩
    rw [take_succ e, poolsP_snoc, h2, ← link h1]
    congr 1
    unfold poolS
    refine Prod.ext ?_ ?_
    · show _ = plI ps (i + 1) - plI ps i
      rw [plI_succ e]; omega
    · show _ = hpR ps (i + 1) - hpR ps i
      rw [hpR_succ e]; grind
end M
namespace M
open PySem L2
/-- the floor of a tank -/
def flI (ps : List (Int × Rat)) (k : Nat) : Int := plI ps (k + 1) - plI ps k
/-- the amounts at rest, by segments -/
def restL (ps : List (Int × Rat)) : List (Nat × Nat) → List Rat
  | [] => []
  | (b, e) :: st => restL ps st ++ (List.range (e - b)).map fun j => slope (plR ps) (hpR ps) b e * (flI ps (b + j) : Rat)
theorem fl_get {ps : List (Int × Rat)} {i : Nat} (h : i < ps.length) : (ps.map fun q => D.int q.1)[i]? = some (.int (flI ps i)) := by
  have e := List.getElem?_eq_getElem h
  unfold flI
  rw [List.getElem?_map, plI_succ e, e]
  show some (D.int _) = _
  rw [show plI ps i + ps[i].1 - plI ps i = ps[i].1 by omega]
theorem Stk.suffix {P H : Nat → Rat} {s n : Nat} : ∀ {l T : List (Nat × Nat)}, Stk P H s n (l ++ T) → ∃ b, Stk P H s b T ∧ b ≤ n
  | [], T, h => ⟨n, h, Nat.le_refl _⟩
  | q :: l, T, h => by
    cases h with
    | cons h' lt _ _ =>
      obtain ⟨b, h1, h2⟩ := Stk.suffix h'
      exact ⟨b, h1, by omega⟩
theorem share_rat {x : Rat} {f w : Int} (hw : 0 < w) : mkRat (x.num * f) ((x.den : Int) * w).toNat = x / (w : Rat) * (f : Rat) := by
  have h := by_rat (x := x) hw
  rw [← h, show (f : Rat) = mkRat f 1 from (Rat.mkRat_one f).symm, Rat.mkRat_mul_mkRat, Nat.mul_one]
def F_rest_of : AF := fun ds M k _ => ∃ (d e : D) (ps : List (Int × Rat)) (V D : Nat), ds = [d, e] ∧ rdS M d = some (ps.map fun q => .int q.1) ∧ rdS M e = some (ps.map fun q => frD q.2) ∧ Rm V D ∧ (∀ i, TkOk V D (ps.take i)) ∧ ps.length ≤ 1000000 ∧
  ∀ segs, Stk (plR ps) (hpR ps) 0 ps.length segs → k (.lst ((restL ps segs).map frD)) M
/-- rest_of -/
def b_rest_of : AS := (aSeq (aSet 2 (aLst true aNil))
  (aSeq (aSet 3 (aC (.int 0)))
  (aSeq (aFor (wLst (aCall noX F_pools_of [] (aCons (aVar 0) (aCons (aVar 1) aNil)))) (gTu 2 (gCo (gNm 4) (gCo (gNm 5) gNi)))
  (aSeq (aSet 6 (aC (.int 0)))
  (aWhile (aB (aOp bLt (aVar 6) (aVar 4)))
  (aSeq (aDrop (aMt mAppend (aVar 2) (aCons (aCall noX F_lowest [] (aCons (aOp bMul (aOp bIx (aVar 5) (aC (.int 0))) (aOp bIx (aVar 0) (aVar 3))) (aCons (aOp bMul (aOp bIx (aVar 5) (aC (.int 1))) (aVar 4)) aNil))) aNil)))
  (aSeq (aAug 6 (aOp bIx (aVar 0) (aVar 3)))
  (aAug 3 (aC (.int 1))))))))
  (aRet (aFrz (aVar 2))))))
theorem len_rest_of : ∀ ds M k x, F_rest_of ds M k x → ds.length = 2 := by
  rintro ds M k x ⟨a, b, _, _, _, rfl, _⟩; rfl
def endS : List (Nat × Nat) → Nat
  | [] => 0
  | q :: _ => q.2
theorem Stk.endS {P H : Nat → Rat} {n : Nat} {T : List (Nat × Nat)} (h : Stk P H 0 n T) : n = M.endS T := by
  cases h <;> rfl
theorem last_of {l T : List (Nat × Nat)} {s : Nat × Nat} (h : (l ++ T).reverse[T.length]? = some s) : ∃ l', l = l' ++ [s] := by
  rw [List.reverse_append, List.getElem?_append_right (by simp), List.length_reverse, Nat.sub_self] at h
  cases q : l.reverse with
  | nil => rw [q] at h; cases h
  | cons x r =>
    rw [q] at h
    cases h
    refine ⟨r.reverse, ?_⟩
    have := congrArg List.reverse q
    rw [List.reverse_reverse, List.reverse_cons] at this
    exact this
theorem plI_strict {ps : List (Int × Rat)} (h : ∀ q ∈ ps, 1 ≤ q.1) {i j : Nat} (hij : i < j) (hj : j ≤ ps.length) : plI ps i < plI ps j := Rat.intCast_lt_intCast.mp (plR_strict h i j hij hj)
theorem TkOk.mem {V D : Nat} : ∀ {ps : List (Int × Rat)}, TkOk V D ps → ∀ q ∈ ps, q.1 < 1152921504606846976 ∧ q.2 ≤ (V : Rat)
  | [], _, q, hq => by cases hq
  | p :: ps, h, q, hq => by
    obtain ⟨h1, h2, h3⟩ := h.head
    rcases List.mem_cons.mp hq with rfl | hq
    · exact ⟨h1, h2⟩
    · exact TkOk.mem h3 q hq
theorem restL_len {ps : List (Int × Rat)} {P H : Nat → Rat} {n : Nat} : ∀ {T : List (Nat × Nat)}, Stk P H 0 n T → (restL ps T).length = n
  | [], h => by cases h; rfl
  | q :: T, h => by
    cases h with
    | cons h lt _ _ => rw [restL, List.length_append, List.length_map, List.length_range, restL_len h]; omega
theorem ok_rest_of : ∀ ds M k x, F_rest_of ds M k x → b_rest_of { nx := fun _ M' => fin k .non M', rt := fin k } (startG 7 ds) M := by
  rintro ds M k _ ⟨d, e, ps, V, Dn, rfl, hd, he, hR, hok, hlen, hk⟩
  walk_at "st"
  unfold b_rest_of
  have h0 := hok ps.length
  rw [List.take_length] at h0
  obtain ⟨segs, hs, hp⟩ := pools_segs h0.w ps.length (Nat.le_refl _)
  rw [List.take_length] at hp
  walk_at "ev"
  intro p hp0
  walk_at "ev"
  refine ⟨d, e, ps, V, Dn, rfl, rdS_new hd hp0, rdS_new he hp0, hR, hok, hlen, ?_⟩
  rw [hp]
  walk_at "ev"
  refine for_go (fun i Γ M' => ∃ l T, segs = l ++ T ∧ T.length = i ∧ M' = up M p (.obj (.lst ((restL ps T).map frD))) ∧ ∃ x4 x5 x6, Γ = [some d, some e, some (.ref p), some (.int ((endS T : Nat) : Int)), x4, x5, x6]) ⟨segs, [], (List.append_nil _).symm, rfl, rfl, _, _, _, rfl⟩ ?_ ?_
  · rintro i Γ _ x hx ⟨l, T, hlT, rfl, rfl, x4, x5, x6, rfl⟩
    rw [← List.map_reverse, List.map_map] at hx
    obtain ⟨sg, hsg, rfl⟩ := map_get hx
    rw [hlT] at hsg
    obtain ⟨l', rfl⟩ := last_of hsg
    rw [List.append_assoc] at hlT
    have hs' := hs
    rw [hlT] at hs'
    obtain ⟨b', hb', hbn⟩ := Stk.suffix hs'
    obtain ⟨b, e', rfl, hbT, hlt, hen⟩ : ∃ b e', sg = (b, e') ∧ Stk (plR ps) (hpR ps) 0 b T ∧ b < e' ∧ e' ≤ ps.length := by
      cases hb' with
      | cons h lt _ _ => exact ⟨_, _, rfl, h, lt, hbn⟩
    have hbe := hbT.endS
    subst hbe
    refine ⟨trivial, ?_⟩
    have hmem : poolS ps (endS T, e') ∈ poolsP ps := by
      rw [hp, hlT, List.map_append]
      exact List.mem_append_right _ (List.mem_map.mpr ⟨_, List.mem_append_left _ (List.mem_singleton.mpr rfl), rfl⟩)
    have hT : TkOk V Dn (poolsP ps) := by
      obtain ⟨q, hq⟩ : ∃ q, ps[ps.length - 1]? = some q := ⟨ps[ps.length - 1], List.getElem?_eq_getElem (by omega)⟩
      have h9 : TkOk V Dn (ps.take (ps.length - 1) ++ [q]) := by
        have := take_succ hq
        rw [show ps.length - 1 + 1 = ps.length by omega, List.take_length] at this
        rw [← this]; exact h0
      have h8 := pushP_ok h9.pools
      rw [← poolsP_snoc, ← take_succ hq, show ps.length - 1 + 1 = ps.length by omega, List.take_length] at h8
      exact h8
    have hw1 := hT.w _ hmem
    have ha1 := hT.a _ hmem
    have hd1 := hT.d _ hmem
    obtain ⟨hw2, ha2⟩ := hT.mem _ hmem
    have hsl : (poolS ps (endS T, e')).2 / ((poolS ps (endS T, e')).1 : Rat) = slope (plR ps) (hpR ps) (endS T) e' := poolS_slope ps _ _
    have hsm := hR.sm hd1 ha1 ha2
    have hw0 : (poolS ps (endS T, e')).1 = plI ps e' - plI ps (endS T) := rfl
    show gTu 2 _ (D.tup [.int (poolS ps (endS T, e')).1, frD (poolS ps (endS T, e')).2]) _ _ _
    generalize poolS ps (endS T, e') = q at hw1 ha1 hd1 hw2 ha2 hsl hsm hw0 ⊢
    walk_at "ev"
    refine while_st (α := Nat) (fun j => [some d, some e, some (.ref p), some (.int ((endS T + j : Nat) : Int)), some (.int q.1), some (.tup [.int q.2.num, .int (q.2.den : Int)]), some (.int (plI ps (endS T + j) - plI ps (endS T)))]) (fun j => up M p (.obj (.lst ((restL ps T ++ (List.range j).map fun i => slope (plR ps) (hpR ps) (endS T) e' * (flI ps (endS T + i) : Rat)).map frD)))) (fun j => endS T + j ≤ e') (fun j => e' - endS T - j) 0 (by omega) ?_ ?_ ?_
    · simp [frD]
    · simp
    · intro j hj
      have hdd : ∀ {l : List D}, rdS (up M p (.obj (.lst l))) d = some (ps.map fun q => .int q.1) := fun {l} => rdS_new hd hp0
      walk_at "ev"
      refine iteD (fun hlt2 => ?_) (fun hlt2 => ?_)
      · have hj2 : endS T + j < e' := by
          by_cases z : endS T + j = e'
          · rw [z] at hlt2; omega
          · omega
        have hat : atI (ps.map fun q => D.int q.1) ((endS T + j : Nat) : Int) = some (.int (flI ps (endS T + j))) := atI_nat (fl_get (by omega))
        have e9 := List.getElem?_eq_getElem (show endS T + j < ps.length by omega)
        have hfe : flI ps (endS T + j) = ps[endS T + j].1 := by unfold flI; rw [plI_succ e9]; omega
        have hf1 := h0.w _ (List.mem_of_getElem? e9)
        have hf2 := (h0.mem _ (List.mem_of_getElem? e9)).1
        rw [← hfe] at hf1 hf2
        have m1 : IntMulOk q.2.num (flI ps (endS T + j)) := mul_okR (by omega) (by omega)
        have m2 : IntMulOk (q.2.den : Int) q.1 := mul_okR (by omega) (by omega)
        have hdd1 := hdd (l := (restL ps T ++ (List.range j).map fun i => slope (plR ps) (hpR ps) (endS T) e' * (flI ps (endS T + i) : Rat)).map frD)
        have hw64 : q.1.natAbs < 2 ^ 64 := by omega
        have hrl := restL_len (ps := ps) hbT
        have hsz : ((restL ps T ++ (List.range j).map fun i => slope (plR ps) (hpR ps) (endS T) e' * (flI ps (endS T + i) : Rat)).map frD).length < sizeLine := by
          rw [List.length_map, List.length_append, List.length_map, List.length_range, hrl, sizeLine_eq]; omega
        walk_at "ev"
        refine ⟨_, _, rfl, Int.mul_pos (den_pos' q.2) (by omega), lt_b89 (wide_lt hsm.d hw64) (by decide), ?_⟩
        rw [share_rat (by omega), hsl]
        refine iAppend ?_ up_same hsz
        rw [up_up]
        have hdd2 := hdd (l := (restL ps T ++ (List.range j).map fun i => slope (plR ps) (hpR ps) (endS T) e' * (flI ps (endS T + i) : Rat)).map frD ++ [frD (slope (plR ps) (hpR ps) (endS T) e' * (flI ps (endS T + j) : Rat))])
        walk_at "ev"
        refine WNext.of (j + 1) ?_ ?_ (by omega) (by omega)
        · have : plI ps (endS T + j) - plI ps (endS T) + flI ps (endS T + j) = plI ps (endS T + (j + 1)) - plI ps (endS T) := by
            unfold flI
            rw [show endS T + (j + 1) = endS T + j + 1 by omega]; omega
          rw [this]
          rfl
        · simp only [List.range_succ, List.map_append, List.map_cons, List.map_nil, List.append_assoc]
      · have hj3 : endS T + j = e' := by
          by_cases z : endS T + j < e'
          · have := plI_strict h0.w z hen; omega
          · omega
        walk_at "ev"
        refine ⟨l', (endS T, e') :: T, by rw [hlT]; rfl, rfl, ?_, _, _, _, by rw [hj3]; rfl⟩
        rw [restL, show j = e' - endS T by omega]
  · rintro Γ _ ⟨l, T, hlT, hT, rfl, x4, x5, x6, rfl⟩
    rw [List.length_map, List.length_reverse, List.length_map] at hT
    have : l = [] := by
      have := congrArg List.length hlT
      rw [List.length_append] at this
      exact List.eq_nil_of_length_eq_zero (by omega)
    subst this
    rw [List.nil_append] at hlT
    subst hlT
    refine ⟨trivial, ?_⟩
    walk_at "ev"
    rw [dl_up hp0]
    exact fin.of (hk _ hs)
end M
namespace M
open PySem L2
theorem row_sum (ps : List (Int × Rat)) (σ : Rat) (b : Nat) : ∀ m : Nat, ((List.range m).map fun j => σ * (flI ps (b + j) : Rat)).sum = σ * (plR ps (b + m) - plR ps b)
  | 0 => by simp; grind
  | m + 1 => by
    rw [List.range_succ, List.map_append, List.map_singleton, sum_snoc, row_sum ps σ b m]
    have : ((flI ps (b + m) : Int) : Rat) = plR ps (b + (m + 1)) - plR ps (b + m) := by
      unfold flI plR
      rw [Rat.intCast_sub]; rfl
    rw [this]; grind
theorem restL_sum {ps : List (Int × Rat)} {n : Nat} : ∀ {T : List (Nat × Nat)}, Stk (plR ps) (hpR ps) 0 n T → (∀ q ∈ ps, 1 ≤ q.1) → n ≤ ps.length → (restL ps T).sum = hpR ps n
  | [], h, _, _ => by cases h; rfl
  | q :: T, h, hp, hn => by
    cases h with
    | cons h lt _ _ =>
      rw [restL]
      have ih := restL_sum h hp (by omega)
      have hs : ∀ (l m : List Rat), (l ++ m).sum = l.sum + m.sum := by
        intro l m
        induction l with
        | nil => rw [List.nil_append, List.sum_nil, Rat.zero_add]
        | cons x l ih => rw [List.cons_append, List.sum_cons, List.sum_cons, ih, Rat.add_assoc]
      rw [hs, ih, row_sum]
      have e := slope_mul (H := hpR ps) (plR_strict hp _ _ lt hn)
      have eb : ∀ b e : Nat, b < e → b + (e - b) = e := fun b e h => by omega
      rw [eb _ _ lt, e]
      grind
theorem Stk.pts {P H : Nat → Rat} {s n : Nat} {T : List (Nat × Nat)} (h : Stk P H s n T) : ∀ q ∈ T, q.1 < q.2 ∧ q.2 ≤ n := by
  induction h with
  | nil => intro q hq; cases hq
  | cons h lt _ _ ih =>
    intro q hq
    rcases List.mem_cons.mp hq with rfl | hq
    · exact ⟨lt, Nat.le_refl _⟩
    · have := ih q hq; omega
/-- how much is left at rest of a place within a pool -/
theorem restL_heap {ps : List (Int × Rat)} {n : Nat} : ∀ {T : List (Nat × Nat)}, Stk (plR ps) (hpR ps) 0 n T → (∀ q ∈ ps, 1 ≤ q.1) → n ≤ ps.length → ∀ q ∈ T, ∀ k, q.1 ≤ k → k ≤ q.2 → ((restL ps T).take k).sum = hpR ps q.1 + slope (plR ps) (hpR ps) q.1 q.2 * (plR ps k - plR ps q.1)
  | [], h, _, _ => fun q hq => by cases hq
  | r :: T, h, hp, hn => by
    cases h with
    | @cons b _ _ h lt _ _ =>
      have hlen := restL_len (ps := ps) h
      intro q hq k h1 h2
      rw [restL]
      rcases List.mem_cons.mp hq with rfl | hq
      · have hs : ∀ (l m : List Rat), (l ++ m).sum = l.sum + m.sum := by
          intro l m
          induction l with
          | nil => rw [List.nil_append, List.sum_nil, Rat.zero_add]
          | cons x l ih => rw [List.cons_append, List.sum_cons, List.sum_cons, ih, Rat.add_assoc]
        dsimp only at h1 h2 ⊢
        rw [List.take_append, List.take_of_length_le (by omega), hlen, ← List.map_take, hs, restL_sum h hp (by omega), List.take_range, Nat.min_eq_left (by omega), row_sum]
        have e2 : b + (k - b) = k := by omega
        rw [e2]
      · have := h.pts q hq
        rw [List.take_append_of_le_length (by omega)]
        exact restL_heap h hp (by omega) q hq k h1 h2
theorem Stk.cover {P H : Nat → Rat} {s n : Nat} {T : List (Nat × Nat)} (h : Stk P H s n T) : ∀ k, s ≤ k → k ≤ n → s < n → ∃ q ∈ T, q.1 ≤ k ∧ k ≤ q.2 := by
  induction h with
  | nil => intro k _ _ h; omega
  | @cons b e st h lt _ _ ih =>
    intro k h1 h2 _
    by_cases z : b ≤ k
    · exact ⟨(b, e), List.mem_cons_self, z, h2⟩
    · have := h.le
      obtain ⟨q, hq, h3⟩ := ih k h1 (by omega) (by omega)
      exact ⟨q, List.mem_cons_of_mem _ hq, h3⟩
/-- the rest at a place: the least straight line over it -/
theorem rest_least {ps : List (Int × Rat)} {n : Nat} {T : List (Nat × Nat)} (h : Stk (plR ps) (hpR ps) 0 n T) (hp : ∀ q ∈ ps, 1 ≤ q.1) (hn : n ≤ ps.length) (n0 : 0 < n) {k : Nat} (hk : k ≤ n) :
    (∀ i j, i ≤ k → k ≤ j → j ≤ n → i < j → ((restL ps T).take k).sum ≤ chord (plR ps) (hpR ps) i j k) ∧ ∃ i j, i ≤ k ∧ k ≤ j ∧ j ≤ n ∧ i < j ∧ ((restL ps T).take k).sum = chord (plR ps) (hpR ps) i j k := by
  obtain ⟨q, hq, h1, h2⟩ := h.cover k (Nat.zero_le _) hk n0
  have e := restL_heap h hp hn q hq k h1 h2
  have str := plR_strict hp
  have mono : ∀ i j, i ≤ j → j ≤ n → plR ps i ≤ plR ps j := fun i j h1 h2 => by
    by_cases w : i = j
    · rw [w]; exact Rat.le_refl
    · have := str i j (by omega) (by omega); grind
  have und := Stk.under str h hn q hq
  obtain ⟨p1, p2⟩ := h.pts q hq
  refine ⟨fun i j hi hj hjn hij => ?_, q.1, q.2, h1, h2, p2, p1, e⟩
  have u1 := und i (Nat.zero_le _) (by omega)
  have u2 := und j (Nat.zero_le _) hjn
  have := chord_ge (P := plR ps) (H := hpR ps) (i := i) (j := j) (k := k) (σ := slope (plR ps) (hpR ps) q.1 q.2) (a := hpR ps q.1 - slope (plR ps) (hpR ps) q.1 q.2 * plR ps q.1) (str i j hij (by omega)) (mono i k hi hk) (mono k j hj hjn) (by grind) (by grind)
  rw [e]
  grind
end M
namespace M
open PySem L2
/-- what is left of a place -/
def hp (xs : List Rat) (k : Nat) : Rat := (xs.take k).sum
theorem hp_zero (xs : List Rat) : hp xs 0 = 0 := rfl
theorem hp_succ {xs : List Rat} {k : Nat} {x : Rat} (h : xs[k]? = some x) : hp xs (k + 1) = hp xs k + x := by
  unfold hp
  rw [take_succ h, sum_snoc]
theorem sum_append (l m : List Rat) : (l ++ m).sum = l.sum + m.sum := by
  induction l with
  | nil => rw [List.nil_append, List.sum_nil, Rat.zero_add]
  | cons x l ih => rw [List.cons_append, List.sum_cons, List.sum_cons, ih, Rat.add_assoc]
theorem hp_append_lo {ys zs : List Rat} {k : Nat} (h : k ≤ ys.length) : hp (ys ++ zs) k = hp ys k := by
  unfold hp
  rw [List.take_append_of_le_length h]
theorem hp_append_hi {ys zs : List Rat} {k : Nat} : hp (ys ++ zs) (ys.length + k) = ys.sum + hp zs k := by
  unfold hp
  rw [List.take_append, List.take_of_length_le (by omega), sum_append, show ys.length + k - ys.length = k by omega]
theorem hp_len (xs : List Rat) : hp xs xs.length = xs.sum := by unfold hp; rw [List.take_length]
theorem slope_lin {P X : Nat → Rat} {i j : Nat} {c σ p : Rat} (h : P i < P j) (h1 : X i = c + σ * (P i - p)) (h2 : X j = c + σ * (P j - p)) : slope P X i j = σ := by
  have e := slope_mul (H := X) h
  have : (slope P X i j - σ) * (P j - P i) = 0 := by grind
  have h0 : P j - P i ≠ 0 := by grind
  rcases Rat.mul_eq_zero.mp this with q | q
  · grind
  · exact absurd q h0
theorem Stk.top {P H : Nat → Rat} {s n : Nat} {q : Nat × Nat} {T : List (Nat × Nat)} (h : Stk P H s n (q :: T)) : q.2 = n := by
  cases h; rfl
/-- within a pool, or between two -/
theorem Stk.inner {P H : Nat → Rat} {s n : Nat} {T : List (Nat × Nat)} (h : Stk P H s n T) : ∀ k, s < k → k < n → (∃ q ∈ T, q.1 < k ∧ k < q.2) ∨ ∃ q ∈ T, ∃ r ∈ T, q.2 = k ∧ r.1 = k ∧ q.1 < k ∧ k < r.2 ∧ slope P H q.1 q.2 ≤ slope P H r.1 r.2 := by
  induction h with
  | nil => intro k h1 h2; omega
  | @cons b e st h lt p up ih =>
    intro k h1 h2
    by_cases z : b < k
    · exact .inl ⟨(b, e), List.mem_cons_self, z, h2⟩
    · by_cases w : k < b
      · rcases ih k h1 w with ⟨q, hq, r⟩ | ⟨q, hq, r, hr, x⟩
        · exact .inl ⟨q, List.mem_cons_of_mem _ hq, r⟩
        · exact .inr ⟨q, List.mem_cons_of_mem _ hq, r, List.mem_cons_of_mem _ hr, x⟩
      · have e1 : k = b := by omega
        subst e1
        cases h with
        | nil => omega
        | @cons b' _ st' h' lt' p' up' =>
          exact .inr ⟨(b', k), List.mem_cons_of_mem _ List.mem_cons_self, (k, e), List.mem_cons_self, rfl, rfl, lt', h2, up _ _ rfl⟩
/-- what rest_of tells is the rest -/
theorem rest_stk {ps : List (Int × Rat)} {n : Nat} {T : List (Nat × Nat)} (h : Stk (plR ps) (hpR ps) 0 n T) (hp1 : ∀ q ∈ ps, 1 ≤ q.1) (hn : n ≤ ps.length) : Rest n (plR ps) (hpR ps) (hp (restL ps T)) (fun k => k = 0 ∨ k = n) := by
  have str := plR_strict hp1
  have hh := restL_heap h hp1 hn
  have hpts := h.pts
  have und := Stk.under str h hn
  have sl : ∀ q ∈ T, ∀ i, q.1 ≤ i → i + 1 ≤ q.2 → slope (plR ps) (hp (restL ps T)) i (i + 1) = slope (plR ps) (hpR ps) q.1 q.2 := fun q hq i h1 h2 => by
    have := hpts q hq
    exact slope_lin (str i (i + 1) (Nat.lt_succ_self _) (by omega)) (hh q hq i h1 (by omega)) (hh q hq (i + 1) (by omega) h2)
  refine ⟨fun k hk => ?_, fun k hk hB => ?_, fun k h1 h2 _ => ?_, fun k h1 h2 _ h4 => ?_⟩
  · by_cases z : n = 0
    · have : k = 0 := by omega
      subst this; rw [hp_zero]; exact Rat.le_refl
    · obtain ⟨q, hq, q1, q2⟩ := h.cover k (Nat.zero_le _) hk (by omega)
      have := hh q hq k q1 q2
      unfold hp
      rw [this]
      exact und q hq k (Nat.zero_le _) hk
  · rcases hB with rfl | rfl
    · rfl
    · have := restL_sum h hp1 hn
      have l := restL_len (ps := ps) h
      unfold hp
      rw [List.take_of_length_le (by omega), this]
  · rcases h.inner k h1 h2 with ⟨q, hq, q1, q2⟩ | ⟨q, hq, r, hr, e1, e2, q1, q2, le⟩
    · have s1 := sl q hq (k - 1) (by omega) (by omega)
      rw [show k - 1 + 1 = k by omega] at s1
      rw [s1, sl q hq k (by omega) (by omega)]
      exact Rat.le_refl
    · have s1 := sl q hq (k - 1) (by omega) (by omega)
      rw [show k - 1 + 1 = k by omega] at s1
      rw [s1, sl r hr k (by omega) (by omega)]
      exact le
  · rcases h.inner k h1 h2 with ⟨q, hq, q1, q2⟩ | ⟨q, hq, r, hr, e1, e2, q1, q2, le⟩
    · have s1 := sl q hq (k - 1) (by omega) (by omega)
      rw [show k - 1 + 1 = k by omega] at s1
      rw [s1, sl q hq k (by omega) (by omega)]
    · exfalso
      have := hh q hq k (by omega) (by omega)
      have e := slope_mul (H := hpR ps) (str q.1 k (by omega) (by omega))
      rw [e1] at this
      unfold hp at h4
      rw [this, e] at h4
      grind
section
variable {P H X X' Z : Nat → Rat} {B : Nat → Prop} {a b : Nat}
/-- one stretch more -/
theorem Rest.glue (s : Strict P b) (hab : a < b) (ha : B a) (no : ∀ j, a < j → j < b → ¬ B j) (r : Rest a P H X B) (r' : Rest (b - a) (fun k => P (a + k) - P a) (fun k => H (a + k) - H a) X' (fun k => k = 0 ∨ k = b - a))
    (e1 : ∀ k, k ≤ a → Z k = X k) (e2 : ∀ k, k ≤ b - a → Z (a + k) = H a + X' k) : Rest b P H Z B := by
  have sl1 : ∀ i j, i ≤ a → j ≤ a → slope P Z i j = slope P X i j := fun i j h1 h2 => by unfold slope; rw [e1 i h1, e1 j h2]
  have sl2 : ∀ i j, i ≤ b - a → j ≤ b - a → slope P Z (a + i) (a + j) = slope (fun k => P (a + k) - P a) X' i j := fun i j h1 h2 => by
    unfold slope
    rw [e2 i h1, e2 j h2]
    have : P (a + j) - P a - (P (a + i) - P a) = P (a + j) - P (a + i) := by grind
    rw [this]
    congr 1
    grind
  refine ⟨fun k hk => ?_, fun k hk hB => ?_, fun k h1 h2 h3 => ?_, fun k h1 h2 h3 h4 => ?_⟩
  · by_cases z : k ≤ a
    · rw [e1 k z]; exact r.le k z
    · have := r'.le (k - a) (by omega)
      have e := e2 (k - a) (by omega)
      rw [show a + (k - a) = k by omega] at this e
      rw [e]; grind
  · by_cases z : k ≤ a
    · rw [e1 k z]; exact r.cut k z hB
    · have kb : k = b := by
        by_cases w : k < b
        · exact absurd hB (no k (by omega) w)
        · omega
      have := r'.cut (k - a) (by omega) (.inr (by omega))
      have e := e2 (k - a) (by omega)
      rw [show a + (k - a) = k by omega] at this e
      rw [e, this]; grind
  · by_cases z : k < a
    · rw [sl1 _ _ (by omega) (by omega), sl1 _ _ (by omega) (by omega)]
      exact r.up k h1 z h3
    · have z1 : k ≠ a := fun w => h3 (by rw [w]; exact ha)
      have := r'.up (k - a) (by omega) (by omega) (by omega)
      rw [← sl2 _ _ (by omega) (by omega), ← sl2 _ _ (by omega) (by omega)] at this
      rwa [show a + (k - a - 1) = k - 1 by omega, show a + (k - a) = k by omega, show a + (k - a + 1) = k + 1 by omega] at this
  · by_cases z : k < a
    · rw [sl1 _ _ (by omega) (by omega), sl1 _ _ (by omega) (by omega)]
      rw [e1 k (by omega)] at h4
      exact r.eq k h1 z h3 h4
    · have z1 : k ≠ a := fun w => h3 (by rw [w]; exact ha)
      have e := e2 (k - a) (by omega)
      rw [show a + (k - a) = k by omega] at e
      have := r'.eq (k - a) (by omega) (by omega) (by omega) (by
        show X' (k - a) < H (a + (k - a)) - H a
        rw [show a + (k - a) = k by omega]
        grind)
      rw [← sl2 _ _ (by omega) (by omega), ← sl2 _ _ (by omega) (by omega)] at this
      rwa [show a + (k - a - 1) = k - 1 by omega, show a + (k - a) = k by omega, show a + (k - a + 1) = k + 1 by omega] at this
theorem Rest.none {P H X : Nat → Rat} {B : Nat → Prop} (e : X 0 = H 0) : Rest 0 P H X B := by
  refine ⟨fun k hk => ?_, fun k hk _ => ?_, fun k h1 h2 _ => by omega, fun k h1 h2 _ _ => by omega⟩
  · have : k = 0 := by omega
    subst this; rw [e]; exact Rat.le_refl
  · have : k = 0 := by omega
    subst this; exact e
end
end M
namespace M
open PySem L2
/-- flaps of a row of so many tanks, none twice -/
structure Flaps (n : Nat) (bs : List Int) : Prop where
  lo : ∀ b ∈ bs, 0 < b
  hi : ∀ b ∈ bs, b < (n : Int)
  nd : bs.Nodup
def F_need_flaps : AF := fun ds M k _ => ∃ (d e : D) (fs : List D) (bs : List Int), ds = [d, e] ∧ rdS M d = some fs ∧ rdT M e = some (bs.map .int) ∧ Flaps fs.length bs ∧ k .non M
/-- need_flaps -/
def b_need_flaps : AS := (aFor (wEnT (aCons (aVar 1) aNil)) (gTu 2 (gCo (gNm 2) (gCo (gNm 3) gNi)))
  (aIfS (aOr (aNot (aB (aChain (fun i j => decide (i < j)) (fun i j => decide (i < j)) (aC (.int 0)) (aVar 3) (aCB cLen (aCons (aVar 0) aNil))))) (aB (aOp (bIn false) (aVar 3) (aCut false (aVar 1) aNoPart (aPart (aVar 2))))))
  aNever
  aNext))
theorem len_need_flaps : ∀ ds M k x, F_need_flaps ds M k x → ds.length = 2 := by
  rintro ds M k x ⟨a, b, _, _, rfl, _⟩; rfl
theorem ok_need_flaps : ∀ ds M k x, F_need_flaps ds M k x → b_need_flaps { nx := fun _ M' => fin k .non M', rt := fin k } (startG 4 ds) M := by
  rintro ds M k _ ⟨d, e, fs, bs, rfl, hd, he, hf, hk⟩
  walk_at "st"
  unfold b_need_flaps
  rcases rdT_cases he with ⟨rfl, hb⟩ | he
  · walk_at "ev"
    simp only [eEnT]
    walk_at "ev"
    refine kEnT_0 ?_
    refine ⟨fun _ _ M' => M' = M, rfl, fun i Γ M' hi w => ⟨trivial, ?_⟩⟩
    subst w
    exact fin.of hk
  walk_at "ev"
  simp only [eEnT]
  walk_at "ev"
  refine kEnT_l ?_ he
  refine for_go (fun i Γ M' => M' = M ∧ ∃ a b, Γ = [some d, some e, a, b]) ⟨rfl, _, _, rfl⟩ ?_ ?_
  · rintro i Γ _ x hx ⟨rfl, a, b, rfl⟩
    obtain ⟨n, hn, rfl⟩ := enum_get hx
    refine ⟨he, ?_⟩
    have hm := List.mem_of_getElem? hn
    walk_at "ev"
    refine iteDT (hf.lo n hm) ?_
    walk_at "ev"
    refine iteNDT (hf.hi n hm) ?_
    refine iCutG ?_ he
    rw [Nat.zero_add, cut_to, ← List.map_take]
    walk_at "ev"
    refine iteDF (fun z => ?_) ?_
    · obtain ⟨j, hj⟩ := List.getElem?_of_mem z
      rw [List.getElem?_take] at hj
      by_cases q : j < i
      · rw [if_pos q] at hj
        have hj2 : j < bs.length := (List.getElem?_eq_some_iff.mp hj).1
        have := (List.getElem?_inj hj2 hf.nd).mp (hj.trans hn.symm)
        omega
      · rw [if_neg q] at hj; cases hj
    · walk_at "ev"
      exact ⟨by walk_at "tr", _, _, rfl⟩
  · rintro Γ _ ⟨rfl, a, b, rfl⟩
    exact ⟨he, fin.of hk⟩
end M
namespace M
open PySem L2
def F_need_water : AF := fun ds M k _ => ∃ (d e : D) (ns : List Int) (xs : List Rat), ds = [d, e] ∧ rdS M d = some (ns.map .int) ∧ rdS M e = some (xs.map frD) ∧ ns.length = xs.length ∧ (∀ x ∈ xs, 0 ≤ x ∧ Sm x) ∧ k .non M
/-- need_water -/
def b_need_water : AS := (aSeq (aIfS (aB (aOp (bEq true) (aCB cLen (aCons (aVar 1) aNil)) (aCB cLen (aCons (aVar 0) aNil))))
  aNever
  aNext)
  (aFor (wEn (aCons (aVar 1) aNil)) (gTu 2 (gCo (gNm 2) (gCo (gNm 3) gNi)))
  (aIfS (aB (aCall noX F_is_below [] (aCons (aVar 3) (aCons (aC (.tup [(.int 0), (.int 1)])) aNil))))
  aNever
  aNext)))
theorem len_need_water : ∀ ds M k x, F_need_water ds M k x → ds.length = 2 := by
  rintro ds M k x ⟨a, b, _, _, rfl, _⟩; rfl
theorem ok_need_water : ∀ ds M k x, F_need_water ds M k x → b_need_water { nx := fun _ M' => fin k .non M', rt := fin k } (startG 4 ds) M := by
  rintro ds M k _ ⟨d, e, ns, xs, rfl, hd, he, hl, h1, hk⟩
  walk_at "st"
  unfold b_need_water
  walk_at "ev"
  refine iteNDT (by rw [List.length_map, List.length_map, hl]) ?_
  walk_at "ev"
  refine for_go (fun i Γ M' => M' = M ∧ ∃ a b, Γ = [some d, some e, a, b]) ⟨rfl, _, _, rfl⟩ ?_ ?_
  · rintro i Γ _ x hx ⟨rfl, a, b, rfl⟩
    obtain ⟨n, hn, rfl⟩ := enum_get hx
    refine ⟨he, ?_⟩
    obtain ⟨h2, h3⟩ := h1 n (List.mem_of_getElem? hn)
    walk_at "ev"
    refine ⟨n, 0, rfl, h3, Sm.zero, ?_⟩
    walk_at "ev"
    refine iteDF (by rw [Rat.not_lt]; exact h2) ?_
    walk_at "ev"
    exact ⟨by walk_at "tr", _, _, rfl⟩
  · rintro Γ _ ⟨rfl, a, b, rfl⟩
    exact ⟨he, fin.of hk⟩
end M
namespace M
open PySem L2
def F_need_floors : AF := fun ds M k _ => ∃ (d : D) (ns : List Int), ds = [d] ∧ rdS M d = some (ns.map .int) ∧ ns ≠ [] ∧ (∀ n ∈ ns, 1 ≤ n) ∧ k .non M
/-- need_floors -/
def b_need_floors : AS := (aSeq (aIfS (aB (aOp (bEq false) (aCB cLen (aCons (aVar 0) aNil)) (aC (.int 0))))
  aNever
  aNext)
  (aFor (wEn (aCons (aVar 0) aNil)) (gTu 2 (gCo (gNm 1) (gCo (gNm 2) gNi)))
  (aIfS (aB (aOp bLt (aVar 2) (aC (.int 1))))
  aNever
  aNext)))
theorem len_need_floors : ∀ ds M k x, F_need_floors ds M k x → ds.length = 1 := by
  rintro ds M k x ⟨a, b, rfl, _⟩; rfl
theorem ok_need_floors : ∀ ds M k x, F_need_floors ds M k x → b_need_floors { nx := fun _ M' => fin k .non M', rt := fin k } (startG 3 ds) M := by
  rintro ds M k _ ⟨d, ns, rfl, hd, h0, h1, hk⟩
  walk_at "st"
  unfold b_need_floors
  walk_at "ev"
  have hl : ¬ (((ns.map D.int).length : Int) = 0) := by
    rw [List.length_map]; intro h; exact h0 (List.eq_nil_of_length_eq_zero (by omega))
  refine iteDF hl ?_
  walk_at "ev"
  refine for_go (fun i Γ M' => M' = M ∧ ∃ a b, Γ = [some d, a, b]) ⟨rfl, _, _, rfl⟩ ?_ ?_
  · rintro i Γ _ x hx ⟨rfl, a, b, rfl⟩
    obtain ⟨n, hn, rfl⟩ := enum_get hx
    refine ⟨hd, ?_⟩
    walk_at "ev"
    refine iteDF (by have := h1 n (List.mem_of_getElem? hn); omega) ?_
    walk_at "ev"
    exact ⟨by walk_at "tr", _, _, rfl⟩
  · rintro Γ _ ⟨rfl, a, b, rfl⟩
    exact ⟨hd, fin.of hk⟩
end M
namespace M
open PySem L2
/-- the ends of all stretches -/
def cutsOf (n : Nat) (bs : List Int) : List Int := 0 :: (bs ++ [(n : Int)])
def strD (n : Nat) (bs : List Int) : List D := zipD ((cutsOf n bs).map .int) (((cutsOf n bs).drop 1).map .int)
def F_stretches : AF := fun ds M k _ => ∃ (d e : D) (fs : List D) (bs : List Int), ds = [d, e] ∧ rdS M d = some fs ∧ rdT M e = some (bs.map .int) ∧ bs.length ≤ 1000000 ∧ ∀ bs' : List Int, bs'.Perm bs → bs'.Pairwise (· ≤ ·) → k (.lst (strD fs.length bs')) M
/-- stretches -/
def b_stretches : AS := (aSeq (aSet 2 (aOp (bAdd false) (aOp (bAdd false) (aLst false (aCons (aC (.int 0)) aNil)) (aCB (cSortedT false) (aCons (aVar 1) aNil))) (aLst false (aCons (aCB cLen (aCons (aVar 0) aNil)) aNil))))
  (aRet (aLZip false (aCons (aVar 2) (aCons (aCut false (aVar 2) (aPart (aC (.int 1))) aNoPart) aNil)))))
theorem len_stretches : ∀ ds M k x, F_stretches ds M k x → ds.length = 2 := by
  rintro ds M k x ⟨a, b, _, _, rfl, _⟩; rfl
theorem ok_stretches : ∀ ds M k x, F_stretches ds M k x → b_stretches { nx := fun _ M' => fin k .non M', rt := fin k } (startG 3 ds) M := by
  rintro ds M k _ ⟨d, e, fs, bs, rfl, hd, he, hl, hk⟩
  walk_at "st"
  unfold b_stretches
  walk_at "ev"
  refine iSortedT (fun bs' h1 h2 => ?_) he
  have hlen := h1.length_eq
  walk_at "ev"
  have c1 := cut_from (xs := D.int 0 :: (bs'.map D.int ++ [D.int (fs.length : Int)])) (j := 1)
  rw [show ((1 : Nat) : Int) = 1 from rfl] at c1
  refine iLzG ?_ rfl rfl
  rw [c1]
  have e : (cutsOf fs.length bs').map D.int = D.int 0 :: (bs'.map D.int ++ [D.int (fs.length : Int)]) := by
    unfold cutsOf
    rw [List.map_cons, List.map_append]; rfl
  have := hk bs' h1 h2
  unfold strD at this
  rw [List.map_drop, e] at this
  exact fin.of this
end M
namespace M
open PySem L2
/-- places of floors -/
def plI' (ns : List Int) (k : Nat) : Int := (ns.take k).sum
def pl (ns : List Int) (k : Nat) : Rat := (plI' ns k : Rat)
/-- where a row is cut: at its ends, at its bolted flaps -/
def cutB (n : Nat) (bs : List Int) (k : Nat) : Prop := k = 0 ∨ k = n ∨ (k : Int) ∈ bs
/-- water: amounts from 0 on, bottoms dividing D, together to V -/
structure WOk (V D : Nat) (xs : List Rat) : Prop where
  nn : ∀ x ∈ xs, 0 ≤ x
  d : ∀ x ∈ xs, DenD D x
  s : xs.sum ≤ (V : Rat)
theorem DenD.zero {D : Nat} : DenD D 0 := ⟨0, by rw [Rat.zero_mul]; rfl⟩
theorem DenD.sub {D : Nat} {x y : Rat} (h : DenD D x) (g : DenD D y) : DenD D (x - y) := by
  obtain ⟨a, ha⟩ := h
  obtain ⟨b, hb⟩ := g
  exact ⟨a - b, by rw [Rat.intCast_sub, ← ha, ← hb]; grind⟩
theorem DenD.sum {D : Nat} : ∀ {xs : List Rat}, (∀ x ∈ xs, DenD D x) → DenD D xs.sum
  | [], _ => DenD.zero
  | x :: xs, h => by rw [List.sum_cons]; exact (h x List.mem_cons_self).add (DenD.sum fun y hy => h y (List.mem_cons_of_mem _ hy))
theorem DenD.hp {D : Nat} {xs : List Rat} (h : ∀ x ∈ xs, DenD D x) (k : Nat) : DenD D (M.hp xs k) := DenD.sum fun x hx => h x (List.mem_of_mem_take hx)
theorem DenD.share {D L : Nat} {x w f : Rat} {wi fi : Int} (hw : w = (wi : Rat)) (hf : f = (fi : Rat)) (h0 : 1 ≤ wi) (hL : wi.toNat ∣ L) (h : DenD D x) : DenD (D * L) (x / w * f) := by
  obtain ⟨a, ha⟩ := h
  obtain ⟨q, hq⟩ := hL
  have hwz : w ≠ 0 := by
    rw [hw]
    intro z
    have : wi = 0 := Rat.intCast_inj.mp (z.trans (by rfl))
    omega
  have e1 : x / w * w = x := by rw [Rat.div_def, Rat.mul_assoc, Rat.inv_mul_cancel _ hwz, Rat.mul_one]
  have e2 : (L : Rat) = w * (q : Rat) := by
    rw [hq, Rat.natCast_mul, hw]
    congr 1
    have : ((wi.toNat : Nat) : Int) = wi := by omega
    rw [← Rat.intCast_natCast, this]
  refine ⟨a * fi * q, ?_⟩
  rw [Rat.natCast_mul, e2, Rat.intCast_mul, Rat.intCast_mul, ← ha, ← hf, Rat.intCast_natCast]
  grind
theorem WOk.hp_le {V D : Nat} {xs : List Rat} (h : WOk V D xs) (k : Nat) : 0 ≤ hp xs k ∧ hp xs k ≤ (V : Rat) := by
  have e : hp xs k + (xs.drop k).sum = xs.sum := by
    unfold hp
    rw [← sum_append, List.take_append_drop]
  have h1 : 0 ≤ hp xs k := sum_nonneg fun x hx => h.nn x (List.mem_of_mem_take hx)
  have h2 : 0 ≤ (xs.drop k).sum := sum_nonneg fun x hx => h.nn x (List.mem_of_mem_drop hx)
  have := h.s
  exact ⟨h1, by grind⟩
theorem WOk.le {V D : Nat} {xs : List Rat} (h : WOk V D xs) {x : Rat} (hx : x ∈ xs) : x ≤ (V : Rat) := by
  obtain ⟨i, hi⟩ := List.getElem?_of_mem hx
  have e := hp_succ hi
  have h1 := (h.hp_le i).1
  have h2 := (h.hp_le (i + 1)).2
  grind
theorem WOk.sm {V D : Nat} {xs : List Rat} (h : WOk V D xs) (r : Rm V D) {x : Rat} (hx : x ∈ xs) : Sm x := r.sm (h.d x hx) (h.nn x hx) (h.le hx)
theorem WOk.smS {V D : Nat} {xs : List Rat} (h : WOk V D xs) (r : Rm V D) : SmS xs := ⟨fun x hx => h.sm r hx, fun i => r.sm (DenD.hp h.d i) (h.hp_le i).1 (h.hp_le i).2⟩
/-! the cuts -/
theorem cuts_pw {n : Nat} {bs bs' : List Int} (f : Flaps n bs) (n0 : 0 < n) (h1 : bs'.Perm bs) (h2 : bs'.Pairwise (· ≤ ·)) : (cutsOf n bs').Pairwise (· < ·) := by
  have nd : bs'.Nodup := h1.nodup_iff.mpr f.nd
  have lt : bs'.Pairwise (· < ·) := by
    refine (h2.and nd).imp fun {a b} h => ?_
    obtain ⟨h3, h4⟩ := h
    omega
  unfold cutsOf
  refine List.pairwise_cons.mpr ⟨fun x hx => ?_, List.pairwise_append.mpr ⟨lt, List.pairwise_singleton _ _, fun a ha b hb => ?_⟩⟩
  · rcases List.mem_append.mp hx with hx | hx
    · exact f.lo x (h1.mem_iff.mp hx)
    · rw [List.mem_singleton] at hx; omega
  · rw [List.mem_singleton] at hb
    rw [hb]
    exact f.hi a (h1.mem_iff.mp ha)
theorem cuts_mem {n : Nat} {bs bs' : List Int} (h1 : bs'.Perm bs) (k : Nat) : (k : Int) ∈ cutsOf n bs' ↔ cutB n bs k := by
  unfold cutsOf cutB
  rw [List.mem_cons, List.mem_append, List.mem_singleton, h1.mem_iff]
  constructor
  · rintro (h | h | h)
    · exact .inl (by omega)
    · exact .inr (.inr h)
    · exact .inr (.inl (by omega))
  · rintro (h | h | h)
    · exact .inl (by omega)
    · exact .inr (.inr (by omega))
    · exact .inr (.inl h)
theorem pw_between {l : List Int} (h : l.Pairwise (· < ·)) {i : Nat} {a b x : Int} (ha : l[i]? = some a) (hb : l[i + 1]? = some b) (h1 : a < x) (h2 : x < b) : x ∉ l := by
  intro hx
  obtain ⟨j, hj⟩ := List.getElem?_of_mem hx
  have hjl := (List.getElem?_eq_some_iff.mp hj).1
  have hil := (List.getElem?_eq_some_iff.mp ha).1
  have hil2 := (List.getElem?_eq_some_iff.mp hb).1
  have pw := List.pairwise_iff_getElem.mp h
  have ea := (List.getElem?_eq_some_iff.mp ha).2
  have eb := (List.getElem?_eq_some_iff.mp hb).2
  have ej := (List.getElem?_eq_some_iff.mp hj).2
  by_cases z : j ≤ i
  · by_cases w : j = i
    · subst w; omega
    · have := pw j i hjl hil (by omega); omega
  · by_cases w : j = i + 1
    · subst w; omega
    · have := pw (i + 1) j hil2 hjl (by omega); omega
/-! a part of a row -/
def tanks (ns : List Int) (xs : List Rat) : List (Int × Rat) := ns.zip xs
theorem tanks_fst {ns : List Int} {xs : List Rat} (h : ns.length = xs.length) : (tanks ns xs).map (·.1) = ns := List.map_fst_zip (by omega)
theorem tanks_snd {ns : List Int} {xs : List Rat} (h : ns.length = xs.length) : (tanks ns xs).map (·.2) = xs := List.map_snd_zip (by omega)
theorem plR_tanks {ns : List Int} {xs : List Rat} (h : ns.length = xs.length) (k : Nat) : plR (tanks ns xs) k = pl ns k := by
  unfold plR plI pl plI'
  rw [List.map_take, tanks_fst h]
theorem hpR_tanks {ns : List Int} {xs : List Rat} (h : ns.length = xs.length) (k : Nat) : hpR (tanks ns xs) k = hp xs k := by
  unfold hpR hp
  rw [List.map_take, tanks_snd h]
theorem pl_strict {ns : List Int} (h : ∀ n ∈ ns, 1 ≤ n) : Strict (pl ns) ns.length := by
  intro i j hij hj
  have := plR_strict (ps := ns.map fun n => (n, (0 : Rat))) (fun q hq => by
    obtain ⟨n, hn, rfl⟩ := List.mem_map.mp hq
    exact h n hn) i j hij (by rw [List.length_map]; exact hj)
  have e : ∀ k, plR (ns.map fun n => (n, (0 : Rat))) k = pl ns k := fun k => by
    unfold plR plI pl plI'
    rw [List.map_take, List.map_map]
    congr 3
    exact List.map_id' ns
  rwa [e, e] at this
theorem sum_appendI (l m : List Int) : (l ++ m).sum = l.sum + m.sum := by
  induction l with
  | nil => rw [List.nil_append, List.sum_nil]; omega
  | cons x l ih => rw [List.cons_append, List.sum_cons, List.sum_cons, ih]; omega
theorem pl_part {ns : List Int} {a b k : Nat} (hk : k ≤ b - a) : pl ((ns.drop a).take (b - a)) k = pl ns (a + k) - pl ns a := by
  unfold pl plI'
  rw [List.take_take, Nat.min_eq_left hk, ← Rat.intCast_sub]
  congr 1
  rw [List.take_add, sum_appendI]
  omega
theorem hp_part {xs : List Rat} {a b k : Nat} (hk : k ≤ b - a) : hp ((xs.drop a).take (b - a)) k = hp xs (a + k) - hp xs a := by
  unfold hp
  rw [List.take_take, Nat.min_eq_left hk, List.take_add, sum_append]
  grind
theorem WOk.part {V D : Nat} {xs : List Rat} (h : WOk V D xs) (a m : Nat) : WOk V D ((xs.drop a).take m) := by
  refine ⟨fun x hx => h.nn x (List.mem_of_mem_drop (List.mem_of_mem_take hx)), fun x hx => h.d x (List.mem_of_mem_drop (List.mem_of_mem_take hx)), ?_⟩
  have e := hp_part (xs := xs) (a := a) (b := a + m) (k := m) (by omega)
  have e2 : hp ((xs.drop a).take (a + m - a)) m = ((xs.drop a).take m).sum := by
    unfold hp
    rw [show a + m - a = m by omega, List.take_take, Nat.min_self]
  have h1 := (h.hp_le a).1
  have h2 := (h.hp_le (a + m)).2
  rw [← e2, e]
  grind
theorem WOk.tk {V D : Nat} {ns : List Int} {xs : List Rat} (h : WOk V D xs) (hl : ns.length = xs.length) (h1 : ∀ n ∈ ns, 1 ≤ n) (h2 : ns.sum < 1152921504606846976) : ∀ i, TkOk V D ((tanks ns xs).take i) := by
  intro i
  have m1 : ∀ q ∈ tanks ns xs, q.1 ∈ ns ∧ q.2 ∈ xs := fun q hq => List.of_mem_zip hq
  refine ⟨fun q hq => h1 _ (m1 q (List.mem_of_mem_take hq)).1, fun q hq => h.nn _ (m1 q (List.mem_of_mem_take hq)).2, fun q hq => h.d _ (m1 q (List.mem_of_mem_take hq)).2, ?_, ?_⟩
  · rw [List.map_take, tanks_fst hl]
    have e : (ns.take i).sum + (ns.drop i).sum = ns.sum := by rw [← sum_appendI, List.take_append_drop]
    have : 0 ≤ (ns.drop i).sum := sum_nonnegI fun x hx => by have := h1 x (List.mem_of_mem_drop hx); omega
    omega
  · rw [List.map_take, tanks_snd hl]
    exact (h.hp_le i).2
/-- what rest_of tells of good water is good water -/
theorem restL_ok {V D L : Nat} {ns : List Int} {xs : List Rat} {T : List (Nat × Nat)} (h : WOk V D xs) (hl : ns.length = xs.length) (h1 : ∀ n ∈ ns, 1 ≤ n) (hL : ∀ w : Int, 1 ≤ w → w ≤ ns.sum → w.toNat ∣ L)
    (st : Stk (plR (tanks ns xs)) (hpR (tanks ns xs)) 0 ns.length T) : (restL (tanks ns xs) T).length = ns.length ∧ WOk V (D * L) (restL (tanks ns xs) T) := by
  have hlen : (tanks ns xs).length = ns.length := by unfold tanks; rw [List.length_zip]; omega
  have hp1 : ∀ q ∈ tanks ns xs, 1 ≤ q.1 := fun q hq => h1 _ (List.of_mem_zip hq).1
  have l := restL_len (ps := tanks ns xs) st
  have sub : ∀ T' n', n' ≤ ns.length → Stk (plR (tanks ns xs)) (hpR (tanks ns xs)) 0 n' T' → ∀ x ∈ restL (tanks ns xs) T', 0 ≤ x ∧ DenD (D * L) x := by
    intro T'
    induction T' with
    | nil => intro _ _ _ x hx; cases hx
    | cons q T' ih =>
      intro n' hn' h' x hx
      cases h' with
      | @cons b _ _ h'' lt p up =>
        rw [restL] at hx
        rcases List.mem_append.mp hx with hx | hx
        · exact ih b (by omega) h'' x hx
        · obtain ⟨j, hj, rfl⟩ := List.mem_map.mp hx
          have hj := List.mem_range.mp hj
          have e9 := List.getElem?_eq_getElem (show b + j < (tanks ns xs).length by omega)
          have hf : flI (tanks ns xs) (b + j) = (tanks ns xs)[b + j].1 := by unfold flI; rw [plI_succ e9]; omega
          have hf1 := hp1 _ (List.mem_of_getElem? e9)
          have str := plI_strict hp1 lt (by omega)
          have hb1 := hpR_tanks hl b
          have hb2 := hpR_tanks hl n'
          have up1 : plI (tanks ns xs) n' ≤ ns.sum := by
            have e0 : plI (tanks ns xs) n' = (ns.take n').sum := by unfold plI; rw [List.map_take, tanks_fst hl]
            have e1 : (ns.take n').sum + (ns.drop n').sum = ns.sum := by rw [← sum_appendI, List.take_append_drop]
            have : 0 ≤ (ns.drop n').sum := sum_nonnegI fun x hx => by have := h1 x (List.mem_of_mem_drop hx); omega
            omega
          have lo1 : 0 ≤ plI (tanks ns xs) b := by
            have e0 : plI (tanks ns xs) b = (ns.take b).sum := by unfold plI; rw [List.map_take, tanks_fst hl]
            have : 0 ≤ (ns.take b).sum := sum_nonnegI fun x hx => by have := h1 x (List.mem_of_mem_take hx); omega
            omega
          have hpm : hp xs b ≤ hp xs n' := by
            have e := hp_part (xs := xs) (a := b) (b := n') (k := n' - b) (Nat.le_refl _)
            rw [show b + (n' - b) = n' by omega] at e
            have := ((h.part b (n' - b)).hp_le (n' - b)).1
            grind
          have dd : DenD D (hpR (tanks ns xs) n' - hpR (tanks ns xs) b) := by
            rw [hb1, hb2]
            exact (DenD.hp h.d n').sub (DenD.hp h.d b)
          have wI : plR (tanks ns xs) n' - plR (tanks ns xs) b = ((plI (tanks ns xs) n' - plI (tanks ns xs) b : Int) : Rat) := by unfold plR; rw [Rat.intCast_sub]
          constructor
          · have c1 : 0 ≤ slope (plR (tanks ns xs)) (hpR (tanks ns xs)) b n' := by
              unfold slope
              rw [wI]
              exact (le_div (x := hpR (tanks ns xs) n' - hpR (tanks ns xs) b) (by rw [hb1, hb2]; grind) (show 1 ≤ plI (tanks ns xs) n' - plI (tanks ns xs) b by omega)).1
            have c2 : (0 : Rat) ≤ (flI (tanks ns xs) (b + j) : Rat) := by
              have : (0 : Int) ≤ flI (tanks ns xs) (b + j) := by omega
              exact_mod_cast this
            exact Rat.mul_nonneg c1 c2
          · unfold slope
            exact DenD.share (L := L) wI rfl (by omega) (hL _ (by omega) (by omega)) dd
  refine ⟨l, fun x hx => (sub T _ (Nat.le_refl _) st x hx).1, fun x hx => (sub T _ (Nat.le_refl _) st x hx).2, ?_⟩
  rw [restL_sum st hp1 (by omega), hpR_tanks hl]
  exact (h.hp_le _).2

/-- the divisors of all widths -/
def Lcm (ns : List Int) (L : Nat) : Prop := 0 < L ∧ ∀ w : Int, 1 ≤ w → w ≤ ns.sum → w.toNat ∣ L
structure RowOk (ns : List Int) : Prop where
  ne : ns ≠ []
  w : ∀ n ∈ ns, 1 ≤ n
  s : ns.sum < 1152921504606846976
  l : ns.length ≤ 1000
theorem RowOk.len {ns : List Int} (h : RowOk ns) : 0 < ns.length := List.length_pos_iff.mpr h.ne
theorem RowOk.strict {ns : List Int} (h : RowOk ns) : Strict (pl ns) ns.length := pl_strict h.w
theorem Lcm.part {ns : List Int} {L a m : Nat} (h : ∀ w : Int, 1 ≤ w → w ≤ ns.sum → w.toNat ∣ L) (h1 : ∀ n ∈ ns, 1 ≤ n) : ∀ w : Int, 1 ≤ w → w ≤ ((ns.drop a).take m).sum → w.toNat ∣ L := fun w w1 w2 => h w w1 (by
  have e0 : (ns.take a).sum + (ns.drop a).sum = ns.sum := by rw [← sum_appendI, List.take_append_drop]
  have e1 : ((ns.drop a).take m).sum + ((ns.drop a).drop m).sum = (ns.drop a).sum := by rw [← sum_appendI, List.take_append_drop]
  have g1 : 0 ≤ (ns.take a).sum := sum_nonnegI fun x hx => by have := h1 x (List.mem_of_mem_take hx); omega
  have g2 : 0 ≤ ((ns.drop a).drop m).sum := sum_nonnegI fun x hx => by have := h1 x (List.mem_of_mem_drop (List.mem_of_mem_drop hx)); omega
  omega)
theorem Flaps.length {n : Nat} : ∀ {bs : List Int}, Flaps n bs → bs.length ≤ n := by
  induction n with
  | zero =>
    intro bs h
    cases bs with
    | nil => exact Nat.le_refl _
    | cons b bs =>
      have h1 := h.lo b List.mem_cons_self
      have h2 := h.hi b List.mem_cons_self
      omega
  | succ n ih =>
    intro bs h
    have nd := h.nd.erase (n : Int)
    have := ih (bs := bs.erase (n : Int)) ⟨fun b hb => h.lo b (List.mem_of_mem_erase hb), fun b hb => by
      have h1 := h.hi b (List.mem_of_mem_erase hb)
      have h2 : b ≠ (n : Int) := fun z => by rw [z] at hb; exact h.nd.not_mem_erase hb
      omega, nd⟩
    have l : bs.length ≤ (bs.erase (n : Int)).length + 1 := by rw [List.length_erase]; split <;> omega
    omega

/-- one stretch more, by its own water at rest -/
theorem rest_part {ns ns' : List Int} {xs xs' ys zs : List Rat} {B : Nat → Prop} {a c : Nat} (hst : Strict (pl ns) ns.length) (hcn : c ≤ ns.length) (hac : a < c) (hBa : B a) (hno : ∀ j, a < j → j < c → ¬ B j) (hya : ys.length = a) (hrest : Rest a (pl ns) (hp xs) (hp ys) B)
    (hl' : ns'.length = xs'.length) (hns' : (ns.drop a).take (c - a) = ns') (hxs' : (xs.drop a).take (c - a) = xs') (pl1 : ns'.length = c - a) (zr : Rest ns'.length (plR (tanks ns' xs')) (hpR (tanks ns' xs')) (hp zs) (fun k => k = 0 ∨ k = ns'.length)) :
    Rest c (pl ns) (hp xs) (hp (ys ++ zs)) B := by
  have r' : Rest (c - a) (fun k => pl ns (a + k) - pl ns a) (fun k => hp xs (a + k) - hp xs a) (hp zs) (fun k => k = 0 ∨ k = c - a) := by
    rw [pl1] at zr
    have zz := zr.congr (H' := fun k => hp xs (a + k) - hp xs a) (X' := hp zs) (B' := fun k => k = 0 ∨ k = c - a) (fun k hk => by rw [hpR_tanks hl', ← hxs', hp_part hk]) (fun k _ => rfl) (fun k _ => Iff.rfl)
    have pe : ∀ k, k ≤ c - a → plR (tanks ns' xs') k = pl ns (a + k) - pl ns a := fun k hk => by rw [plR_tanks hl', ← hns', pl_part hk]
    have sl : ∀ (X : Nat → Rat) i j, i ≤ c - a → j ≤ c - a → slope (plR (tanks ns' xs')) X i j = slope (fun k => pl ns (a + k) - pl ns a) X i j := fun X i j h1 h2 => by unfold slope; rw [pe i h1, pe j h2]
    refine ⟨zz.le, zz.cut, fun k k1 k2 k3 => ?_, fun k k1 k2 k3 k4 => ?_⟩
    · rw [← sl _ _ _ (by omega) (by omega), ← sl _ _ _ (by omega) (by omega)]; exact zz.up k k1 k2 k3
    · rw [← sl _ _ _ (by omega) (by omega), ← sl _ _ _ (by omega) (by omega)]; exact zz.eq k k1 k2 k3 k4
  refine Rest.glue (hst.to hcn) hac hBa hno hrest r' (fun k hk => hp_append_lo (by omega)) (fun k hk => ?_)
  rw [← hya, hp_append_hi, hya]
  have := hrest.cut a (Nat.le_refl _) hBa
  rw [← this]
  conv => rhs; rw [← hya]
  rw [hp_len]

/-! the rest exists -/
theorem rest_exists {ns : List Int} {xs : List Rat} {bs : List Int} {V D L : Nat} (hr : RowOk ns) (hl : ns.length = xs.length) (hf : Flaps ns.length bs) (hL : ∀ w : Int, 1 ≤ w → w ≤ ns.sum → w.toNat ∣ L) (hw : WOk V D xs) :
    ∃ ys : List Rat, ys.length = ns.length ∧ Rest ns.length (pl ns) (hp xs) (hp ys) (cutB ns.length bs) ∧ WOk V (D * L) ys := by
  have hst := hr.strict
  have go : ∀ (d a : Nat), a + d = ns.length → cutB ns.length bs a → (∃ ys : List Rat, ys.length = a ∧ Rest a (pl ns) (hp xs) (hp ys) (cutB ns.length bs) ∧ ∀ y ∈ ys, 0 ≤ y ∧ DenD (D * L) y) →
      ∃ ys : List Rat, ys.length = ns.length ∧ Rest ns.length (pl ns) (hp xs) (hp ys) (cutB ns.length bs) ∧ ∀ y ∈ ys, 0 ≤ y ∧ DenD (D * L) y := by
    intro d
    induction d using Nat.strongRecOn with
    | _ d ih =>
      intro a had hBa ⟨ys, hya, hrest, hy⟩
      by_cases z : a = ns.length
      · subst z; exact ⟨ys, hya, hrest, hy⟩
      · obtain ⟨c, c1, c2, c3, c4⟩ := contact_hi (T := cutB ns.length bs) (b := ns.length) (.inr (.inl rfl)) (ns.length - (a + 1)) (a + 1) (by omega)
        have hac : a < c := c1
        have hno : ∀ j, a < j → j < c → ¬ cutB ns.length bs j := fun j j1 j2 => c4 j j1 j2
        refine ih (ns.length - c) (by omega) c (by omega) c3 ?_
        have pl1 : ((ns.drop a).take (c - a)).length = c - a := by rw [List.length_take, List.length_drop]; omega
        have pl2 : ((xs.drop a).take (c - a)).length = c - a := by rw [List.length_take, List.length_drop]; omega
        have pw1 : ∀ n ∈ (ns.drop a).take (c - a), 1 ≤ n := fun n hn => hr.w n (List.mem_of_mem_drop (List.mem_of_mem_take hn))
        have hLp : ∀ w : Int, 1 ≤ w → w ≤ ((ns.drop a).take (c - a)).sum → w.toNat ∣ L := Lcm.part (L := L) hL hr.w
        have hwp := hw.part a (c - a)
        generalize hns' : (ns.drop a).take (c - a) = ns' at pl1 pw1 hLp
        generalize hxs' : (xs.drop a).take (c - a) = xs' at pl2 hwp
        have hl' : ns'.length = xs'.length := by omega
        have htl : (tanks ns' xs').length = ns'.length := by unfold tanks; rw [List.length_zip]; omega
        obtain ⟨segs, hs, _⟩ := pools_segs (ps := tanks ns' xs') (fun q hq => pw1 _ (List.of_mem_zip hq).1) ns'.length (by omega)
        obtain ⟨zl, zw⟩ := restL_ok hwp hl' pw1 hLp hs
        have zr := rest_stk hs (fun q hq => pw1 _ (List.of_mem_zip hq).1) (by omega)
        generalize restL (tanks ns' xs') segs = zs at zl zw zr
        refine ⟨ys ++ zs, by rw [List.length_append]; omega, ?_, ?_⟩
        · exact rest_part hst c2 hac hBa hno hya hrest hl' hns' hxs' pl1 zr
        · intro y hy'
          rcases List.mem_append.mp hy' with h | h
          · exact hy y h
          · exact ⟨zw.nn y h, zw.d y h⟩
  obtain ⟨ys, h1, h2, h3⟩ := go ns.length 0 (by omega) (.inl rfl) ⟨[], rfl, Rest.none rfl, by simp⟩
  refine ⟨ys, h1, h2, fun y h => (h3 y h).1, fun y h => (h3 y h).2, ?_⟩
  have := h2.cut ns.length (Nat.le_refl _) (.inr (.inl rfl))
  rw [← hp_len, h1, this]
  exact (hw.hp_le _).2
/-- two waters with the same heaps are one -/
theorem hp_ext {ys zs : List Rat} (hl : ys.length = zs.length) (h : ∀ k, k ≤ ys.length → hp ys k = hp zs k) : ys = zs := by
  refine List.ext_getElem hl fun i h1 h2 => ?_
  have e1 := hp_succ (List.getElem?_eq_getElem h1)
  have e2 := hp_succ (List.getElem?_eq_getElem h2)
  have e3 := h i (by omega)
  have e4 := h (i + 1) h1
  grind
open Classical in
/-- the water at rest -/
noncomputable def settle (ns : List Int) (xs : List Rat) (bs : List Int) : List Rat :=
  if h : ∃ ys : List Rat, ys.length = ns.length ∧ Rest ns.length (pl ns) (hp xs) (hp ys) (cutB ns.length bs) then Classical.choose h else []
theorem settle_eq {ns : List Int} {xs ys : List Rat} {bs : List Int} (hr : RowOk ns) (h1 : ys.length = ns.length) (h2 : Rest ns.length (pl ns) (hp xs) (hp ys) (cutB ns.length bs)) : settle ns xs bs = ys := by
  have h : ∃ ys : List Rat, ys.length = ns.length ∧ Rest ns.length (pl ns) (hp xs) (hp ys) (cutB ns.length bs) := ⟨ys, h1, h2⟩
  unfold settle
  rw [dif_pos h]
  obtain ⟨g1, g2⟩ := Classical.choose_spec h
  exact hp_ext (g1.trans h1.symm) fun k hk => g2.one hr.strict (.inl rfl) (.inr (.inl rfl)) h2 (by omega)
section
variable {ns : List Int} {xs : List Rat} {bs bs' : List Int} {V D L : Nat}
theorem settle_ok (hr : RowOk ns) (hl : ns.length = xs.length) (hf : Flaps ns.length bs) (hL : Lcm ns L) (hw : WOk V D xs) : (settle ns xs bs).length = ns.length ∧ Rest ns.length (pl ns) (hp xs) (hp (settle ns xs bs)) (cutB ns.length bs) ∧ WOk V (D * L) (settle ns xs bs) := by
  obtain ⟨ys, h1, h2, h3⟩ := rest_exists hr hl hf hL.2 hw
  rw [settle_eq hr h1 h2]
  exact ⟨h1, h2, h3⟩
theorem settle_perm (hr : RowOk ns) (hl : ns.length = xs.length) (hf : Flaps ns.length bs) (hL : Lcm ns L) (hw : WOk V D xs) (hp : bs'.Perm bs) : settle ns xs bs' = settle ns xs bs := by
  obtain ⟨h1, h2, h3⟩ := settle_ok hr hl hf hL hw
  refine settle_eq hr h1 (h2.congr (fun _ _ => rfl) (fun _ _ => rfl) fun k _ => ?_)
  unfold cutB
  rw [hp.mem_iff]
end
end M
namespace M
open PySem L2
/-- what all widths to 72 divide -/
def L72 : Nat := 5624043567677125526551547131200
theorem L72_pos : 0 < L72 := by decide
theorem L72_lt : L72 < 2 ^ 103 := by decide +kernel
theorem L72_dvd {c : Nat} (h1 : 1 ≤ c) (h2 : c ≤ 72) : c ∣ L72 := by
  have : ∀ c : Fin 73, c.val = 0 ∨ c.val ∣ L72 := by decide +kernel
  rcases this ⟨c, by omega⟩ with h | h
  · have h : c = 0 := h
    omega
  · exact h
theorem Lcm.l72 {ns : List Int} (h : ns.sum ≤ 72) : Lcm ns L72 := ⟨L72_pos, fun w w1 w2 => L72_dvd (by omega) (by omega)⟩
/-- a row of the laws -/
structure Row (ns : List Int) : Prop where
  ne : ns ≠ []
  l : ns.length ≤ 8
  w : ∀ n ∈ ns, 1 ≤ n ∧ n ≤ 9
theorem sum_le9 : ∀ {ns : List Int}, (∀ n ∈ ns, n ≤ 9) → ns.sum ≤ 9 * (ns.length : Int)
  | [], _ => by simp
  | n :: ns, h => by
    have h1 := h n List.mem_cons_self
    have h2 := sum_le9 fun m hm => h m (List.mem_cons_of_mem n hm)
    rw [List.sum_cons, List.length_cons]
    omega
theorem Row.sum {ns : List Int} (h : Row ns) : ns.sum ≤ 72 := by
  have := sum_le9 fun n hn => (h.w n hn).2
  have := h.l
  omega
theorem Row.ok {ns : List Int} (h : Row ns) : RowOk ns := ⟨h.ne, fun n hn => (h.w n hn).1, by have := h.sum; omega, by have := h.l; omega⟩
theorem Row.lcm {ns : List Int} (h : Row ns) : Lcm ns L72 := Lcm.l72 h.sum
theorem Amt.wok {xs : List Rat} (h : ∀ x ∈ xs, Amt x) (hl : xs.length ≤ 8) : WOk 8000000000008 L60 xs := by
  refine ⟨fun x hx => (h x hx).nonneg, fun x hx => (h x hx).bnd.den, ?_⟩
  have b : Bnd (1000000000001 * xs.length) L60 xs.sum := Bnd.sum fun x hx => (h x hx).bnd
  refine Rat.le_trans b.hi (Rat.natCast_le_natCast.mpr ?_)
  have := Nat.mul_le_mul_left 1000000000001 hl
  omega
theorem rm_pow {V D a : Nat} (hd : 0 < D) (h1 : D < 2 ^ a) (ha : a ≤ 1800) (hv : V < 2 ^ 64) : Rm V D := ⟨hd, lt_pow h1 ha, lt_pow hv (by decide)⟩
theorem L60_lt84 : L60 < 2 ^ 84 := by decide +kernel
theorem L60_pos : 0 < L60 := by decide
theorem rm_row {V : Nat} (hv : V < 2 ^ 64) : Rm V (L60 * L72) ∧ Rm V L60 := ⟨rm_pow (a := 187) (Nat.mul_pos L60_pos L72_pos) (by rw [show (187 : Nat) = 84 + 103 from rfl, Nat.pow_add]; exact Nat.mul_lt_mul'' L60_lt84 L72_lt) (by decide) hv, rm_pow L60_pos L60_lt84 (by decide) hv⟩
end M
namespace M
open PySem L2
theorem pl_succ {ns : List Int} {k : Nat} {w : Int} (h : ns[k]? = some w) : pl ns (k + 1) = pl ns k + (w : Rat) := by
  unfold pl plI'
  rw [take_succ h, sum_snocI, Rat.intCast_add]
theorem slope_at {ns : List Int} {ys : List Rat} {k : Nat} {w : Int} {y : Rat} (h1 : ns[k]? = some w) (h2 : ys[k]? = some y) : slope (pl ns) (hp ys) k (k + 1) = y / (w : Rat) := by
  unfold slope
  rw [pl_succ h1, hp_succ h2]
  congr 1
  · grind
  · grind
theorem wpos {w : Int} (h : 1 ≤ w) : (0 : Rat) < (w : Rat) := by
  have : (0 : Int) < w := by omega
  exact_mod_cast this
theorem div_mul' {y : Rat} {w : Int} (h : 1 ≤ w) : y / (w : Rat) * (w : Rat) = y := by
  have := wpos h
  have hz : (w : Rat) ≠ 0 := by grind
  rw [Rat.div_def, Rat.mul_assoc, Rat.inv_mul_cancel _ hz, Rat.mul_one]
theorem div_le_div {y1 y2 : Rat} {w1 w2 : Int} (h1 : 1 ≤ w1) (h2 : 1 ≤ w2) : y1 / (w1 : Rat) ≤ y2 / (w2 : Rat) ↔ y1 * (w2 : Rat) ≤ y2 * (w1 : Rat) := by
  have e1 := div_mul' (y := y1) h1
  have e2 := div_mul' (y := y2) h2
  have p1 := wpos h1
  have p2 := wpos h2
  have pp : (0 : Rat) < (w1 : Rat) * (w2 : Rat) := Rat.mul_pos p1 p2
  generalize y1 / (w1 : Rat) = a at *
  generalize y2 / (w2 : Rat) = b at *
  generalize (w1 : Rat) = u at *
  generalize (w2 : Rat) = v at *
  subst e1 e2
  constructor
  · intro h
    have := mul_mono h (Rat.le_of_lt pp)
    grind
  · intro h
    refine Rat.le_of_mul_le_mul_right (c := u * v) ?_ pp
    grind
theorem div_eq_div {y1 y2 : Rat} {w1 w2 : Int} (h1 : 1 ≤ w1) (h2 : 1 ≤ w2) : y1 / (w1 : Rat) = y2 / (w2 : Rat) ↔ y1 * (w2 : Rat) = y2 * (w1 : Rat) := by
  constructor
  · intro h
    exact Rat.le_antisymm ((div_le_div h1 h2).mp (by rw [h]; exact Rat.le_refl)) ((div_le_div h2 h1).mp (by rw [h]; exact Rat.le_refl))
  · intro h
    exact Rat.le_antisymm ((div_le_div h1 h2).mpr (by rw [h]; exact Rat.le_refl)) ((div_le_div h2 h1).mpr (by rw [h]; exact Rat.le_refl))
theorem get_of {α : Type} {l : List α} {i : Nat} (h : i < l.length) : ∃ x, l[i]? = some x := ⟨l[i], List.getElem?_eq_getElem h⟩
theorem rat_nd' (x : Rat) : x * (x.den : Rat) = (x.num : Rat) := by
  have dx : (x.den : Rat) ≠ 0 := by
    intro z
    have : x.den = 0 := by exact_mod_cast z
    exact x.den_nz this
  have e := Rat.mkRat_self x
  rw [Rat.mkRat_eq_div] at e
  conv => lhs; lhs; rw [← e]
  rw [Rat.div_def, Rat.mul_assoc, Rat.inv_mul_cancel _ dx, Rat.mul_one]
/-- how high water stands: by products -/
theorem high_iff {x y : Rat} {v w : Int} : x.num * w * (y.den : Int) < y.num * v * (x.den : Int) ↔ x * (w : Rat) < y * (v : Rat) := by
  have hx := rat_nd' x
  have hy := rat_nd' y
  have dx : (0 : Rat) < (x.den : Rat) := by have := x.den_pos; exact_mod_cast this
  have dy : (0 : Rat) < (y.den : Rat) := by have := y.den_pos; exact_mod_cast this
  have pp : (0 : Rat) < (x.den : Rat) * (y.den : Rat) := Rat.mul_pos dx dy
  have e : x.num * w * (y.den : Int) < y.num * v * (x.den : Int) ↔ (x.num : Rat) * (w : Rat) * (y.den : Rat) < (y.num : Rat) * (v : Rat) * (x.den : Rat) := by
    rw [← Rat.intCast_lt_intCast]
    simp only [Rat.intCast_mul, Rat.intCast_natCast]
  rw [e, ← hx, ← hy]
  have e2 : x * (x.den : Rat) * (w : Rat) * (y.den : Rat) = x * (w : Rat) * ((x.den : Rat) * (y.den : Rat)) := by grind
  have e3 : y * (y.den : Rat) * (v : Rat) * (x.den : Rat) = y * (v : Rat) * ((x.den : Rat) * (y.den : Rat)) := by grind
  rw [e2, e3]
  constructor
  · intro h
    refine Rat.not_le.mp fun z => ?_
    have := mul_mono z (Rat.le_of_lt pp)
    grind
  · intro h
    refine Rat.not_le.mp fun z => ?_
    have := Rat.le_of_mul_le_mul_right z pp
    grind
end M
namespace M
open PySem L2
/-- the deck of draws -/
def DeckA (g : Addr) (b : Nat) : List BO → Prop := fun bs => ∃ (gs : List Int) (f c : Int), bs = [.lst [.ref g, .int f, .int c], .lst (gs.map .int)] ∧ (∀ x ∈ gs, 0 ≤ x) ∧ gs.length ≤ 1000000 ∧ 0 ≤ f ∧ f < 2305843009213693952 ∧ 0 ≤ c ∧ c + b ≤ 1152921504606846976
def deck (g : Addr) (b : Nat) : MO := .box [g] (DeckA g b)
theorem DeckA.mono {g : Addr} {b b' : Nat} (h : b' ≤ b) : ∀ bs, DeckA g b bs → DeckA g b' bs := by
  rintro bs ⟨gs, f, c, rfl, h1, h2, h3, h4, h5, h6⟩
  exact ⟨gs, f, c, rfl, h1, h2, h3, h4, h5, by omega⟩
theorem fin.deck_le {k : AK} {d : D} {M : MH} {t g : Addr} {b b' : Nat} (h : b' ≤ b) (hk : k d (up M t (deck g b'))) : fin k d (up M t (deck g b)) := by
  refine ⟨_, ?_, hk⟩
  have := Abs.mono_box (M := up M t (deck g b)) (a := t) up_same (DeckA.mono (g := g) h)
  rwa [up_up] at this
theorem fin.fin {k : AK} {d : D} {M : MH} (h : fin (fin k) d M) : fin k d M := by
  obtain ⟨M1, a1, M2, a2, h⟩ := h
  exact ⟨M2, a1.trans a2, h⟩
/-- the deck, open -/
def dkO (M : MH) (t g : Addr) (gs : List Int) (f c : Int) : MH := up (up M t (.obj (.lst [.ref g, .int f, .int c]))) g (.obj (.lst (gs.map .int)))
theorem dkO_g {M : MH} {t g : Addr} {gs : List Int} {f c : Int} : dkO M t g gs f c g = some (.obj (.lst (gs.map .int))) := up_same
theorem dkO_t {M : MH} {t g : Addr} {gs : List Int} {f c : Int} (ne : t ≠ g) : dkO M t g gs f c t = some (.obj (.lst [.ref g, .int f, .int c])) := by
  unfold dkO; rw [up_ne ne]; exact up_same
theorem dkO_close {M : MH} {t g : Addr} {b b' : Nat} {gs : List Int} {f c : Int} (hM : M t = some (deck g b')) (hp : M g = some (.part t)) (ne : t ≠ g) (h1 : ∀ x ∈ gs, 0 ≤ x) (hl : gs.length ≤ 1000000) (h2 : 0 ≤ f) (h3 : f < 2305843009213693952) (h4 : 0 ≤ c) (hb : c + b ≤ 1152921504606846976) :
    Abs (dkO M t g gs f c) (up M t (deck g b)) := by
  refine Abs.close (a := t) (ps := [g]) (φ := DeckA g b) (bs := [.lst [.ref g, .int f, .int c], .lst (gs.map .int)]) ⟨gs, f, c, rfl, h1, hl, h2, h3, h4, hb⟩ rfl ?_ up_same ?_ ?_
  · intro i x c e1 e2
    match i with
    | 0 => cases e1; cases e2; exact dkO_t ne
    | 1 => cases e1; cases e2; exact dkO_g
    | n + 2 => cases e1
  · intro p hp'
    rw [List.mem_singleton] at hp'
    subst hp'
    rw [up_ne (fun z => ne z.symm)]; exact hp
  · intro x hx
    have n1 : x ≠ t := fun z => hx (by rw [z]; exact List.mem_cons_self)
    have n2 : x ≠ g := fun z => hx (by rw [z]; exact List.mem_cons_of_mem _ (List.mem_singleton.mpr rfl))
    unfold dkO
    rw [up_ne n1, up_ne n2, up_ne n1]
theorem dkO_set {M : MH} {t g : Addr} {gs : List Int} {f c f' c' : Int} (ne : t ≠ g) : up (dkO M t g gs f c) t (.obj (.lst [.ref g, .int f', .int c'])) = dkO M t g gs f' c' := by
  unfold dkO; rw [up_comm (fun z => ne z.symm), up_up]
theorem dkO_gs {M : MH} {t g : Addr} {gs gs' : List Int} {f c : Int} : up (dkO M t g gs f c) g (.obj (.lst (gs'.map .int))) = dkO M t g gs' f c := by
  unfold dkO; rw [up_up]
theorem tI_app_ne {x : Int} {xs : List Int} : tI (xs ++ [x]) ≠ tI [] := by
  unfold tI; intro h; injection h with h; simp at h
end M
namespace M
open PySem L2
def F_law_deck : AF := fun ds M k _ => ∃ (ns : List Int) (b : Nat), ds = [.scr ns] ∧ ns.length ≤ 63 ∧ b ≤ 1000000000 ∧ ∀ g t, g ≠ t → M g = none → M t = none → k (.ref t) (up (up M g (.part t)) t (deck g b))
/-- _law_deck -/
def b_law_deck : AS := (aSeq (aSet 1 (aLst true aNil))
  (aSeq (aSet 2 (aC (.int 11)))
  (aSeq (aFor (wLst (aVar 0)) (gNm 3)
  (aSeq (aSet 2 (aOp bMod (aOp (bAdd false) (aOp bMul (aVar 2) (aC (.int 1000003))) (aVar 3)) (aC (.int 2305843009213693951))))
  (aIfS (aB (aOp bGe (aCB cAbs (aCons (aVar 3) aNil)) (aOp bPow (aC (.int 10)) (aC (.int 18)))))
  (aDrop (aMt mInsert (aVar 1) (aCons (aC (.int 0)) (aCons (aOp bSub (aCB cAbs (aCons (aVar 3) aNil)) (aOp bPow (aC (.int 10)) (aC (.int 18)))) aNil))))
  aNext)))
  (aRet (aLst true (aCons (aVar 1) (aCons (aVar 2) (aCons (aC (.int 0)) aNil))))))))
theorem len_law_deck : ∀ ds M k x, F_law_deck ds M k x → ds.length = 1 := by
  rintro ds M k x ⟨a, b, rfl, _⟩; rfl
theorem Abs.mk_deck {M : MH} {g t : Addr} {gs : List Int} {f : Int} {b : Nat} (ne : g ≠ t) (h1 : ∀ x ∈ gs, 0 ≤ x) (hl : gs.length ≤ 1000000) (h2 : 0 ≤ f) (h3 : f < 2305843009213693952) (hb : b ≤ 1000000000) :
    Abs (up (up M g (.obj (.lst (gs.map .int)))) t (.obj (.lst [.ref g, .int f, .int 0]))) (up (up M g (.part t)) t (deck g b)) := by
  refine Abs.close (a := t) (ps := [g]) (φ := DeckA g b) (bs := [.lst [.ref g, .int f, .int 0], .lst (gs.map .int)]) ⟨gs, f, 0, rfl, h1, hl, h2, h3, by decide, by omega⟩ rfl ?_ up_same ?_ ?_
  · intro i x c e1 e2
    match i with
    | 0 => cases e1; cases e2; exact up_same
    | 1 => cases e1; cases e2; rw [up_ne ne]; exact up_same
    | n + 2 => cases e1
  · intro p hp
    rw [List.mem_singleton] at hp
    subst hp
    rw [up_ne ne]; exact up_same
  · intro x hx
    have n1 : x ≠ t := fun z => hx (by rw [z]; exact List.mem_cons_self)
    have n2 : x ≠ g := fun z => hx (by rw [z]; exact List.mem_cons_of_mem _ (List.mem_singleton.mpr rfl))
    rw [up_ne n1, up_ne n2, up_ne n1, up_ne n2]
theorem ok_law_deck : ∀ ds M k x, F_law_deck ds M k x → b_law_deck { nx := fun _ M' => fin k .non M', rt := fin k } (startG 4 ds) M := by
  rintro ds M k _ ⟨ns, b, rfl, hn, hb, hk⟩
  walk_at "st"
  unfold b_law_deck
  walk_at "ev"
  intro g hg
  walk_at "ev"
  refine for_go (fun i Γ M' => i ≤ ns.length ∧ ∃ (f : Int) (gs : List Int) (c : Option D), 0 ≤ f ∧ f < 2305843009213693952 ∧ gs.length ≤ i ∧ (∀ x ∈ gs, 0 ≤ x) ∧ M' = up M g (.obj (.lst (gs.map .int))) ∧ Γ = [some (.scr ns), some (.ref g), some (.int f), c]) ⟨Nat.zero_le _, _, [], _, by decide, by decide, Nat.le_refl _, by simp, rfl, rfl⟩ ?_ ?_
  · rintro i Γ _ x hx ⟨hi, f, gs, c, h1, h2, h3, h4, rfl, rfl⟩
    obtain ⟨n, hn', rfl⟩ := map_get hx
    have hl : i < ns.length := (List.getElem?_eq_some_iff.mp hn').1
    refine ⟨by walk_at "tr", ?_⟩
    walk_at "ev"
    have b1 : 0 ≤ (f * 1000003 + n) % 2305843009213693951 := Int.emod_nonneg _ (by decide)
    have b2 : (f * 1000003 + n) % 2305843009213693951 < 2305843009213693951 := Int.emod_lt_of_pos _ (by decide)
    refine iteD (fun hu => ?_) (fun hu => ?_)
    · walk_at "ev"
      refine iInsert ?_ up_same (by rw [List.length_map]; simp only [sizeLine_eq]; omega) ⟨by decide, by decide⟩
      walk_at "ev"
      refine ⟨hl, _, _ :: gs, _, b1, by omega, by simp only [List.length_cons]; omega, ?_, by rw [up_up]; rfl, rfl⟩
      intro x hx
      rcases List.mem_cons.mp hx with rfl | hx
      · omega
      · exact h4 x hx
    · walk_at "ev"
      exact ⟨hl, _, gs, _, b1, by omega, by omega, h4, rfl, rfl⟩
  · rintro Γ _ ⟨hi, f, gs, c, h1, h2, h3, h4, rfl, rfl⟩
    refine ⟨by walk_at "tr", ?_⟩
    walk_at "ev"
    intro t ht
    have ne : g ≠ t := fun z => by rw [z, up_same] at ht; cases ht
    refine ⟨_, Abs.mk_deck ne h4 (by omega) h1 h2 hb, hk g t ne hg ?_⟩
    rwa [up_ne (fun z => ne z.symm)] at ht
end M
namespace M
open PySem L2
def F_law_take : AF := fun ds M k _ => ∃ (t g : Addr) (b : Nat) (m : Int), ds = [.ref t, .int m] ∧ M t = some (deck g (b + 1)) ∧ 0 < m ∧ m < 18446744073709551616 ∧ ∀ r : Int, 0 ≤ r → r < m → k (.int r) (up M t (deck g b))
/-- _law_take -/
def b_law_take : AS := (gOpen 0 (aSeq (aWhile (aAnd (aB (aOp (bEq true) (aOp bIx (aVar 0) (aC (.int 0))) (aLst false aNil))) (aB (aOp bLt (aOp bIx (aOp bIx (aVar 0) (aC (.int 0))) (aNeg (aC (.int 1)))) (aC (.int 2)))))
  (aDrop (aMt0 mPop (aOp bIx (aVar 0) (aC (.int 0))))))
  (aSeq (aIfS (aB (aOp (bEq true) (aOp bIx (aVar 0) (aC (.int 0))) (aLst false aNil)))
  (aSeq (aSet 2 (aOp bMod (aOp bIx (aOp bIx (aVar 0) (aC (.int 0))) (aNeg (aC (.int 1)))) (aVar 1)))
  (aSeq (aAsg (aOp bFdiv (aOp bIx (aOp bIx (aVar 0) (aC (.int 0))) (aNeg (aC (.int 1)))) (aVar 1)) (gIx (aOp bIx (aVar 0) (aC (.int 0))) (aNeg (aC (.int 1)))))
  (aRet (aVar 2))))
  aNext)
  (aSeq (aAsg (aOp (bAdd false) (aOp bIx (aVar 0) (aC (.int 2))) (aC (.int 1))) (gIx (aVar 0) (aC (.int 2))))
  (aSeq (aSet 3 (aOp bIx (aVar 0) (aC (.int 2))))
  (aSeq (aSet 4 (aOp (bAdd false) (aOp bMul (aOp (bAdd false) (aOp bIx (aVar 0) (aC (.int 1))) (aC (.int 40503))) (aOp bPow (aOp (bAdd false) (aVar 3) (aC (.int 5))) (aC (.int 3)))) (aOp bMul (aC (.int 69621)) (aVar 3))))
  (aRet (aOp bMod (aOp bFdiv (aOp bMod (aOp bPow (aOp bMod (aVar 4) (aC (.int 2305843009213693951))) (aC (.int 3))) (aC (.int 1000000007))) (aC (.int 64))) (aVar 1)))))))))
theorem len_law_take : ∀ ds M k x, F_law_take ds M k x → ds.length = 2 := by
  rintro ds M k x ⟨a, b, _, _, rfl, _⟩; rfl
theorem ix_lst {ys : List Int} {y : Int} : ixN ((ys ++ [y]).map D.int).length (-1) = some ys.length := by
  unfold ixN
  simp only [List.length_map, List.length_append, List.length_cons, List.length_nil]
  rw [if_neg (by decide), if_pos (by omega)]
  congr 1
  omega
theorem at_lst {ys : List Int} {y : Int} : ((ys ++ [y]).map D.int)[ys.length]? = some (.int y) := by simp
theorem set_lst {ys : List Int} {y z : Int} : ((ys ++ [y]).map D.int).set ys.length (.int z) = (ys ++ [z]).map D.int := by simp
theorem seq_lst {ys : List Int} {y : Int} : ((ys ++ [y]).map D.int)[((ys ++ [y]).map D.int).length - 1]? = some (.int y) := by simp
theorem drop_lst {ys : List Int} {y : Int} : ((ys ++ [y]).map D.int).dropLast = ys.map D.int := by simp
theorem atI_ix {xs : List D} {i : Int} {n : Nat} {d : D} (h : ixN xs.length i = some n) (h2 : xs[n]? = some d) : atI xs i = some d := by
  unfold atI; rw [h]; exact h2
theorem ok_law_take : ∀ ds M k x, F_law_take ds M k x → b_law_take { nx := fun _ M' => fin k .non M', rt := fin k } (startG 5 ds) M := by
  rintro ds M k _ ⟨t, g, b, m, rfl, hM, hm, hm', hk⟩
  walk_at "st"
  unfold b_law_take
  refine ⟨t, [g], DeckA g (b + 1), rfl, hM, fun bs hbs hlen hpt => ?_⟩
  obtain ⟨gs, f, c, rfl, h1, hl, h2, h3, h4, hb⟩ := hbs
  have hpg := hpt g List.mem_cons_self
  have ne : t ≠ g := fun z => by rw [← z, hM] at hpg; cases hpg
  rw [show opn M [t, g] [BO.lst [.ref g, .int f, .int c], BO.lst (gs.map .int)] = dkO M t g gs f c from rfl]
  have cl : ∀ {gs' : List Int} {c' : Int}, (∀ x ∈ gs', 0 ≤ x) → gs'.length ≤ 1000000 → 0 ≤ c' → c' + b ≤ 1152921504606846976 → Abs (dkO M t g gs' f c') (up M t (deck g b)) := fun x1 xl x3 x4 => dkO_close hM hpg ne x1 xl h2 h3 x3 x4
  have et : ∀ {gs f c}, dkO M t g gs f c t = some (.obj (.lst [.ref g, .int f, .int c])) := dkO_t ne
  have es : ∀ {gs f c f' c'}, up (dkO M t g gs f c) t (.obj (.lst [.ref g, .int f', .int c'])) = dkO M t g gs f' c' := dkO_set ne
  have cl5 : ∀ (a' : Int), CDivW a' m := fun a' => cdiv hm (lt_b89 (m := 64) (by omega) (by decide))
  walk_at "ev"
  refine while_st (α := List Int) (fun _ => [some (.ref t), some (.int m), none, none, none]) (fun s => dkO M t g s f c) (fun s => (∀ x ∈ s, 0 ≤ x) ∧ s.length ≤ 1000000) (fun s => s.length) gs ⟨h1, hl⟩ rfl rfl ?_
  rintro gs' ⟨h5, h6⟩
  have e0 := et (gs := gs') (f := f) (c := c)
  walk_at "ev"
  rcases List.eq_nil_or_concat gs' with rfl | ⟨ys, y, rfl⟩
  · refine iEqE (neg := true) ?_ rfl (RdT.refI dkO_g) (RdT.ints (ns := []))
    walk_at "ev"
    refine iEqE (neg := true) ?_ rfl (RdT.refI dkO_g) (RdT.ints (ns := []))
    walk_at "ev"
    rw [es]
    have e1 := et (gs := []) (f := f) (c := c + 1)
    walk_at "ev"
    refine ⟨_, cl (by simp) (by simp) (by omega) (by omega), hk _ (Int.emod_nonneg _ (by omega)) (Int.emod_lt_of_pos _ hm)⟩
  · rw [List.concat_eq_append] at *
    refine iEqN (neg := true) ?_ tI_app_ne (RdT.refI dkO_g) (RdT.ints (ns := []))
    have e2 := dkO_g (M := M) (t := t) (g := g) (gs := ys ++ [y]) (f := f) (c := c)
    have a1 : atI ((ys ++ [y]).map D.int) (-1) = some (.int y) := atI_ix ix_lst at_lst
    walk_at "ev"
    have hy : 0 ≤ y := h5 y (by simp)
    have hys : ∀ x ∈ ys, 0 ≤ x := fun x hx => h5 x (by simp [hx])
    refine iteD (fun hu => ?_) (fun hu => ?_)
    · walk_at "ev"
      refine iPop ?_ e2 seq_lst
      rw [drop_lst, dkO_gs]
      exact WNext.of ys rfl rfl ⟨hys, by simp at h6; omega⟩ (by simp)
    · walk_at "ev"
      refine iEqN (neg := true) ?_ tI_app_ne (RdT.refI dkO_g) (RdT.ints (ns := []))
      walk_at "ev"
      have c1 := cl5 y
      walk_at "ev"
      refine iStIx ?_ e2 ix_lst
      rw [set_lst, dkO_gs]
      refine ⟨_, cl (fun x hx => ?_) (by simpa using h6) h4 (by omega), hk _ (Int.emod_nonneg _ (by omega)) (Int.emod_lt_of_pos _ hm)⟩
      rcases List.mem_append.mp hx with hx | hx
      · exact hys x hx
      · rw [List.mem_singleton] at hx; subst hx; exact Int.ediv_nonneg hy (by omega)
end M
namespace M
open PySem L2
def F_law_tanks : AF := fun ds M k _ => ∃ (t g : Addr) (b m : Nat), ds = [.ref t, .int m] ∧ M t = some (deck g (b + m + 2)) ∧ 0 < m ∧ m ≤ 1000 ∧ ∀ ns : List Int, ns ≠ [] → ns.length ≤ m → (∀ n ∈ ns, 1 ≤ n ∧ n ≤ 9) → k (.lst (ns.map .int)) (up M t (deck g b))
/-- _law_tanks -/
def b_law_tanks : AS := (aSeq (aAsg (aTup (aCons (aOp (bAdd false) (aC (.int 1)) (aCall noX F_law_take [] (aCons (aVar 0) (aCons (aVar 1) aNil)))) (aCons (aCall noX F_law_take [] (aCons (aVar 0) (aCons (aC (.int 3)) aNil))) aNil))) (gTu 2 (gCo (gNm 2) (gCo (gNm 3) gNi))))
  (aRet (aLc false (wRg1 (aCons (aVar 2) aNil)) (gNm 4) aYes (aOp (bAdd false) (aC (.int 1)) (aCall noX F_law_take [] (aCons (aVar 0) (aCons (aOp bIx (aLst false (aCons (aC (.int 1)) (aCons (aC (.int 3)) (aCons (aC (.int 9)) aNil)))) (aVar 3)) aNil)))) [4])))
theorem len_law_tanks : ∀ ds M k x, F_law_tanks ds M k x → ds.length = 2 := by
  rintro ds M k x ⟨a, b, _, _, rfl, _⟩; rfl
theorem ok_law_tanks : ∀ ds M k x, F_law_tanks ds M k x → b_law_tanks { nx := fun _ M' => fin k .non M', rt := fin k } (startG 5 ds) M := by
  rintro ds M k _ ⟨t, g, b, m, rfl, hM, hm, hm', hk⟩
  walk_at "st"
  unfold b_law_tanks
  walk_at "ev"
  refine ⟨t, g, b + m + 1, m, rfl, hM, by omega, by omega, fun r2 r20 r2m => ?_⟩
  walk_at "ev"
  refine ⟨t, g, b + m, 3, rfl, up_same, by decide, by decide, fun r r0 r3 => ?_⟩
  rw [up_up]
  have hw : ∃ w : Int, atI [D.int 1, D.int 3, D.int 9] r = some (.int w) ∧ 1 ≤ w ∧ w ≤ 9 := by
    have : r = 0 ∨ r = 1 ∨ r = 2 := by omega
    rcases this with rfl | rfl | rfl
    · exact ⟨1, atI_c0, by decide, by decide⟩
    · exact ⟨3, atI_c1, by decide, by decide⟩
    · exact ⟨9, atI_c2, by decide, by decide⟩
  obtain ⟨w, hw, w1, w2⟩ := hw
  walk_at "ev"
  refine ⟨by omega, ?_⟩
  refine lc_st (fun i acc M' => ∃ ns : List Int, acc = ns.map .int ∧ (∀ n ∈ ns, 1 ≤ n ∧ n ≤ 9) ∧ M' = up M t (deck g (b + m - i))) (by rw [rng_len]; omega) ?_ ?_ ⟨[], rfl, by simp, rfl⟩
  · rintro i x acc M' hx ha ⟨ns, rfl, hns, rfl⟩
    obtain ⟨hl, rfl⟩ := rng_it hx
    refine ⟨by walk_at "tr", fun kd hkd => ?_⟩
    simp only [wipeG]
    walk_at "ev"
    refine ⟨t, g, b + m - i - 1, w, rfl, ?_, by omega, by omega, fun q q0 qw => ?_⟩
    · rw [up_same]; exact congrArg (fun n => some (deck g n)) (show b + m - i = b + m - i - 1 + 1 by omega)
    rw [up_up]
    walk_at "ev"
    refine hkd _ _ ⟨ns ++ [1 + q], by rw [List.map_append]; rfl, ?_, rfl⟩
    intro n hn
    rcases List.mem_append.mp hn with hn | hn
    · exact hns n hn
    · rw [List.mem_singleton] at hn; omega
  · rintro acc M' ha ⟨ns, rfl, hns, rfl⟩
    rw [rng_len, List.length_map] at ha
    refine ⟨by walk_at "tr", ?_⟩
    rw [rng_len]
    walk_at "ev"
    refine fin.deck_le (b' := b) (by omega) (hk ns ?_ (by omega) hns)
    rintro rfl
    simp at ha
    omega
end M
namespace M
open PySem L2
def F_law_low_v2 : AF := F_lowest
/-- _law_low -/
def b_law_low_v2 : AS := (aSeq (aPar 2 3 (aCons (aCB cAbs (aCons (aVar 0) aNil)) (aCons (aVar 1) aNil)))
  (aSeq (aWhile (aB (aOp (bEq true) (aVar 3) (aC (.int 0))))
  (aPar 2 3 (aCons (aVar 3) (aCons (aOp bMod (aVar 2) (aVar 3)) aNil))))
  (aRet (aTup (aCons (aOp bFdiv (aVar 0) (aVar 2)) (aCons (aOp bFdiv (aVar 1) (aVar 2)) aNil))))))
theorem len_law_low_v2 : ∀ ds M k x, F_law_low_v2 ds M k x → ds.length = 2 := len_lowest
theorem ok_law_low_v2 : ∀ ds M k x, F_law_low_v2 ds M k x → b_law_low_v2 { nx := fun _ M' => fin k .non M', rt := fin k } (startG 4 ds) M := by
  rintro ds M k x ⟨a, b, rfl, hb, hs, hk⟩
  walk_at "st"
  unfold b_law_low_v2
  walk_at "ev"
  refine while_st (α := Int × Int) (fun s => [some (.int a), some (.int b), some (.int s.1), some (.int s.2)]) (fun _ => M) (fun s => 0 ≤ s.1 ∧ 0 ≤ s.2 ∧ 0 < s.1 + s.2 ∧ Nat.gcd s.1.toNat s.2.toNat = Nat.gcd a.natAbs b.toNat) (fun s => s.2.toNat) (if a < 0 then -a else a, b) ⟨by dsimp only; split <;> omega, by dsimp only; omega, by dsimp only; split <;> omega, ?_⟩ rfl rfl ?_
  · have : (if a < 0 then -a else a).toNat = a.natAbs := by split <;> omega
    dsimp only
    rw [this]
  · rintro ⟨u, v⟩ ⟨h1, h2, h3, h4⟩
    dsimp only at h1 h2 h3 h4
    walk_at "ev"
    refine iteN (fun hu => ?_) (fun hu => ?_)
    · walk_at "ev"
      have hv : 0 < v := by omega
      refine WNext.of (v, u % v) rfl rfl ⟨h2, Int.emod_nonneg _ (by omega), ?_, ?_⟩ ?_
      · have := Int.emod_nonneg u (show v ≠ 0 by omega)
        dsimp only
        omega
      · dsimp only
        rw [Nat.gcd_comm, gcd_step hv h1, Nat.gcd_comm]; exact h4
      · have := Int.emod_lt_of_pos u hv
        have := Int.emod_nonneg u (show v ≠ 0 by omega)
        dsimp only
        omega
    · have : v = 0 := by omega
      subst this
      rw [Nat.gcd_comm] at h4
      obtain ⟨e, hv⟩ := gcd_end hb hs (by omega) h4
      have cd : ∀ i, CDivW i u := fun i => cdiv (by omega) hv
      have ca := cd a
      have cb := cd b
      walk_at "ev"
      rw [lowest_out hb e]
      exact fin.of hk
end M
namespace M
open PySem L2
def F_law_draw_v1 : AF := fun ds M k _ => ∃ (t g : Addr) (b : Nat) (m : Int), ds = [.ref t, .int m] ∧ M t = some (tray g (b + 1)) ∧ 0 < m ∧ m < 18446744073709551616 ∧ ∀ r : Int, 0 ≤ r → r < m → k (.int r) (up M t (tray g b))
/-- _law_draw -/
def b_law_draw_v1 : AS := (gOpen 0 (aSeq (aWhile (aAnd (aB (aOp bLt (aOp bIx (aVar 0) (aC (.int 1))) (aC (.int 2)))) (aB (aOp (bEq true) (aOp bIx (aVar 0) (aC (.int 0))) (aLst false aNil))))
  (aAsg (aMt mPop (aOp bIx (aVar 0) (aC (.int 0))) (aCons (aC (.int 0)) aNil)) (gIx (aVar 0) (aC (.int 1)))))
  (aSeq (aIfS (aB (aOp bGe (aOp bIx (aVar 0) (aC (.int 1))) (aC (.int 2))))
  (aSeq (aSet 2 (aOp bMod (aOp bIx (aVar 0) (aC (.int 1))) (aVar 1)))
  (aSeq (aAsg (aOp bFdiv (aOp bIx (aVar 0) (aC (.int 1))) (aVar 1)) (gIx (aVar 0) (aC (.int 1))))
  (aRet (aVar 2))))
  aNext)
  (aSeq (aAsg (aOp (bAdd false) (aOp bIx (aVar 0) (aC (.int 3))) (aC (.int 1))) (gIx (aVar 0) (aC (.int 3))))
  (aSeq (aSet 3 (aOp bMod (aOp (bAdd false) (aOp bMul (aOp (bAdd false) (aOp bIx (aVar 0) (aC (.int 2))) (aC (.int 5))) (aOp bPow (aOp (bAdd false) (aOp bIx (aVar 0) (aC (.int 3))) (aC (.int 2))) (aC (.int 3)))) (aOp bMul (aC (.int 1000003)) (aOp bIx (aVar 0) (aC (.int 3))))) (aOp bSub (aOp bPow (aC (.int 2)) (aC (.int 61))) (aC (.int 1)))))
  (aRet (aOp bMod (aOp bFdiv (aOp bMod (aOp bPow (aVar 3) (aC (.int 5))) (aOp (bAdd false) (aOp bPow (aC (.int 10)) (aC (.int 18))) (aC (.int 9)))) (aC (.int 64))) (aVar 1))))))))
theorem len_law_draw_v1 : ∀ ds M k x, F_law_draw_v1 ds M k x → ds.length = 2 := by
  rintro ds M k x ⟨a, b, _, _, rfl, _⟩; rfl
/-- the tray, open -/
def trO (M : MH) (t g : Addr) (gs : List Int) (a f c : Int) : MH := up (up M t (.obj (.lst [.ref g, .int a, .int f, .int c]))) g (.obj (.lst (gs.map .int)))
theorem trO_g {M : MH} {t g : Addr} {gs : List Int} {a f c : Int} : trO M t g gs a f c g = some (.obj (.lst (gs.map .int))) := up_same
theorem trO_t {M : MH} {t g : Addr} {gs : List Int} {a f c : Int} (ne : t ≠ g) : trO M t g gs a f c t = some (.obj (.lst [.ref g, .int a, .int f, .int c])) := by
  unfold trO; rw [up_ne ne]; exact up_same
theorem trO_close {M : MH} {t g : Addr} {b b' : Nat} {gs : List Int} {a f c : Int} (hM : M t = some (tray g b')) (hp : M g = some (.part t)) (ne : t ≠ g) (h1 : ∀ x ∈ gs, 0 ≤ x) (h0 : 0 ≤ a) (h2 : 0 ≤ f) (h3 : f < 2305843009213693952) (h4 : 0 ≤ c) (hb : c + b ≤ 1152921504606846976) :
    Abs (trO M t g gs a f c) (up M t (tray g b)) := by
  refine Abs.close (a := t) (ps := [g]) (φ := TrayA g b) (bs := [.lst [.ref g, .int a, .int f, .int c], .lst (gs.map .int)]) ⟨gs, a, f, c, rfl, h1, h0, h2, h3, h4, hb⟩ rfl ?_ up_same ?_ ?_
  · intro i x c e1 e2
    match i with
    | 0 => cases e1; cases e2; exact trO_t ne
    | 1 => cases e1; cases e2; exact trO_g
    | n + 2 => cases e1
  · intro p hp'
    rw [List.mem_singleton] at hp'
    subst hp'
    rw [up_ne (fun z => ne z.symm)]; exact hp
  · intro x hx
    have n1 : x ≠ t := fun z => hx (by rw [z]; exact List.mem_cons_self)
    have n2 : x ≠ g := fun z => hx (by rw [z]; exact List.mem_cons_of_mem _ (List.mem_singleton.mpr rfl))
    unfold trO
    rw [up_ne n1, up_ne n2, up_ne n1]
theorem trO_set {M : MH} {t g : Addr} {gs : List Int} {a f c a' f' c' : Int} (ne : t ≠ g) : up (trO M t g gs a f c) t (.obj (.lst [.ref g, .int a', .int f', .int c'])) = trO M t g gs a' f' c' := by
  unfold trO; rw [up_comm (fun z => ne z.symm), up_up]
theorem trO_pop {M : MH} {t g : Addr} {gs gs' : List Int} {a f c : Int} : up (trO M t g gs a f c) g (.obj (.lst (gs'.map .int))) = trO M t g gs' a f c := by
  unfold trO; rw [up_up]
theorem ok_law_draw_v1 : ∀ ds M k x, F_law_draw_v1 ds M k x → b_law_draw_v1 { nx := fun _ M' => fin k .non M', rt := fin k } (startG 4 ds) M := by
  rintro ds M k _ ⟨t, g, b, m, rfl, hM, hm, hm', hk⟩
  walk_at "st"
  unfold b_law_draw_v1
  refine ⟨t, [g], TrayA g (b + 1), rfl, hM, fun bs hbs hlen hpt => ?_⟩
  obtain ⟨gs, a, f, c, rfl, h1, h0, h2, h3, h4, hb⟩ := hbs
  have hpg := hpt g List.mem_cons_self
  have ne : t ≠ g := fun z => by rw [← z, hM] at hpg; cases hpg
  rw [show opn M [t, g] [BO.lst [.ref g, .int a, .int f, .int c], BO.lst (gs.map .int)] = trO M t g gs a f c from rfl]
  have cl : ∀ {gs' : List Int} {a' : Int} {c' : Int}, (∀ x ∈ gs', 0 ≤ x) → 0 ≤ a' → 0 ≤ c' → c' + b ≤ 1152921504606846976 → Abs (trO M t g gs' a' f c') (up M t (tray g b)) := fun x1 x2 x3 x4 => trO_close hM hpg ne x1 x2 h2 h3 x3 x4
  have et : ∀ {gs a f c}, trO M t g gs a f c t = some (.obj (.lst [.ref g, .int a, .int f, .int c])) := trO_t ne
  have es : ∀ {gs a f c a' f' c'}, up (trO M t g gs a f c) t (.obj (.lst [.ref g, .int a', .int f', .int c'])) = trO M t g gs a' f' c' := trO_set ne
  have cl5 : ∀ (a' : Int), CDivW a' m := fun a' => cdiv hm (lt_b89 (m := 64) (by omega) (by decide))
  walk_at "ev"
  refine while_st (α := List Int × Int) (fun _ => [some (.ref t), some (.int m), none, none]) (fun s => trO M t g s.1 s.2 f c) (fun s => (∀ x ∈ s.1, 0 ≤ x) ∧ 0 ≤ s.2) (fun s => s.1.length) (gs, a) ⟨h1, h0⟩ rfl rfl ?_
  rintro ⟨gs', a'⟩ ⟨h5, h6⟩
  dsimp only at h5 h6
  have e0 := et (gs := gs') (a := a') (f := f) (c := c)
  walk_at "ev"
  refine iteD (fun hu => ?_) (fun hu => ?_)
  · walk_at "ev"
    cases gs' with
    | nil =>
      refine iEqE (neg := true) ?_ rfl (RdT.refI trO_g) (RdT.ints (ns := []))
      walk_at "ev"
      refine iteDF (by omega) ?_
      walk_at "ev"
      rw [es]
      have e1 := et (gs := []) (a := a') (f := f) (c := c + 1)
      walk_at "ev"
      refine ⟨_, cl (by simp) h6 (by omega) (by omega), hk _ (Int.emod_nonneg _ (by omega)) (Int.emod_lt_of_pos _ hm)⟩
    | cons y ys =>
      refine iEqN (neg := true) ?_ tI_ne (RdT.refI trO_g) (RdT.ints (ns := []))
      walk_at "ev"
      have e2 := trO_g (M := M) (t := t) (g := g) (gs := y :: ys) (a := a') (f := f) (c := c)
      walk_at "ev"
      refine iPopI (n := 0) ?_ e2 (by omega) (ixN_seq (ix_c0 (a := D.int y) (l := ys.map D.int))).1 rfl
      rw [show (List.map D.int (y :: ys)).eraseIdx 0 = ys.map D.int from rfl, trO_pop]
      have e1 := et (gs := ys) (a := a') (f := f) (c := c)
      walk_at "ev"
      rw [es]
      exact WNext.of (ys, y) rfl rfl ⟨fun x hx => h5 x (List.mem_cons_of_mem _ hx), h5 y List.mem_cons_self⟩ (Nat.lt_succ_self _)
  · walk_at "ev"
    refine iteDT (by omega) ?_
    have c1 := cl5 a'
    walk_at "ev"
    rw [es]
    refine ⟨_, cl h5 (Int.ediv_nonneg h6 (by omega)) h4 (by omega), hk _ (Int.emod_nonneg _ (by omega)) (Int.emod_lt_of_pos _ hm)⟩
end M
namespace M
open PySem L2
def F_law_low_v1 : AF := F_lowest
/-- _law_low -/
def b_law_low_v1 : AS := (aSeq (aPar 2 3 (aCons (aCB cMax2 (aCons (aVar 0) (aCons (aOp bSub (aC (.int 0)) (aVar 0)) aNil))) (aCons (aVar 1) aNil)))
  (aSeq (aWhile (aB (aOp bGt (aVar 2) (aC (.int 0))))
  (aPar 2 3 (aCons (aOp bMod (aVar 3) (aVar 2)) (aCons (aVar 2) aNil))))
  (aRet (aTup (aCons (aOp bFdiv (aVar 0) (aVar 3)) (aCons (aOp bFdiv (aVar 1) (aVar 3)) aNil))))))
theorem len_law_low_v1 : ∀ ds M k x, F_law_low_v1 ds M k x → ds.length = 2 := len_lowest
theorem ok_law_low_v1 : ∀ ds M k x, F_law_low_v1 ds M k x → b_law_low_v1 { nx := fun _ M' => fin k .non M', rt := fin k } (startG 4 ds) M := by
  rintro ds M k x ⟨a, b, rfl, hb, hs, hk⟩
  walk_at "st"
  unfold b_law_low_v1
  walk_at "ev"
  refine while_st (α := Int × Int) (fun s => [some (.int a), some (.int b), some (.int s.1), some (.int s.2)]) (fun _ => M) (fun s => 0 ≤ s.1 ∧ 0 < s.2 ∧ Nat.gcd s.1.toNat s.2.toNat = Nat.gcd a.natAbs b.toNat) (fun s => s.1.toNat) (if 0 - a > a then 0 - a else a, b) ⟨by dsimp only; split <;> omega, hb, ?_⟩ rfl rfl ?_
  · have : (if 0 - a > a then 0 - a else a).toNat = a.natAbs := by split <;> omega
    dsimp only
    rw [this]
  · rintro ⟨u, v⟩ ⟨h1, h2, h4⟩
    dsimp only at h1 h2 h4
    walk_at "ev"
    refine iteD (fun hu => ?_) (fun hu => ?_)
    · walk_at "ev"
      refine WNext.of (v % u, u) rfl rfl ⟨Int.emod_nonneg _ (by omega), hu, ?_⟩ ?_
      · dsimp only
        rw [gcd_step hu (Int.le_of_lt h2)]; exact h4
      · have := Int.emod_lt_of_pos v hu
        have := Int.emod_nonneg v (show u ≠ 0 by omega)
        dsimp only
        omega
    · have : u = 0 := by omega
      subst this
      obtain ⟨e, hv⟩ := gcd_end hb hs h2 h4
      have cd : ∀ i, CDivW i v := fun i => cdiv h2 hv
      have ca := cd a
      have cb := cd b
      walk_at "ev"
      rw [lowest_out hb e]
      exact fin.of hk
end M
namespace M
open PySem L2
def F_law_amount_v1 : AF := fun ds M k _ => ∃ (t g : Addr) (b : Nat) (w c : Int), ds = [.ref t, .int w, .int c] ∧ M t = some (tray g (b + 5)) ∧ 0 ≤ w ∧ w ≤ 1000 ∧ 1 ≤ c ∧ c ≤ 60 ∧ ∀ x : Rat, Amt x → k (frD x) (up M t (tray g b))
/-- _law_amount -/
def b_law_amount_v1 : AS := (aSeq (aSet 3 (aLst true (aCons (aC (.int 0)) (aCons (aOp bMul (aOp bMul (aVar 1) (aVar 2)) (aCall noX F_law_draw_v1 [] (aCons (aVar 0) (aCons (aC (.int 4)) aNil)))) (aCons (aCall noX F_law_draw_v1 [] (aCons (aVar 0) (aCons (aC (.int 20)) aNil))) (aCons (aCall noX F_law_draw_v1 [] (aCons (aVar 0) (aCons (aOp bPow (aC (.int 10)) (aC (.int 4))) aNil))) aNil))))))
  (aSeq (aDrop (aMt mAppend (aVar 3) (aCons (aCall noX F_law_draw_v1 [] (aCons (aVar 0) (aCons (aOp bPow (aC (.int 10)) (aC (.int 12))) aNil))) aNil)))
  (aRet (aCall noX F_law_low_v1 [] (aCons (aOp bIx (aVar 3) (aCall noX F_law_draw_v1 [] (aCons (aVar 0) (aCons (aC (.int 5)) aNil)))) (aCons (aVar 2) aNil))))))
theorem len_law_amount_v1 : ∀ ds M k x, F_law_amount_v1 ds M k x → ds.length = 3 := by
  rintro ds M k x ⟨a, b, _, _, _, rfl, _⟩; rfl
theorem ok_law_amount_v1 : ∀ ds M k x, F_law_amount_v1 ds M k x → b_law_amount_v1 { nx := fun _ M' => fin k .non M', rt := fin k } (startG 4 ds) M := by
  rintro ds M k _ ⟨t, g, b, w, c, rfl, hM, w0, w1, c1, c2, hk⟩
  walk_at "st"
  unfold b_law_amount_v1
  walk_at "ev"
  have : IntMulOk w c := mul_okL (by omega) (by omega)
  refine ⟨t, g, b + 4, 4, rfl, hM, by decide, by decide, fun r r0 r3 => ?_⟩
  have b1 : 0 ≤ w * c := Int.mul_nonneg w0 (by omega)
  have b2 : w * c ≤ 60000 := by
    have := Int.mul_le_mul w1 c2 (by omega) (by omega : (0 : Int) ≤ 1000)
    omega
  have b3 : 0 ≤ w * c * r := Int.mul_nonneg b1 r0
  have b4 : w * c * r ≤ 240000 := by
    have := Int.mul_le_mul b2 (by omega : r ≤ 4) r0 (by omega : (0 : Int) ≤ 60000)
    omega
  walk_at "ev"
  refine ⟨t, g, b + 3, 20, rfl, up_same, by decide, by decide, fun r1 r10 r13 => ?_⟩
  rw [up_up]
  walk_at "ev"
  refine ⟨t, g, b + 2, 10000, rfl, up_same, by decide, by decide, fun r2 r20 r23 => ?_⟩
  rw [up_up]
  walk_at "ev"
  intro p hp
  have ne : t ≠ p := fun z => by rw [← z, up_same] at hp; cases hp
  have hp' : M p = none := by rwa [up_ne (fun z => ne z.symm)] at hp
  walk_at "ev"
  refine ⟨t, g, b + 1, 1000000000000, rfl, by rw [up_ne ne]; exact up_same, by decide, by decide, fun r4 r40 r43 => ?_⟩
  rw [up_comm (fun z => ne z.symm), up_up]
  walk_at "ev"
  rw [up_up]
  refine ⟨t, g, b, 5, rfl, by rw [up_ne ne]; exact up_same, by decide, by decide, fun q q0 q5 => ?_⟩
  rw [up_comm (fun z => ne z.symm), up_up]
  have hw : ∃ v : Int, atI [D.int 0, D.int (w * c * r), D.int r1, D.int r2, D.int r4] q = some (.int v) ∧ 0 ≤ v ∧ v < 1000000000001 := by
    have : q = 0 ∨ q = 1 ∨ q = 2 ∨ q = 3 ∨ q = 4 := by omega
    rcases this with rfl | rfl | rfl | rfl | rfl
    · exact ⟨_, atI_c0, by omega, by omega⟩
    · exact ⟨_, atI_c1, by omega, by omega⟩
    · exact ⟨_, atI_c2, by omega, by omega⟩
    · exact ⟨_, atI_c3, by omega, by omega⟩
    · exact ⟨_, atI_c4, by omega, by omega⟩
  obtain ⟨v, hw, v1, v2⟩ := hw
  walk_at "ev"
  refine ⟨v, c, rfl, by omega, lt_b89 (m := 64) (by omega) (by decide), ?_⟩
  exact fin.dl (by rw [up_ne (fun z => ne z.symm)]; exact hp') (hk _ ⟨v, c, v1, v2, c1, c2, rfl⟩)
end M
namespace M
open PySem L2
def F_law_amount_v3 : AF := fun ds M k _ => ∃ (t g : Addr) (b : Nat), ds = [.ref t] ∧ M t = some (deck g (b + 7)) ∧ ∀ x : Rat, Amt x → k (frD x) (up M t (deck g b))
/-- _law_amount -/
def b_law_amount_v3 : AS := (aSeq (aSet 1 (aLst false (aCons (aC (.int 0)) (aCons (aCall noX F_law_take [] (aCons (aVar 0) (aCons (aC (.int 10)) aNil))) (aCons (aCall noX F_law_take [] (aCons (aVar 0) (aCons (aC (.int 100)) aNil))) (aCons (aOp (bAdd false) (aOp bMul (aCall noX F_law_take [] (aCons (aVar 0) (aCons (aOp bPow (aC (.int 10)) (aC (.int 6))) aNil))) (aOp bPow (aC (.int 10)) (aC (.int 6)))) (aCall noX F_law_take [] (aCons (aVar 0) (aCons (aOp bPow (aC (.int 10)) (aC (.int 6))) aNil)))) aNil))))))
  (aSeq (aSet 2 (aCall noX F_law_take [] (aCons (aVar 0) (aCons (aC (.int 4)) aNil))))
  (aRet (aCall noX F_law_low_v2 [] (aCons (aOp bIx (aVar 1) (aVar 2)) (aCons (aOp bIx (aLst false (aCons (aC (.int 1)) (aCons (aC (.int 1)) (aCons (aOp (bAdd false) (aC (.int 1)) (aCall noX F_law_take [] (aCons (aVar 0) (aCons (aC (.int 12)) aNil)))) (aCons (aOp (bAdd false) (aC (.int 1)) (aCall noX F_law_take [] (aCons (aVar 0) (aCons (aC (.int 60)) aNil)))) aNil))))) (aVar 2)) aNil))))))
theorem len_law_amount_v3 : ∀ ds M k x, F_law_amount_v3 ds M k x → ds.length = 1 := by
  rintro ds M k x ⟨a, b, _, rfl, _⟩; rfl
theorem ok_law_amount_v3 : ∀ ds M k x, F_law_amount_v3 ds M k x → b_law_amount_v3 { nx := fun _ M' => fin k .non M', rt := fin k } (startG 3 ds) M := by
  rintro ds M k _ ⟨t, g, b, rfl, hM, hk⟩
  walk_at "st"
  unfold b_law_amount_v3
  walk_at "ev"
  refine ⟨t, g, b + 6, 10, rfl, hM, by decide, by decide, fun r1 r10 r13 => ?_⟩
  walk_at "ev"
  refine ⟨t, g, b + 5, 100, rfl, up_same, by decide, by decide, fun r2 r20 r23 => ?_⟩
  rw [up_up]
  walk_at "ev"
  refine ⟨t, g, b + 4, 1000000, rfl, up_same, by decide, by decide, fun r3 r30 r33 => ?_⟩
  rw [up_up]
  walk_at "ev"
  refine ⟨t, g, b + 3, 1000000, rfl, up_same, by decide, by decide, fun r4 r40 r43 => ?_⟩
  rw [up_up]
  walk_at "ev"
  refine ⟨t, g, b + 2, 4, rfl, up_same, by decide, by decide, fun q q0 q5 => ?_⟩
  rw [up_up]
  have hw : ∃ v : Int, atI [D.int 0, D.int r1, D.int r2, D.int (r3 * 1000000 + r4)] q = some (.int v) ∧ 0 ≤ v ∧ v < 1000000000001 := by
    have : q = 0 ∨ q = 1 ∨ q = 2 ∨ q = 3 := by omega
    rcases this with rfl | rfl | rfl | rfl
    · exact ⟨_, atI_c0, by omega, by omega⟩
    · exact ⟨_, atI_c1, by omega, by omega⟩
    · exact ⟨_, atI_c2, by omega, by omega⟩
    · exact ⟨_, atI_c3, by omega, by omega⟩
  obtain ⟨v, hw, v1, v2⟩ := hw
  walk_at "ev"
  refine ⟨t, g, b + 1, 12, rfl, up_same, by decide, by decide, fun r5 r50 r53 => ?_⟩
  rw [up_up]
  walk_at "ev"
  refine ⟨t, g, b, 60, rfl, up_same, by decide, by decide, fun r6 r60 r63 => ?_⟩
  rw [up_up]
  have hw : ∃ c : Int, atI [D.int 1, D.int 1, D.int (1 + r5), D.int (1 + r6)] q = some (.int c) ∧ 1 ≤ c ∧ c ≤ 60 := by
    have : q = 0 ∨ q = 1 ∨ q = 2 ∨ q = 3 := by omega
    rcases this with rfl | rfl | rfl | rfl
    · exact ⟨_, atI_c0, by omega, by omega⟩
    · exact ⟨_, atI_c1, by omega, by omega⟩
    · exact ⟨_, atI_c2, by omega, by omega⟩
    · exact ⟨_, atI_c3, by omega, by omega⟩
  obtain ⟨c, hw, c1, c2⟩ := hw
  walk_at "ev"
  refine ⟨v, c, rfl, by omega, lt_b89 (m := 64) (by omega) (by decide), ?_⟩
  exact fin.of (hk _ ⟨v, c, v1, v2, c1, c2, rfl⟩)
end M
namespace M
open PySem L2
theorem hp_mono {xs ys : List Rat} (h : ∀ (i : Nat) x y, xs[i]? = some x → ys[i]? = some y → x ≤ y) (hl : xs.length = ys.length) : ∀ k, hp xs k ≤ hp ys k := by
  intro k
  induction k with
  | zero => exact Rat.le_refl
  | succ k ih =>
    by_cases z : k < xs.length
    · have e1 := List.getElem?_eq_getElem z
      have e2 := List.getElem?_eq_getElem (l := ys) (i := k) (by omega)
      have := h k _ _ e1 e2
      rw [hp_succ e1, hp_succ e2]
      grind
    · have f : ∀ zs : List Rat, zs.length ≤ k → hp zs (k + 1) = hp zs k := fun zs hz => by
        unfold hp
        rw [List.take_of_length_le (by omega), List.take_of_length_le hz]
      rw [f xs (by omega), f ys (by omega)]
      exact ih
/-- two waters put together -/
def putR (xs ys : List Rat) : List Rat := List.zipWith (· + ·) xs ys
theorem putR_len {xs ys : List Rat} (h : xs.length = ys.length) : (putR xs ys).length = xs.length := by unfold putR; rw [List.length_zipWith]; omega
theorem putR_get {xs ys : List Rat} {i : Nat} {x y : Rat} (h1 : xs[i]? = some x) (h2 : ys[i]? = some y) : (putR xs ys)[i]? = some (x + y) := by
  unfold putR
  rw [List.getElem?_zipWith, h1, h2]
theorem putR_hp {xs ys : List Rat} (hl : xs.length = ys.length) (k : Nat) : hp (putR xs ys) k = hp xs k + hp ys k := by
  induction k with
  | zero => rw [hp_zero, hp_zero, hp_zero]; exact (Rat.add_zero 0).symm
  | succ k ih =>
    by_cases z : k < xs.length
    · have e1 := List.getElem?_eq_getElem z
      have e2 := List.getElem?_eq_getElem (l := ys) (i := k) (by omega)
      rw [hp_succ e1, hp_succ e2, hp_succ (putR_get e1 e2), ih]
      grind
    · have f : ∀ zs : List Rat, zs.length ≤ k → hp zs (k + 1) = hp zs k := fun zs hz => by
        unfold hp
        rw [List.take_of_length_le (by omega), List.take_of_length_le hz]
      rw [f xs (by omega), f ys (by omega), f _ (by rw [putR_len hl]; omega)]
      exact ih
theorem WOk.mono {V W D : Nat} {xs : List Rat} (h : WOk V D xs) (hv : V ≤ W) : WOk W D xs := ⟨h.nn, h.d, Rat.le_trans h.s (Rat.natCast_le_natCast.mpr hv)⟩
theorem WOk.den {V D L : Nat} {xs : List Rat} (h : WOk V D xs) : WOk V (D * L) xs := ⟨h.nn, fun x hx => by
  obtain ⟨a, ha⟩ := h.d x hx
  exact ⟨a * L, by rw [Rat.natCast_mul, Rat.intCast_mul, ← ha, Rat.intCast_natCast]; grind⟩, h.s⟩
theorem putR_mem {xs ys : List Rat} {z : Rat} (h : z ∈ putR xs ys) : ∃ x ∈ xs, ∃ y ∈ ys, z = x + y := by
  unfold putR at h
  obtain ⟨i, hi⟩ := List.getElem?_of_mem h
  rw [List.getElem?_zipWith] at hi
  cases e1 : xs[i]? with
  | none => rw [e1] at hi; cases hi
  | some x =>
    cases e2 : ys[i]? with
    | none => rw [e1, e2] at hi; cases hi
    | some y =>
      rw [e1, e2] at hi
      exact ⟨x, List.mem_of_getElem? e1, y, List.mem_of_getElem? e2, (Option.some.inj hi).symm⟩
theorem WOk.put {V W D : Nat} {xs ys : List Rat} (h : WOk V D xs) (g : WOk W D ys) (hl : xs.length = ys.length) : WOk (V + W) D (putR xs ys) := by
  refine ⟨fun z hz => ?_, fun z hz => ?_, ?_⟩
  · obtain ⟨x, hx, y, hy, rfl⟩ := putR_mem hz
    have := h.nn x hx
    have := g.nn y hy
    grind
  · obtain ⟨x, hx, y, hy, rfl⟩ := putR_mem hz
    exact (h.d x hx).add (g.d y hy)
  · have e := putR_hp hl xs.length
    have e1 : hp (putR xs ys) xs.length = (putR xs ys).sum := by rw [← putR_len hl, hp_len]
    have e2 : hp ys xs.length = ys.sum := by rw [hl, hp_len]
    rw [e1, hp_len, e2] at e
    rw [e, Rat.natCast_add]
    have := h.s
    have := g.s
    grind
/-- all so many times -/
def scR (c : Rat) (xs : List Rat) : List Rat := xs.map (fun x => c * x)
theorem scR_len (c : Rat) (xs : List Rat) : (scR c xs).length = xs.length := by unfold scR; rw [List.length_map]
theorem scR_hp (c : Rat) (xs : List Rat) (k : Nat) : hp (scR c xs) k = c * hp xs k := by
  have : ∀ l : List Rat, (l.map (fun x => c * x)).sum = c * l.sum := by
    intro l
    induction l with
    | nil => rw [List.map_nil, List.sum_nil, Rat.mul_zero]
    | cons x l ih => rw [List.map_cons, List.sum_cons, List.sum_cons, ih]; grind
  unfold hp scR
  rw [← List.map_take, this]
theorem WOk.scale {V D : Nat} {xs : List Rat} (h : WOk V D xs) (c : Nat) : WOk (c * V) D (scR (c : Rat) xs) := by
  have c0 : (0 : Rat) ≤ (c : Rat) := Rat.natCast_nonneg
  refine ⟨fun z hz => ?_, fun z hz => ?_, ?_⟩
  · unfold scR at hz
    obtain ⟨x, hx, rfl⟩ := List.mem_map.mp hz
    exact Rat.mul_nonneg c0 (h.nn x hx)
  · unfold scR at hz
    obtain ⟨x, hx, rfl⟩ := List.mem_map.mp hz
    obtain ⟨a, ha⟩ := h.d x hx
    exact ⟨c * a, by rw [Rat.intCast_mul, ← ha, Rat.intCast_natCast]; grind⟩
  · have e := scR_hp (c : Rat) xs xs.length
    rw [hp_len] at e
    have e1 : hp (scR (c : Rat) xs) xs.length = (scR (c : Rat) xs).sum := by rw [← scR_len (c : Rat) xs, hp_len]
    rw [← e1, e, Rat.natCast_mul]
    exact Rat.mul_le_mul_of_nonneg_left h.s c0
section
variable {ns : List Int} {xs ys : List Rat} {bs bs' : List Int} {V W D L : Nat}
theorem Rest.fn {n : Nat} {P H H' X X' : Nat → Rat} {B : Nat → Prop} (r : Rest n P H X B) (h1 : H = H') (h2 : X = X') : Rest n P H' X' B := by rw [← h1, ← h2]; exact r
theorem settle_scale (hr : RowOk ns) (hl : ns.length = xs.length) (hf : Flaps ns.length bs) (hL : Lcm ns L) (hw : WOk V D xs) (c : Nat) : settle ns (scR (c : Rat) xs) bs = scR (c : Rat) (settle ns xs bs) := by
  obtain ⟨s1, s2, s3⟩ := settle_ok hr hl hf hL hw
  exact settle_eq hr (by rw [scR_len]; exact s1) ((s2.scale (c := (c : Rat)) Rat.natCast_nonneg).fn (funext fun k => (scR_hp _ _ k).symm) (funext fun k => (scR_hp _ _ k).symm))
theorem settle_mono (hr : RowOk ns) (hl : ns.length = xs.length) (hl' : ns.length = ys.length) (hf : Flaps ns.length bs) (hf' : Flaps ns.length bs') (hL : Lcm ns L) (hw : WOk V D xs) (hw' : WOk W D ys) (hb : ∀ b ∈ bs, b ∈ bs') (h : ∀ k, k ≤ ns.length → hp xs k ≤ hp ys k) {k : Nat} (hk : k ≤ ns.length) : hp (settle ns xs bs) k ≤ hp (settle ns ys bs') k := by
  obtain ⟨s1, s2, s3⟩ := settle_ok hr hl hf hL hw
  obtain ⟨t1, t2, t3⟩ := settle_ok hr hl' hf' hL hw'
  exact s2.mono hr.strict (.inl rfl) (.inr (.inl rfl)) t2 (fun k h => h.imp id fun h => h.imp id fun h => hb _ h) h hk
theorem settle_super (hr : RowOk ns) (hl : ns.length = xs.length) (hl' : ns.length = ys.length) (hf : Flaps ns.length bs) (hL : Lcm ns L) (hw : WOk V D xs) (hw' : WOk W D ys) {k : Nat} (hk : k ≤ ns.length) : hp (settle ns xs bs) k + hp (settle ns ys bs) k ≤ hp (settle ns (putR xs ys) bs) k := by
  obtain ⟨s1, s2, s3⟩ := settle_ok hr hl hf hL hw
  obtain ⟨t1, t2, t3⟩ := settle_ok hr hl' hf hL hw'
  have hlp : xs.length = ys.length := hl.symm.trans hl'
  obtain ⟨u1, u2, u3⟩ := settle_ok hr (xs := putR xs ys) (by rw [putR_len hlp]; exact hl) hf hL (hw.put hw' hlp)
  exact s2.super hr.strict (.inl rfl) (.inr (.inl rfl)) t2 (u2.fn (funext fun k => putR_hp hlp k) rfl) hk
theorem settle_all (hr : RowOk ns) (hl : ns.length = xs.length) (hb : ∀ k : Nat, 0 < k → k < ns.length → (k : Int) ∈ bs) : settle ns xs bs = xs :=
  settle_eq hr hl.symm (Rest.self fun k h1 h2 h3 => absurd (.inr (.inr (hb k h1 h2))) h3)
theorem settle_sum (hr : RowOk ns) (hl : ns.length = xs.length) (hf : Flaps ns.length bs) (hL : Lcm ns L) (hw : WOk V D xs) : (settle ns xs bs).sum = xs.sum := by
  obtain ⟨s1, s2, s3⟩ := settle_ok hr hl hf hL hw
  have := s2.cut ns.length (Nat.le_refl _) (.inr (.inl rfl))
  rw [← hp_len, s1, this, hl, hp_len]
end
end M
namespace M
open PySem L2
/-- room for steps: rain to B, bottoms dividing D0 -/
structure HRm (B D0 : Nat) : Prop where
  d0 : 0 < D0
  d : D0 < 2 ^ 140
  b : B < 2 ^ 59
/-- a History of good floors, waters and rain -/
structure HOk (B D0 : Nat) (h : HD) : Prop where
  row : RowOk h.ns
  sum : h.ns.sum ≤ 72
  wl : h.ws.length = h.st.length + 1
  few : h.st.length ≤ 16
  w : ∀ (i : Nat) w, h.ws[i]? = some w → w.length = h.ns.length ∧ WOk (B * (i + 1)) (D0 * L72 ^ i) w
  s : ∀ (i : Nat) s w, h.st[i]? = some s → h.ws[i]? = some w → Flaps h.ns.length s.1 ∧ s.1.Pairwise (· ≤ ·) ∧ s.2.length = h.ns.length ∧ WOk B D0 s.2 ∧ h.ws[i + 1]? = some (settle h.ns (putR w s.2) s.1)
/-- the water now -/
def HD.now (h : HD) : List Rat := h.ws.getLastD []
theorem HOk.now {B D0 : Nat} {h : HD} (ok : HOk B D0 h) : h.ws[h.st.length]? = some h.now ∧ h.now.length = h.ns.length ∧ WOk (B * (h.st.length + 1)) (D0 * L72 ^ h.st.length) h.now := by
  have e : h.ws[h.st.length]? = some h.now := by
    unfold HD.now
    rw [List.getLastD_eq_getLast?, List.getLast?_eq_getElem?, ok.wl, Nat.add_sub_cancel]
    have := List.getElem?_eq_getElem (show h.st.length < h.ws.length by have := ok.wl; omega)
    rw [this]; rfl
  exact ⟨e, ok.w _ _ e⟩
theorem HRm.rm {B D0 i : Nat} (r : HRm B D0) (hi : i ≤ 16) : Rm (B * (i + 1)) (D0 * L72 ^ i) := by
  have h1 : 0 < L72 ^ i := Nat.pow_pos L72_pos
  have h2 : L72 ^ i ≤ 2 ^ (103 * 16) := Nat.le_trans (Nat.pow_le_pow_left (Nat.le_of_lt L72_lt) i) (by rw [← Nat.pow_mul]; exact Nat.pow_le_pow_right (by decide) (Nat.mul_le_mul_left _ hi))
  refine ⟨Nat.mul_pos r.d0 h1, ?_, ?_⟩
  · refine lt_pow (a := 140 + 103 * 16) ?_ (by decide)
    rw [Nat.pow_add]
    exact Nat.lt_of_lt_of_le (Nat.mul_lt_mul_of_pos_right r.d h1) (Nat.mul_le_mul_left _ h2)
  · refine lt_pow (a := 59 + 5) ?_ (by decide)
    rw [Nat.pow_add]
    exact Nat.lt_of_lt_of_le (Nat.mul_lt_mul_of_pos_right r.b (by omega)) (Nat.mul_le_mul_left _ (by show i + 1 ≤ 32; omega))
/-- with a step more -/
noncomputable def HD.add (h : HD) (bs : List Int) (rain : List Rat) : HD := ⟨h.ns, h.ws ++ [settle h.ns (putR h.now rain) bs], h.st ++ [(bs, rain)]⟩
theorem HOk.lcm {B D0 : Nat} {h : HD} (ok : HOk B D0 h) : Lcm h.ns L72 := Lcm.l72 ok.sum
theorem WOk.up {V W D E : Nat} {xs : List Rat} (h : WOk V D xs) (hv : V ≤ W) : WOk W (D * E) xs := (h.mono hv).den
theorem HOk.fell {B D0 : Nat} {h : HD} {rain : List Rat} (ok : HOk B D0 h) (hl : rain.length = h.ns.length) (hw : WOk B D0 rain) : h.now.length = rain.length ∧ h.ns.length = (putR h.now rain).length ∧ WOk (B * (h.st.length + 1 + 1)) (D0 * L72 ^ h.st.length) (putR h.now rain) := by
  obtain ⟨e, l, w⟩ := ok.now
  have hlp : h.now.length = rain.length := by omega
  refine ⟨hlp, by rw [putR_len hlp, l], ?_⟩
  have := w.put (hw.den (L := L72 ^ h.st.length)) hlp
  refine this.mono (by rw [Nat.mul_succ]; exact Nat.le_refl _)
theorem HOk.add {B D0 : Nat} {h : HD} {bs : List Int} {rain : List Rat} (ok : HOk B D0 h) (hf : Flaps h.ns.length bs) (hs : bs.Pairwise (· ≤ ·)) (hl : rain.length = h.ns.length) (hw : WOk B D0 rain) (few : h.st.length < 16) : HOk B D0 (h.add bs rain) := by
  obtain ⟨e, l, w⟩ := ok.now
  obtain ⟨f1, f2, f3⟩ := ok.fell hl hw
  obtain ⟨s1, s2, s3⟩ := settle_ok ok.row f2 hf ok.lcm f3
  have wl := ok.wl
  refine ⟨ok.row, ok.sum, ?_, ?_, fun i w' hi => ?_, fun i s w' hi hwi => ?_⟩
  · show (h.ws ++ [_]).length = (h.st ++ [_]).length + 1
    rw [List.length_append, List.length_append, wl]; rfl
  · show (h.st ++ [_]).length ≤ 16
    rw [List.length_append]; exact few
  · show w'.length = h.ns.length ∧ _
    have hi : (h.ws ++ [settle h.ns (putR h.now rain) bs])[i]? = some w' := hi
    by_cases z : i < h.ws.length
    · rw [List.getElem?_append_left z] at hi
      exact ok.w i w' hi
    · have hlt := (List.getElem?_eq_some_iff.mp hi).1
      rw [List.length_append, List.length_singleton] at hlt
      have : i = h.ws.length := by omega
      subst this
      rw [List.getElem?_append_right (Nat.le_refl _), Nat.sub_self] at hi
      cases hi
      refine ⟨s1, ?_⟩
      rw [wl]
      rw [Nat.mul_assoc, ← Nat.pow_succ] at s3
      exact s3
  · have hi : (h.st ++ [(bs, rain)])[i]? = some s := hi
    have hwi : (h.ws ++ [settle h.ns (putR h.now rain) bs])[i]? = some w' := hwi
    show Flaps h.ns.length s.1 ∧ _ ∧ _ ∧ _ ∧ (h.ws ++ [settle h.ns (putR h.now rain) bs])[i + 1]? = some (settle h.ns (putR w' s.2) s.1)
    by_cases z : i < h.st.length
    · rw [List.getElem?_append_left z] at hi
      rw [List.getElem?_append_left (by omega)] at hwi
      rw [List.getElem?_append_left (by omega)]
      exact ok.s i s w' hi hwi
    · have hlt := (List.getElem?_eq_some_iff.mp hi).1
      rw [List.length_append, List.length_singleton] at hlt
      have : i = h.st.length := by omega
      subst this
      rw [List.getElem?_append_right (Nat.le_refl _), Nat.sub_self] at hi
      cases hi
      rw [List.getElem?_append_left (by omega), e] at hwi
      cases hwi
      refine ⟨hf, hs, hl, hw, ?_⟩
      rw [List.getElem?_append_right (by omega), wl, Nat.sub_self]; rfl
/-- a History begun -/
theorem HOk.new {B D0 : Nat} {ns : List Int} {w : List Rat} (hr : RowOk ns) (hs : ns.sum ≤ 72) (hl : w.length = ns.length) (hw : WOk B D0 w) : HOk B D0 ⟨ns, [w], []⟩ := by
  refine ⟨hr, hs, rfl, Nat.zero_le _, fun i w' hi => ?_, fun i s w' hi _ => by simp at hi⟩
  have hlt := (List.getElem?_eq_some_iff.mp hi).1
  simp only [List.length_singleton] at hlt
  have : i = 0 := by omega
  subst this
  cases hi
  refine ⟨hl, ?_⟩
  rw [Nat.zero_add, Nat.mul_one, Nat.pow_zero, Nat.mul_one]
  exact hw
/-! the box -/
/-- a History stands at p -/
def IsH (M : MH) (C p : Addr) (h : HD) : Prop := ∃ a b c, M p = some (hBox C a b c h)
def hPut (M : MH) (p C a b c : Addr) (h : HD) : MH := up (up (up (up M a (.part p)) b (.part p)) c (.part p)) p (hBox C a b c h)
/-- the History open -/
def hOpen (M : MH) (p C a b c : Addr) (h : HD) : MH := opn M [p, a, b, c] (hBs C a b c h)
section
variable {M : MH} {p C a b c : Addr} {h h' : HD}
theorem hOpen_p (n1 : p ≠ a) (n2 : p ≠ b) (n3 : p ≠ c) : hOpen M p C a b c h p = some (.obj (.ins C (hF a b c))) := by
  show up (up (up (up M p _) a _) b _) c _ p = _
  rw [up_ne n3, up_ne n2, up_ne n1]; exact up_same
theorem hOpen_a (n1 : a ≠ b) (n2 : a ≠ c) : hOpen M p C a b c h a = some (.obj (.lst (h.ns.map .int))) := by
  show up (up (up (up M p _) a _) b _) c _ a = _
  rw [up_ne n2, up_ne n1]; exact up_same
theorem hOpen_b (n1 : b ≠ c) : hOpen M p C a b c h b = some (.obj (.lst (h.ws.map watD))) := by
  show up (up (up (up M p _) a _) b _) c _ b = _
  rw [up_ne n1]; exact up_same
theorem hOpen_c : hOpen M p C a b c h c = some (.obj (.lst (h.st.map stepD))) := up_same
theorem hOpen_o {x : Addr} (n0 : x ≠ p) (n1 : x ≠ a) (n2 : x ≠ b) (n3 : x ≠ c) : hOpen M p C a b c h x = M x := by
  show up (up (up (up M p _) a _) b _) c _ x = _
  rw [up_ne n3, up_ne n2, up_ne n1, up_ne n0]
theorem hOpen_ws {ws : List (List Rat)} (n1 : b ≠ c) : up (hOpen M p C a b c h) b (.obj (.lst (ws.map watD))) = hOpen M p C a b c ⟨h.ns, ws, h.st⟩ := by
  show up (up (up (up (up M p _) a _) b _) c _) b _ = up (up (up (up M p _) a _) b _) c _
  rw [up_comm n1.symm, up_up]
theorem hOpen_st {st : List (List Int × List Rat)} : up (hOpen M p C a b c h) c (.obj (.lst (st.map stepD))) = hOpen M p C a b c ⟨h.ns, h.ws, st⟩ := by
  show up (up (up (up (up M p _) a _) b _) c _) c _ = up (up (up (up M p _) a _) b _) c _
  rw [up_up]
/-- closed again, whatever stands in it -/
theorem hOpen_close {φ : List BO → Prop} (hM : M p = some (.box [a, b, c] φ)) (ha : M a = some (.part p)) (hb : M b = some (.part p)) (hc : M c = some (.part p)) (n1 : a ≠ b) (n2 : a ≠ c) (n3 : b ≠ c) : Abs (hOpen M p C a b c h') (up M p (hBox C a b c h')) := by
  have pa : p ≠ a := fun z => by rw [← z, hM] at ha; cases ha
  have pb : p ≠ b := fun z => by rw [← z, hM] at hb; cases hb
  have pc : p ≠ c := fun z => by rw [← z, hM] at hc; cases hc
  refine Abs.close (a := p) (ps := [a, b, c]) (bs := hBs C a b c h') ⟨rfl, n1, n2, n3⟩ rfl ?_ up_same ?_ ?_
  · intro i x d e1 e2
    match i with
    | 0 => cases e1; cases e2; exact hOpen_p pa pb pc
    | 1 => cases e1; cases e2; exact hOpen_a n1 n2
    | 2 => cases e1; cases e2; exact hOpen_b n3
    | 3 => cases e1; cases e2; exact hOpen_c
    | n + 4 => cases e1
  · intro q hq
    simp only [List.mem_cons, List.not_mem_nil, or_false] at hq
    rcases hq with rfl | rfl | rfl
    · rw [up_ne (fun z => pa z.symm)]; exact ha
    · rw [up_ne (fun z => pb z.symm)]; exact hb
    · rw [up_ne (fun z => pc z.symm)]; exact hc
  · intro x hx
    simp only [List.mem_cons, List.not_mem_nil, or_false, not_or] at hx
    obtain ⟨x0, x1, x2, x3⟩ := hx
    rw [hOpen_o x0 x1 x2 x3, up_ne x0]
theorem hPut_close (hM : M p = some (.obj (.ins C []))) (ha : M a = none) (hb : M b = none) (hc : M c = none) (n1 : a ≠ b) (n2 : a ≠ c) (n3 : b ≠ c) : Abs (hOpen M p C a b c h') (hPut M p C a b c h') := by
  have pa : p ≠ a := fun z => by rw [← z, hM] at ha; cases ha
  have pb : p ≠ b := fun z => by rw [← z, hM] at hb; cases hb
  have pc : p ≠ c := fun z => by rw [← z, hM] at hc; cases hc
  unfold hPut
  refine Abs.close (a := p) (ps := [a, b, c]) (bs := hBs C a b c h') ⟨rfl, n1, n2, n3⟩ rfl ?_ up_same ?_ ?_
  · intro i x d e1 e2
    match i with
    | 0 => cases e1; cases e2; exact hOpen_p pa pb pc
    | 1 => cases e1; cases e2; exact hOpen_a n1 n2
    | 2 => cases e1; cases e2; exact hOpen_b n3
    | 3 => cases e1; cases e2; exact hOpen_c
    | n + 4 => cases e1
  · intro q hq
    simp only [List.mem_cons, List.not_mem_nil, or_false] at hq
    rcases hq with rfl | rfl | rfl
    · rw [up_ne (fun z => pa z.symm), up_ne n2, up_ne n1]; exact up_same
    · rw [up_ne (fun z => pb z.symm), up_ne n3]; exact up_same
    · rw [up_ne (fun z => pc z.symm)]; exact up_same
  · intro x hx
    simp only [List.mem_cons, List.not_mem_nil, or_false, not_or] at hx
    obtain ⟨x0, x1, x2, x3⟩ := hx
    rw [hOpen_o x0 x1 x2 x3, up_ne x0, up_ne x3, up_ne x2, up_ne x1]
end
end M
namespace M
open PySem L2
/-- a rain: its tank, its amount -/
def rnD (r : Int × Rat) : D := .tup [.int r.1, frD r.2]
/-- a row that has x at t alone -/
def oneR (n : Nat) (t : Int) (x : Rat) : List Rat := (List.range n).map fun (i : Nat) => if (i : Int) + 1 = t then x else 0
theorem oneR_len {n : Nat} {t : Int} {x : Rat} : (oneR n t x).length = n := by unfold oneR; rw [List.length_map, List.length_range]
theorem oneR_get {n i : Nat} {t : Int} {x : Rat} (h : i < n) : (oneR n t x)[i]? = some (if (i : Int) + 1 = t then x else 0) := by
  unfold oneR
  rw [List.getElem?_map, List.getElem?_range h]; rfl
/-- what a rain adds is what is put to it -/
theorem set_one {ws : List Rat} {t : Int} {x w : Rat} (h1 : 1 ≤ t) (hw : ws[(t - 1).toNat]? = some w) : ws.set (t - 1).toNat (w + x) = putR ws (oneR ws.length t x) := by
  have hlt := (List.getElem?_eq_some_iff.mp hw).1
  refine List.ext_getElem? fun i => ?_
  by_cases hi : i < ws.length
  · have e1 := List.getElem?_eq_getElem hi
    rw [putR_get e1 (oneR_get hi), List.getElem?_set]
    by_cases z : (t - 1).toNat = i
    · subst z
      rw [if_pos rfl, if_pos hi, if_pos (by omega)]
      rw [hw] at e1
      cases e1; rfl
    · rw [if_neg z, if_neg (by omega), e1, Rat.add_zero]
  · rw [List.getElem?_eq_none (by rw [List.length_set]; omega), List.getElem?_eq_none (by rw [putR_len oneR_len.symm]; omega)]
theorem hp_one {n : Nat} {t : Int} {x : Rat} (h1 : 1 ≤ t) : ∀ k, k ≤ n → hp (oneR n t x) k = if t ≤ (k : Int) then x else 0
  | 0, _ => by rw [if_neg (by omega)]; rfl
  | k + 1, hk => by
    rw [hp_succ (oneR_get (by omega)), hp_one h1 k (by omega)]
    by_cases z : t ≤ (k : Int)
    · rw [if_pos z, if_neg (by omega), if_pos (by omega), Rat.add_zero]
    · rw [if_neg z]
      by_cases w : (k : Int) + 1 = t
      · rw [if_pos w, if_pos (by omega), Rat.zero_add]
      · rw [if_neg w, if_neg (by omega), Rat.zero_add]
/-- a good rain of a row of n tanks -/
structure RnOk (n B D0 : Nat) (r : Int × Rat) : Prop where
  lo : 1 ≤ r.1
  hi : r.1 ≤ n
  nn : 0 ≤ r.2
  le : r.2 ≤ (B : Rat)
  den : DenD D0 r.2
theorem RnOk.wok {n B D0 : Nat} {r : Int × Rat} (h : RnOk n B D0 r) : WOk B D0 (oneR n r.1 r.2) := by
  refine ⟨fun x hx => ?_, fun x hx => ?_, ?_⟩
  · unfold oneR at hx
    obtain ⟨i, _, rfl⟩ := List.mem_map.mp hx
    split
    · exact h.nn
    · exact Rat.le_refl
  · unfold oneR at hx
    obtain ⟨i, _, rfl⟩ := List.mem_map.mp hx
    split
    · exact h.den
    · exact DenD.zero
  · have := hp_one (n := n) (x := r.2) h.lo n (Nat.le_refl _)
    have e : hp (oneR n r.1 r.2) n = (oneR n r.1 r.2).sum := by
      conv => lhs; rw [show n = (oneR n r.1 r.2).length from oneR_len.symm]
      rw [oneR_len]
      have := hp_len (oneR n r.1 r.2)
      rwa [oneR_len] at this
    rw [← e, this, if_pos h.hi]
    exact h.le
/-- the water behind rains, one by one -/
noncomputable def fallR (ns : List Int) (rs : List (Int × Rat)) : List Rat := rs.foldl (fun w r => settle ns (putR w (oneR ns.length r.1 r.2)) []) (List.replicate ns.length 0)
theorem fallR_snoc {ns : List Int} {rs : List (Int × Rat)} {r : Int × Rat} : fallR ns (rs ++ [r]) = settle ns (putR (fallR ns rs) (oneR ns.length r.1 r.2)) [] := by
  unfold fallR
  rw [List.foldl_append]; rfl
theorem wok_zero {n D : Nat} : WOk 0 D (List.replicate n 0) := by
  refine ⟨fun x hx => ?_, fun x hx => ?_, ?_⟩
  · rw [List.eq_of_mem_replicate hx]; exact Rat.le_refl
  · rw [List.eq_of_mem_replicate hx]; exact DenD.zero
  · have : ∀ n : Nat, (List.replicate n (0 : Rat)).sum = 0 := fun n => by
      induction n with
      | zero => rfl
      | succ n ih => rw [List.replicate_succ, List.sum_cons, ih, Rat.add_zero]
    rw [this]; exact Rat.le_refl
theorem snoc_ind {α : Type} {P : List α → Prop} (l : List α) (h0 : P []) (h1 : ∀ l a, P l → P (l ++ [a])) : P l := by
  have : ∀ n : Nat, ∀ l : List α, l.length = n → P l := by
    intro n
    induction n with
    | zero => intro l hl; rw [List.eq_nil_of_length_eq_zero hl]; exact h0
    | succ n ih =>
      intro l hl
      rcases List.eq_nil_or_concat l with rfl | ⟨ys, y, rfl⟩
      · exact h0
      · rw [List.concat_eq_append] at *
        refine h1 ys y (ih ys ?_)
        rw [List.length_append, List.length_singleton] at hl; omega
  exact this _ l rfl
theorem Flaps.nil_ {n : Nat} : Flaps n [] := ⟨by simp, by simp, List.nodup_nil⟩
theorem fallR_ok {ns : List Int} {B D0 : Nat} (hr : RowOk ns) (hL : Lcm ns L72) : ∀ {rs : List (Int × Rat)}, (∀ r ∈ rs, RnOk ns.length B D0 r) → (fallR ns rs).length = ns.length ∧ WOk (B * rs.length) (D0 * L72 ^ rs.length) (fallR ns rs) := by
  intro rs
  refine snoc_ind (P := fun rs => (∀ r ∈ rs, RnOk ns.length B D0 r) → (fallR ns rs).length = ns.length ∧ WOk (B * rs.length) (D0 * L72 ^ rs.length) (fallR ns rs)) rs ?_ ?_
  · intro _
    exact ⟨List.length_replicate, by
      show WOk (B * 0) _ _
      rw [Nat.mul_zero]; exact wok_zero⟩
  · intro rs r ih h
    obtain ⟨l, w⟩ := ih fun r hr => h r (List.mem_append_left _ hr)
    have g := (h r (List.mem_append_right _ (List.mem_singleton.mpr rfl))).wok
    have hl : (fallR ns rs).length = (oneR ns.length r.1 r.2).length := by rw [oneR_len, l]
    have pw := w.put (g.den (L := L72 ^ rs.length)) hl
    obtain ⟨s1, s2, s3⟩ := settle_ok hr (by rw [putR_len hl, l]) Flaps.nil_ hL pw
    rw [fallR_snoc]
    refine ⟨s1, ?_⟩
    rw [List.length_append, List.length_singleton, Nat.mul_succ, Nat.pow_succ, ← Nat.mul_assoc]
    exact s3
end M
namespace M
open PySem L2
/-- rains of the law: a tank, an amount above 0 -/
structure Rn (n : Nat) (r : Int × Rat) : Prop where
  lo : 1 ≤ r.1
  hi : r.1 ≤ n
  a : Amt r.2
  p : 0 < r.2
def F_law_rains : AF := fun ds M k _ => ∃ (t g : Addr) (b m : Nat) (ns : List Int), ds = [.ref t, .lst (ns.map .int), .int m] ∧ M t = some (deck g (b + 9 * m + 1)) ∧ ns ≠ [] ∧ ns.length ≤ 1000 ∧ m ≤ 1000 ∧
  ∀ rs : List (Int × Rat), rs.length ≤ m → (∀ r ∈ rs, Rn ns.length r) → k (.lst (rs.map rnD)) (up M t (deck g b))
/-- _law_rains -/
def b_law_rains : AS := (aSeq (aSet 3 (aLst true aNil))
  (aSeq (aFor (wRg1 (aCons (aCall noX F_law_take [] (aCons (aVar 0) (aCons (aOp (bAdd false) (aVar 2) (aC (.int 1))) aNil))) aNil)) (gNm 4)
  (aSeq (aSet 5 (aCall noX F_law_amount_v3 [] (aCons (aVar 0) aNil)))
  (aDrop (aMt mAppend (aVar 3) (aCons (aTup (aCons (aOp (bAdd false) (aC (.int 1)) (aCall noX F_law_take [] (aCons (aVar 0) (aCons (aCB cLen (aCons (aVar 1) aNil)) aNil)))) (aCons (aIf (aB (aOp bGt (aOp bIx (aVar 5) (aC (.int 0))) (aC (.int 0)))) (aVar 5) (aTup (aCons (aOp (bAdd false) (aC (.int 1)) (aCall noX F_law_take [] (aCons (aVar 0) (aCons (aC (.int 3)) aNil)))) (aCons (aC (.int 1)) aNil)))) aNil))) aNil)))))
  (aRet (aFrz (aVar 3)))))
theorem len_law_rains : ∀ ds M k x, F_law_rains ds M k x → ds.length = 3 := by
  rintro ds M k x ⟨a, b, _, _, _, rfl, _⟩; rfl
theorem frD_wh (n : Int) : D.tup [D.int n, D.int 1] = frD ((n : Int) : Rat) := by
  unfold frD; simp
theorem num_pos' {x : Rat} (h : 0 < x.num) : 0 < x := by
  have := lt_rat 0 x
  rw [show (0 : Rat).num = 0 from rfl, show (0 : Rat).den = 1 from rfl] at this
  refine of_decide_eq_true (this ▸ decide_eq_true ?_)
  omega
theorem ok_law_rains : ∀ ds M k x, F_law_rains ds M k x → b_law_rains { nx := fun _ M' => fin k .non M', rt := fin k } (startG 6 ds) M := by
  rintro ds M k _ ⟨t, g, b, m, ns, rfl, hM, h0, hl, hm, hk⟩
  have hpl : 0 < ns.length := List.length_pos_iff.mpr h0
  walk_at "st"
  unfold b_law_rains
  walk_at "ev"
  intro p hp
  have tp : t ≠ p := fun z => by rw [← z, hM] at hp; cases hp
  walk_at "ev"
  refine ⟨t, g, b + 9 * m, (m : Int) + 1, rfl, by rw [up_ne tp]; exact hM, by omega, by omega, fun r0 r00 r01 => ?_⟩
  walk_at "ev"
  refine ⟨by omega, ?_⟩
  have pt : p ≠ t := fun z => tp z.symm
  have dn : ∀ (i : Nat) (rs : List (Int × Rat)) (r : Int) (y : Rat), rs.length = i → (∀ r ∈ rs, Rn ns.length r) → 0 ≤ r → r < ns.length → Amt y → 0 < y → (rs ++ [(1 + r, y)]).length = i + 1 ∧ (∀ q ∈ rs ++ [(1 + r, y)], Rn ns.length q) := fun i rs r y hlen hrs r0 rn ha hy => ⟨by rw [List.length_append, hlen]; rfl, fun q hq => by
    rcases List.mem_append.mp hq with hq | hq
    · exact hrs q hq
    · rw [List.mem_singleton] at hq; subst hq
      exact ⟨by show 1 ≤ 1 + r; omega, by show 1 + r ≤ _; omega, ha, hy⟩⟩
  refine for_go (fun i Γ M' => ∃ (rs : List (Int × Rat)) (bb : Nat), rs.length = i ∧ (∀ r ∈ rs, Rn ns.length r) ∧ b + 9 * (m - i) ≤ bb ∧ M' = up (up M p (.obj (.lst (rs.map rnD)))) t (deck g bb) ∧ ∃ a c, Γ = [some (.ref t), some (.lst (ns.map .int)), some (.int m), some (.ref p), a, c]) ⟨[], _, rfl, by simp, Nat.le_refl _, rfl, _, _, rfl⟩ ?_ ?_
  · rintro i Γ M2 x hx ⟨rs, bb, hlen, hrs, hbb, eM, a, c, rfl⟩
    obtain ⟨hi, rfl⟩ := rng_it hx
    have him : i < m := by omega
    obtain ⟨c0, rfl⟩ : ∃ c0, bb = c0 + 9 := ⟨bb - 9, by omega⟩
    refine ⟨trivial, ?_⟩
    have ht : M2 t = some (deck g (c0 + 2 + 7)) := by rw [eM, up_same]
    walk_at "ev"
    refine ⟨t, g, c0 + 2, rfl, ht, fun x hx => ?_⟩
    have e1 : up M2 t (deck g (c0 + 2)) = up (up M p (.obj (.lst (rs.map rnD)))) t (deck g (c0 + 2)) := by rw [eM, up_up]
    rw [e1]
    have ep : ∀ o, up (up M p (.obj (.lst (rs.map rnD)))) t o p = some (.obj (.lst (rs.map rnD))) := fun o => by rw [up_ne pt]; exact up_same
    have ep1 := ep (deck g (c0 + 2))
    unfold frD
    walk_at "ev"
    rw [List.length_map]
    refine ⟨t, g, c0 + 1, ns.length, rfl, up_same, by omega, by omega, fun r r0 rn => ?_⟩
    rw [up_up]
    have ep2 := ep (deck g (c0 + 1))
    have ep3 := ep (deck g c0)
    walk_at "ev"
    have lr : (rs.map rnD).length < sizeLine := by rw [List.length_map, sizeLine_eq]; omega
    refine iteD (fun hc => ?_) (fun hc => ?_)
    · walk_at "ev"
      obtain ⟨d1, d2⟩ := dn i rs r x hlen hrs r0 rn hx (num_pos' hc)
      refine ⟨rs ++ [(1 + r, x)], c0 + 1, d1, d2, by omega, ?_, _, _, rfl⟩
      rw [up_comm tp, up_up, List.map_append]; rfl
    · refine ⟨t, g, c0, 3, rfl, up_same, by decide, by decide, fun q q0 q3 => ?_⟩
      rw [up_up]
      walk_at "ev"
      have ha : Amt ((1 + q : Int) : Rat) := ⟨1 + q, 1, by omega, by omega, by decide, by decide, by rw [show (1 : Int).toNat = 1 from rfl, Rat.mkRat_one]⟩
      have hy : (0 : Rat) < ((1 + q : Int) : Rat) := by
        have : (0 : Int) < 1 + q := by omega
        exact_mod_cast this
      obtain ⟨d1, d2⟩ := dn i rs r _ hlen hrs r0 rn ha hy
      refine ⟨rs ++ [(1 + r, ((1 + q : Int) : Rat))], c0, d1, d2, by omega, ?_, _, _, rfl⟩
      have e := frD_wh (1 + q)
      rw [e, up_comm tp, up_up, List.map_append]; rfl
  · rintro Γ M2 ⟨rs, bb, hlen, hrs, hbb, eM, a, c, rfl⟩
    refine ⟨trivial, ?_⟩
    rw [rng_len] at hlen hbb
    have ep : M2 p = some (.obj (.lst (rs.map rnD))) := by rw [eM, up_ne pt]; exact up_same
    walk_at "ev"
    rw [eM, up_comm pt, dl_up (by rw [up_ne pt]; exact hp)]
    exact fin.deck_le (b' := b) (by omega) (hk rs (by omega) hrs)
end M
local macro_rules | `(tactic| walk_at "x1") => `(tactic| simp only [↓M.eRaise, ↓M.eNoEx, ↓M.eDropX, ↓M.eSetX, ↓M.eRetX, ↓M.eCallX, ↓M.eCallKX, ↓M.eTry, ↓M.eWhat, List.append_nil, List.cons_append, List.nil_append, List.set_cons_zero, List.set_cons_succ])
local macro_rules | `(tactic| walk_at "xv") => `(tactic| repeat first | walk_at "eq" | walk_at "e1" | walk_at "x1")
namespace M
open PySem L2
/-- the first of a list that is none -/
def BadAt {α : Type} (p : α → Prop) (l : List α) (i : Nat) : Prop := (∃ a, l[i]? = some a ∧ ¬ p a) ∧ ∀ j b, j < i → l[j]? = some b → p b
theorem BadAt.not {α : Type} {p : α → Prop} {l : List α} {i : Nat} (h : BadAt p l i) : ¬ ∀ a ∈ l, p a := fun z => by
  obtain ⟨⟨a, ha, np⟩, _⟩ := h
  exact np (z a (List.mem_of_getElem? ha))
def F_need_floors_x (EC : EA) : AF := fun ds M k x => ∃ (d : D) (ns : List Int), ds = [d] ∧ rdS M d = some (ns.map .int) ∧
  (ns ≠ [] → (∀ n ∈ ns, 1 ≤ n) → k .non M) ∧ (ns = [] → x (EC .floors, .non) M) ∧ (∀ i : Nat, BadAt (fun n : Int => 1 ≤ n) ns i → x (EC .floors, .int i) M)
/-- need_floors -/
def b_need_floors_x (EC : EA) : AS := (aSeq (aIfS (aB (aOp (bEq false) (aCB cLen (aCons (aVar 0) aNil)) (aC (.int 0))))
  (aRaise (EC .floors) (aC .non))
  aNext)
  (aFor (wEn (aCons (aVar 0) aNil)) (gTu 2 (gCo (gNm 1) (gCo (gNm 2) gNi)))
  (aIfS (aB (aOp bLt (aVar 2) (aC (.int 1))))
  (aRaise (EC .floors) (aVar 1))
  aNext)))
theorem len_need_floors_x (EC : EA) : ∀ ds M k x, F_need_floors_x EC ds M k x → ds.length = 1 := by
  rintro ds M k x ⟨d, ns, rfl, _⟩; rfl
theorem ok_need_floors_x (EC : EA) : ∀ ds M k x, F_need_floors_x EC ds M k x → b_need_floors_x EC { nx := fun _ M' => fin k .non M', rt := fin k, ex := fun p _ M' => finX x p M' } (startG 3 ds) M := by
  rintro ds M k x ⟨d, ns, rfl, hd, hk, h0, hx⟩
  walk_at "st"
  unfold b_need_floors_x
  walk_at "xv"
  rw [List.length_map]
  refine iteD (fun he => ?_) (fun hne => ?_)
  · walk_at "xv"
    exact finX.of (h0 (List.eq_nil_of_length_eq_zero (by omega)))
  walk_at "xv"
  refine for_go (fun i Γ M' => M' = M ∧ (∀ j b, j < i → ns[j]? = some b → 1 ≤ b) ∧ ∃ a b, Γ = [some d, a, b]) ⟨rfl, fun j b hj => absurd hj (by omega), _, _, rfl⟩ ?_ ?_
  · rintro i Γ M2 x hx' ⟨eM, ok, a, b, rfl⟩
    subst M2
    obtain ⟨n, hn, rfl⟩ := enum_get hx'
    refine ⟨hd, ?_⟩
    walk_at "xv"
    refine iteD (fun h => ?_) (fun h => ?_)
    · walk_at "xv"
      rw [Nat.zero_add]
      exact finX.of (hx i ⟨⟨n, hn, by omega⟩, ok⟩)
    walk_at "xv"
    refine ⟨by walk_at "tr", fun j b hj hb => ?_, _, _, rfl⟩
    rcases Nat.lt_succ_iff_lt_or_eq.mp hj with h2 | rfl
    · exact ok j b h2 hb
    · rw [hn] at hb; cases hb; omega
  · rintro Γ M2 ⟨eM, ok, a, b, rfl⟩
    subst M2
    refine ⟨hd, fin.of (hk (fun z => hne (by rw [z]; rfl)) fun n hn => ?_)⟩
    obtain ⟨i, hi, e⟩ := List.mem_iff_getElem.mp hn
    refine ok i n ?_ (by rw [List.getElem?_eq_getElem hi, e])
    rw [enumD_length, List.length_map]; exact hi
end M
namespace M
open PySem L2
def F_need_rains : AF := fun ds M k _ => ∃ (d e : D) (ns : List Int) (rs : List (Int × Rat)), ds = [d, e] ∧ rdS M d = some (ns.map .int) ∧ rdS M e = some (rs.map rnD) ∧ ns ≠ [] ∧ (∀ n ∈ ns, 1 ≤ n) ∧ ns.length ≤ 1000 ∧ rs.length ≤ 1000 ∧ (∀ r ∈ rs, 1 ≤ r.1 ∧ r.1 ≤ ns.length ∧ 0 < r.2 ∧ Sm r.2) ∧ k .non M
/-- need_rains -/
def b_need_rains : AS := (aSeq (aDrop (aCall noX F_need_floors [] (aCons (aVar 0) aNil)))
  (aFor (wEn (aCons (aVar 1) aNil)) (gTu 2 (gCo (gNm 2) (gCo (gTu 2 (gCo (gNm 3) (gCo (gNm 4) gNi))) gNi)))
  (aIfS (aOr (aNot (aB (aChain (fun i j => decide (i ≤ j)) (fun i j => decide (i ≤ j)) (aC (.int 1)) (aVar 3) (aCB cLen (aCons (aVar 0) aNil))))) (aNot (aB (aCall noX F_is_below [] (aCons (aC (.tup [(.int 0), (.int 1)])) (aCons (aVar 4) aNil))))))
  aNever
  aNext)))
theorem len_need_rains : ∀ ds M k x, F_need_rains ds M k x → ds.length = 2 := by
  rintro ds M k x ⟨a, b, _, _, rfl, _⟩; rfl
theorem ok_need_rains : ∀ ds M k x, F_need_rains ds M k x → b_need_rains { nx := fun _ M' => fin k .non M', rt := fin k } (startG 5 ds) M := by
  rintro ds M k _ ⟨d, e, ns, rs, rfl, hd, he, h0, h1, hl, hr, h2, hk⟩
  walk_at "st"
  unfold b_need_rains
  walk_at "ev"
  refine ⟨_, ns, rfl, hd, h0, h1, ?_⟩
  walk_at "ev"
  refine for_go (fun i Γ M' => M' = M ∧ ∃ a b c, Γ = [some d, some e, a, b, c]) ⟨rfl, _, _, _, rfl⟩ ?_ ?_
  · rintro i Γ M2 x hx ⟨eM, a, b, c, rfl⟩
    subst M2
    obtain ⟨r, hr', rfl⟩ := enum_get hx
    obtain ⟨r1, r2, r3, r4⟩ := h2 r (List.mem_of_getElem? hr')
    refine ⟨by first | exact he | exact ⟨he⟩, ?_⟩
    unfold rnD
    walk_at "ev"
    refine iteDT r1 ?_
    walk_at "ev"
    rw [List.length_map]
    refine iteNDT r2 ?_
    refine ⟨0, r.2, rfl, Sm.zero, r4, ?_⟩
    walk_at "ev"
    refine iteNDT r3 ?_
    exact ⟨by walk_at "tr", _, _, _, rfl⟩
  · rintro Γ M2 ⟨eM, a, b, c, rfl⟩
    subst M2
    refine ⟨by walk_at "tr", ?_⟩
    exact fin.of hk
end M
namespace M
open PySem L2
/-- a rain that there can be -/
def RainOk (m : Nat) (r : Int × Rat) : Prop := 1 ≤ r.1 ∧ r.1 ≤ m ∧ 0 < r.2
/-- what is told of floors and rains -/
structure RainsAns (EC : EA) (ns : List Int) (rs : List (Int × Rat)) (good : Prop) (x : Addr × D → Prop) : Prop where
  none : ns = [] → x (EC .floors, .non)
  floor : ∀ i : Nat, BadAt (fun n : Int => 1 ≤ n) ns i → x (EC .floors, .int i)
  rain : ns ≠ [] → (∀ n ∈ ns, 1 ≤ n) → ∀ i : Nat, BadAt (RainOk ns.length) rs i → x (EC .rain, .int i)
  good : ns ≠ [] → (∀ n ∈ ns, 1 ≤ n) → (∀ r ∈ rs, RainOk ns.length r) → good
theorem RainsAns.imp {EC : EA} {ns : List Int} {rs : List (Int × Rat)} {p q : Prop} {x y : Addr × D → Prop} (h : RainsAns EC ns rs p x) (g : p → q) (k : ∀ e, x e → y e) : RainsAns EC ns rs q y :=
  ⟨fun z => k _ (h.none z), fun i z => k _ (h.floor i z), fun a b i z => k _ (h.rain a b i z), fun a b z => g (h.good a b z)⟩
def F_need_rains_x (EC : EA) : AF := fun ds M k x => ∃ (d e : D) (ns : List Int) (rs : List (Int × Rat)), ds = [d, e] ∧ rdS M d = some (ns.map .int) ∧ rdS M e = some (rs.map rnD) ∧ ns.length ≤ 1000 ∧ rs.length ≤ 1000 ∧ (∀ r ∈ rs, Sm r.2) ∧ RainsAns EC ns rs (k .non M) (fun e => x e M)
/-- need_rains -/
def b_need_rains_x (EC : EA) : AS := (aSeq (aDropX (aCallX (F_need_floors_x EC) [] (aCons (aVar 0) aNil)))
  (aFor (wEn (aCons (aVar 1) aNil)) (gTu 2 (gCo (gNm 2) (gCo (gTu 2 (gCo (gNm 3) (gCo (gNm 4) gNi))) gNi)))
  (aIfS (aOr (aNot (aB (aChain (fun i j => decide (i ≤ j)) (fun i j => decide (i ≤ j)) (aC (.int 1)) (aVar 3) (aCB cLen (aCons (aVar 0) aNil))))) (aNot (aB (aCall noX F_is_below [] (aCons (aC (.tup [(.int 0), (.int 1)])) (aCons (aVar 4) aNil))))))
  (aRaise (EC .rain) (aVar 2))
  aNext)))
theorem len_need_rains_x (EC : EA) : ∀ ds M k x, F_need_rains_x EC ds M k x → ds.length = 2 := by
  rintro ds M k x ⟨d, e, ns, rs, rfl, _⟩; rfl
theorem ok_need_rains_x (EC : EA) : ∀ ds M k x, F_need_rains_x EC ds M k x → b_need_rains_x EC { nx := fun _ M' => fin k .non M', rt := fin k, ex := fun p _ M' => finX x p M' } (startG 5 ds) M := by
  rintro ds M k x ⟨d, e, ns, rs, rfl, hd, he, hl, hr, sx, ans⟩
  walk_at "st"
  unfold b_need_rains_x
  walk_at "xv"
  refine ⟨_, ns, rfl, hd, fun h0 h1 => ?_, fun z => finX.of (ans.none z), fun i z => finX.of (ans.floor i z)⟩
  walk_at "xv"
  refine for_go (fun i Γ M' => M' = M ∧ (∀ j b, j < i → rs[j]? = some b → RainOk ns.length b) ∧ ∃ a b c, Γ = [some d, some e, a, b, c]) ⟨rfl, fun j b hj => absurd hj (by omega), _, _, _, rfl⟩ ?_ ?_
  · rintro i Γ M2 x' hx' ⟨eM, ok, a, b, c, rfl⟩
    subst M2
    obtain ⟨r, hr', rfl⟩ := enum_get hx'
    refine ⟨by first | exact he | exact ⟨he⟩, ?_⟩
    have bad : ¬ RainOk ns.length r → finX x (EC .rain, .int ((0 + i : Nat) : Int)) M := fun z => by
      rw [Nat.zero_add]
      exact finX.of (ans.rain h0 h1 i ⟨⟨r, hr', z⟩, ok⟩)
    unfold rnD
    walk_at "xv"
    refine iteD (fun r1 => ?_) (fun r1 => ?_)
    · walk_at "xv"
      rw [List.length_map]
      refine iteN (fun r2 => ?_) (fun r2 => ?_)
      · walk_at "xv"
        exact bad fun z => r2 z.2.1
      walk_at "xv"
      refine ⟨0, r.2, rfl, Sm.zero, sx r (List.mem_of_getElem? hr'), ?_⟩
      walk_at "xv"
      refine iteN (fun r3 => ?_) (fun r3 => ?_)
      · walk_at "xv"
        exact bad fun z => r3 z.2.2
      walk_at "xv"
      refine ⟨by walk_at "tr", fun j b hj hb => ?_, _, _, _, rfl⟩
      rcases Nat.lt_succ_iff_lt_or_eq.mp hj with h2 | rfl
      · exact ok j b h2 hb
      · rw [hr'] at hb; cases hb; exact ⟨r1, r2, r3⟩
    · walk_at "xv"
      exact bad fun z => r1 z.1
  · rintro Γ M2 ⟨eM, ok, a, b, c, rfl⟩
    subst M2
    refine ⟨by walk_at "tr", fin.of (ans.good h0 h1 fun r hr' => ?_)⟩
    obtain ⟨i, hi, e'⟩ := List.mem_iff_getElem.mp hr'
    refine ok i r ?_ (by rw [List.getElem?_eq_getElem hi, e'])
    rw [enumD_length, List.length_map]; exact hi
end M
namespace M
open PySem L2
/-- a rain that there can't be -/
structure OddR (m : Nat) (r : Int × Rat) : Prop where
  bad : ¬ RainOk m r
  lo : -100 ≤ r.1
  hi : r.1 ≤ m + 100
  b : Bnd 100 7 r.2
theorem bnd_one : Bnd 100 7 1 := ⟨⟨7, by decide +kernel⟩, by decide +kernel, by decide +kernel⟩
theorem bnd_nought : Bnd 100 7 0 := ⟨⟨0, by decide +kernel⟩, by decide +kernel, by decide +kernel⟩
theorem atI_four {a b c d : D} {r : Int} (h0 : 0 ≤ r) (h3 : r < 4) : ∃ x, atI [a, b, c, d] r = some x ∧ (x = a ∨ x = b ∨ x = c ∨ x = d) := by
  obtain rfl | rfl | rfl | rfl : r = 0 ∨ r = 1 ∨ r = 2 ∨ r = 3 := by omega
  · exact ⟨a, rfl, .inl rfl⟩
  · exact ⟨b, rfl, .inr (.inl rfl)⟩
  · exact ⟨c, rfl, .inr (.inr (.inl rfl))⟩
  · exact ⟨d, rfl, .inr (.inr (.inr rfl))⟩
def oddRs (rs : List (Int × Rat)) (i : Nat) (o : Int × Rat) : List (Int × Rat) := rs.take i ++ [o] ++ rs.drop i ++ [(0, 1 / 2)]
def F_law_bad_rains : AF := fun ds M k _ => ∃ (t g : Addr) (b : Nat) (ns : List Int) (rs : List (Int × Rat)), ds = [.ref t, .lst (ns.map .int), .lst (rs.map rnD)] ∧ M t = some (deck g (b + 5)) ∧ ns.length ≤ 1000 ∧ rs.length ≤ 1000 ∧
  ∀ (i : Nat) (o : Int × Rat), i ≤ rs.length → OddR ns.length o → k (.tup [.lst ((oddRs rs i o).map rnD), .int i]) (up M t (deck g b))
/-- _law_bad_rains -/
def b_law_bad_rains : AS := (aSeq (aSet 3 (aCall noX F_law_take [] (aCons (aVar 0) (aCons (aOp (bAdd false) (aCB cLen (aCons (aVar 2) aNil)) (aC (.int 1))) aNil))))
  (aSeq (aSet 4 (aOp bIx (aLst false (aCons (aC (.int 0)) (aCons (aNeg (aC (.int 1))) (aCons (aOp (bAdd false) (aCB cLen (aCons (aVar 1) aNil)) (aC (.int 1))) (aCons (aOp (bAdd false) (aOp (bAdd false) (aCB cLen (aCons (aVar 1) aNil)) (aC (.int 1))) (aCall noX F_law_take [] (aCons (aVar 0) (aCons (aC (.int 99)) aNil)))) aNil))))) (aCall noX F_law_take [] (aCons (aVar 0) (aCons (aC (.int 4)) aNil)))))
  (aSeq (aSet 5 (aOp bIx (aLst false (aCons (aTup (aCons (aVar 4) (aCons (aTup (aCons (aC (.int 1)) (aCons (aC (.int 1)) aNil))) aNil))) (aCons (aTup (aCons (aC (.int 1)) (aCons (aTup (aCons (aC (.int 0)) (aCons (aC (.int 1)) aNil))) aNil))) (aCons (aTup (aCons (aC (.int 1)) (aCons (aCall noX F_law_low_v2 [] (aCons (aOp bSub (aNeg (aC (.int 1))) (aCall noX F_law_take [] (aCons (aVar 0) (aCons (aC (.int 99)) aNil)))) (aCons (aC (.int 7)) aNil))) aNil))) (aCons (aTup (aCons (aVar 4) (aCons (aTup (aCons (aC (.int 0)) (aCons (aC (.int 1)) aNil))) aNil))) aNil))))) (aCall noX F_law_take [] (aCons (aVar 0) (aCons (aC (.int 4)) aNil)))))
  (aRet (aTup (aCons (aOp (bAdd false) (aOp (bAdd false) (aOp (bAdd false) (aCut false (aVar 2) aNoPart (aPart (aVar 3))) (aLst false (aCons (aVar 5) aNil))) (aCut false (aVar 2) (aPart (aVar 3)) aNoPart)) (aLst false (aCons (aTup (aCons (aC (.int 0)) (aCons (aTup (aCons (aC (.int 1)) (aCons (aC (.int 2)) aNil))) aNil))) aNil))) (aCons (aVar 3) aNil)))))))
theorem len_law_bad_rains : ∀ ds M k x, F_law_bad_rains ds M k x → ds.length = 3 := by
  rintro ds M k x ⟨a, b, _, _, _, rfl, _⟩; rfl
theorem ok_law_bad_rains : ∀ ds M k x, F_law_bad_rains ds M k x → b_law_bad_rains { nx := fun _ M' => fin k .non M', rt := fin k } (startG 6 ds) M := by
  rintro ds M k _ ⟨t, g, b, ns, rs, rfl, hM, hl, hr, hk⟩
  walk_at "st"
  unfold b_law_bad_rains
  walk_at "ev"
  rw [List.length_map]
  refine ⟨t, g, b + 4, (rs.length : Int) + 1, rfl, hM, by omega, by omega, fun i i0 i1 => ?_⟩
  obtain ⟨i, rfl⟩ : ∃ j : Nat, i = (j : Int) := ⟨i.toNat, by omega⟩
  walk_at "ev"
  rw [List.length_map]
  refine ⟨t, g, b + 3, 99, rfl, up_same, by omega, by omega, fun z z0 z1 => ?_⟩
  walk_at "ev"
  refine ⟨t, g, b + 2, 4, rfl, by rw [up_up]; exact up_same, by omega, by omega, fun r r0 r1 => ?_⟩
  walk_at "ev"
  rw [up_up, up_up]
  obtain ⟨x, e, hx⟩ := atI_four (a := .int 0) (b := .int (-1)) (c := .int ((ns.length : Int) + 1)) (d := .int ((ns.length : Int) + 1 + z)) r0 r1
  refine iKIx ?_ e
  obtain ⟨tk, rfl, t1, t2, t3⟩ : ∃ tk : Int, x = .int tk ∧ ¬ (1 ≤ tk ∧ tk ≤ ns.length) ∧ -100 ≤ tk ∧ tk ≤ ns.length + 100 := by
    rcases hx with rfl | rfl | rfl | rfl
    · exact ⟨_, rfl, by omega, by omega, by omega⟩
    · exact ⟨_, rfl, by omega, by omega, by omega⟩
    · exact ⟨_, rfl, by omega, by omega, by omega⟩
    · exact ⟨_, rfl, by omega, by omega, by omega⟩
  walk_at "ev"
  refine ⟨t, g, b + 1, 99, rfl, up_same, by omega, by omega, fun q q0 q1 => ?_⟩
  walk_at "ev"
  rw [up_up]
  refine ⟨-1 - q, 7, rfl, by omega, lt_b89 (m := 8) (by decide) (by decide), ?_⟩
  walk_at "ev"
  refine ⟨t, g, b, 4, rfl, up_same, by omega, by omega, fun u u0 u1 => ?_⟩
  walk_at "ev"
  rw [up_up]
  obtain ⟨y, e2, hy⟩ := atI_four (a := .tup [.int tk, .tup [.int 1, .int 1]]) (b := .tup [.int 1, .tup [.int 0, .int 1]]) (c := .tup [.int 1, frD (mkRat (-1 - q) (7 : Int).toNat)]) (d := .tup [.int tk, .tup [.int 0, .int 1]]) u0 u1
  refine iKIx ?_ e2
  obtain ⟨o, rfl, ho⟩ : ∃ o : Int × Rat, y = rnD o ∧ OddR ns.length o := by
    rcases hy with rfl | rfl | rfl | rfl
    · exact ⟨(tk, 1), by unfold rnD frD; rfl, fun h => t1 ⟨h.1, h.2.1⟩, t2, t3, bnd_one⟩
    · exact ⟨(1, 0), by unfold rnD frD; rfl, fun h => absurd h.2.2 (by decide +kernel), by show (-100 : Int) ≤ 1; omega, by show (1 : Int) ≤ _; omega, bnd_nought⟩
    · have e7 : mkRat (-1 - q) (7 : Int).toNat = ((-1 - q : Int) : Rat) / 7 := by
        rw [Rat.mkRat_eq_div]; rfl
      refine ⟨(1, mkRat (-1 - q) (7 : Int).toNat), rfl, fun h => ?_, by show (-100 : Int) ≤ 1; omega, by show (1 : Int) ≤ _; omega, ?_⟩
      · have h3 : 0 < mkRat (-1 - q) (7 : Int).toNat := h.2.2
        rw [e7] at h3
        have h4 : ((-1 - q : Int) : Rat) < 0 := by
          have : (-1 - q : Int) < 0 := by omega
          exact Rat.intCast_lt_intCast.mpr this
        grind
      · have c0 : (0 : Rat) ≤ (q : Rat) := by
          have := Rat.intCast_le_intCast.mpr q0
          simpa using this
        have c1 : (q : Rat) < 99 := by
          have := Rat.intCast_lt_intCast.mpr q1
          simpa using this
        have c2 : ((-1 - q : Int) : Rat) = -1 - (q : Rat) := by rw [Rat.intCast_sub]; rfl
        rw [e7, c2]
        have c3 : ((7 : Nat) : Rat) = 7 := rfl
        have c4 : ((100 : Nat) : Rat) = 100 := rfl
        refine ⟨⟨-1 - q, ?_⟩, ?_, ?_⟩
        · rw [c2, c3]; grind
        · rw [c4]; grind
        · rw [c4]; grind
    · exact ⟨(tk, 0), by unfold rnD frD; rfl, fun h => t1 ⟨h.1, h.2.1⟩, t2, t3, bnd_nought⟩
  have eL : ([D.tup [.int 0, .tup [.int 1, .int 2]]] : List D) = [((0 : Int), (1 / 2 : Rat))].map rnD := by
    unfold rnD frD
    rw [List.map_cons, List.map_nil, show ((0 : Int), (1 / 2 : Rat)).2.num = 1 by decide +kernel, show ((0 : Int), (1 / 2 : Rat)).2.den = 2 by decide +kernel]
    rfl
  rw [cut_to, cut_from]
  rw [← List.map_take, ← List.map_drop]
  have l1 : (rs.take i).length ≤ 1000 := by rw [List.length_take]; omega
  have l2 : (rs.drop i).length ≤ 1000 := by rw [List.length_drop]; omega
  walk_at "ev"
  rw [eL, show [rnD o] = [o].map rnD from rfl, ← List.map_append, ← List.map_append, ← List.map_append]
  exact fin.of (hk i o (by omega) ho)
end M
namespace M
open PySem L2
/-- an order that is none -/
structure OddO (n : Nat) (os : List Int) : Prop where
  bad : ¬ os.Perm (rng 0 n)
  len : os.length ≤ n + 1
  lo : ∀ o ∈ os, -1 ≤ o
  hi : ∀ o ∈ os, o ≤ n + 7
def F_law_bad_row : AF := fun ds M k _ => ∃ (t g : Addr) (b : Nat) (os : List Int), ds = [.ref t, .lst (os.map .int)] ∧ M t = some (deck g (b + 2)) ∧ os.Perm (rng 0 os.length) ∧ os.length ≤ 1000 ∧ ∀ os' : List Int, OddO os.length os' → k (.lst (os'.map .int)) (up M t (deck g b))
/-- _law_bad_row -/
def b_law_bad_row : AS := (aSeq (aSet 2 (aCall noX F_law_take [] (aCons (aVar 0) (aCons (aOp (bAdd false) (aCB cLen (aCons (aVar 1) aNil)) (aC (.int 1))) aNil))))
  (aSeq (aSet 3 (aLst false (aCons (aOp (bAdd false) (aOp (bAdd false) (aCut false (aVar 1) aNoPart (aPart (aVar 2))) (aLst false (aCons (aOp (bAdd false) (aCB cLen (aCons (aVar 1) aNil)) (aC (.int 1))) aNil))) (aCut false (aVar 1) (aPart (aVar 2)) aNoPart)) (aCons (aOp (bAdd false) (aOp (bAdd false) (aVar 1) (aOp (bRepL false) (aLst false (aCons (aC (.int 0)) aNil)) (aCB cIntB (aCons (aOp (bEq true) (aVar 1) (aLst false aNil)) aNil)))) (aOp (bRepL false) (aLst false (aCons (aC (.int 7)) aNil)) (aCB cIntB (aCons (aOp (bEq false) (aVar 1) (aLst false aNil)) aNil)))) aNil))))
  (aSeq (aSet 3 (aOp (bAdd false) (aVar 3) (aLst false (aCons (aOp (bAdd false) (aOp (bAdd false) (aCut false (aVar 1) aNoPart (aPart (aVar 2))) (aLst false (aCons (aNeg (aC (.int 1))) aNil))) (aCut false (aVar 1) (aPart (aOp (bAdd false) (aVar 2) (aC (.int 1)))) aNoPart)) (aCons (aIf (aB (aOp (bEq true) (aVar 1) (aLst false aNil))) (aCut false (aVar 1) (aPart (aC (.int 1))) aNoPart) (aLst false (aCons (aC (.int 0)) aNil))) aNil)))))
  (aRet (aOp bIx (aVar 3) (aCall noX F_law_take [] (aCons (aVar 0) (aCons (aC (.int 4)) aNil))))))))
theorem OddO.of_len {n : Nat} {os : List Int} (h : os.length ≠ n) (l : os.length ≤ n + 1) (lo : ∀ o ∈ os, -1 ≤ o) (hi : ∀ o ∈ os, o ≤ n + 7) : OddO n os := ⟨fun p => h (by rw [p.length_eq, rng_length]), l, lo, hi⟩
theorem rng_mem {n : Nat} {o : Int} (h : o ∈ rng 0 n) : 0 ≤ o ∧ o < n := by
  unfold rng at h
  obtain ⟨j, hj, rfl⟩ := List.mem_map.mp h
  have := List.mem_range.mp hj
  omega
theorem iIntBb {b : Bool} {M : MH} {k : AK} (h : k (.int (if b = true then 1 else 0)) M) : cIntB [.bl b] M k := h
theorem len_law_bad_row : ∀ ds M k x, F_law_bad_row ds M k x → ds.length = 2 := by
  rintro ds M k x ⟨a, b, _, _, rfl, _⟩; rfl
theorem ok_law_bad_row : ∀ ds M k x, F_law_bad_row ds M k x → b_law_bad_row { nx := fun _ M' => fin k .non M', rt := fin k } (startG 4 ds) M := by
  rintro ds M k _ ⟨t, g, b, os, rfl, hM, hp, hl, hk⟩
  walk_at "st"
  unfold b_law_bad_row
  walk_at "ev"
  rw [List.length_map]
  refine ⟨t, g, b + 1, (os.length : Int) + 1, rfl, hM, by omega, by omega, fun i i0 i1 => ?_⟩
  obtain ⟨i, rfl⟩ : ∃ j : Nat, i = (j : Int) := ⟨i.toNat, by omega⟩
  walk_at "ev"
  rw [cut_to, cut_from, show ((i : Int) + 1) = ((i + 1 : Nat) : Int) by omega, cut_from, ← List.map_take, ← List.map_drop, ← List.map_drop]
  have l1 : (os.take i).length = i := by rw [List.length_take]; omega
  have l2 : (os.drop i).length = os.length - i := by rw [List.length_drop]
  have l3 : (os.drop (i + 1)).length = os.length - (i + 1) := by rw [List.length_drop]
  have el : ∀ o ∈ os, 0 ≤ o ∧ o < os.length := fun o ho => rng_mem (hp.mem_iff.mp ho)
  have o1 : OddO os.length (os.take i ++ [(os.length : Int) + 1] ++ os.drop i) := by
    refine OddO.of_len ?_ ?_ (fun o ho => ?_) fun o ho => ?_
    · rw [List.length_append, List.length_append, l1, l2, List.length_singleton]; omega
    · rw [List.length_append, List.length_append, l1, l2, List.length_singleton]; omega
    all_goals
      rcases List.mem_append.mp ho with h | h
      · rcases List.mem_append.mp h with h | h
        · have := el o (List.mem_of_mem_take h); omega
        · have := List.mem_singleton.mp h; omega
      · have := el o (List.mem_of_mem_drop h); omega
  have o3 : OddO os.length (os.take i ++ [-1] ++ os.drop (i + 1)) := by
    refine ⟨fun p => ?_, ?_, fun o ho => ?_, fun o ho => ?_⟩
    · have h : (-1 : Int) ∈ rng 0 os.length := p.mem_iff.mp (by simp)
      have := rng_mem h
      omega
    · rw [List.length_append, List.length_append, l1, l3, List.length_singleton]; omega
    all_goals
      rcases List.mem_append.mp ho with h | h
      · rcases List.mem_append.mp h with h | h
        · have := el o (List.mem_of_mem_take h); omega
        · have := List.mem_singleton.mp h; omega
      · have := el o (List.mem_of_mem_drop h); omega
  have fin4 : ∀ (p2 p4 : List Int), OddO os.length p2 → OddO os.length p4 → F_law_take [.ref t, .int 4] (up M t (deck g (b + 1))) (fun e M2 => bIx (.lst [.lst ((os.take i ++ [(os.length : Int) + 1] ++ os.drop i).map .int), .lst (p2.map .int), .lst ((os.take i ++ [-1] ++ os.drop (i + 1)).map .int), .lst (p4.map .int)]) e M2 (fin k)) noX := by
    intro p2 p4 o2 o4
    refine ⟨t, g, b, 4, rfl, up_same, by omega, by omega, fun r r0 r1 => ?_⟩
    walk_at "ev"
    rw [up_up]
    obtain ⟨x, e, hx⟩ := atI_four (a := .lst ((os.take i ++ [(os.length : Int) + 1] ++ os.drop i).map .int)) (b := .lst (p2.map .int)) (c := .lst ((os.take i ++ [-1] ++ os.drop (i + 1)).map .int)) (d := .lst (p4.map .int)) r0 r1
    refine iKIx ?_ e
    rcases hx with rfl | rfl | rfl | rfl
    · exact fin.of (hk _ o1)
    · exact fin.of (hk _ o2)
    · exact fin.of (hk _ o3)
    · exact fin.of (hk _ o4)
  walk_at "ev"
  by_cases hN : os = []
  · have e0 : os.length = 0 := by rw [hN]; rfl
    refine iEqE (neg := true) (t := tI os) (u := tI []) ?_ (by rw [hN]) RdT.ints (RdT.ints (ns := []))
    walk_at "ev"
    refine iIntBb ?_
    refine iRepL (n := 0) ?_ rfl (by decide) (by decide) (by decide)
    rw [show (List.replicate (0 : Int).toNat [D.int 0]).flatten = ([] : List D) from rfl]
    walk_at "ev"
    refine iEqE (neg := false) (t := tI os) (u := tI []) ?_ (by rw [hN]) RdT.ints (RdT.ints (ns := []))
    walk_at "ev"
    refine iIntBb ?_
    refine iRepL (n := 1) ?_ rfl (by decide) (by decide) (by decide)
    rw [show (List.replicate (1 : Int).toNat [D.int 7]).flatten = ([D.int 7] : List D) from rfl]
    walk_at "ev"
    refine iEqE (neg := true) (t := tI os) (u := tI []) ?_ (by rw [hN]) RdT.ints (RdT.ints (ns := []))
    walk_at "ev"
    have h := fin4 (os ++ [7]) [0] ?_ ?_
    · simpa only [List.map_append, List.map_cons, List.map_nil] using h
    · exact OddO.of_len (by rw [List.length_append, List.length_singleton]; omega) (by rw [List.length_append, List.length_singleton]; omega) (fun o ho => by
        rcases List.mem_append.mp ho with h | h
        · have := el o h; omega
        · have := List.mem_singleton.mp h; omega) fun o ho => by
        rcases List.mem_append.mp ho with h | h
        · have := el o h; omega
        · have := List.mem_singleton.mp h; omega
    · exact OddO.of_len (by rw [e0]; decide) (by rw [e0]; decide) (fun o ho => by have := List.mem_singleton.mp ho; omega) fun o ho => by have := List.mem_singleton.mp ho; omega
  · have e0 : 1 ≤ os.length := List.length_pos_iff.mpr hN
    refine iEqN (neg := true) (t := tI os) (u := tI []) ?_ (fun z => hN (by unfold tI at z; exact List.map_eq_nil_iff.mp (T.lst.inj z))) RdT.ints (RdT.ints (ns := []))
    walk_at "ev"
    refine iIntBb ?_
    refine iRepL (n := 1) ?_ rfl (by decide) (by decide) (by decide)
    rw [show (List.replicate (1 : Int).toNat [D.int 0]).flatten = ([D.int 0] : List D) from rfl]
    walk_at "ev"
    refine iEqN (neg := false) (t := tI os) (u := tI []) ?_ (fun z => hN (by unfold tI at z; exact List.map_eq_nil_iff.mp (T.lst.inj z))) RdT.ints (RdT.ints (ns := []))
    walk_at "ev"
    refine iIntBb ?_
    refine iRepL (n := 0) ?_ rfl (by decide) (by decide) (by decide)
    rw [show (List.replicate (0 : Int).toNat [D.int 7]).flatten = ([] : List D) from rfl]
    walk_at "ev"
    refine iEqN (neg := true) (t := tI os) (u := tI []) ?_ (fun z => hN (by unfold tI at z; exact List.map_eq_nil_iff.mp (T.lst.inj z))) RdT.ints (RdT.ints (ns := []))
    walk_at "ev"
    have c1 : cutD (os.map D.int) (some 1) none = (os.drop 1).map .int := by
      rw [List.map_drop]
      exact @cut_from _ (os.map D.int) 1
    rw [c1]
    have h := fin4 (os ++ [0]) (os.drop 1) ?_ ?_
    · simpa only [List.map_append, List.map_cons, List.map_nil] using h
    · exact OddO.of_len (by rw [List.length_append, List.length_singleton]; omega) (by rw [List.length_append, List.length_singleton]; omega) (fun o ho => by
        rcases List.mem_append.mp ho with h | h
        · have := el o h; omega
        · have := List.mem_singleton.mp h; omega) fun o ho => by
        rcases List.mem_append.mp ho with h | h
        · have := el o h; omega
        · have := List.mem_singleton.mp h; omega
    · exact OddO.of_len (by rw [List.length_drop]; omega) (by rw [List.length_drop]; omega) (fun o ho => by have := el o (List.mem_of_mem_drop ho); omega) fun o ho => by have := el o (List.mem_of_mem_drop ho); omega
end M
namespace M
open PySem L2
def psR (xs : List Rat) : List Rat := (List.range (xs.length + 1)).map fun i => (xs.take i).sum
theorem psR_get {ns : List Rat} {i : Nat} (h : i ≤ ns.length) : (psR ns)[i]? = some (ns.take i).sum := by
  unfold psR
  rw [List.getElem?_map, List.getElem?_range (by omega)]; rfl
theorem psR_len {ns : List Rat} : (psR ns).length = ns.length + 1 := by unfold psR; rw [List.length_map, List.length_range]
theorem psR_take_succ {ns : List Rat} {i : Nat} {n : Rat} (h : ns[i]? = some n) : (psR ns).take (i + 2) = (psR ns).take (i + 1) ++ [(ns.take i).sum + n] := by
  have hi : i < ns.length := (List.getElem?_eq_some_iff.mp h).1
  rw [take_succ (psR_get (i := i + 1) (by omega)), take_succ h, sum_snoc]
theorem psR_last {ns : List Rat} {i : Nat} (h : i ≤ ns.length) : atI (((psR ns).take (i + 1)).map frD) (-1) = some (frD (ns.take i).sum) := by
  rw [take_succ (psR_get h), List.map_append]
  exact L2.atI_last _ _
theorem psR_one {ns : List Rat} : (psR ns).take 1 = [0] := by rw [take_succ (psR_get (Nat.zero_le _)), List.take_zero, List.take_zero]; rfl
theorem psR_end {ns : List Rat} : (psR ns).take (ns.length + 1) = psR ns := by
  rw [List.take_of_length_le (by rw [psR_len]; omega)]
def F_heaped_up : AF := fun ds M k _ => ∃ (d : D) (xs : List Rat), ds = [d] ∧ rdS M d = some (xs.map frD) ∧ xs.length < 1000000 ∧ SmS xs ∧ ∀ p, M p = none → k (.ref p) (up M p (.obj (.lst ((psR xs).map frD))))
/-- heaped_up -/
def b_heaped_up : AS := (aSeq (aSet 1 (aLst true (aCons (aC (.tup [(.int 0), (.int 1)])) aNil)))
  (aSeq (aFor (wLst (aVar 0)) (gNm 2)
  (aDrop (aMt mAppend (aVar 1) (aCons (aCall noX F_add [] (aCons (aOp bIx (aVar 1) (aNeg (aC (.int 1)))) (aCons (aVar 2) aNil))) aNil))))
  (aRet (aVar 1))))
theorem len_heaped_up : ∀ ds M k x, F_heaped_up ds M k x → ds.length = 1 := by
  rintro ds M k x ⟨a, b, rfl, _⟩; rfl
theorem ok_heaped_up : ∀ ds M k x, F_heaped_up ds M k x → b_heaped_up { nx := fun _ M' => fin k .non M', rt := fin k } (startG 3 ds) M := by
  rintro ds M k _ ⟨d, xs, rfl, hd, hn, h1, hk⟩
  walk_at "st"
  unfold b_heaped_up
  walk_at "ev"
  intro p hp
  walk_at "ev"
  refine iWLG ?_ (rdS_new hd hp)
  refine for_go (fun i Γ M' => i ≤ xs.length ∧ M' = up M p (.obj (.lst (((psR xs).take (i + 1)).map frD))) ∧ ∃ a, Γ = [some d, some (.ref p), a]) ⟨Nat.zero_le _, by rw [psR_one]; rfl, _, rfl⟩ ?_ ?_
  · rintro i Γ _ x hx ⟨hi, rfl, a, rfl⟩
    obtain ⟨n, hn', rfl⟩ := map_get hx
    have hl : i < xs.length := (List.getElem?_eq_some_iff.mp hn').1
    refine ⟨rdS_new hd hp, ?_⟩
    have := psR_last (ns := xs) hi
    have hs : (((psR xs).take (i + 1)).map frD).length < sizeLine := by
      rw [List.length_map, List.length_take, sizeLine_eq]; omega
    walk_at "ev"
    refine ⟨_, n, rfl, h1.2 i, h1.1 n (List.mem_of_getElem? hn'), ?_⟩
    walk_at "ev"
    refine ⟨hl, ?_, _, rfl⟩
    rw [up_up, psR_take_succ hn', List.map_append]; rfl
  · rintro Γ _ ⟨hi, rfl, a, rfl⟩
    refine ⟨rdS_new hd hp, ?_⟩
    walk_at "ev"
    rw [List.length_map, psR_end]
    exact fin.of (hk p hp)
end M
namespace M
open PySem L2
def F_settled : AF := fun ds M k _ => ∃ (d e b : D) (ns : List Int) (xs : List Rat) (bs : List Int) (V Dn L : Nat), ds = [d, e, b] ∧ rdS M d = some (ns.map .int) ∧ rdS M e = some (xs.map frD) ∧ rdT M b = some (bs.map .int) ∧ RowOk ns ∧ ns.length = xs.length ∧
  Flaps ns.length bs ∧ Lcm ns L ∧ Rm V (Dn * L) ∧ Rm V Dn ∧ WOk V Dn xs ∧ ∀ p, M p = none → k (.ref p) (up M p (.obj (.lst ((settle ns xs bs).map frD))))
/-- settled -/
def b_settled : AS := (aSeq (aDrop (aCall noX F_need_floors [] (aCons (aVar 0) aNil)))
  (aSeq (aDrop (aCall noX F_need_water [] (aCons (aVar 0) (aCons (aVar 1) aNil))))
  (aSeq (aDrop (aCall noX F_need_flaps [] (aCons (aVar 0) (aCons (aVar 2) aNil))))
  (aSeq (aSet 3 (aLst true aNil))
  (aSeq (aFor (wLst (aCall noX F_stretches [] (aCons (aVar 0) (aCons (aVar 2) aNil)))) (gTu 2 (gCo (gNm 4) (gCo (gNm 5) gNi)))
  (aAug 3 (aCall noX F_rest_of [] (aCons (aCut false (aVar 0) (aPart (aVar 4)) (aPart (aVar 5))) (aCons (aCut false (aVar 1) (aPart (aVar 4)) (aPart (aVar 5))) aNil)))))
  (aRet (aVar 3)))))))
theorem len_settled : ∀ ds M k x, F_settled ds M k x → ds.length = 3 := by
  rintro ds M k x ⟨a, b, c, _, _, _, _, _, _, rfl, _⟩; rfl
theorem rdT_new {M : MH} {d : D} {ds : List D} {a : Addr} {o : MO} (h : rdT M d = some ds) (n : M a = none) : rdT (up M a o) d = some ds := by
  rcases rdT_cases h with ⟨rfl, rfl⟩ | h
  · rfl
  · exact rdT_of (rdS_new h n)
theorem strD_get {n : Nat} {bs : List Int} {i : Nat} {x : D} (h : (strD n bs)[i]? = some x) : ∃ a b : Int, (cutsOf n bs)[i]? = some a ∧ (cutsOf n bs)[i + 1]? = some b ∧ x = .tup [.int a, .int b] := by
  unfold strD at h
  obtain ⟨a, b, h1, h2, rfl⟩ := zip_get h
  rw [List.getElem?_drop, Nat.add_comm] at h2
  exact ⟨a, b, h1, h2, rfl⟩
theorem strD_len {n : Nat} {bs : List Int} : (strD n bs).length = bs.length + 1 := by
  unfold strD
  have : ∀ (xs ys : List D), (zipD xs ys).length = min xs.length ys.length := by
    intro xs
    induction xs with
    | nil => intro ys; simp [zipD]
    | cons x xs ih =>
      intro ys
      cases ys with
      | nil => simp [zipD]
      | cons y ys => show (zipD xs ys).length + 1 = _; rw [ih]; simp only [List.length_cons]; omega
  rw [this, List.length_map, List.length_map, List.length_drop]
  unfold cutsOf
  simp only [List.length_cons, List.length_append, List.length_nil]
  omega
theorem cuts_last {n : Nat} {bs : List Int} : (cutsOf n bs)[bs.length + 1]? = some (n : Int) := by
  unfold cutsOf
  rw [List.getElem?_cons_succ, List.getElem?_append_right (Nat.le_refl _), Nat.sub_self]; rfl
theorem ok_settled : ∀ ds M k x, F_settled ds M k x → b_settled { nx := fun _ M' => fin k .non M', rt := fin k } (startG 6 ds) M := by
  rintro ds M k _ ⟨d, e, b, ns, xs, bs, V, Dn, L, rfl, hd, he, hb, hr, hl, hf, hL, hR, hR0, hw, hk⟩
  walk_at "st"
  unfold b_settled
  walk_at "ev"
  refine ⟨d, ns, rfl, hd, hr.ne, hr.w, ?_⟩
  walk_at "ev"
  refine ⟨d, e, ns, xs, rfl, hd, he, hl, fun x hx => ⟨hw.nn x hx, hw.sm hR0 hx⟩, ?_⟩
  walk_at "ev"
  refine ⟨d, b, _, bs, rfl, hd, hb, by rw [List.length_map]; exact hf, ?_⟩
  walk_at "ev"
  intro p hp0
  walk_at "ev"
  have hbl : bs.length ≤ 1000 := Nat.le_trans hf.length hr.l
  refine ⟨d, b, _, bs, rfl, rdS_new hd hp0, rdT_new hb hp0, by omega, fun bs' h1 h2 => ?_⟩
  rw [List.length_map]
  have hbl2 := h1.length_eq
  have pw := cuts_pw hf hr.len h1 h2
  have hc0 : (cutsOf ns.length bs')[0]? = some 0 := rfl
  walk_at "ev"
  have hst := hr.strict
  refine for_go (fun i Γ M' => ∃ (a : Nat) (ys : List Rat), (cutsOf ns.length bs')[i]? = some (a : Int) ∧ a ≤ ns.length ∧ ys.length = a ∧ Rest a (pl ns) (hp xs) (hp ys) (cutB ns.length bs) ∧ (∀ y ∈ ys, 0 ≤ y ∧ DenD (Dn * L) y) ∧ M' = up M p (.obj (.lst (ys.map frD))) ∧ ∃ x4 x5, Γ = [some d, some e, some b, some (.ref p), x4, x5])
    ⟨0, [], hc0, Nat.zero_le _, rfl, Rest.none rfl, by simp, rfl, _, _, rfl⟩ ?_ ?_
  · rintro i Γ _ x hx ⟨a, ys, ha, han, hya, hrest, hy, rfl, x4, x5, rfl⟩
    obtain ⟨a', b', e1, e2, rfl⟩ := strD_get hx
    rw [ha] at e1
    cases e1
    have hab : (a : Int) < b' := by
      obtain ⟨l1, g1⟩ := List.getElem?_eq_some_iff.mp ha
      obtain ⟨l2, g2⟩ := List.getElem?_eq_some_iff.mp e2
      have := List.pairwise_iff_getElem.mp pw i (i + 1) l1 l2 (Nat.lt_succ_self _)
      rwa [g1, g2] at this
    obtain ⟨c, rfl⟩ : ∃ c : Nat, b' = (c : Int) := ⟨b'.toNat, by omega⟩
    have hac : a < c := by omega
    have hBa : cutB ns.length bs a := (cuts_mem h1 a).mp (List.mem_of_getElem? ha)
    have hBc : cutB ns.length bs c := (cuts_mem h1 c).mp (List.mem_of_getElem? e2)
    have hcn : c ≤ ns.length := by
      rcases hBc with h | h | h
      · omega
      · omega
      · have := hf.hi _ h; omega
    have hno : ∀ j, a < j → j < c → ¬ cutB ns.length bs j := fun j j1 j2 hj => pw_between pw ha e2 (by omega) (by omega) ((cuts_mem h1 j).mpr hj)
    have hdd : ∀ {l : List D}, rdS (up M p (.obj (.lst l))) d = some (ns.map .int) := fun {l} => rdS_new hd hp0
    have hee : ∀ {l : List D}, rdS (up M p (.obj (.lst l))) e = some (xs.map frD) := fun {l} => rdS_new he hp0
    refine ⟨trivial, ?_⟩
    have hd1 := hdd (l := ys.map frD)
    have he1 := hee (l := ys.map frD)
    walk_at "ev"
    rw [cut_fromto (by rw [List.length_map]; exact hcn) (by omega), ← List.map_drop, ← List.map_take]
    walk_at "ev"
    rw [cut_fromto (by rw [List.length_map]; omega) (by omega), ← List.map_drop, ← List.map_take]
    walk_at "ev"
    have pl1 : ((ns.drop a).take (c - a)).length = c - a := by rw [List.length_take, List.length_drop]; omega
    have pl2 : ((xs.drop a).take (c - a)).length = c - a := by rw [List.length_take, List.length_drop]; omega
    have pw1 : ∀ n ∈ (ns.drop a).take (c - a), 1 ≤ n := fun n hn => hr.w n (List.mem_of_mem_drop (List.mem_of_mem_take hn))
    have psum : ((ns.drop a).take (c - a)).sum < 1152921504606846976 := by
      have e0 : (ns.take a).sum + (ns.drop a).sum = ns.sum := by rw [← sum_appendI, List.take_append_drop]
      have e1 : ((ns.drop a).take (c - a)).sum + ((ns.drop a).drop (c - a)).sum = (ns.drop a).sum := by rw [← sum_appendI, List.take_append_drop]
      have g1 : 0 ≤ (ns.take a).sum := sum_nonnegI fun x hx => by have := hr.w x (List.mem_of_mem_take hx); omega
      have g2 : 0 ≤ ((ns.drop a).drop (c - a)).sum := sum_nonnegI fun x hx => by have := hr.w x (List.mem_of_mem_drop (List.mem_of_mem_drop hx)); omega
      have := hr.s
      omega
    have hwp := hw.part a (c - a)
    generalize hns' : (ns.drop a).take (c - a) = ns' at pl1 pw1 psum
    generalize hxs' : (xs.drop a).take (c - a) = xs' at pl2 hwp
    have hl' : ns'.length = xs'.length := by omega
    have htl : (tanks ns' xs').length = ns'.length := by unfold tanks; rw [List.length_zip]; omega
    refine ⟨_, _, tanks ns' xs', V, Dn, rfl, ?_, ?_, hR0, hwp.tk hl' pw1 psum, by have := hr.l; omega, fun segs hs => ?_⟩
    · show some (ns'.map D.int) = some ((tanks ns' xs').map fun q => D.int q.1)
      have := tanks_fst hl'
      conv => lhs; rw [← this, List.map_map]
      rfl
    · show some (xs'.map frD) = some ((tanks ns' xs').map fun q => frD q.2)
      have := tanks_snd hl'
      conv => lhs; rw [← this, List.map_map]
      rfl
    have hLp : ∀ w : Int, 1 ≤ w → w ≤ ns'.sum → w.toNat ∣ L := by rw [← hns']; exact Lcm.part hL.2 hr.w
    rw [htl] at hs
    obtain ⟨zl, zw⟩ := restL_ok hwp hl' pw1 hLp hs
    have zr := rest_stk hs (fun q hq => pw1 _ (List.of_mem_zip hq).1) (by omega)
    refine iAgL ?_ up_same rfl (by rw [List.length_map, List.length_map, sizeLine_eq]; have := hr.l; omega)
    rw [up_up, ← List.map_append]
    generalize restL (tanks ns' xs') segs = zs at zl zw zr
    have zl2 : zs.length = c - a := by omega
    refine ⟨c, ys ++ zs, e2, hcn, by rw [List.length_append]; omega, ?_, ?_, rfl, _, _, rfl⟩
    · exact rest_part hst hcn hac hBa hno hya hrest hl' hns' hxs' pl1 zr
    · intro y hy'
      rcases List.mem_append.mp hy' with h | h
      · exact hy y h
      · exact ⟨zw.nn y h, zw.d y h⟩
  · rintro Γ _ ⟨a, ys, ha, han, hya, hrest, hy, rfl, x4, x5, rfl⟩
    rw [strD_len, cuts_last] at ha
    have ha := Option.some.inj ha
    have ha : a = ns.length := by omega
    subst ha
    refine ⟨trivial, ?_⟩
    walk_at "ev"
    have := hk p hp0
    rw [settle_eq hr hya hrest] at this
    exact fin.of this
end M
namespace M
open PySem L2
def F_with_rain : AF := fun ds M k _ => ∃ (d : D) (ws : List Rat) (r : Int × Rat), ds = [d, rnD r] ∧ rdS M d = some (ws.map frD) ∧ ws.length ≤ 1000 ∧ 1 ≤ r.1 ∧ r.1 ≤ ws.length ∧ (∀ w ∈ ws, Sm w) ∧ Sm r.2 ∧ k (.lst ((putR ws (oneR ws.length r.1 r.2)).map frD)) M
/-- with_rain -/
def b_with_rain : AS := (aSeq (aSet 2 (aCB (cList true) (aCons (aVar 0) aNil)))
  (aSeq (aAsg (aCall noX F_add [] (aCons (aOp bIx (aVar 2) (aOp bSub (aOp bIx (aVar 1) (aC (.int 0))) (aC (.int 1)))) (aCons (aOp bIx (aVar 1) (aC (.int 1))) aNil))) (gIx (aVar 2) (aOp bSub (aOp bIx (aVar 1) (aC (.int 0))) (aC (.int 1)))))
  (aRet (aFrz (aVar 2)))))
theorem len_with_rain : ∀ ds M k x, F_with_rain ds M k x → ds.length = 2 := by
  rintro ds M k x ⟨a, b, _, rfl, _⟩; rfl
theorem ok_with_rain : ∀ ds M k x, F_with_rain ds M k x → b_with_rain { nx := fun _ M' => fin k .non M', rt := fin k } (startG 3 ds) M := by
  rintro ds M k _ ⟨d, ws, ⟨t, x⟩, rfl, hd, hl, t0, t1, hw, hx, hk⟩
  dsimp only at t0 t1 hx hk
  unfold rnD
  walk_at "st"
  unfold b_with_rain
  walk_at "ev"
  intro p hp
  have lt : (t - 1).toNat < ws.length := by omega
  have e1 := List.getElem?_eq_getElem lt
  have aw : atI (ws.map frD) (t - 1) = some (frD ws[(t - 1).toNat]) := by
    have := atI_nat (xs := ws.map frD) (j := (t - 1).toNat) (v := frD ws[(t - 1).toNat]) (by rw [List.getElem?_map, e1]; rfl)
    rwa [show (((t - 1).toNat : Nat) : Int) = t - 1 by omega] at this
  have hp0 : up M p (.obj (.lst (ws.map frD))) p = some (.obj (.lst (ws.map frD))) := up_same
  walk_at "ev"
  refine ⟨_, x, rfl, hw _ (List.mem_of_getElem? e1), hx, ?_⟩
  refine iStIx (n := (t - 1).toNat) ?_ hp0 (by
    rw [List.length_map]
    unfold L2.ixN
    rw [if_pos (by omega), if_pos (by omega)]) 
  rw [up_up, show (ws.map frD).set (t - 1).toNat (frD (ws[(t - 1).toNat] + x)) = (ws.set (t - 1).toNat (ws[(t - 1).toNat] + x)).map frD from (List.map_set).symm, set_one t0 e1]
  have hp1 : up M p (.obj (.lst ((putR ws (oneR ws.length t x)).map frD))) p = some (.obj (.lst ((putR ws (oneR ws.length t x)).map frD))) := up_same
  walk_at "ev"
  rw [dl_up hp]
  exact fin.of hk
end M
namespace M
open PySem L2
def F_fallen : AF := fun ds M k _ => ∃ (d e : D) (ns : List Int) (rs : List (Int × Rat)) (B D0 : Nat), ds = [d, e] ∧ rdS M d = some (ns.map .int) ∧ rdS M e = some (rs.map rnD) ∧ RowOk ns ∧ ns.sum ≤ 72 ∧ rs.length ≤ 15 ∧ HRm B D0 ∧ (∀ r ∈ rs, RnOk ns.length B D0 r) ∧ k (.lst ((fallR ns rs).map frD)) M
/-- fallen -/
def b_fallen : AS := (aSeq (aSet 2 (aLc false (wLst (aVar 0)) (gNm 4) aYes (aC (.tup [(.int 0), (.int 1)])) [4]))
  (aSeq (aFor (wLst (aVar 1)) (gNm 3)
  (aSet 2 (aFrz (aCall noX F_settled [(.tup [])] (aCons (aVar 0) (aCons (aCall noX F_with_rain [] (aCons (aVar 2) (aCons (aVar 3) aNil))) aNil))))))
  (aRet (aVar 2))))
theorem len_fallen : ∀ ds M k x, F_fallen ds M k x → ds.length = 2 := by
  rintro ds M k x ⟨a, b, _, _, _, _, rfl, _⟩; rfl
theorem ok_fallen : ∀ ds M k x, F_fallen ds M k x → b_fallen { nx := fun _ M' => fin k .non M', rt := fin k } (startG 5 ds) M := by
  rintro ds M k _ ⟨d, e, ns, rs, B, D0, rfl, hd, he, hr, hs, hl, hB, hrn, hk⟩
  have hlc : Lcm ns L72 := Lcm.l72 hs
  walk_at "st"
  unfold b_fallen
  walk_at "ev"
  refine lc_st (fun i acc M' => acc = List.replicate i (frD 0) ∧ M' = M) (by rw [List.length_map]; have := hr.l; omega) ?_ ?_ ⟨rfl, rfl⟩
  · rintro i x acc M' hx ha ⟨rfl, eM⟩
    subst M'
    obtain ⟨n, hn', rfl⟩ := map_get hx
    refine ⟨hd, fun kd hkd => ?_⟩
    simp only [wipeG]
    walk_at "ev"
    refine hkd _ _ ⟨?_, rfl⟩
    rw [List.replicate_succ']; rfl
  rintro acc M' ha ⟨rfl, eM⟩
  subst M'
  refine ⟨hd, ?_⟩
  rw [List.length_map, show List.replicate ns.length (frD 0) = (List.replicate ns.length (0 : Rat)).map frD by rw [List.map_replicate]]
  walk_at "ev"
  refine for_go (fun i Γ M' => i ≤ rs.length ∧ M' = M ∧ ∃ a b, Γ = [some d, some e, some (.lst ((fallR ns (rs.take i)).map frD)), a, b]) ⟨Nat.zero_le _, rfl, _, _, rfl⟩ ?_ ?_
  · rintro i Γ M2 x hx ⟨hi, eM, a, b, rfl⟩
    subst M2
    obtain ⟨r, hr', rfl⟩ := map_get hx
    have hi : i < rs.length := (List.getElem?_eq_some_iff.mp hr').1
    have ho := hrn r (List.mem_of_getElem? hr')
    obtain ⟨l, w⟩ := fallR_ok hr hlc (rs := rs.take i) fun r hm => hrn r (List.mem_of_mem_take hm)
    have lt : (rs.take i).length = i := by rw [List.length_take]; omega
    rw [lt] at w
    have hl1 : (fallR ns (rs.take i)).length = (oneR ns.length r.1 r.2).length := by rw [oneR_len, l]
    have pw := w.put (ho.wok.den (L := L72 ^ i)) hl1
    rw [← Nat.mul_succ] at pw
    refine ⟨he, ?_⟩
    walk_at "ev"
    have R0 := hB.rm (i := i) (by omega)
    have R1 := hB.rm (i := i + 1) (by omega)
    have R2 : Rm (B * (i + 1)) (D0 * L72 ^ i * L72) := ⟨by rw [Nat.mul_assoc, ← Nat.pow_succ]; exact R1.d0, by rw [Nat.mul_assoc, ← Nat.pow_succ]; exact R1.d, R0.v⟩
    have w1 := w.mono (W := B * (i + 1)) (Nat.mul_le_mul_left _ (by omega))
    have sx : Sm r.2 := by
      have := (hB.rm (i := 0) (by omega)).sm (x := r.2) (by rw [Nat.pow_zero, Nat.mul_one]; exact ho.den) ho.nn (by rw [Nat.zero_add, Nat.mul_one]; exact ho.le)
      exact this
    refine ⟨_, _, r, rfl, rfl, by rw [l]; exact hr.l, ho.lo, by rw [l]; exact ho.hi, fun y hy => w1.sm R0 hy, sx, ?_⟩
    rw [l]
    refine ⟨d, _, _, ns, _, [], B * (i + 1), D0 * L72 ^ i, L72, rfl, hd, rfl, rfl, hr, by rw [putR_len hl1, l], Flaps.nil_, hlc, R2, R0, pw, fun p hp => ?_⟩
    have hp1 : up M p (.obj (.lst ((settle ns (putR (fallR ns (rs.take i)) (oneR ns.length r.1 r.2)) []).map frD))) p = some (.obj (.lst ((settle ns (putR (fallR ns (rs.take i)) (oneR ns.length r.1 r.2)) []).map frD))) := up_same
    walk_at "ev"
    rw [dl_up hp]
    refine ⟨hi, rfl, some (rnD r), b, ?_⟩
    rw [take_succ hr', fallR_snoc]
  · rintro Γ M2 ⟨hi, eM, a, b, rfl⟩
    subst M2
    refine ⟨he, ?_⟩
    rw [List.length_map, List.take_length]
    walk_at "ev"
    exact fin.of hk
end M
namespace M
open PySem L2
/-- all rains together -/
def rainsR (n : Nat) (rs : List (Int × Rat)) : List Rat := rs.foldl (fun w r => putR w (oneR n r.1 r.2)) (List.replicate n 0)
theorem rainsR_snoc {n : Nat} {rs : List (Int × Rat)} {r : Int × Rat} : rainsR n (rs ++ [r]) = putR (rainsR n rs) (oneR n r.1 r.2) := by
  unfold rainsR
  rw [List.foldl_append]; rfl
theorem rainsR_ok {n B D0 : Nat} : ∀ {rs : List (Int × Rat)}, (∀ r ∈ rs, RnOk n B D0 r) → (rainsR n rs).length = n ∧ WOk (B * rs.length) D0 (rainsR n rs) := by
  intro rs
  refine snoc_ind (P := fun rs => (∀ r ∈ rs, RnOk n B D0 r) → (rainsR n rs).length = n ∧ WOk (B * rs.length) D0 (rainsR n rs)) rs ?_ ?_
  · intro _
    exact ⟨List.length_replicate, by
      show WOk (B * 0) _ _
      rw [Nat.mul_zero]; exact wok_zero⟩
  · intro rs r ih h
    obtain ⟨l, w⟩ := ih fun r hr => h r (List.mem_append_left _ hr)
    have g := (h r (List.mem_append_right _ (List.mem_singleton.mpr rfl))).wok
    have hl : (rainsR n rs).length = (oneR n r.1 r.2).length := by rw [oneR_len, l]
    rw [rainsR_snoc]
    refine ⟨by rw [putR_len hl, l], ?_⟩
    rw [List.length_append, List.length_singleton, Nat.mul_succ]
    exact w.put g hl
def F_at_once : AF := fun ds M k _ => ∃ (d e : D) (ns : List Int) (rs : List (Int × Rat)) (B D0 : Nat), ds = [d, e] ∧ rdS M d = some (ns.map .int) ∧ rdS M e = some (rs.map rnD) ∧ RowOk ns ∧ ns.sum ≤ 72 ∧ rs.length ≤ 15 ∧ HRm B D0 ∧ (∀ r ∈ rs, RnOk ns.length B D0 r) ∧ k (.lst ((settle ns (rainsR ns.length rs) []).map frD)) M
/-- at_once -/
def b_at_once : AS := (aSeq (aSet 2 (aLc false (wLst (aVar 0)) (gNm 4) aYes (aC (.tup [(.int 0), (.int 1)])) [4]))
  (aSeq (aFor (wLst (aVar 1)) (gNm 3)
  (aSet 2 (aCall noX F_with_rain [] (aCons (aVar 2) (aCons (aVar 3) aNil)))))
  (aRet (aFrz (aCall noX F_settled [(.tup [])] (aCons (aVar 0) (aCons (aVar 2) aNil)))))))
theorem len_at_once : ∀ ds M k x, F_at_once ds M k x → ds.length = 2 := by
  rintro ds M k x ⟨a, b, _, _, _, _, rfl, _⟩; rfl
theorem ok_at_once : ∀ ds M k x, F_at_once ds M k x → b_at_once { nx := fun _ M' => fin k .non M', rt := fin k } (startG 5 ds) M := by
  rintro ds M k _ ⟨d, e, ns, rs, B, D0, rfl, hd, he, hr, hs, hl, hB, hrn, hk⟩
  have hlc : Lcm ns L72 := Lcm.l72 hs
  have Rg : ∀ i, i ≤ 15 → Rm (B * (i + 1)) D0 ∧ Rm (B * (i + 1)) (D0 * L72) := fun i hi => by
    have R0 := hB.rm (i := i) (by omega)
    have Z := hB.rm (i := 0) (by omega)
    have Y := hB.rm (i := 1) (by omega)
    simp only [Nat.pow_zero, Nat.mul_one] at Z
    rw [Nat.pow_one] at Y
    exact ⟨⟨Z.d0, Z.d, R0.v⟩, ⟨Y.d0, Y.d, R0.v⟩⟩
  walk_at "st"
  unfold b_at_once
  walk_at "ev"
  refine lc_st (fun i acc M' => acc = List.replicate i (frD 0) ∧ M' = M) (by rw [List.length_map]; have := hr.l; omega) ?_ ?_ ⟨rfl, rfl⟩
  · rintro i x acc M' hx ha ⟨rfl, eM⟩
    subst M'
    obtain ⟨n, hn', rfl⟩ := map_get hx
    refine ⟨hd, fun kd hkd => ?_⟩
    simp only [wipeG]
    walk_at "ev"
    refine hkd _ _ ⟨?_, rfl⟩
    rw [List.replicate_succ']; rfl
  rintro acc M' ha ⟨rfl, eM⟩
  subst M'
  refine ⟨hd, ?_⟩
  rw [List.length_map, show List.replicate ns.length (frD 0) = (List.replicate ns.length (0 : Rat)).map frD by rw [List.map_replicate]]
  walk_at "ev"
  refine for_go (fun i Γ M' => i ≤ rs.length ∧ M' = M ∧ ∃ a b, Γ = [some d, some e, some (.lst ((rainsR ns.length (rs.take i)).map frD)), a, b]) ⟨Nat.zero_le _, rfl, _, _, rfl⟩ ?_ ?_
  · rintro i Γ M2 x hx ⟨hi, eM, a, b, rfl⟩
    subst M2
    obtain ⟨r, hr', rfl⟩ := map_get hx
    have hi : i < rs.length := (List.getElem?_eq_some_iff.mp hr').1
    have ho := hrn r (List.mem_of_getElem? hr')
    obtain ⟨l, w⟩ := rainsR_ok (n := ns.length) (rs := rs.take i) fun r hm => hrn r (List.mem_of_mem_take hm)
    have lt : (rs.take i).length = i := by rw [List.length_take]; omega
    rw [lt] at w
    refine ⟨he, ?_⟩
    walk_at "ev"
    have w1 := w.mono (W := B * (i + 1)) (Nat.mul_le_mul_left _ (by omega))
    have sx : Sm r.2 := (Rg 0 (by omega)).1.sm (x := r.2) ho.den ho.nn (by rw [Nat.zero_add, Nat.mul_one]; exact ho.le)
    refine ⟨_, _, r, rfl, rfl, by rw [l]; exact hr.l, ho.lo, by rw [l]; exact ho.hi, fun y hy => w1.sm (Rg i (by omega)).1 hy, sx, ?_⟩
    rw [l]
    refine ⟨hi, rfl, some (rnD r), b, ?_⟩
    rw [take_succ hr', rainsR_snoc]
  · rintro Γ M2 ⟨hi, eM, a, b, rfl⟩
    subst M2
    obtain ⟨l, w⟩ := rainsR_ok (n := ns.length) (rs := rs) hrn
    have w1 := w.mono (W := B * (rs.length + 1)) (Nat.mul_le_mul_left _ (by omega))
    have RR := Rg rs.length hl
    refine ⟨he, ?_⟩
    rw [List.length_map, List.take_length]
    walk_at "ev"
    refine ⟨d, _, _, ns, _, [], B * (rs.length + 1), D0, L72, rfl, hd, rfl, rfl, hr, l.symm, Flaps.nil_, hlc, RR.2, RR.1, w1, fun p hp => ?_⟩
    have hp1 : up M p (.obj (.lst ((settle ns (rainsR ns.length rs) []).map frD))) p = some (.obj (.lst ((settle ns (rainsR ns.length rs) []).map frD))) := up_same
    walk_at "ev"
    rw [dl_up hp]
    exact fin.of hk
end M
namespace M
open PySem L2
section
variable {M : MH} {p C a b c : Addr} {h h' : HD} {d : D} {ds : List D} {φ : List BO → Prop}
theorem rdS_open (h0 : rdS M d = some ds) (hM : M p = some (.box [a, b, c] φ)) (ha : M a = some (.part p)) (hb : M b = some (.part p)) (hc : M c = some (.part p)) : rdS (hOpen M p C a b c h) d = some ds := by
  have h1 := rdS_up (o := .obj (.ins C (hF a b c))) h0 (a := p) (.inr fun es z => by rw [hM] at z; cases z)
  have h2 := rdS_up (o := .obj (.lst (h.ns.map .int))) h1 (a := a) (by
    by_cases q : a = p
    · rw [q, up_same]; exact .inr fun es z => by cases z
    · rw [up_ne q, ha]; exact .inr fun es z => by cases z)
  have h3 : rdS (up (up (up M p (.obj (.ins C (hF a b c)))) a (.obj (.lst (h.ns.map .int)))) b (.obj (.lst (h.ws.map watD)))) d = some ds := by
    cases d with
    | ref x =>
      have xa : x ≠ a := fun z => by subst z; have h0 : (match M x with | some (.obj (.lst ds)) => some ds | _ => none) = some ds := h0; rw [ha] at h0; cases h0
      have xb : x ≠ b := fun z => by subst z; have h0 : (match M x with | some (.obj (.lst ds)) => some ds | _ => none) = some ds := h0; rw [hb] at h0; cases h0
      show (match up _ b _ x with | some (.obj (.lst ds)) => some ds | _ => none) = some ds
      rw [up_ne xb]; exact h2
    | _ => exact h0
  show rdS (up (up (up (up M p _) a _) b _) c _) d = some ds
  cases d with
  | ref x =>
    have xc : x ≠ c := fun z => by subst z; have h0 : (match M x with | some (.obj (.lst ds)) => some ds | _ => none) = some ds := h0; rw [hc] at h0; cases h0
    show (match up _ c _ x with | some (.obj (.lst ds)) => some ds | _ => none) = some ds
    rw [up_ne xc]; exact h3
  | _ => exact h0
theorem rdT_open (h0 : rdT M d = some ds) (hM : M p = some (.box [a, b, c] φ)) (ha : M a = some (.part p)) (hb : M b = some (.part p)) (hc : M c = some (.part p)) : rdT (hOpen M p C a b c h) d = some ds := by
  rcases rdT_cases h0 with ⟨rfl, rfl⟩ | h1
  · rfl
  · exact rdT_of (rdS_open h1 hM ha hb hc)
/-- what opening tells -/
structure HPt (M : MH) (p a b c : Addr) : Prop where
  ab : a ≠ b
  ac : a ≠ c
  bc : b ≠ c
  pa : p ≠ a
  pb : p ≠ b
  pc : p ≠ c
  qa : M a = some (.part p)
  qb : M b = some (.part p)
  qc : M c = some (.part p)
theorem hpt (hM : M p = some (hBox C a b c h)) {bs : List BO} (hφ : bs = hBs C a b c h ∧ a ≠ b ∧ a ≠ c ∧ b ≠ c) (hp : ∀ q ∈ [a, b, c], M q = some (.part p)) : HPt M p a b c := by
  have h1 := hp a (by simp)
  have h2 := hp b (by simp)
  have h3 := hp c (by simp)
  exact ⟨hφ.2.1, hφ.2.2.1, hφ.2.2.2, fun z => (by rw [← z, hM] at h1; cases h1), fun z => (by rw [← z, hM] at h2; cases h2), fun z => (by rw [← z, hM] at h3; cases h3), h1, h2, h3⟩
/-- a History in slot i opened -/
theorem gOpen_h {i : Nat} {s : AS} {Z : AD} {Γ : G} (hΓ : Γ[i]? = some (some (.ref p))) (hM : M p = some (hBox C a b c h)) (k : HPt M p a b c → s Z Γ (hOpen M p C a b c h)) : gOpen i s Z Γ M := by
  refine ⟨p, [a, b, c], _, hΓ, hM, fun bs hbs hlen hpt' => ?_⟩
  have q := hpt hM hbs hpt'
  have := k q
  unfold hOpen at this
  rw [← hbs.1] at this
  exact this
theorem hp_close (hM : M p = some (hBox C a b c h)) (q : HPt M p a b c) : Abs (hOpen M p C a b c h') (up M p (hBox C a b c h')) := hOpen_close hM q.qa q.qb q.qc q.ab q.ac q.bc
theorem hp_same (hM : M p = some (hBox C a b c h)) (q : HPt M p a b c) : Abs (hOpen M p C a b c h) M := by
  have := hp_close (h' := h) hM q
  rwa [up_self hM] at this
theorem ws_last {h : HD} {w : List Rat} (e : h.ws[h.st.length]? = some w) (l : h.ws.length = h.st.length + 1) : atI (h.ws.map watD) (-1) = some (watD w) := by
  have h1 := take_succ e
  rw [show h.st.length + 1 = h.ws.length from l.symm, List.take_length] at h1
  rw [h1, List.map_append]
  exact L2.atI_last _ _
end
end M
namespace M
open PySem L2
def HD.undo (h : HD) : HD := ⟨h.ns, h.ws.dropLast, h.st.dropLast⟩
def F_History_undo_v2 (CH : Addr) : AF := fun ds M k _ => ∃ (p a b c : Addr) (h : HD), ds = [.ref p] ∧ M p = some (hBox CH a b c h) ∧ h.st ≠ [] ∧ h.ws ≠ [] ∧ k .non (up M p (hBox CH a b c h.undo))
/-- undo -/
def b_History_undo_v2 (CH : Addr) : AS := (gOpen 0 (aSeq (aIfS (aB (aOp (bEq false) (aFld CH "steps_held" (aVar 0)) (aLst false aNil)))
  aNever
  aNext)
  (aSeq (aDrop (aMt0 mPop (aFld CH "steps_held" (aVar 0))))
  (aDrop (aMt0 mPop (aFld CH "waters_held" (aVar 0)))))))
theorem len_History_undo_v2 (CH : Addr) : ∀ ds M k x, F_History_undo_v2 CH ds M k x → ds.length = 1 := by
  rintro ds M k x ⟨p, a, b, c, h, rfl, _⟩; rfl
def stepT (s : List Int × List Rat) : T := .tup [tI s.1, tFs s.2]
theorem stepT_d (s : List Int × List Rat) : (stepT s).d = stepD s := by unfold stepT stepD; rw [T.d, T.ds, T.ds, T.ds, tI_d, tFs_d]
theorem stepT_dep (s : List Int × List Rat) : (stepT s).dep ≤ 3 := by
  have h1 := tI_dep s.1
  have h2 := tFs_dep s.2
  unfold stepT
  rw [T.dep, T.deps, T.deps, T.deps]
  omega
theorem steps_ds (l : List (List Int × List Rat)) : T.ds (l.map stepT) = l.map stepD := by
  rw [ds_map]
  exact List.map_congr_left fun s _ => stepT_d s
theorem RdT.steps {M : MH} {a : Addr} {l : List (List Int × List Rat)} (h : M a = some (.obj (.lst (l.map stepD)))) : RdT M (.ref a) (.lst (l.map stepT)) := by
  refine RdT.ref (by rw [steps_ds]; exact h) ?_
  have : T.deps (l.map stepT) ≤ 3 := deps_le fun s _ => stepT_dep s
  omega
theorem ok_History_undo_v2 (CH : Addr) : ∀ ds M k x, F_History_undo_v2 CH ds M k x → b_History_undo_v2 CH { nx := fun _ M' => fin k .non M', rt := fin k } (startG 1 ds) M := by
  rintro ds M k _ ⟨p, a, b, c, h, rfl, hM, h0, h1, hk⟩
  walk_at "st"
  unfold b_History_undo_v2
  refine gOpen_h rfl hM fun q => ?_
  have op := hOpen_p (M := M) (C := CH) (h := h) q.pa q.pb q.pc
  have ob := hOpen_b (M := M) (p := p) (C := CH) (a := a) (h := h) q.bc
  have oc := hOpen_c (M := M) (p := p) (C := CH) (a := a) (b := b) (c := c) (h := h)
  walk_at "ev"
  refine iEqN (neg := false) ?_ ?_ (RdT.steps oc) (RdT.ints (ns := []))
  · walk_at "ev"
    refine iPop (e := stepD (h.st.getLast h0)) ?_ oc (by rw [List.length_map, List.getElem?_map, ← List.getLast?_eq_getElem?, List.getLast?_eq_some_getLast h0]; rfl)
    rw [← List.map_dropLast, hOpen_st]
    have op2 := hOpen_p (M := M) (C := CH) (h := ⟨h.ns, h.ws, h.st.dropLast⟩) q.pa q.pb q.pc
    have ob2 := hOpen_b (M := M) (p := p) (C := CH) (a := a) (h := ⟨h.ns, h.ws, h.st.dropLast⟩) q.bc
    walk_at "ev"
    refine iPop (e := watD (h.ws.getLast h1)) ?_ ob2 (by rw [List.length_map, List.getElem?_map, ← List.getLast?_eq_getElem?, List.getLast?_eq_some_getLast h1]; rfl)
    rw [← List.map_dropLast, hOpen_ws q.bc]
    exact ⟨_, hp_close hM q, hk⟩
  · intro z
    have : h.st.map stepT = [] := by
      unfold tI at z
      injection z
    exact h0 (List.map_eq_nil_iff.mp this)
end M
namespace M
open PySem L2
theorem HD.add_undo (h : HD) (bs : List Int) (rain : List Rat) : (h.add bs rain).undo = h := by
  unfold HD.undo HD.add
  simp
theorem get_dropLast {α : Type} {l : List α} {i : Nat} {x : α} (h : l.dropLast[i]? = some x) : l[i]? = some x ∧ i + 1 < l.length := by
  have hlt := (List.getElem?_eq_some_iff.mp h).1
  rw [List.length_dropLast] at hlt
  rw [List.getElem?_dropLast, if_pos hlt] at h
  exact ⟨h, by omega⟩
theorem HOk.undo {B D0 : Nat} {h : HD} (ok : HOk B D0 h) (h0 : h.st ≠ []) : HOk B D0 h.undo := by
  have wl := ok.wl
  have hp := List.length_pos_iff.mpr h0
  refine ⟨ok.row, ok.sum, ?_, ?_, fun i w hi => ok.w i w (get_dropLast hi).1, fun i s w hi hwi => ?_⟩
  · show h.ws.dropLast.length = h.st.dropLast.length + 1
    rw [List.length_dropLast, List.length_dropLast]; omega
  · show h.st.dropLast.length ≤ 16
    have := ok.few
    rw [List.length_dropLast]; omega
  · obtain ⟨e1, l1⟩ := get_dropLast hi
    obtain ⟨e2, l2⟩ := get_dropLast hwi
    obtain ⟨a1, a2, a3, a4, a5⟩ := ok.s i s w e1 e2
    refine ⟨a1, a2, a3, a4, ?_⟩
    show h.ws.dropLast[i + 1]? = _
    rw [List.getElem?_dropLast, if_pos (by omega)]
    exact a5
end M
namespace M
open PySem L2
def oD : Option Int → D
  | some n => .int n
  | none => .non
theorem oD_some {n : Int} : oD (some n) = .int n := rfl
theorem oD_none : oD none = .non := rfl
theorem figs : (Str.ofString "0123456789").cps.toList = [48, 49, 50, 51, 52, 53, 54, 55, 56, 57] := by decide +kernel
theorem fig_mem {c : Nat} : decide (c ∈ (Str.ofString "0123456789").cps.toList) = isDig c := by
  rw [figs]; unfold isDig
  rw [decide_eq_decide]
  simp only [List.mem_cons, List.not_mem_nil, or_false]
  omega
def F_number_in : AF := fun ds M k _ => ∃ l : List Nat, ds = [.str (S l)] ∧ l.length ≤ 16000000 ∧ k (oD (numIn l)) M
/-- number_in -/
def b_number_in : AS := (aSeq (aIfS (aOr (aNot (aB (aChain (fun i j => decide (i < j)) (fun i j => decide (i ≤ j)) (aC (.int 0)) (aCB cLen (aCons (aVar 0) aNil)) (aC (.int 400))))) (aNot (aB (aCB cAll (aCons (aLc false (wSt (aVar 0)) (gNm 1) aYes (aOp (bInS false) (aVar 1) (aC (.str "0123456789"))) [1]) aNil)))))
  (aRet (aC .non))
  aNext)
  (aRet (aIf (aOr (aB (aOp (bEq true) (aOp bIx (aVar 0) (aC (.int 0))) (aC (.str "0")))) (aB (aOp (bEq false) (aVar 0) (aC (.str "0"))))) (aCB cInt (aCons (aVar 0) aNil)) (aC .non))))
theorem len_number_in : ∀ ds M k x, F_number_in ds M k x → ds.length = 1 := by
  rintro ds M k x ⟨a, rfl, _⟩; rfl
theorem iIxS {z : Str} {i : Int} {c : Nat} {M : MH} {k : AK} (h : k (.str ⟨#[c]⟩) M) (l : z.length ≤ sizeLine) (q : atI z.cps.toList i = some c) : bIx (.str z) (.int i) M k := ⟨l, by rw [q]; exact h⟩
theorem ok_number_in : ∀ ds M k x, F_number_in ds M k x → b_number_in { nx := fun _ M' => fin k .non M', rt := fin k } (startG 2 ds) M := by
  rintro ds M k _ ⟨l, rfl, hl, hk⟩
  walk_at "st"
  unfold b_number_in
  have hs : (S l).length ≤ sizeLine := by rw [S_len, sizeLine_eq]; omega
  have hN : ¬ (0 < l.length ∧ l.length ≤ 400 ∧ l.all isDig = true) → fin k .non M := fun h => by
    unfold numIn at hk; rw [if_neg h] at hk; exact fin.of hk
  walk_at "ev"
  rw [S_len]
  refine iteD (fun h0 => ?_) (fun h0 => ?_)
  · walk_at "ev"
    refine iteN (fun h4 => hN (by omega)) (fun h4 => ?_)
    rw [signs_S]
    refine lc_map (fun c => D.str (S [c])) (fun c => D.bl (isDig c)) l [] (by rw [sizeLine_eq, List.length_nil]; omega) trivial (fun c _ kd hkd => ?_) ?_
    · simp only [wipeG]
      walk_at "ev"
      exact iInS (by rw [fig_mem]; exact hkd) rfl
    · walk_at "ev"
      refine iAll (bs := l.map isDig) ?_ (by show some _ = some _; rw [List.map_map]; rfl)
      have e0 : (l.map isDig).all id = l.all isDig := by rw [List.all_map]; rfl
      rw [e0]
      cases hall : l.all isDig with
      | false =>
        walk_at "ev"
        exact hN (by rw [hall]; simp)
      | true =>
        walk_at "ev"
        have hpos : 0 < l.length ∧ l.length ≤ 400 ∧ l.all isDig = true := ⟨by omega, by omega, hall⟩
        obtain ⟨c, r, rfl⟩ : ∃ c r, l = c :: r := by
          cases l with
          | nil => simp at h0
          | cons c r => exact ⟨c, r, rfl⟩
        have htl : (S (c :: r)).cps.toList = c :: r := tl_S _
        unfold numIn at hk
        rw [if_pos hpos] at hk
        have hint : PySem.intText? (S (c :: r)) = some ((NumText.digitsVal (c :: r) : Nat) : Int) := by
          have := PySem.intText_digits (x := S (c :: r)) (by rw [htl]; exact dig_all.mp hall) (by rw [htl]; simp) (by rw [S_len]; omega)
          rwa [htl] at this
        have h640 : (S (c :: r)).length ≤ 640 := by rw [S_len]; omega
        refine iIxS (c := c) ?_ hs (by rw [htl]; exact atI_c0)
        rw [show (⟨#[c]⟩ : Str) = S [c] from rfl, show Str.ofString "0" = S [48] from rfl]
        walk_at "ev"
        have e1 : (S [c] = S [48]) ↔ c = 48 := ⟨fun h => by have := S_inj h; simpa using this, fun h => by rw [h]⟩
        have e2 : (S (c :: r) = S [48]) ↔ (c :: r) = [48] := ⟨S_inj, fun h => by rw [h]⟩
        refine iteN (fun hc => ?_) (fun hc => ?_)
        · rw [if_pos (.inl (by simp; exact fun z => hc (e1.mpr z)))] at hk
          walk_at "ev"
          exact fin.of hk
        · refine iteD (fun hd => ?_) (fun hd => ?_)
          · rw [if_pos (.inr (e2.mp hd))] at hk
            walk_at "ev"
            exact fin.of hk
          · rw [if_neg (by
              rintro (z | z)
              · exact z (by simp; exact e1.mp hc)
              · exact hd (e2.mpr z))] at hk
            exact fin.of hk
  · walk_at "ev"
    exact hN (by omega)
end M
namespace M
open PySem L2
theorem cutS_to (l : List Nat) (j : Nat) : cutS (S l) none (some (j : Int)) = S (l.take j) := by
  apply TL.ext_tl
  rw [tl_S]
  have := cut_to (xs := l) (j := j)
  unfold cutD at this
  unfold cutS TL.tl
  rw [S_len, show (S l).cps.toList = l from tl_S l]
  simpa using this
theorem cutS_from (l : List Nat) (j : Nat) : cutS (S l) (some (j : Int)) none = S (l.drop j) := by
  apply TL.ext_tl
  rw [tl_S]
  have := cut_from (xs := l) (j := j)
  unfold cutD at this
  unfold cutS TL.tl
  rw [S_len, show (S l).cps.toList = l from tl_S l]
  simpa using this
def F_top_in : AF := fun ds M k _ => ∃ l : List Nat, ds = [.str (S l)] ∧ l.length ≤ 16000000 ∧ k (oD (topIn l)) M
/-- top_in -/
def b_top_in : AS := (aSeq (aIfS (aB (aOp (bEq true) (aCut false (aVar 0) aNoPart (aPart (aC (.int 1)))) (aC (.str "-"))))
  (aRet (aCall noX F_number_in [] (aCons (aVar 0) aNil)))
  aNext)
  (aSeq (aSet 1 (aCall noX F_number_in [] (aCons (aCut false (aVar 0) (aPart (aC (.int 1))) aNoPart) aNil)))
  (aRet (aIf (aOr (aB (aOp bIsN (aVar 1) (aC .non))) (aB (aOp (bEq false) (aVar 1) (aC (.int 0))))) (aC .non) (aOp bSub (aC (.int 0)) (aVar 1))))))
theorem len_top_in : ∀ ds M k x, F_top_in ds M k x → ds.length = 1 := by
  rintro ds M k x ⟨a, rfl, _⟩; rfl
theorem ok_top_in : ∀ ds M k x, F_top_in ds M k x → b_top_in { nx := fun _ M' => fin k .non M', rt := fin k } (startG 2 ds) M := by
  rintro ds M k _ ⟨l, rfl, hl, hk⟩
  walk_at "st"
  unfold b_top_in
  have hs : (S l).length ≤ sizeLine := by rw [S_len, sizeLine_eq]; omega
  have e1 : (S (l.take 1) = S [45]) ↔ l.take 1 = [45] := ⟨S_inj, fun h => by rw [h]⟩
  walk_at "ev"
  have c1 := cutS_to l 1
  have c2 := cutS_from l 1
  rw [show ((1 : Nat) : Int) = 1 from rfl] at c1 c2
  rw [c1, show Str.ofString "-" = S [45] from rfl]
  walk_at "ev"
  unfold topIn at hk
  refine iteN (fun hc => ?_) (fun hc => ?_)
  · rw [if_pos (fun z => hc (e1.mpr z))] at hk
    walk_at "ev"
    exact ⟨l, rfl, hl, fin.of hk⟩
  · rw [if_neg (fun z => z (e1.mp hc))] at hk
    walk_at "ev"
    rw [c2]
    refine ⟨l.drop 1, rfl, by rw [List.length_drop]; omega, ?_⟩
    cases q : numIn (l.drop 1) with
    | none =>
      rw [q] at hk
      rw [oD_none]
      walk_at "ev"
      exact fin.of hk
    | some n =>
      rw [q] at hk
      rw [oD_some]
      walk_at "ev"
      refine iteD (fun hn => ?_) (fun hn => ?_)
      · walk_at "ev"
        dsimp only at hk
        rw [if_pos hn] at hk
        exact fin.of hk
      · walk_at "ev"
        dsimp only at hk
        rw [if_neg hn] at hk
        exact fin.of hk
end M
namespace M
open PySem L2
def oP : Option (Int × Int) → D
  | some (a, b) => .tup [.int a, .int b]
  | none => .non
theorem val_lt : ∀ (l : List Nat) (a : Nat), NumText.AllDigits l → l.foldl (fun acc c => acc * 10 + (c - 48)) a < (a + 1) * 10 ^ l.length
  | [], a, _ => by simp
  | c :: l, a, h => by
    have h1 := val_lt l (a * 10 + (c - 48)) h.tail
    have h2 := h.head
    rw [List.foldl_cons, List.length_cons, Nat.pow_succ]
    have h3 : (a * 10 + (c - 48) + 1) * 10 ^ l.length ≤ ((a + 1) * 10) * 10 ^ l.length := Nat.mul_le_mul_right _ (by omega)
    rw [Nat.mul_assoc, Nat.mul_comm 10] at h3
    omega
theorem numIn_lt {l : List Nat} {n : Int} (h : numIn l = some n) : 0 ≤ n ∧ n.natAbs < 10 ^ 400 := by
  unfold numIn at h
  split at h
  · rename_i hc
    split at h
    · cases h
      refine ⟨by omega, ?_⟩
      rw [Int.natAbs_natCast]
      have := val_lt l 0 (dig_all.mp hc.2.2)
      rw [Nat.zero_add, Nat.one_mul] at this
      exact Nat.lt_of_lt_of_le this (Nat.pow_le_pow_right (by decide) hc.2.1)
    · cases h
  · cases h
def F_fraction_in : AF := fun ds M k _ => ∃ l : List Nat, ds = [.str (S l)] ∧ l.length ≤ 16000000 ∧ k (oP (frIn l)) M
/-- fraction_in -/
def b_fraction_in : AS := (aSeq (aAsg (aM1 sPart (aVar 0) (aC (.str "/"))) (gTu 3 (gCo (gNm 1) (gCo (gNm 2) (gCo (gNm 3) gNi)))))
  (aSeq (aPar 4 5 (aCons (aCall noX F_top_in [] (aCons (aVar 1) aNil)) (aCons (aIf (aB (aOp (bEq true) (aVar 2) (aC (.str "")))) (aCall noX F_number_in [] (aCons (aVar 3) aNil)) (aC (.int 1))) aNil)))
  (aSeq (aIfS (aOr (aB (aOp bIsN (aVar 4) (aC .non))) (aOr (aB (aOp bIsN (aVar 5) (aC .non))) (aAnd (aB (aOp (bEq true) (aVar 2) (aC (.str "")))) (aB (aOp bLt (aVar 5) (aC (.int 2)))))))
  (aRet (aC .non))
  aNext)
  (aRet (aIf (aB (aOp (bEq false) (aCall noX F_lowest [] (aCons (aVar 4) (aCons (aVar 5) aNil))) (aTup (aCons (aVar 4) (aCons (aVar 5) aNil))))) (aTup (aCons (aVar 4) (aCons (aVar 5) aNil))) (aC .non))))))
theorem len_fraction_in : ∀ ds M k x, F_fraction_in ds M k x → ds.length = 1 := by
  rintro ds M k x ⟨a, rfl, _⟩; rfl
theorem RdT.two {M : MH} {a b : Int} : RdT M (.tup [.int a, .int b]) (.tup [.int a, .int b]) := RdT.of M (t := .tup [.int a, .int b]) (by simp [T.dep, T.deps])
theorem RdT.fr {M : MH} {x : Rat} : RdT M (frD x) (tF x) := RdT.of M (t := tF x) (by rw [tF_dep]; decide)
theorem tF_eq {x : Rat} {a b : Int} : tF x = .tup [.int a, .int b] ↔ x.num = a ∧ (x.den : Int) = b := by
  unfold tF
  constructor
  · intro h
    injection h with h
    injection h with h1 h2
    injection h2 with h2 _
    injection h1 with h1
    injection h2 with h2
    exact ⟨h1, h2⟩
  · rintro ⟨rfl, rfl⟩; rfl
theorem ok_fraction_in : ∀ ds M k x, F_fraction_in ds M k x → b_fraction_in { nx := fun _ M' => fin k .non M', rt := fin k } (startG 6 ds) M := by
  rintro ds M k _ ⟨l, rfl, hl, hk⟩
  walk_at "st"
  unfold b_fraction_in
  have hs : (S l).length ≤ sizeLine := by rw [S_len, sizeLine_eq]; omega
  have hb : ((Str.ofString "/").length == 0) = false := by decide
  walk_at "ev"
  rw [show Str.ofString "/" = S [47] from rfl, show Str.ofString "" = S [] from rfl, part_S]
  have e47 : ¬ S [47] = S [] := fun h => by have := S_inj h; cases this
  unfold frIn at hk
  cases q : cutAt 47 l with
  | some p =>
    obtain ⟨a, b⟩ := p
    obtain ⟨hab, _⟩ := cutAt_some q
    have hla : a.length + b.length + 1 = l.length := by rw [hab, List.length_append, List.length_cons]; omega
    rw [q] at hk
    dsimp only at hk ⊢
    refine ⟨a, rfl, by omega, ?_⟩
    refine iteNDF e47 ?_
    refine ⟨b, rfl, by omega, ?_⟩
    walk_at "ev"
    cases qa : topIn a with
    | none =>
      rw [qa] at hk
      rw [oD_none]
      walk_at "ev"
      exact fin.of hk
    | some t =>
      rw [oD_some]
      walk_at "ev"
      cases qb : numIn b with
      | none =>
        rw [qa, qb] at hk
        rw [oD_none]
        walk_at "ev"
        exact fin.of hk
      | some d =>
        rw [qa, qb] at hk
        dsimp only at hk
        obtain ⟨d0, d1⟩ := numIn_lt qb
        rw [oD_some]
        walk_at "ev"
        refine iteNDF e47 ?_
        walk_at "ev"
        refine iteD (fun h2 => ?_) (fun h2 => ?_)
        · rw [if_pos h2] at hk
          walk_at "ev"
          exact fin.of hk
        · rw [if_neg h2] at hk
          walk_at "ev"
          refine ⟨t, d, rfl, by omega, lt_b89 (m := 1400) (Nat.lt_of_lt_of_le d1 ten400) (by decide), ?_⟩
          by_cases z : (mkRat t d.toNat).num = t ∧ ((mkRat t d.toNat).den : Int) = d
          · rw [if_pos ⟨rfl, z⟩] at hk
            walk_at "ev"
            refine iEqE (neg := false) ?_ (tF_eq.mpr z) RdT.fr RdT.two
            walk_at "ev"
            exact fin.of hk
          · rw [if_neg (fun w => z w.2)] at hk
            walk_at "ev"
            refine iEqN (neg := false) ?_ (fun w => z (tF_eq.mp w)) RdT.fr RdT.two
            walk_at "ev"
            exact fin.of hk
  | none =>
    rw [q] at hk
    dsimp only at hk ⊢
    refine ⟨l, rfl, by omega, ?_⟩
    walk_at "ev"
    cases qa : topIn l with
    | none =>
      rw [qa] at hk
      rw [oD_none]
      walk_at "ev"
      exact fin.of hk
    | some t =>
      rw [qa] at hk
      rw [oD_some]
      walk_at "ev"
      refine ⟨t, 1, rfl, by decide, lt_b89 (m := 1400) (by decide) (by decide), ?_⟩
      walk_at "ev"
      refine iEqE (neg := false) ?_ (tF_eq.mpr ?_) RdT.fr RdT.two
      · walk_at "ev"
        exact fin.of hk
      · show (mkRat t 1).num = t ∧ (((mkRat t 1).den : Nat) : Int) = 1
        rw [Rat.mkRat_one]
        exact ⟨rfl, rfl⟩
end M
namespace M
open PySem L2
theorem iEqFr {neg : Bool} {x y : Rat} {M : MH} {k : AK} (h : k (.bl (if neg then !decide (x = y) else decide (x = y))) M) : bEq neg (frD x) (frD y) M k := by
  by_cases z : x = y
  · subst z
    refine iEqTt ?_ RdT.fr
    rw [decide_eq_true rfl] at h
    cases neg <;> exact h
  · refine iEqN (t := tF x) (u := tF y) ?_ (fun w => z ?_) RdT.fr RdT.fr
    · rw [decide_eq_false z] at h
      cases neg <;> exact h
    · have := congrArg T.d w
      rw [tF, tF, T.d, T.d] at this
      exact frD_inj this
section
variable {ns : List Int} {xs : List Rat} {bs bs' : List Int} {V D L : Nat}
theorem settle_stay (hr : RowOk ns) (hl : ns.length = xs.length) (hf : Flaps ns.length bs) (hL : Lcm ns L) (hw : WOk V D xs) (hb : ∀ k : Nat, (k : Int) ∈ bs → (k : Int) ∈ bs') : settle ns (settle ns xs bs) bs' = settle ns xs bs := by
  obtain ⟨s1, r, _⟩ := settle_ok hr hl hf hL hw
  refine settle_eq hr s1 (Rest.self fun k h1 h2 h3 => r.up k h1 h2 fun z => h3 ?_)
  rcases z with z | z | z
  · exact .inl z
  · exact .inr (.inl z)
  · exact .inr (.inr (hb k z))
theorem putR_zero : ∀ {xs : List Rat}, putR xs (List.replicate xs.length 0) = xs
  | [] => rfl
  | x :: xs => by
    rw [List.length_cons, List.replicate_succ]
    show (x + 0) :: putR xs (List.replicate xs.length 0) = _
    rw [putR_zero, Rat.add_zero]
theorem settle_flap (hr : RowOk ns) (hl : ns.length = xs.length) (hf : Flaps ns.length bs) (hL : Lcm ns L) (hw : WOk V D xs) {i : Nat} (hi : ((i : Int) + 1) ∉ bs) {n m : Int} {x y : Rat} (n1 : ns[i]? = some n) (n2 : ns[i + 1]? = some m) (y1 : (settle ns xs bs)[i]? = some x) (y2 : (settle ns xs bs)[i + 1]? = some y) : x * (m : Rat) ≤ y * (n : Rat) := by
  obtain ⟨s1, r, _⟩ := settle_ok hr hl hf hL hw
  have hlt := (List.getElem?_eq_some_iff.mp n2).1
  have u := r.up (i + 1) (by omega) hlt (by
    rintro (z | z | z)
    · omega
    · omega
    · exact hi (by simpa using z))
  rw [Nat.add_sub_cancel, slope_at n1 y1, slope_at n2 y2] at u
  exact (div_le_div (hr.w n (List.mem_of_getElem? n1)) (hr.w m (List.mem_of_getElem? n2))).mp u
theorem nd_len : ∀ {bs l : List Int}, bs.Nodup → (∀ b ∈ bs, b ∈ l) → bs.length ≤ l.length
  | [], _, _, _ => Nat.zero_le _
  | b :: bs, l, h, hs => by
    obtain ⟨h1, h2⟩ := List.nodup_cons.mp h
    have hb := hs b List.mem_cons_self
    have ih := nd_len (l := l.erase b) h2 fun x hx => (List.mem_erase_of_ne fun z => h1 (by rw [← z]; exact hx)).mpr (hs x (List.mem_cons_of_mem b hx))
    rw [List.length_erase_of_mem hb] at ih
    have := List.length_pos_iff.mpr (List.ne_nil_of_mem hb)
    rw [List.length_cons]; omega
theorem Flaps.full {n : Nat} {bs : List Int} (h : Flaps n bs) (hl : bs.length = n - 1) : ∀ k : Nat, 0 < k → k < n → (k : Int) ∈ bs := by
  intro k k0 kn
  apply Classical.byContradiction
  intro hk
  have sub : ∀ b ∈ bs, b ∈ (rng 1 (n - 1)).erase (k : Int) := fun b hb => by
    have h0 := h.lo b hb
    have h1 := h.hi b hb
    refine (List.mem_erase_of_ne fun z => hk (by rw [← z]; exact hb)).mpr ?_
    unfold rng
    exact List.mem_map.mpr ⟨(b - 1).toNat, List.mem_range.mpr (by omega), by omega⟩
  have le := nd_len h.nd sub
  have mem : (k : Int) ∈ rng 1 (n - 1) := by
    unfold rng
    exact List.mem_map.mpr ⟨k - 1, List.mem_range.mpr (by omega), by omega⟩
  rw [List.length_erase_of_mem mem, rng_length] at le
  omega
end
theorem HD.add_now (h : HD) (bs : List Int) (rain : List Rat) : (h.add bs rain).now = settle h.ns (putR h.now rain) bs := by
  unfold HD.add HD.now
  rw [List.getLastD_concat]
theorem putR_sum {xs ys : List Rat} (h : xs.length = ys.length) : (putR xs ys).sum = xs.sum + ys.sum := by
  rw [← hp_len, ← hp_len, ← hp_len, putR_hp h, putR_len h]
  rw [h]
/-- a History made: what stood stands -/
theorem hPut_keep' {M : MH} {p C a b c : Addr} {h : HD} {o : MO} (hp : M p = none) (ha : up M p o a = none) (hb : up M p o b = none) (hc : up M p o c = none) : hPut (up M p o) p C a b c h p = some (hBox C a b c h) ∧ ∀ x q, M x = some q → hPut (up M p o) p C a b c h x = some q ∧ x ≠ p := by
  unfold hPut
  refine ⟨up_same, fun x q hx => ?_⟩
  have n0 : x ≠ p := fun z => by rw [z, hp] at hx; cases hx
  have f : ∀ y, up M p o y = none → x ≠ y := fun y hy z => by
    rw [← z, up_ne n0, hx] at hy; cases hy
  rw [up_ne n0, up_ne (f c hc), up_ne (f b hb), up_ne (f a ha), up_ne n0]
  exact ⟨hx, n0⟩
end M
namespace M
open PySem L2
theorem HD.add_now' (h : HD) (bs : List Int) (rain : List Rat) : (h.add bs rain).now = settle h.ns (putR h.now rain) bs := by
  unfold HD.add HD.now
  rw [List.getLastD_concat]
theorem sorted_one {l m : List Int} (h : l.Perm m) (h1 : l.Pairwise (· ≤ ·)) (h2 : m.Pairwise (· ≤ ·)) : l = m :=
  List.Perm.eq_of_pairwise (fun _ _ _ _ => Int.le_antisymm) h1 h2 h
/-- two Histories of one row: what the other has, the one has behind n steps -/
structure Along (B D0 D1 n : Nat) (ns : List Int) (h g : HD) : Prop where
  o : HOk B D0 h
  o2 : HOk B D1 g
  n1 : h.ns = ns
  n2 : g.ns = ns
  st : h.st.drop n = g.st
  ws : h.ws.drop n = g.ws
  le : n ≤ h.st.length
theorem Along.now {B D0 D1 n : Nat} {ns : List Int} {h g : HD} (a : Along B D0 D1 n ns h g) : g.now = h.now := by
  obtain ⟨e1, _, _⟩ := a.o.now
  obtain ⟨e2, _, _⟩ := a.o2.now
  have l1 : g.st.length = h.st.length - n := by rw [← a.st, List.length_drop]
  have := a.le
  rw [← a.ws, List.getElem?_drop, l1, show n + (h.st.length - n) = h.st.length by omega, e1] at e2
  injection e2 with e2
  exact e2.symm
theorem Along.add {B D0 D1 n : Nat} {ns : List Int} {h g : HD} {bs : List Int} {rain : List Rat} (a : Along B D0 D1 n ns h g) (f : Flaps ns.length bs) (p : bs.Pairwise (· ≤ ·)) (hl : rain.length = ns.length) (hw : WOk B D0 rain) (hw1 : WOk B D1 rain) (few : h.st.length < 16) :
    Along B D0 D1 n ns (h.add bs rain) (g.add bs rain) := by
  have e := a.now
  have wl := a.o.wl
  have le := a.le
  have l1 : g.st.length = h.st.length - n := by rw [← a.st, List.length_drop]
  refine ⟨a.o.add (by rw [a.n1]; exact f) p (by rw [a.n1]; exact hl) hw few, a.o2.add (by rw [a.n2]; exact f) p (by rw [a.n2]; exact hl) hw1 (by omega), a.n1, a.n2, ?_, ?_, ?_⟩
  · show (h.st ++ [(bs, rain)]).drop n = g.st ++ [(bs, rain)]
    rw [List.drop_append_of_le_length le, a.st]
  · show (h.ws ++ [settle h.ns (putR h.now rain) bs]).drop n = g.ws ++ [settle g.ns (putR g.now rain) bs]
    rw [List.drop_append_of_le_length (by omega), a.ws, a.n1, a.n2, e]
  · show n ≤ (h.st ++ [(bs, rain)]).length
    rw [List.length_append]; omega
theorem drop_dropLast' {α : Type} {l : List α} {n : Nat} : l.dropLast.drop n = (l.drop n).dropLast := by
  rw [List.dropLast_eq_take, List.dropLast_eq_take, List.drop_take, List.length_drop]
  congr 1
  omega
theorem Along.undo {B D0 D1 n : Nat} {ns : List Int} {h g : HD} (a : Along B D0 D1 n ns h g) (h0 : g.st ≠ []) : Along B D0 D1 n ns h.undo g.undo := by
  have hp := List.length_pos_iff.mpr h0
  have l1 : g.st.length = h.st.length - n := by rw [← a.st, List.length_drop]
  refine ⟨a.o.undo (List.length_pos_iff.mp (by omega)), a.o2.undo h0, a.n1, a.n2, ?_, ?_, ?_⟩
  · show h.st.dropLast.drop n = g.st.dropLast
    rw [drop_dropLast', a.st]
  · show h.ws.dropLast.drop n = g.ws.dropLast
    rw [drop_dropLast', a.ws]
  · show n ≤ h.st.dropLast.length
    rw [List.length_dropLast]; omega
theorem WOk.dvd {V D E : Nat} {xs : List Rat} (h : WOk V D xs) (hd : D ∣ E) : WOk V E xs := by
  obtain ⟨c, rfl⟩ := hd
  exact h.den
end M
namespace M
open PySem L2
/-- whole amounts -/
def wr (as : List Int) : List Rat := as.map (fun a : Int => (a : Rat))
def frW (a : Int) : D := .tup [.int a, .int 1]
theorem frW_eq (a : Int) : frD (a : Rat) = frW a := by
  unfold frD frW
  rw [Rat.num_intCast, Rat.den_intCast]; rfl
theorem wr_fr (as : List Int) : (wr as).map frD = as.map frW := by
  unfold wr
  rw [List.map_map]
  exact List.map_congr_left fun a _ => frW_eq a
theorem wr_len (as : List Int) : (wr as).length = as.length := by unfold wr; rw [List.length_map]
theorem wr_sum : ∀ as : List Int, (wr as).sum = (as.sum : Rat)
  | [] => rfl
  | a :: as => by
    have := wr_sum as
    unfold wr at this ⊢
    rw [List.map_cons, List.sum_cons, List.sum_cons, this, Rat.intCast_add]
theorem wr_hp (as : List Int) (k : Nat) : hp (wr as) k = ((as.take k).sum : Rat) := by
  unfold hp wr
  rw [← List.map_take]
  exact wr_sum _
theorem wr_get {as : List Int} {k : Nat} {a : Int} (h : as[k]? = some a) : (wr as)[k]? = some (a : Rat) := by
  unfold wr
  rw [List.getElem?_map, h]; rfl
theorem wr_ok {as : List Int} {V : Nat} (h0 : ∀ a ∈ as, 0 ≤ a) (hs : as.sum ≤ V) : WOk V 1 (wr as) := by
  have m : ∀ x ∈ wr as, ∃ a ∈ as, x = (a : Rat) := fun x hx => by
    unfold wr at hx
    obtain ⟨a, ha, rfl⟩ := List.mem_map.mp hx
    exact ⟨a, ha, rfl⟩
  refine ⟨fun x hx => ?_, fun x hx => ?_, ?_⟩
  · obtain ⟨a, ha, rfl⟩ := m x hx
    have := h0 a ha
    exact_mod_cast this
  · obtain ⟨a, ha, rfl⟩ := m x hx
    exact ⟨a, by rw [show ((1 : Nat) : Rat) = 1 from rfl, Rat.mul_one]⟩
  · rw [wr_sum, ← Rat.intCast_natCast]
    exact Rat.intCast_le_intCast.mpr hs
end M
namespace M
open PySem L2
def F_law_shuffled : AF := fun ds M k _ => ∃ (t g : Addr) (b : Nat) (d : D) (ns : List Int), ds = [.ref t, d] ∧ M t = some (tray g (b + ns.length)) ∧ rdS M d = some (ns.map .int) ∧ ns.length ≤ 1000 ∧ ∀ ns' : List Int, ns'.Perm ns → k (.lst (ns'.map .int)) (up M t (tray g b))
/-- _law_shuffled -/
def b_law_shuffled : AS := (aSeq (aSet 2 (aCB (cList true) (aCons (aVar 1) aNil)))
  (aRet (aLc false (wRg1 (aCons (aCB cLen (aCons (aVar 2) aNil)) aNil)) (gNm 3) aYes (aMt mPop (aVar 2) (aCons (aCall noX F_law_draw_v1 [] (aCons (aVar 0) (aCons (aCB cLen (aCons (aVar 2) aNil)) aNil))) aNil)) [3])))
theorem len_law_shuffled : ∀ ds M k x, F_law_shuffled ds M k x → ds.length = 2 := by
  rintro ds M k x ⟨a, b, _, _, _, rfl, _⟩; rfl
theorem ok_law_shuffled : ∀ ds M k x, F_law_shuffled ds M k x → b_law_shuffled { nx := fun _ M' => fin k .non M', rt := fin k } (startG 4 ds) M := by
  rintro ds M k _ ⟨t, g, b, d, ns, rfl, hM, hd, hl, hk⟩
  walk_at "st"
  unfold b_law_shuffled
  walk_at "ev"
  intro p hp0
  have ntp : t ≠ p := fun z => by rw [← z, hM] at hp0; cases hp0
  walk_at "ev"
  rw [List.length_map]
  refine ⟨by omega, ?_⟩
  refine lc_st (fun i acc M' => ∃ (dn rs : List Int), acc = dn.map .int ∧ rs.length + i = ns.length ∧ (dn ++ rs).Perm ns ∧ M' = up (up M t (tray g (b + rs.length))) p (.obj (.lst (rs.map .int)))) (by rw [rng_len]; omega) ?_ ?_ ⟨[], ns, rfl, rfl, List.Perm.refl _, by rw [up_self hM]⟩
  · rintro i x acc M' hx ha ⟨dn, rs, rfl, h1, h2, rfl⟩
    obtain ⟨hi, rfl⟩ := rng_it hx
    refine ⟨trivial, fun kd hkd => ?_⟩
    simp only [wipeG]
    have eP : up (up M t (tray g (b + rs.length))) p (.obj (.lst (rs.map .int))) p = some (.obj (.lst (rs.map .int))) := up_same
    walk_at "ev"
    rw [List.length_map]
    have hr : 0 < rs.length := by omega
    obtain ⟨m, hm⟩ : ∃ m, rs.length = m + 1 := ⟨rs.length - 1, by omega⟩
    refine ⟨t, g, b + m, rs.length, rfl, by rw [up_ne ntp, up_same, hm]; rfl, by omega, by omega, fun r r0 rm => ?_⟩
    have hlt : r.toNat < rs.length := by omega
    have e9 := List.getElem?_eq_getElem hlt
    refine iPopI (n := r.toNat) (e := .int rs[r.toNat]) (ds := rs.map .int) ?_ (by rw [up_ne (fun z => ntp z.symm), up_same]) (by omega) (by rw [List.length_map]; exact seq_ix (by omega) hlt) (by rw [List.getElem?_map, e9]; rfl)
    refine hkd _ _ ⟨dn ++ [rs[r.toNat]], rs.eraseIdx r.toNat, by rw [List.map_append]; rfl, by rw [List.length_eraseIdx_of_lt hlt]; omega, ?_, ?_⟩
    · rw [List.append_assoc]
      refine (List.Perm.append_left dn ?_).trans h2
      exact erase_perm hlt
    · rw [up_comm ntp, up_up, up_comm ntp.symm, up_up]
      rw [List.length_eraseIdx_of_lt hlt, hm, erase_map]
      rfl
  · rintro acc M' ha ⟨dn, rs, rfl, h1, h2, rfl⟩
    rw [rng_len] at h1
    have e0 : rs = [] := List.eq_nil_of_length_eq_zero (by omega)
    subst e0
    rw [List.append_nil] at h2
    refine ⟨trivial, ?_⟩
    walk_at "ev"
    refine fin.dl (by rw [up_ne (fun z => ntp z.symm)]; exact hp0) ?_
    exact hk dn h2
end M
namespace M
open PySem L2
/-- flaps, in any order -/
def F_law_bolts_v1 : AF := fun ds M k _ => ∃ (t g : Addr) (b : Nat) (n : Nat), ds = [.ref t, .int n] ∧ M t = some (tray g (b + 2 * n + 1)) ∧ 0 < n ∧ n ≤ 1000 ∧ ∀ bs : List Int, Flaps n bs → k (.lst (bs.map .int)) (up M t (tray g b))
/-- _law_bolts -/
def b_law_bolts_v1 : AS := (aSeq (aSet 2 (aLRange2 false (aC (.int 1)) (aVar 1)))
  (aSeq (aSet 3 (aCall noX F_law_draw_v1 [] (aCons (aVar 0) (aCons (aC (.int 4)) aNil))))
  (aSeq (aIfS (aB (aOp bLt (aVar 3) (aC (.int 2))))
  (aRet (aIf (aB (aOp (bEq false) (aVar 3) (aC (.int 1)))) (aCall noX F_law_shuffled [] (aCons (aVar 0) (aCons (aVar 2) aNil))) (aLst false aNil)))
  aNext)
  (aRet (aCall noX F_law_shuffled [] (aCons (aVar 0) (aCons (aLc false (wLst (aVar 2)) (gNm 4) (aB (aOp (bEq false) (aCall noX F_law_draw_v1 [] (aCons (aVar 0) (aCons (aVar 3) aNil))) (aC (.int 0)))) (aVar 4) [4]) aNil)))))))
theorem len_law_bolts_v1 : ∀ ds M k x, F_law_bolts_v1 ds M k x → ds.length = 2 := by
  rintro ds M k x ⟨a, b, _, _, rfl, _⟩; rfl
theorem Flaps.all {n : Nat} : Flaps n (rng 1 ((n : Int) - 1).toNat) := by
  have e : ∀ x ∈ rng 1 ((n : Int) - 1).toNat, ∃ i : Nat, i < n - 1 ∧ x = 1 + (i : Int) := fun x hx => by
    unfold rng at hx
    obtain ⟨i, hi, rfl⟩ := List.mem_map.mp hx
    exact ⟨i, by have := List.mem_range.mp hi; omega, rfl⟩
  refine ⟨fun b hb => ?_, fun b hb => ?_, ?_⟩
  · obtain ⟨i, hi, rfl⟩ := e b hb; omega
  · obtain ⟨i, hi, rfl⟩ := e b hb; omega
  · unfold rng
    refine List.pairwise_map.mpr ((List.nodup_range (n := ((n : Int) - 1).toNat)).imp fun {a b} h => ?_)
    omega
theorem Flaps.perm {n : Nat} {bs bs' : List Int} (h : Flaps n bs) (p : bs'.Perm bs) : Flaps n bs' := ⟨fun b hb => h.lo b (p.mem_iff.mp hb), fun b hb => h.hi b (p.mem_iff.mp hb), p.nodup_iff.mpr h.nd⟩
theorem Flaps.sub {n : Nat} {bs bs' : List Int} (h : Flaps n bs) (p : bs'.Sublist bs) : Flaps n bs' := ⟨fun b hb => h.lo b (p.subset hb), fun b hb => h.hi b (p.subset hb), p.nodup h.nd⟩
theorem Flaps.nil {n : Nat} : Flaps n [] := ⟨by simp, by simp, List.nodup_nil⟩
theorem ok_law_bolts_v1 : ∀ ds M k x, F_law_bolts_v1 ds M k x → b_law_bolts_v1 { nx := fun _ M' => fin k .non M', rt := fin k } (startG 5 ds) M := by
  rintro ds M k _ ⟨t, g, b, n, rfl, hM, h0, h1, hk⟩
  walk_at "st"
  unfold b_law_bolts_v1
  walk_at "ev"
  refine ⟨by unfold rgOk; omega, ?_⟩
  have hF := Flaps.all (n := n)
  have hlen : (rng 1 ((n : Int) - 1).toNat).length = n - 1 := by rw [rng_length]; omega
  generalize rng 1 ((n : Int) - 1).toNat = fl at hF hlen
  walk_at "ev"
  refine ⟨t, g, b + 2 * n, 4, rfl, hM, by decide, by decide, fun r r0 r4 => ?_⟩
  walk_at "ev"
  refine iteD (fun hr => ?_) (fun hr => ?_)
  · walk_at "ev"
    refine iteD (fun hr1 => ?_) (fun hr1 => ?_)
    · walk_at "ev"
      refine ⟨t, g, b + 2 * n - fl.length, _, fl, rfl, ?_, rfl, by omega, fun ns' hp => ?_⟩
      · rw [up_same]; exact congrArg (fun n => some (tray g n)) (by omega)
      rw [up_up]
      exact fin.tray_le (b' := b) (by omega) (hk _ (hF.perm hp))
    · walk_at "ev"
      exact fin.tray_le (b' := b) (by omega) (hk [] Flaps.nil)
  · walk_at "ev"
    refine lc_sf (fun i acc M' => ∃ bs : List Int, acc = bs.map .int ∧ bs.Sublist (fl.take i) ∧ M' = up M t (tray g (b + 2 * n - i))) (by rw [List.length_map]; omega) ?_ ?_ ⟨[], rfl, List.nil_sublist _, rfl⟩
    · rintro i x acc M' hx ha ⟨bs, rfl, hs, rfl⟩
      obtain ⟨y, hy, rfl⟩ := map_get hx
      have hi : i < fl.length := (List.getElem?_eq_some_iff.mp hy).1
      refine ⟨by walk_at "tr", fun k1 k2 hk1 hk2 => ?_⟩
      simp only [wipeG]
      walk_at "ev"
      refine ⟨t, g, b + 2 * n - (i + 1), r, rfl, ?_, by omega, by omega, fun q q0 qr => ?_⟩
      · rw [up_same]; exact congrArg (fun n => some (tray g n)) (by omega)
      rw [up_up]
      walk_at "ev"
      refine iteD (fun hq => ?_) (fun hq => ?_)
      · walk_at "ev"
        refine hk1 _ _ ⟨bs ++ [y], by rw [List.map_append]; rfl, ?_, rfl⟩
        rw [take_succ hy]
        exact hs.append (List.Sublist.refl _)
      · refine hk2 _ ⟨bs, rfl, ?_, rfl⟩
        rw [take_succ hy]
        exact hs.trans (List.sublist_append_left _ _)
    · rintro acc M' ha ⟨bs, rfl, hs, rfl⟩
      rw [List.length_map, List.take_length] at hs
      refine ⟨by walk_at "tr", ?_⟩
      walk_at "ev"
      have hbl := hs.length_le
      rw [List.length_map]
      refine ⟨t, g, b + 2 * n - fl.length - bs.length, _, bs, rfl, ?_, rfl, by omega, fun ns' hp => ?_⟩
      · rw [up_same]; exact congrArg (fun n => some (tray g n)) (by omega)
      rw [up_up]
      exact fin.tray_le (b' := b) (by omega) (hk _ ((hF.sub hs).perm hp))
end M
namespace M
open PySem L2
@[elab_as_elim] theorem snocRec {α : Type} {motive : List α → Prop} (l : List α) (nil : motive []) (snoc : ∀ l a, motive l → motive (l ++ [a])) : motive l := by
  have : ∀ n (l : List α), l.length = n → motive l := by
    intro n
    induction n with
    | zero => intro l h; rw [List.eq_nil_of_length_eq_zero h]; exact nil
    | succ n ih =>
      intro l h
      rcases List.eq_nil_or_concat l with rfl | ⟨xs, x, rfl⟩
      · exact nil
      · rw [List.concat_eq_append] at h ⊢
        rw [List.length_append, List.length_singleton] at h
        exact snoc _ _ (ih xs (by omega))
  exact this _ l rfl
/-- flaps, rising -/
def srt (bs : List Int) : List Int := bs.mergeSort (fun a b => decide (a ≤ b))
theorem srt_perm (bs : List Int) : (srt bs).Perm bs := List.mergeSort_perm _ _
theorem srt_pair (bs : List Int) : (srt bs).Pairwise (· ≤ ·) := by
  have h := List.pairwise_mergeSort (le := fun a b : Int => decide (a ≤ b)) (fun a b c h1 h2 => by simp only [decide_eq_true_eq] at h1 h2 ⊢; omega) (fun a b => by simp only [Bool.or_eq_true, decide_eq_true_eq]; omega) bs
  exact h.imp fun z => of_decide_eq_true z
theorem srt_one {l bs : List Int} (h : l.Perm bs) (p : l.Pairwise (· ≤ ·)) : l = srt bs := sorted_one (h.trans (srt_perm bs).symm) p (srt_pair bs)
abbrev Story := List (List Int × List Rat)
/-- a step of a story -/
structure StOk (B D0 n : Nat) (s : List Int × List Rat) : Prop where
  f : Flaps n s.1
  l : s.2.length = n
  w : WOk B D0 s.2
/-- the History of a story -/
noncomputable def histS (ns : List Int) (w : List Rat) (st : Story) : HD := st.foldl (fun h s => h.add (srt s.1) s.2) ⟨ns, [w], []⟩
/-- the water behind a story -/
noncomputable def waterS (ns : List Int) (w : List Rat) (st : Story) : List Rat := st.foldl (fun x s => settle ns (putR x s.2) s.1) w
theorem histS_snoc {ns : List Int} {w : List Rat} {st : Story} {s : List Int × List Rat} : histS ns w (st ++ [s]) = (histS ns w st).add (srt s.1) s.2 := by
  unfold histS
  rw [List.foldl_append]; rfl
theorem waterS_snoc {ns : List Int} {w : List Rat} {st : Story} {s : List Int × List Rat} : waterS ns w (st ++ [s]) = settle ns (putR (waterS ns w st) s.2) s.1 := by
  unfold waterS
  rw [List.foldl_append]; rfl
theorem histS_ns {ns : List Int} {w : List Rat} {st : Story} : (histS ns w st).ns = ns := by
  induction st using snocRec with
  | nil => rfl
  | snoc st s ih => rw [histS_snoc]; exact ih
theorem histS_st {ns : List Int} {w : List Rat} {st : Story} : (histS ns w st).st = st.map fun s => (srt s.1, s.2) := by
  induction st using snocRec with
  | nil => rfl
  | snoc st s ih =>
    rw [histS_snoc, List.map_append, ← ih]; rfl
theorem histS_len {ns : List Int} {w : List Rat} {st : Story} : (histS ns w st).st.length = st.length := by rw [histS_st, List.length_map]
section
variable {B D0 : Nat} {ns : List Int} {w : List Rat} {st : Story}
theorem histS_ok (hr : RowOk ns) (hs : ns.sum ≤ 72) (wl : w.length = ns.length) (hw : WOk B D0 w) : ∀ {st : Story}, st.length ≤ 16 → (∀ s ∈ st, StOk B D0 ns.length s) → HOk B D0 (histS ns w st) ∧ (histS ns w st).now = waterS ns w st := by
  intro st
  induction st using snocRec with
  | nil => intro _ _; exact ⟨HOk.new hr hs wl hw, rfl⟩
  | snoc st s ih =>
    intro hl h
    rw [List.length_append, List.length_singleton] at hl
    obtain ⟨o, e⟩ := ih (by omega) fun s hs => h s (List.mem_append_left _ hs)
    have so := h s (List.mem_append_right _ (List.mem_singleton.mpr rfl))
    rw [histS_snoc, waterS_snoc]
    refine ⟨o.add (by rw [histS_ns]; exact so.f.perm (srt_perm _)) (srt_pair _) (by rw [histS_ns]; exact so.l) so.w (by rw [histS_len]; omega), ?_⟩
    obtain ⟨g1, g2, g3⟩ := o.fell (by rw [histS_ns]; exact so.l) so.w
    rw [HD.add_now', histS_ns, e]
    rw [histS_ns, e] at g2
    rw [e] at g3
    exact settle_perm hr g2 so.f (Lcm.l72 hs) g3 (srt_perm _)
theorem histS_w' : ∀ {st : Story} {i : Nat}, i ≤ st.length → (histS ns w st).ws.length = st.length + 1 ∧ (histS ns w st).ws[i]? = some (histS ns w (st.take i)).now := by
  intro st
  induction st using snocRec with
  | nil =>
    intro i h
    have : i = 0 := by simpa using h
    subst this; exact ⟨rfl, rfl⟩
  | snoc st s ih =>
    intro i h
    rw [List.length_append, List.length_singleton] at h ⊢
    obtain ⟨l0, _⟩ := ih (Nat.zero_le _)
    rw [histS_snoc]
    refine ⟨?_, ?_⟩
    · show (_ ++ [_]).length = _
      rw [List.length_append, l0]; rfl
    · by_cases z : i ≤ st.length
      · rw [List.take_append_of_le_length z, ← (ih z).2]
        exact List.getElem?_append_left (by omega)
      · have e : i = (histS ns w st).ws.length := by omega
        rw [List.take_of_length_le (by rw [List.length_append, List.length_singleton]; omega), histS_snoc, HD.add_now']
        show ((histS ns w st).ws ++ [_])[i]? = _
        rw [e, List.getElem?_append_right (Nat.le_refl _), Nat.sub_self]; rfl
theorem histS_w (hr : RowOk ns) (hs : ns.sum ≤ 72) (wl : w.length = ns.length) (hw : WOk B D0 w) (hl : st.length ≤ 16) (h : ∀ s ∈ st, StOk B D0 ns.length s) {i : Nat} (hi : i ≤ st.length) : (histS ns w st).ws[i]? = some (waterS ns w (st.take i)) := by
  rw [(histS_w' hi).2, (histS_ok hr hs wl hw (by rw [List.length_take]; omega) fun s hs => h s (List.mem_of_mem_take hs)).2]
theorem waterS_ok (hr : RowOk ns) (hs : ns.sum ≤ 72) (wl : w.length = ns.length) (hw : WOk B D0 w) (hl : st.length ≤ 16) (h : ∀ s ∈ st, StOk B D0 ns.length s) : (waterS ns w st).length = ns.length ∧ WOk (B * (st.length + 1)) (D0 * L72 ^ st.length) (waterS ns w st) := by
  obtain ⟨o, e⟩ := histS_ok hr hs wl hw hl h
  obtain ⟨_, l, k⟩ := o.now
  rw [e, histS_ns] at l
  rw [e, histS_len] at k
  exact ⟨l, k⟩
/-- more rain, more water at first, more bolts -/
theorem waterS_mono (hr : RowOk ns) (hs : ns.sum ≤ 72) {w' : List Rat} (wl : w.length = ns.length) (hw : WOk B D0 w) (wl' : w'.length = ns.length) (hw' : WOk B D0 w') (m0 : ∀ k, k ≤ ns.length → hp w k ≤ hp w' k) :
    ∀ {st st' : Story}, st.length = st'.length → st.length ≤ 16 → (∀ s ∈ st, StOk B D0 ns.length s) → (∀ s ∈ st', StOk B D0 ns.length s) → (∀ (i : Nat) s s', st[i]? = some s → st'[i]? = some s' → (∀ b ∈ s.1, b ∈ s'.1) ∧ ∀ k, k ≤ ns.length → hp s.2 k ≤ hp s'.2 k) →
      ∀ k, k ≤ ns.length → hp (waterS ns w st) k ≤ hp (waterS ns w' st') k := by
  intro st
  induction st using snocRec with
  | nil =>
    intro st' hl _ _ _ _ k hk
    have : st' = [] := List.eq_nil_of_length_eq_zero hl.symm
    subst this
    exact m0 k hk
  | snoc st s ih =>
    intro st' hl h16 h1 h2 hm k hk
    rcases List.eq_nil_or_concat st' with rfl | ⟨st', s', rfl⟩
    · simp at hl
    · rw [List.concat_eq_append] at *
      rw [List.length_append, List.length_append, List.length_singleton, List.length_singleton] at hl
      rw [List.length_append, List.length_singleton] at h16
      have le : st.length = st'.length := by omega
      have ih := ih le (by omega) (fun s hs => h1 s (List.mem_append_left _ hs)) (fun s hs => h2 s (List.mem_append_left _ hs)) (fun i a a' e e' => hm i a a' (by rw [List.getElem?_append_left (List.getElem?_eq_some_iff.mp e).1]; exact e) (by rw [List.getElem?_append_left (List.getElem?_eq_some_iff.mp e').1]; exact e'))
      have so := h1 s (List.mem_append_right _ (List.mem_singleton.mpr rfl))
      have so' := h2 s' (List.mem_append_right _ (List.mem_singleton.mpr rfl))
      obtain ⟨z1, z2⟩ := hm st.length s s' (by rw [List.getElem?_append_right (Nat.le_refl _), Nat.sub_self]; rfl) (by rw [List.getElem?_append_right (by omega), le, Nat.sub_self]; rfl)
      obtain ⟨l1, k1⟩ := waterS_ok hr hs wl hw (by omega) fun s hs => h1 s (List.mem_append_left _ hs)
      obtain ⟨l2, k2⟩ := waterS_ok hr hs wl' hw' (by omega) fun s hs => h2 s (List.mem_append_left _ hs)
      rw [← le] at k2
      rw [waterS_snoc, waterS_snoc]
      have e1 : (waterS ns w st).length = s.2.length := by rw [l1, so.l]
      have e2 : (waterS ns w' st').length = s'.2.length := by rw [l2, so'.l]
      refine settle_mono hr (by rw [putR_len e1, l1]) (by rw [putR_len e2, l2]) so.f so'.f (Lcm.l72 hs) (k1.put so.w.den e1) (k2.put so'.w.den e2) z1 (fun j hj => ?_) hk
      rw [putR_hp e1, putR_hp e2]
      have := ih j hj
      have := z2 j hj
      grind
end
end M
namespace M
open PySem L2
/-- heights by place -/
def hf (hs : List Rat) (i : Nat) : Rat := hs.getD i 0
theorem hf_get {hs : List Rat} {i : Nat} (h : i < hs.length) : hs[i]? = some (hf hs i) := by
  unfold hf
  rw [List.getD_eq_getElem?_getD, List.getElem?_eq_getElem h]; rfl
theorem hf_ps {xs : List Rat} {i : Nat} (h : i ≤ xs.length) : hf (psR xs) i = hp xs i := by
  unfold hf psR hp
  rw [List.getD_eq_getElem?_getD, List.getElem?_map, List.getElem?_range (by omega)]; rfl
/-- heights that may be reckoned with -/
structure HtOk (ns : List Int) (hs : List Rat) : Prop where
  l : hs.length = ns.length + 1
  s : ∀ i, i ≤ ns.length → Sm (hf hs i)
  d : ∀ i j, i ≤ ns.length → j ≤ ns.length → Sm (hf hs j - hf hs i)
  q : ∀ i j, i < j → j ≤ ns.length → Sm (slope (pl ns) (hf hs) i j)
theorem Bnd.sub {V W D : Nat} {x y : Rat} (h : Bnd V D x) (g : Bnd W D y) : Bnd (V + W) D (x - y) := by
  obtain ⟨a, ha⟩ := h.den
  obtain ⟨b, hb⟩ := g.den
  have e : ((V + W : Nat) : Rat) = (V : Rat) + (W : Rat) := by exact_mod_cast Rat.natCast_add V W
  have h1 := h.lo
  have h2 := h.hi
  have h3 := g.lo
  have h4 := g.hi
  refine ⟨⟨a - b, by rw [Rat.sub_eq_add_neg, Rat.add_mul, Rat.neg_mul, ha, hb, ← Rat.sub_eq_add_neg, Rat.intCast_sub]⟩, ?_, ?_⟩
  · rw [e]; grind
  · rw [e]; grind
theorem Bnd.div {V D L : Nat} {x : Rat} {w : Int} (h : Bnd V D x) (w1 : 1 ≤ w) (hL : w.toNat ∣ L) : Bnd V (D * L) (x / (w : Rat)) := by
  have wp := wpos w1
  have w1' : (1 : Rat) ≤ (w : Rat) := by exact_mod_cast w1
  have e := div_mul' (y := x) w1
  have h1 := h.lo
  have h2 := h.hi
  have hV : (0 : Rat) ≤ (V : Rat) := Rat.natCast_nonneg
  have sh := DenD.share (x := x) (w := (w : Rat)) (f := ((1 : Int) : Rat)) (wi := w) (fi := 1) rfl rfl w1 hL h.den
  refine ⟨?_, ?_, ?_⟩
  · obtain ⟨a, ha⟩ := sh
    exact ⟨a, by rw [← ha]; rw [show ((1 : Int) : Rat) = 1 from rfl, Rat.mul_one]⟩
  · generalize x / (w : Rat) = q at e
    by_cases z : 0 ≤ q
    · grind
    · have : q * (w : Rat) ≤ q := by
        have := Rat.mul_le_mul_of_nonneg_left w1' (show 0 ≤ -q by grind)
        grind
      grind
  · generalize x / (w : Rat) = q at e
    by_cases z : 0 ≤ q
    · have : q ≤ q * (w : Rat) := by
        have := Rat.mul_le_mul_of_nonneg_left w1' z
        grind
      grind
    · grind
theorem pl_sub {ns : List Int} {i j : Nat} : pl ns j - pl ns i = ((plI' ns j - plI' ns i : Int) : Rat) := by unfold pl; rw [Rat.intCast_sub]
theorem plI_le {ns : List Int} (h : ∀ n ∈ ns, 1 ≤ n) {i j : Nat} (hij : i < j) (hj : j ≤ ns.length) : 1 ≤ plI' ns j - plI' ns i ∧ plI' ns j - plI' ns i ≤ ns.sum := by
  have s := pl_strict h i j hij hj
  unfold pl at s
  have s' : plI' ns i < plI' ns j := by exact_mod_cast s
  have e1 : (ns.take j).sum + (ns.drop j).sum = ns.sum := by rw [← sum_appendI, List.take_append_drop]
  have g1 : 0 ≤ (ns.drop j).sum := sum_nonnegI fun x hx => by have := h x (List.mem_of_mem_drop hx); omega
  have g2 : 0 ≤ (ns.take i).sum := sum_nonnegI fun x hx => by have := h x (List.mem_of_mem_take hx); omega
  unfold plI' at s' ⊢
  omega
/-- heights within bounds -/
theorem HtOk.of {ns : List Int} {hs : List Rat} {V D : Nat} (hr : RowOk ns) (hsum : ns.sum ≤ 72) (l : hs.length = ns.length + 1) (h : ∀ i, i ≤ ns.length → Bnd V D (hf hs i)) (h0 : 0 < D) (hD : D * L72 < b40) (hV : (V + V) * (D * L72) < b40) : HtOk ns hs := by
  have p72 := L72_pos
  have hD1 : D < b40 := Nat.lt_of_le_of_lt (Nat.le_mul_of_pos_right D p72) hD
  have hle : (V + V) * D ≤ (V + V) * (D * L72) := Nat.mul_le_mul_left _ (Nat.le_mul_of_pos_right D p72)
  have hV1 : V * D < b40 := Nat.lt_of_le_of_lt (Nat.le_trans (Nat.mul_le_mul_right D (Nat.le_add_right V V)) hle) hV
  have hV2 : (V + V) * D < b40 := Nat.lt_of_le_of_lt hle hV
  refine ⟨l, fun i hi => (h i hi).sm h0 hD1 hV1, fun i j hi hj => ((h j hj).sub (h i hi)).sm h0 hD1 hV2, fun i j hij hj => ?_⟩
  obtain ⟨w1, w2⟩ := plI_le hr.w hij hj
  unfold slope
  rw [pl_sub]
  exact (((h j hj).sub (h i (by omega))).div w1 ((Lcm.l72 hsum).2 _ w1 w2)).sm (Nat.mul_pos h0 p72) hD hV
/-- the first of several heights that bends at all bends upwards -/
def bendsB (P : Nat → Rat) : List (List Rat) → Nat → Nat → Nat → Bool
  | [], _, _, _ => false
  | h :: t, i, m, j => if slope P (hf h) i m = slope P (hf h) m j then bendsB P t i m j else decide (slope P (hf h) i m < slope P (hf h) m j)
theorem bendsB_one {P : Nat → Rat} {h : List Rat} {i m j : Nat} : bendsB P [h] i m j = decide (slope P (hf h) i m < slope P (hf h) m j) := by
  unfold bendsB bendsB
  split
  · rename_i e
    rw [e]
    exact (decide_eq_false (by grind)).symm
  · rfl
/-- the places of a stack of lines -/
def ptsOf (s : Nat) (T : List (Nat × Nat)) : List Nat := s :: T.reverse.map (·.2)
theorem ptsOf_cons {s : Nat} {q : Nat × Nat} {T : List (Nat × Nat)} : ptsOf s (q :: T) = ptsOf s T ++ [q.2] := by
  unfold ptsOf
  rw [List.reverse_cons, List.map_append]; rfl
theorem ptsOf_last {P H : Nat → Rat} {s n : Nat} {T : List (Nat × Nat)} (h : Stk P H s n T) : ∃ l, ptsOf s T = l ++ [n] := by
  cases h with
  | nil => exact ⟨[], rfl⟩
  | cons h' lt p up => exact ⟨_, ptsOf_cons⟩
theorem ptsOf_len {s : Nat} {T : List (Nat × Nat)} : (ptsOf s T).length = T.length + 1 := by unfold ptsOf; simp
theorem Stk.few {P H : Nat → Rat} {s n : Nat} {T : List (Nat × Nat)} (h : Stk P H s n T) : T.length + s ≤ n := by
  induction h with
  | nil => simp
  | cons h lt p up ih => rw [List.length_cons]; omega
/-! lines under heights -/
def Chain : Nat → List (Nat × Nat) → Nat → Prop
  | s, [], e => s = e
  | s, q :: r, e => q.1 = s ∧ q.1 < q.2 ∧ Chain q.2 r e
theorem Chain.snoc {q : Nat × Nat} : ∀ {l : List (Nat × Nat)} {s e : Nat}, Chain s l e → q.1 = e → q.1 < q.2 → Chain s (l ++ [q]) q.2
  | [], s, e, h, h1, h2 => ⟨h1.trans (show s = e from h).symm, h2, rfl⟩
  | p :: l, s, e, ⟨a, b, c⟩, h1, h2 => ⟨a, b, Chain.snoc c h1 h2⟩
theorem Chain.app : ∀ {l m : List (Nat × Nat)} {s e f : Nat}, Chain s l e → Chain e m f → Chain s (l ++ m) f
  | [], m, s, e, f, h, g => by rw [show s = e from h]; exact g
  | p :: l, m, s, e, f, ⟨a, b, c⟩, g => ⟨a, b, Chain.app c g⟩
theorem Stk.chain {P H : Nat → Rat} {s n : Nat} {T : List (Nat × Nat)} (h : Stk P H s n T) : Chain s T.reverse n := by
  induction h with
  | nil => rfl
  | cons h lt p up ih => rw [List.reverse_cons]; exact ih.snoc rfl lt
/-- a line of a stretch under the heights -/
def Under (n : Nat) (P G : Nat → Rat) (B : Nat → Prop) (q : Nat × Nat) : Prop := ∃ a b, Stretch n B a b ∧ a ≤ q.1 ∧ q.2 ≤ b ∧ ∀ m, a ≤ m → m ≤ b → G q.1 + slope P G q.1 q.2 * (P m - P q.1) ≤ G m
theorem line_shaped {P : Nat → Rat} {n a b : Nat} {c σ p : Rat} (s : Strict P n) (hb : b ≤ n) : Shaped P (fun m => c + σ * (P m - p)) a b := fun k h1 h2 => by
  have e1 := slope_lin (P := P) (X := fun m => c + σ * (P m - p)) (i := k - 1) (j := k) (s (k - 1) k (by omega) (by omega)) rfl rfl
  have e2 := slope_lin (P := P) (X := fun m => c + σ * (P m - p)) (i := k) (j := k + 1) (s k (k + 1) (by omega) (by omega)) rfl rfl
  rw [e1, e2]; exact Rat.le_refl
/-- along such a line the rest is straight -/
theorem Under.rest {n : Nat} {P G X : Nat → Rat} {B : Nat → Prop} {q : Nat × Nat} (s : Strict P n) (r : Rest n P G X B) (u : Under n P G B q) (hq : q.1 < q.2) {k : Nat} (h1 : q.1 ≤ k) (h2 : k ≤ q.2) : X k = chord P G q.1 q.2 k := by
  obtain ⟨a, b, t, u1, u2, u3⟩ := u
  have up := Rest.le_chord s r t u1 h1 h2 u2 hq
  have lo := Rest.greatest s r t (Y := fun m => G q.1 + slope P G q.1 q.2 * (P m - P q.1)) (line_shaped s t.n) u3 (k := k) (by omega) (by omega)
  unfold chord at up ⊢
  exact Rat.le_antisymm up lo
theorem chord_l {P H : Nat → Rat} {i j : Nat} : chord P H i j i = H i := by unfold chord; grind
theorem chord_r {P H : Nat → Rat} {i j : Nat} (h : P i < P j) : chord P H i j j = H j := by
  unfold chord
  have := slope_mul (H := H) h
  grind
end M
namespace M
open PySem L2
/-! ### functions of places -/
section
variable {P X Y H : Nat → Rat} {B : Nat → Prop} {n : Nat}
def stp (t : Int) (a : Rat) (k : Nat) : Rat := if t ≤ (k : Int) then a else 0
def mx (x y : Rat) : Rat := if x ≤ y then y else x
theorem mx_l (x y : Rat) : x ≤ mx x y := by unfold mx; split <;> grind
theorem mx_r (x y : Rat) : y ≤ mx x y := by unfold mx; split <;> grind
theorem mx_le {x y z : Rat} (h1 : x ≤ z) (h2 : y ≤ z) : mx x y ≤ z := by unfold mx; split <;> assumption
theorem slope_le_r (h : P k < P j) (e : X k = Y k) (l : X j ≤ Y j) : slope P X k j ≤ slope P Y k j := by
  have p := slope_mul (P := P) (H := X) h
  have q := slope_mul (P := P) (H := Y) h
  refine Rat.le_of_mul_le_mul_right (c := P j - P k) ?_ (by grind)
  rw [p, q]; grind
theorem slope_le_l (h : P i < P k) (e : X k = Y k) (l : Y i ≤ X i) : slope P X i k ≤ slope P Y i k := by
  have p := slope_mul (P := P) (H := X) h
  have q := slope_mul (P := P) (H := Y) h
  refine Rat.le_of_mul_le_mul_right (c := P k - P i) ?_ (by grind)
  rw [p, q]; grind
theorem Shapes.mx (s : Strict P n) (h : Shapes n P X B) (g : Shapes n P Y B) : Shapes n P (fun k => M.mx (X k) (Y k)) B := fun k k0 kn nb => by
  have s1 := s (k - 1) k (by omega) (by omega)
  have s2 := s k (k + 1) (by omega) (by omega)
  by_cases c : X k ≤ Y k
  · have e : M.mx (X k) (Y k) = Y k := if_pos c
    refine Rat.le_trans (slope_le_l s1 e (mx_r _ _)) (Rat.le_trans (g k k0 kn nb) (slope_le_r s2 e.symm (mx_r _ _)))
  · have e : M.mx (X k) (Y k) = X k := if_neg c
    refine Rat.le_trans (slope_le_l s1 e (mx_l _ _)) (Rat.le_trans (h k k0 kn nb) (slope_le_r s2 e.symm (mx_l _ _)))
theorem Shapes.const (c : Rat) : Shapes n P (fun _ => c) B := fun k _ _ _ => by
  unfold slope
  have e : c - c = 0 := by grind
  rw [e]
  simp only [Rat.div_def, Rat.zero_mul]
  exact Rat.le_refl
theorem Shapes.plus (h : Shapes n P X B) (c : Rat) : Shapes n P (fun k => X k + c) B := h.add (Shapes.const c)
/-- two rains exchanged: the one farther right ahead leaves no less -/
theorem swap_ge (s : Strict P n) (h0 : B 0) (hn : B n) {p q : Int} {a b : Rat} {Hp Hq A C : Nat → Rat} (ha : 0 ≤ a) (hb : 0 ≤ b) (hqp : q ≤ p) (hH : Shapes n P H B)
    (r1 : Rest n P (fun k => H k + stp p a k) Hp B) (r2 : Rest n P (fun k => Hp k + stp q b k) A B) (r3 : Rest n P (fun k => H k + stp q b k) Hq B) (r4 : Rest n P (fun k => Hq k + stp p a k) C B) {k : Nat} (hk : k ≤ n) : C k ≤ A k := by
  have F : ∀ m, m ≤ n → M.mx (H m) (C m + -b) ≤ Hp m := fun m hm => by
    refine r1.max s h0 hn (hH.mx s (r4.shapes.plus (-b))) (fun j hj => mx_le ?_ ?_) hm
    · unfold stp; split <;> grind
    · have e1 := r4.le j hj
      have e2 := r3.le j hj
      try simp only at e1 e2
      have : stp q b j ≤ b := by unfold stp; split <;> grind
      grind
  refine r2.max s h0 hn r4.shapes (fun m hm => ?_) hk
  have f := F m hm
  have f1 := Rat.le_trans (mx_l _ _) f
  have f2 := Rat.le_trans (mx_r _ _) f
  show C m ≤ Hp m + stp q b m
  by_cases c : q ≤ (m : Int)
  · rw [stp, if_pos c]; grind
  · have e1 := r4.le m hm
    have e2 := r3.le m hm
    try simp only at e1 e2
    rw [stp, if_neg (by omega)] at e1
    rw [stp, if_neg c] at e2
    rw [stp, if_neg c]; grind
/-- what a rain into tank t alone leaves, of one of it -/
def lowL (P : Nat → Rat) (n : Nat) (t : Int) (k : Nat) : Rat := if t ≤ (k : Int) + 1 then (P k - P (t - 1).toNat) / (P n - P (t - 1).toNat) else 0
theorem lowL_at {t : Int} (s : Strict P n) (h1 : 1 ≤ t) (h2 : t ≤ n) : P (t - 1).toNat < P n := s _ _ (by omega) (Nat.le_refl _)
theorem lowL_le (s : Strict P n) {t : Int} (h1 : 1 ≤ t) (h2 : t ≤ n) {k : Nat} (hk : k ≤ n) : lowL P n t k ≤ stp t 1 k ∧ 0 ≤ lowL P n t k := by
  have d := lowL_at s h1 h2
  have dp : 0 < P n - P (t - 1).toNat := by grind
  unfold lowL stp
  by_cases c : t ≤ (k : Int)
  · rw [if_pos c, if_pos (by omega)]
    have m1 := s.mono (i := (t - 1).toNat) (j := k) (by omega) hk
    have m2 := s.mono (i := k) (j := n) hk (Nat.le_refl _)
    have e : (P k - P (t - 1).toNat) / (P n - P (t - 1).toNat) * (P n - P (t - 1).toNat) = P k - P (t - 1).toNat := by
      rw [Rat.div_def, Rat.mul_assoc, Rat.inv_mul_cancel _ (by grind), Rat.mul_one]
    constructor
    · refine Rat.le_of_mul_le_mul_right (c := P n - P (t - 1).toNat) ?_ dp
      rw [e]; grind
    · refine Rat.le_of_mul_le_mul_right (c := P n - P (t - 1).toNat) ?_ dp
      rw [e]; grind
  · rw [if_neg c]
    by_cases c2 : t ≤ (k : Int) + 1
    · rw [if_pos c2]
      have e : (t - 1).toNat = k := by omega
      rw [e]
      have : P k - P k = 0 := by grind
      rw [this, Rat.div_def, Rat.zero_mul]
      exact ⟨Rat.le_refl, Rat.le_refl⟩
    · rw [if_neg c2]; exact ⟨Rat.le_refl, Rat.le_refl⟩
theorem lowL_lin {t : Int} {k : Nat} (h : t ≤ (k : Int) + 1) : lowL P n t k = -(P (t - 1).toNat / (P n - P (t - 1).toNat)) + (P n - P (t - 1).toNat)⁻¹ * P k := by
  unfold lowL
  rw [if_pos h]
  simp only [Rat.div_def]
  grind
theorem lowL_shapes (s : Strict P n) {t : Int} (h1 : 1 ≤ t) (h2 : t ≤ n) : Shapes n P (lowL P n t) B := fun k k0 kn nb => by
  have s1 := s (k - 1) k (by omega) (by omega)
  have s2 := s k (k + 1) (by omega) (by omega)
  have m1 := slope_mul (P := P) (H := lowL P n t) s1
  have m2 := slope_mul (P := P) (H := lowL P n t) s2
  have g := lowL_le s h1 h2 (k := k) (by omega)
  have g1 := lowL_le s h1 h2 (k := k - 1) (by omega)
  have g2 := lowL_le s h1 h2 (k := k + 1) (by omega)
  by_cases c : t ≤ ((k - 1 : Nat) : Int) + 1
  · have l0 := lowL_lin (P := P) (n := n) c
    have l1 := lowL_lin (P := P) (n := n) (t := t) (k := k) (by omega)
    have l2 := lowL_lin (P := P) (n := n) (t := t) (k := k + 1) (by omega)
    rw [l0, l1] at m1
    rw [l1, l2] at m2
    generalize (P n - P (t - 1).toNat)⁻¹ = u at *
    have a1 : slope P (lowL P n t) (k - 1) k = u := by
      have : (slope P (lowL P n t) (k - 1) k - u) * (P k - P (k - 1)) = 0 := by grind
      rcases Rat.mul_eq_zero.mp this with z | z <;> grind
    have a2 : slope P (lowL P n t) k (k + 1) = u := by
      have : (slope P (lowL P n t) k (k + 1) - u) * (P (k + 1) - P k) = 0 := by grind
      rcases Rat.mul_eq_zero.mp this with z | z <;> grind
    rw [a1, a2]; exact Rat.le_refl
  · have e0 : lowL P n t (k - 1) = 0 := by unfold lowL; rw [if_neg c]
    have e1 : lowL P n t k = 0 := by
      have := g.1
      unfold stp at this
      rw [if_neg (by omega)] at this
      exact Rat.le_antisymm this g.2
    rw [e0, e1] at m1
    rw [e1] at m2
    have a1 : slope P (lowL P n t) (k - 1) k = 0 := by
      have : slope P (lowL P n t) (k - 1) k * (P k - P (k - 1)) = 0 := by grind
      rcases Rat.mul_eq_zero.mp this with z | z <;> grind
    rw [a1]
    refine Rat.le_of_mul_le_mul_right (c := P (k + 1) - P k) ?_ (by grind)
    rw [m2]; grind
theorem stp_scale {t : Int} {a : Rat} {k : Nat} : stp t a k = a * stp t 1 k := by unfold stp; split <;> grind
theorem low_step (s : Strict P n) (h0 : B 0) (hn : B n) {t : Int} {a : Rat} (ha : 0 ≤ a) (h1 : 1 ≤ t) (h2 : t ≤ n) (hH : Shapes n P H B) (r : Rest n P (fun k => H k + stp t a k) X B) {k : Nat} (hk : k ≤ n) : H k + a * lowL P n t k ≤ X k := by
  refine r.max s h0 hn (hH.add (Y := fun k => a * lowL P n t k) fun k q1 q2 q3 => ?_) (fun m hm => ?_) hk
  · rw [slope_scale, slope_scale]
    have := lowL_shapes s h1 h2 (B := B) k q1 q2 q3
    have := mul_mono this ha
    grind
  · have := mul_mono (lowL_le s h1 h2 hm).1 ha
    show _ ≤ _ + stp t a m
    rw [stp_scale]; grind
/-- where the water ahead lies straight from the rain's tank on -/
theorem low_exact (s : Strict P n) (h0 : B 0) (hn : B n) (hno : ∀ j, 0 < j → j < n → ¬ B j) {t : Int} {a c σ : Rat} (ha : 0 ≤ a) (h1 : 1 ≤ t) (h2 : t ≤ n) (hH : Shapes n P H B) (lin : ∀ k : Nat, t ≤ (k : Int) + 1 → k ≤ n → H k = c + σ * P k)
    (r : Rest n P (fun k => H k + stp t a k) X B) {k : Nat} (hk : k ≤ n) : X k = H k + a * lowL P n t k := by
  refine Rat.le_antisymm ?_ (low_step s h0 hn ha h1 h2 hH r hk)
  by_cases q : t ≤ (k : Int) + 1
  · have st : Stretch n B 0 n := ⟨h0, hn, Nat.zero_le _, Nat.le_refl _, fun j => hno j⟩
    have i0 : (t - 1).toNat < n := by omega
    have ch := (r.shaped st).le_chord s (Nat.le_refl _) (i := (t - 1).toNat) (j := n) (k := k) (Nat.zero_le _) (by omega) hk (Nat.le_refl _) i0
    refine Rat.le_trans ch ?_
    have cm := chord_mono (X := X) (Y := fun k => H k + stp t a k) s (Nat.le_refl n) i0 (k := k) (by omega) hk (r.le _ (by omega)) (r.le _ (Nat.le_refl _))
    refine Rat.le_trans cm ?_
    have d := lowL_at s h1 h2
    unfold chord
    have sm := slope_mul (P := P) (H := fun k => H k + stp t a k) d
    try simp only at sm
    have e1 : stp t a (t - 1).toNat = 0 := by unfold stp; rw [if_neg (by omega)]
    have e2 : stp t a n = a := by unfold stp; rw [if_pos (by omega)]
    have l1 := lin (t - 1).toNat (by omega) (by omega)
    have l2 := lin n (by omega) (Nat.le_refl _)
    have l3 := lin k q hk
    rw [e1, e2, l1, l2] at sm
    try simp only
    rw [e1, l1, l3]
    unfold lowL
    rw [if_pos q]
    have e : (P k - P (t - 1).toNat) / (P n - P (t - 1).toNat) * (P n - P (t - 1).toNat) = P k - P (t - 1).toNat := by
      rw [Rat.div_def, Rat.mul_assoc, Rat.inv_mul_cancel _ (by grind), Rat.mul_one]
    generalize (P k - P (t - 1).toNat) / (P n - P (t - 1).toNat) = w at *
    generalize slope P (fun k => H k + stp t a k) (t - 1).toNat n = v at *
    rw [← e]
    have : v * (w * (P n - P (t - 1).toNat)) = w * (v * (P n - P (t - 1).toNat)) := by grind
    rw [this, sm]
    have : P k = P (t - 1).toNat + w * (P n - P (t - 1).toNat) := by grind
    rw [this]
    grind
  · have := r.le k hk
    try simp only at this
    unfold stp at this
    rw [if_neg (by omega)] at this
    unfold lowL
    rw [if_neg q]; grind
/-- behind what fell from the rain's tank on -/
theorem fall_exact (s : Strict P n) (h0 : B 0) (hn : B n) {t : Int} {a : Rat} {S X' Y' : Nat → Rat} (ha : 0 ≤ a) (hS : ∀ k, k ≤ n → 0 ≤ S k) (hz : ∀ k : Nat, k ≤ n → (k : Int) < t → S k = 0)
    (r : Rest n P S X B) (r1 : Rest n P (fun k => X k + stp t a k) X' B) (r2 : Rest n P (fun k => S k + stp t a k) Y' B) {k : Nat} (hk : k ≤ n) : X' k = Y' k := by
  refine Rat.le_antisymm (r1.mono s h0 hn r2 (fun _ h => h) (fun m hm => ?_) hk) (r1.max s h0 hn r2.shapes (fun m hm => ?_) hk)
  · have := r.le m hm
    try simp only
    grind
  · have F : M.mx 0 (Y' m + -a) ≤ X m := by
      refine r.max s h0 hn ((Shapes.const 0).mx s (r2.shapes.plus (-a))) (fun j hj => mx_le (hS j hj) ?_) hm
      have e := r2.le j hj
      try simp only at e
      have : stp t a j ≤ a := by unfold stp; split <;> grind
      grind
    have f1 := Rat.le_trans (mx_l _ _) F
    have f2 := Rat.le_trans (mx_r _ _) F
    show Y' m ≤ X m + stp t a m
    by_cases c : t ≤ (m : Int)
    · rw [stp, if_pos c]; grind
    · have e := r2.le m hm
      try simp only at e
      rw [hz m hm (by omega), stp, if_neg c] at e
      rw [stp, if_neg c]; grind
end
end M
namespace M
open PySem L2
section
variable {ns : List Int} {B D0 n : Nat} {rs A A' : List (Int × Rat)} {r : Int × Rat}
theorem cn0 : cutB n [] 0 := .inl rfl
theorem cnn : cutB n [] n := .inr (.inl rfl)
theorem cno : ∀ j, 0 < j → j < n → ¬ cutB n [] j := fun j h1 h2 h => by
  rcases h with h | h | h
  · omega
  · omega
  · exact nomatch h
/-- good rains -/
def Rns (ns : List Int) (B D0 : Nat) (rs : List (Int × Rat)) : Prop := ∀ r ∈ rs, RnOk ns.length B D0 r
theorem Rns.l (h : Rns ns B D0 (A ++ A')) : Rns ns B D0 A := fun x hx => h x (List.mem_append_left _ hx)
theorem Rns.ri (h : Rns ns B D0 (A ++ A')) : Rns ns B D0 A' := fun x hx => h x (List.mem_append_right _ hx)
theorem fall_rest (hr : RowOk ns) (hL : Lcm ns L72) (h : Rns ns B D0 (rs ++ [r])) : Rest ns.length (pl ns) (fun k => hp (fallR ns rs) k + stp r.1 r.2 k) (hp (fallR ns (rs ++ [r]))) (cutB ns.length []) := by
  have ho := h r (List.mem_append_right _ (List.mem_singleton.mpr rfl))
  obtain ⟨l, w⟩ := fallR_ok hr hL h.l
  have hl1 : (fallR ns rs).length = (oneR ns.length r.1 r.2).length := by rw [oneR_len, l]
  have pw := w.put (ho.wok.den (L := L72 ^ rs.length)) hl1
  have s := (settle_ok (xs := putR (fallR ns rs) (oneR ns.length r.1 r.2)) (bs := []) hr (by rw [putR_len hl1, l]) Flaps.nil_ hL pw).2.1
  rw [← fallR_snoc] at s
  refine s.congr (fun k hk => ?_) (fun _ _ => rfl) fun _ _ => Iff.rfl
  rw [putR_hp hl1, hp_one ho.lo k hk]; rfl
theorem fall_nil (k : Nat) : hp (fallR ns []) k = 0 := by
  show hp (List.replicate ns.length 0) k = 0
  unfold hp
  rw [List.take_replicate]
  generalize min k ns.length = m
  induction m with
  | zero => rfl
  | succ m ih => rw [List.replicate_succ, List.sum_cons, ih, Rat.add_zero]
theorem fall_shapes (hr : RowOk ns) (hL : Lcm ns L72) (h : Rns ns B D0 rs) : Shapes ns.length (pl ns) (hp (fallR ns rs)) (cutB ns.length []) := by
  refine snoc_ind (P := fun rs => Rns ns B D0 rs → Shapes ns.length (pl ns) (hp (fallR ns rs)) (cutB ns.length [])) rs (fun _ => ?_) (fun rs r ih h => (fall_rest hr hL h).shapes) h
  have e : hp (fallR ns []) = fun _ => 0 := funext fun k => fall_nil k
  rw [e]
  exact Shapes.const 0
/-! sums -/
def sumS (rs : List (Int × Rat)) (k : Nat) : Rat := (rs.map fun r => stp r.1 r.2 k).sum
noncomputable def lowF (ns : List Int) (rs : List (Int × Rat)) (k : Nat) : Rat := (rs.map fun r => r.2 * lowL (pl ns) ns.length r.1 k).sum
theorem sumS_snoc {k : Nat} : sumS (rs ++ [r]) k = sumS rs k + stp r.1 r.2 k := by
  unfold sumS; rw [List.map_append, sum_append]; simp [Rat.add_zero]
theorem lowF_snoc {k : Nat} : lowF ns (rs ++ [r]) k = lowF ns rs k + r.2 * lowL (pl ns) ns.length r.1 k := by
  unfold lowF; rw [List.map_append, sum_append]; simp [Rat.add_zero]
theorem perm_sum {l m : List Rat} (p : l.Perm m) : l.sum = m.sum := by
  induction p with
  | nil => rfl
  | cons x _ ih => rw [List.sum_cons, List.sum_cons, ih]
  | swap x y l => rw [List.sum_cons, List.sum_cons, List.sum_cons, List.sum_cons]; grind
  | trans _ _ a b => exact a.trans b
theorem sumS_perm (p : A.Perm A') (k : Nat) : sumS A k = sumS A' k := perm_sum (p.map _)
theorem lowF_perm (p : A.Perm A') (k : Nat) : lowF ns A k = lowF ns A' k := perm_sum (p.map _)
theorem sumS_nn (h : Rns ns B D0 rs) (k : Nat) : 0 ≤ sumS rs k := by
  refine snoc_ind (P := fun rs => Rns ns B D0 rs → 0 ≤ sumS rs k) rs (fun _ => Rat.le_refl) (fun rs r ih h => ?_) h
  rw [sumS_snoc]
  have := ih h.l
  have := (h.ri r (List.mem_singleton.mpr rfl)).nn
  unfold stp; split <;> grind
theorem rains_hp (h : Rns ns B D0 rs) {k : Nat} (hk : k ≤ ns.length) : hp (rainsR ns.length rs) k = sumS rs k := by
  refine snoc_ind (P := fun rs => Rns ns B D0 rs → hp (rainsR ns.length rs) k = sumS rs k) rs (fun _ => fall_nil (ns := ns) k) (fun rs r ih h => ?_) h
  have hl1 : (rainsR ns.length rs).length = (oneR ns.length r.1 r.2).length := by rw [oneR_len, (rainsR_ok h.l).1]
  rw [rainsR_snoc, putR_hp hl1, ih h.l, hp_one (h.ri r (List.mem_singleton.mpr rfl)).lo k hk, sumS_snoc]; rfl
/-- what all together leave -/
noncomputable def mostR (ns : List Int) (rs : List (Int × Rat)) : List Rat := settle ns (rainsR ns.length rs) []
theorem most_rest (hr : RowOk ns) (hL : Lcm ns L72) (h : Rns ns B D0 rs) : (mostR ns rs).length = ns.length ∧ Rest ns.length (pl ns) (sumS rs) (hp (mostR ns rs)) (cutB ns.length []) := by
  obtain ⟨l, w⟩ := rainsR_ok h
  obtain ⟨e1, s, _⟩ := settle_ok (xs := rainsR ns.length rs) (bs := []) hr l.symm Flaps.nil_ hL w
  exact ⟨e1, s.congr (fun k hk => rains_hp h hk) (fun _ _ => rfl) fun _ _ => Iff.rfl⟩
theorem fall_len (hr : RowOk ns) (hL : Lcm ns L72) (h : Rns ns B D0 rs) : (fallR ns rs).length = ns.length := (fallR_ok hr hL h).1
/-! bounds -/
theorem fall_low (hr : RowOk ns) (hL : Lcm ns L72) (h : Rns ns B D0 rs) {k : Nat} (hk : k ≤ ns.length) : lowF ns rs k ≤ hp (fallR ns rs) k := by
  refine snoc_ind (P := fun rs => Rns ns B D0 rs → lowF ns rs k ≤ hp (fallR ns rs) k) rs (fun _ => ?_) (fun rs r ih h => ?_) h
  · rw [fall_nil]; exact Rat.le_refl
  · have ho := h.ri r (List.mem_singleton.mpr rfl)
    have := low_step hr.strict cn0 cnn ho.nn ho.lo ho.hi (fall_shapes hr hL h.l) (fall_rest hr hL h) hk
    have := ih h.l
    rw [lowF_snoc]; grind
theorem fall_up (hr : RowOk ns) (hL : Lcm ns L72) (h : Rns ns B D0 rs) {k : Nat} (hk : k ≤ ns.length) : hp (fallR ns rs) k ≤ sumS rs k := by
  refine snoc_ind (P := fun rs => Rns ns B D0 rs → hp (fallR ns rs) k ≤ sumS rs k) rs (fun _ => ?_) (fun rs r ih h => ?_) h
  · rw [fall_nil]; exact Rat.le_refl
  · have := (fall_rest hr hL h).le k hk
    have := ih h.l
    rw [sumS_snoc]; grind
theorem fall_most (hr : RowOk ns) (hL : Lcm ns L72) (h : Rns ns B D0 rs) {k : Nat} (hk : k ≤ ns.length) : hp (fallR ns rs) k ≤ hp (mostR ns rs) k :=
  (most_rest hr hL h).2.max hr.strict cn0 cnn (fall_shapes hr hL h) (fun m hm => fall_up hr hL h hm) hk
theorem low_lin {t : Int} (h : ∀ r ∈ rs, r.1 ≤ t) : ∃ c σ : Rat, ∀ k : Nat, t ≤ (k : Int) + 1 → lowF ns rs k = c + σ * pl ns k := by
  induction rs with
  | nil => exact ⟨0, 0, fun k _ => by show (0 : Rat) = _; grind⟩
  | cons x rs ih =>
    obtain ⟨c, σ, e⟩ := ih fun r hr => h r (List.mem_cons_of_mem _ hr)
    have hx := h x List.mem_cons_self
    refine ⟨c + x.2 * -(pl ns (x.1 - 1).toNat / (pl ns ns.length - pl ns (x.1 - 1).toNat)), σ + x.2 * (pl ns ns.length - pl ns (x.1 - 1).toNat)⁻¹, fun k hk => ?_⟩
    have e2 := lowL_lin (P := pl ns) (n := ns.length) (t := x.1) (k := k) (by omega)
    have : lowF ns (x :: rs) k = x.2 * lowL (pl ns) ns.length x.1 k + lowF ns rs k := by unfold lowF; rw [List.map_cons, List.sum_cons]
    rw [this, e k hk, e2]; grind
theorem fall_rising (hr : RowOk ns) (hL : Lcm ns L72) (h : Rns ns B D0 rs) (hs : rs.Pairwise (fun a b => a.1 ≤ b.1)) {k : Nat} (hk : k ≤ ns.length) : hp (fallR ns rs) k = lowF ns rs k := by
  refine snoc_ind (P := fun rs => Rns ns B D0 rs → rs.Pairwise (fun a b => a.1 ≤ b.1) → ∀ k, k ≤ ns.length → hp (fallR ns rs) k = lowF ns rs k) rs (fun _ _ k _ => ?_) (fun rs r ih h hs k hk => ?_) h hs k hk
  · rw [fall_nil]; rfl
  · have ho := h.ri r (List.mem_singleton.mpr rfl)
    obtain ⟨s1, _, s3⟩ := List.pairwise_append.mp hs
    obtain ⟨c, σ, lin⟩ := low_lin (ns := ns) (rs := rs) (t := r.1) fun x hx => s3 x hx r (List.mem_singleton.mpr rfl)
    have := low_exact hr.strict cn0 cnn cno ho.nn ho.lo ho.hi (fall_shapes hr hL h.l) (fun k h1 h2 => (ih h.l s1 k h2).trans (lin k h1)) (fall_rest hr hL h) hk
    rw [this, lowF_snoc, ih h.l s1 k hk]
theorem sumS_zero {t : Int} {k : Nat} (h : ∀ r ∈ rs, t ≤ r.1) (hk : (k : Int) < t) : sumS rs k = 0 := by
  induction rs with
  | nil => rfl
  | cons x rs ih =>
    have hx := h x List.mem_cons_self
    have e := ih fun r hr => h r (List.mem_cons_of_mem _ hr)
    unfold sumS at e ⊢
    rw [List.map_cons, List.sum_cons, e]
    unfold stp
    rw [if_neg (by omega)]; grind
theorem fall_falling (hr : RowOk ns) (hL : Lcm ns L72) (h : Rns ns B D0 rs) (hs : rs.Pairwise (fun a b => b.1 ≤ a.1)) {k : Nat} (hk : k ≤ ns.length) : hp (fallR ns rs) k = hp (mostR ns rs) k := by
  refine snoc_ind (P := fun rs => Rns ns B D0 rs → rs.Pairwise (fun a b => b.1 ≤ a.1) → ∀ k, k ≤ ns.length → hp (fallR ns rs) k = hp (mostR ns rs) k) rs (fun h _ k hk => ?_) (fun rs r ih h hs k hk => ?_) h hs k hk
  · refine Rat.le_antisymm (fall_most hr hL h hk) ?_
    have := (most_rest hr hL h).2.le k hk
    rw [fall_nil]; exact this
  · have ho := h.ri r (List.mem_singleton.mpr rfl)
    obtain ⟨s1, _, s3⟩ := List.pairwise_append.mp hs
    have r1 := (fall_rest hr hL h).congr (H' := fun k => hp (mostR ns rs) k + stp r.1 r.2 k) (fun k hk => by rw [ih h.l s1 k hk]) (fun _ _ => rfl) fun _ _ => Iff.rfl
    have r2 := (most_rest hr hL h).2.congr (H' := fun k => sumS rs k + stp r.1 r.2 k) (fun k hk => sumS_snoc) (fun _ _ => rfl) fun _ _ => Iff.rfl
    exact fall_exact hr.strict cn0 cnn ho.nn (fun k _ => sumS_nn h.l k) (fun k _ lt => sumS_zero (fun x hx => s3 x hx r (List.mem_singleton.mpr rfl)) lt) (most_rest hr hL h.l).2 r1 r2 hk
/-! another order -/
theorem fall_post (hr : RowOk ns) (hL : Lcm ns L72) {C : List (Int × Rat)} (h : Rns ns B D0 (A ++ C)) (h' : Rns ns B D0 (A' ++ C)) (l : ∀ k, k ≤ ns.length → hp (fallR ns A) k ≤ hp (fallR ns A') k) : ∀ k, k ≤ ns.length → hp (fallR ns (A ++ C)) k ≤ hp (fallR ns (A' ++ C)) k := by
  refine snoc_ind (P := fun C => Rns ns B D0 (A ++ C) → Rns ns B D0 (A' ++ C) → ∀ k, k ≤ ns.length → hp (fallR ns (A ++ C)) k ≤ hp (fallR ns (A' ++ C)) k) C (fun _ _ => ?_) (fun C r ih h h' k hk => ?_) h h'
  · rw [List.append_nil, List.append_nil]; exact l
  · rw [← List.append_assoc] at h h' ⊢
    rw [← List.append_assoc]
    refine (fall_rest hr hL h).mono hr.strict cn0 cnn (fall_rest hr hL h') (fun _ h => h) (fun m hm => ?_) hk
    have := ih h.l h'.l m hm
    show hp (fallR ns (A ++ C)) m + _ ≤ hp (fallR ns (A' ++ C)) m + _
    grind
theorem fall_swap (hr : RowOk ns) (hL : Lcm ns L72) {C : List (Int × Rat)} {p q : Int × Rat} (h : Rns ns B D0 (A ++ [q, p] ++ C)) (hqp : q.1 ≤ p.1) : ∀ k, k ≤ ns.length → hp (fallR ns (A ++ [q, p] ++ C)) k ≤ hp (fallR ns (A ++ [p, q] ++ C)) k := by
  have hq : RnOk ns.length B D0 q := h.l.ri q (by simp)
  have hp1 : RnOk ns.length B D0 p := h.l.ri p (by simp)
  have h' : Rns ns B D0 (A ++ [p, q] ++ C) := fun x hx => by
    simp only [List.mem_append, List.mem_cons, List.not_mem_nil, or_false] at hx
    rcases hx with (hx | hx | hx) | hx
    · exact h.l.l x hx
    · rw [hx]; exact hp1
    · rw [hx]; exact hq
    · exact h.ri x hx
  refine fall_post hr hL h h' fun k hk => ?_
  have e1 : A ++ [q, p] = A ++ [q] ++ [p] := by simp
  have e2 : A ++ [p, q] = A ++ [p] ++ [q] := by simp
  have g1 : Rns ns B D0 (A ++ [q] ++ [p]) := e1 ▸ h.l
  have g2 : Rns ns B D0 (A ++ [p] ++ [q]) := e2 ▸ h'.l
  rw [e1, e2]
  exact swap_ge hr.strict cn0 cnn hp1.nn hq.nn hqp (fall_shapes hr hL h.l.l) (fall_rest hr hL g2.l) (fall_rest hr hL g2) (fall_rest hr hL g1.l) (fall_rest hr hL g1) hk
/-! as lists -/
theorem rains_perm (h : Rns ns B D0 A) (p : A.Perm A') : rainsR ns.length A = rainsR ns.length A' := by
  have h' : Rns ns B D0 A' := fun x hx => h x (p.mem_iff.mpr hx)
  refine hp_ext ((rainsR_ok h).1.trans (rainsR_ok h').1.symm) fun k hk => ?_
  rw [(rainsR_ok h).1] at hk
  rw [rains_hp h hk, rains_hp h' hk, sumS_perm p]
theorem most_perm (h : Rns ns B D0 A) (p : A.Perm A') : mostR ns A = mostR ns A' := by unfold mostR; rw [rains_perm h p]
/-- the least -/
noncomputable def lowR (ns : List Int) (rs : List (Int × Rat)) : List Rat := (List.range (ns.length + 1)).map (lowF ns rs)
theorem lowR_len : (lowR ns rs).length = ns.length + 1 := by unfold lowR; rw [List.length_map, List.length_range]
theorem lowR_get {k : Nat} (hk : k ≤ ns.length) : (lowR ns rs)[k]? = some (lowF ns rs k) := by
  unfold lowR
  rw [List.getElem?_map, List.getElem?_range (by omega)]; rfl
theorem lowR_perm (p : A.Perm A') : lowR ns A = lowR ns A' := by unfold lowR; rw [show lowF ns A = lowF ns A' from funext (lowF_perm p)]
theorem ps_hp {xs : List Rat} {k : Nat} (h : k ≤ xs.length) : (psR xs)[k]? = some (hp xs k) := psR_get h
theorem ps_low (hr : RowOk ns) (hL : Lcm ns L72) (h : Rns ns B D0 rs) (hs : rs.Pairwise (fun a b => a.1 ≤ b.1)) : psR (fallR ns rs) = lowR ns rs := by
  have l := fall_len hr hL h
  refine List.ext_getElem? fun k => ?_
  by_cases hk : k ≤ ns.length
  · rw [ps_hp (by omega), lowR_get hk, fall_rising hr hL h hs hk]
  · rw [List.getElem?_eq_none (by rw [psR_len]; omega), List.getElem?_eq_none (by rw [lowR_len]; omega)]
theorem fall_eq_most (hr : RowOk ns) (hL : Lcm ns L72) (h : Rns ns B D0 rs) (hs : rs.Pairwise (fun a b => b.1 ≤ a.1)) : fallR ns rs = mostR ns rs :=
  hp_ext ((fall_len hr hL h).trans (most_rest hr hL h).1.symm) fun k hk => fall_falling hr hL h hs (by rw [fall_len hr hL h] at hk; exact hk)
end
end M
namespace M
open PySem L2
def qB : Str := (("bounds" : Str) ++ ".<locals>." ++ "<lambda>")
def F_bounds (PT : Addr) : AF := fun ds M k _ => ∃ (d e : D) (ns : List Int) (rs : List (Int × Rat)) (B D0 : Nat), ds = [d, e] ∧ rdS M d = some (ns.map .int) ∧ rdS M e = some (rs.map rnD) ∧ M PT = some (.obj (.tbl qB)) ∧ RowOk ns ∧ ns.sum ≤ 72 ∧ rs.length ≤ 15 ∧ HRm B D0 ∧ (∀ r ∈ rs, RnOk ns.length B D0 r ∧ 0 < r.2) ∧
  k (.tup [.lst ((lowR ns rs).map frD), .lst ((psR (mostR ns rs)).map frD)]) M
/-- bounds -/
def b_bounds (PT : Addr) : AS := (aSeq (aDrop (aCall noX F_need_rains [] (aCons (aVar 0) (aCons (aVar 1) aNil))))
  (aSeq (aSet 2 (aSortK PT (("bounds" : Str) ++ ".<locals>." ++ "<lambda>") false (aVar 1)))
  (aRet (aTup (aCons (aFrz (aCall noX F_heaped_up [] (aCons (aCall noX F_fallen [] (aCons (aVar 0) (aCons (aVar 2) aNil))) aNil))) (aCons (aFrz (aCall noX F_heaped_up [] (aCons (aCall noX F_at_once [] (aCons (aVar 0) (aCons (aVar 1) aNil))) aNil))) aNil))))))
theorem len_bounds (PT : Addr) : ∀ ds M k x, F_bounds PT ds M k x → ds.length = 2 := by
  rintro ds M k x ⟨a, b, _, _, _, _, rfl, _⟩; rfl
def prD (r : Int × Rat) : Int × List D := (r.1, [frD r.2])
theorem rn_pairs (rs : List (Int × Rat)) : rs.map rnD = (rs.map prD).map pairD := by
  rw [List.map_map]; rfl
theorem perm_map_inv {α β : Type} {f : α → β} {l : List α} {m : List β} (p : m.Perm (l.map f)) : ∃ l' : List α, m = l'.map f ∧ l'.Perm l := by
  have h : ∀ {m m' : List β}, m.Perm m' → ∀ l : List α, m' = l.map f → ∃ l' : List α, m = l'.map f ∧ l'.Perm l := by
    intro m m' p
    induction p with
    | nil => intro l e; exact ⟨[], rfl, by rw [List.map_eq_nil_iff.mp e.symm]⟩
    | cons x p ih =>
      intro l e
      obtain ⟨a, t, rfl, rfl, rfl⟩ := List.map_eq_cons_iff.mp e.symm
      obtain ⟨t', e1, p1⟩ := ih t rfl
      exact ⟨a :: t', by rw [e1]; rfl, p1.cons a⟩
    | swap x y t0 =>
      intro l e
      obtain ⟨a, t, rfl, rfl, e2⟩ := List.map_eq_cons_iff.mp e.symm
      obtain ⟨b, t2, rfl, rfl, rfl⟩ := List.map_eq_cons_iff.mp e2
      exact ⟨b :: a :: t2, rfl, List.Perm.swap a b t2⟩
    | trans p1 p2 i1 i2 =>
      intro l e
      obtain ⟨l2, e2, q2⟩ := i2 l e
      obtain ⟨l1, e1, q1⟩ := i1 l2 e2
      exact ⟨l1, e1, q1.trans q2⟩
  exact h p l rfl
theorem ok_bounds (PT : Addr) : ∀ ds M k x, F_bounds PT ds M k x → b_bounds PT { nx := fun _ M' => fin k .non M', rt := fin k } (startG 3 ds) M := by
  rintro ds M k _ ⟨d, e, ns, rs, B, D0, rfl, hd, he, hT, hr, hs, hl, hB, hrn, hk⟩
  have hlc : Lcm ns L72 := Lcm.l72 hs
  walk_at "st"
  unfold b_bounds
  walk_at "ev"
  have sx : ∀ r ∈ rs, Sm r.2 := fun r hm => by
    have ho := (hrn r hm).1
    exact (hB.rm (i := 0) (by omega)).sm (x := r.2) (by rw [Nat.pow_zero, Nat.mul_one]; exact ho.den) ho.nn (by rw [Nat.zero_add, Nat.mul_one]; exact ho.le)
  refine ⟨d, e, ns, rs, rfl, hd, he, hr.ne, hr.w, hr.l, by omega, fun r hm => ⟨(hrn r hm).1.lo, (hrn r hm).1.hi, (hrn r hm).2, sx r hm⟩, ?_⟩
  walk_at "ev"
  unfold aSortK
  walk_at "ev"
  refine ⟨hT, rs.map prD, by rw [← rn_pairs]; exact he, fun rs1 p1 s1 => ?_⟩
  obtain ⟨rs', rfl, p2⟩ := perm_map_inv p1
  have s2 : rs'.Pairwise (fun a b => a.1 ≤ b.1) := by rw [List.pairwise_map] at s1; exact s1
  have good : Rns ns B D0 rs := fun r hm => (hrn r hm).1
  have good' : Rns ns B D0 rs' := fun r hm => good r (p2.mem_iff.mp hm)
  rw [← rn_pairs]
  walk_at "ev"
  refine ⟨d, _, ns, rs', B, D0, rfl, hd, rfl, hr, hs, by rw [p2.length_eq]; exact hl, hB, good', ?_⟩
  obtain ⟨fl, fw⟩ := fallR_ok hr hlc good'
  have R0 := hB.rm (i := rs'.length) (by rw [p2.length_eq]; omega)
  have fw1 := fw.mono (W := B * (rs'.length + 1)) (Nat.mul_le_mul_left _ (by omega))
  walk_at "ev"
  refine ⟨_, _, rfl, rfl, by rw [fl]; have := hr.l; omega, fw1.smS R0, fun p hp => ?_⟩
  walk_at "ev"
  rw [dl_up hp]
  refine ⟨d, e, ns, rs, B, D0, rfl, hd, he, hr, hs, hl, hB, good, ?_⟩
  obtain ⟨ml, mr⟩ := most_rest hr hlc good
  obtain ⟨rl, rw0⟩ := rainsR_ok good
  obtain ⟨_, _, mw⟩ := settle_ok (xs := rainsR ns.length rs) (bs := []) hr rl.symm Flaps.nil_ hlc rw0
  have mw1 := mw.mono (W := B * (rs.length + 1)) (Nat.mul_le_mul_left _ (by omega))
  have R0 := hB.rm (i := rs.length) (by omega)
  have R1 := hB.rm (i := 1) (by omega)
  rw [Nat.pow_one] at R1
  have R2 : Rm (B * (rs.length + 1)) (D0 * L72) := ⟨R1.d0, R1.d, R0.v⟩
  refine ⟨.lst ((mostR ns rs).map frD), mostR ns rs, rfl, rfl, by rw [ml]; have := hr.l; omega, mw1.smS R2, fun p hp => ?_⟩
  walk_at "ev"
  rw [dl_up hp, ps_low hr hlc good' s2, lowR_perm p2]
  exact fin.of hk
end M
namespace M
open PySem L2
def F_bounds_x (EC : EA) (PT : Addr) : AF := fun ds M k x => ∃ (d e : D) (ns : List Int) (rs : List (Int × Rat)), ds = [d, e] ∧ rdS M d = some (ns.map .int) ∧ rdS M e = some (rs.map rnD) ∧ ns.length ≤ 1000 ∧ rs.length ≤ 1000 ∧ (∀ r ∈ rs, Sm r.2) ∧
  RainsAns EC ns rs (∃ B D0 : Nat, M PT = some (.obj (.tbl qB)) ∧ RowOk ns ∧ ns.sum ≤ 72 ∧ rs.length ≤ 15 ∧ HRm B D0 ∧ (∀ r ∈ rs, RnOk ns.length B D0 r ∧ 0 < r.2) ∧ k (.tup [.lst ((lowR ns rs).map frD), .lst ((psR (mostR ns rs)).map frD)]) M) (fun e => x e M)
/-- bounds -/
def b_bounds_x (EC : EA) (PT : Addr) : AS := (aSeq (aDropX (aCallX (F_need_rains_x EC) [] (aCons (aVar 0) (aCons (aVar 1) aNil))))
  (aNoEx (aSeq (aSet 2 (aSortK PT (("bounds" : Str) ++ ".<locals>." ++ "<lambda>") false (aVar 1)))
  (aRet (aTup (aCons (aFrz (aCall noX F_heaped_up [] (aCons (aCall noX F_fallen [] (aCons (aVar 0) (aCons (aVar 2) aNil))) aNil))) (aCons (aFrz (aCall noX F_heaped_up [] (aCons (aCall noX F_at_once [] (aCons (aVar 0) (aCons (aVar 1) aNil))) aNil))) aNil)))))))
theorem len_bounds_x (EC : EA) (PT : Addr) : ∀ ds M k x, F_bounds_x EC PT ds M k x → ds.length = 2 := by
  rintro ds M k x ⟨d, e, ns, rs, rfl, _⟩; rfl
theorem ok_bounds_x (EC : EA) (PT : Addr) : ∀ ds M k x, F_bounds_x EC PT ds M k x → b_bounds_x EC PT { nx := fun _ M' => fin k .non M', rt := fin k, ex := fun p _ M' => finX x p M' } (startG 3 ds) M := by
  rintro ds M k x ⟨d, e, ns, rs, rfl, hd, he, hl, hr, sx, ans⟩
  unfold b_bounds_x
  walk_at "st"
  rw [eSeq, eDropX, eCallX]
  walk_at "ev"
  refine ⟨d, e, ns, rs, rfl, hd, he, hl, hr, sx, ans.imp (fun g => ?_) fun e z => finX.of z⟩
  obtain ⟨B, D0, hT, g1, g2, g3, g4, g5, hk⟩ := g
  have q := ok_bounds PT [d, e] M k (fun _ _ => False) ⟨d, e, ns, rs, B, D0, rfl, hd, he, hT, g1, g2, g3, g4, g5, hk⟩
  obtain ⟨_, _, _, _, _, _, _, _, _, _, _, _, h⟩ := q
  exact h
end M
namespace M
open PySem L2
/-- the rains in an order -/
def inOrder (rs : List (Int × Rat)) (os : List Int) : List (Int × Rat) := os.filterMap fun i => rs[i.toNat]?
def F_behind : AF := fun ds M k _ => ∃ (d e o : D) (ns : List Int) (rs : List (Int × Rat)) (os : List Int) (B D0 : Nat), ds = [d, e, o] ∧ rdS M d = some (ns.map .int) ∧ rdS M e = some (rs.map rnD) ∧ rdS M o = some (os.map .int) ∧ RowOk ns ∧ ns.sum ≤ 72 ∧ rs.length ≤ 15 ∧ HRm B D0 ∧ (∀ r ∈ rs, RnOk ns.length B D0 r ∧ 0 < r.2) ∧ os.Perm (rng 0 rs.length) ∧ k (.lst ((fallR ns (inOrder rs os)).map frD)) M
/-- behind -/
def b_behind : AS := (aSeq (aDrop (aCall noX F_need_rains [] (aCons (aVar 0) (aCons (aVar 1) aNil))))
  (aSeq (aIfS (aB (aOp (bEq true) (aCB (cSorted false) (aCons (aVar 2) aNil)) (aLRange1 false (aCB cLen (aCons (aVar 1) aNil)))))
  aNever
  aNext)
  (aRet (aCall noX F_fallen [] (aCons (aVar 0) (aCons (aLc false (wLst (aVar 2)) (gNm 3) aYes (aOp bIx (aVar 1) (aVar 3)) [3]) aNil))))))
theorem len_behind : ∀ ds M k x, F_behind ds M k x → ds.length = 3 := by
  rintro ds M k x ⟨a, b, _, _, _, _, _, _, rfl, _⟩; rfl
theorem ok_behind : ∀ ds M k x, F_behind ds M k x → b_behind { nx := fun _ M' => fin k .non M', rt := fin k } (startG 4 ds) M := by
  rintro ds M k _ ⟨d, e, o, ns, rs, os, B, D0, rfl, hd, he, ho, hr, hs, hl, hB, hrn, hp, hk⟩
  walk_at "st"
  unfold b_behind
  walk_at "ev"
  have sx : ∀ r ∈ rs, Sm r.2 := fun r hm => by
    have ho := (hrn r hm).1
    exact (hB.rm (i := 0) (by omega)).sm (x := r.2) (by rw [Nat.pow_zero, Nat.mul_one]; exact ho.den) ho.nn (by rw [Nat.zero_add, Nat.mul_one]; exact ho.le)
  refine ⟨d, e, ns, rs, rfl, hd, he, hr.ne, hr.w, hr.l, by omega, fun r hm => ⟨(hrn r hm).1.lo, (hrn r hm).1.hi, (hrn r hm).2, sx r hm⟩, ?_⟩
  walk_at "ev"
  refine iSorted (fun os' p1 p2 => ?_) ho
  have e1 : os' = rng 0 rs.length := by
    refine List.Perm.eq_of_pairwise (le := (· ≤ ·)) (fun a b _ _ h1 h2 => Int.le_antisymm h1 h2) p2 ?_ (p1.trans hp)
    unfold rng
    refine List.pairwise_map.mpr ((List.pairwise_lt_range (n := rs.length)).imp fun {a b} h => ?_)
    omega
  subst e1
  walk_at "ev"
  rw [List.length_map]
  refine ⟨by unfold rgOk; omega, ?_⟩
  walk_at "ev"
  have hos : ∀ i ∈ os, ∃ j : Nat, j < rs.length ∧ i = (j : Int) := fun i hm => by
    have := hp.mem_iff.mp hm
    unfold rng at this
    obtain ⟨j, hj, rfl⟩ := List.mem_map.mp this
    exact ⟨j, List.mem_range.mp hj, by omega⟩
  have hol : os.length = rs.length := by rw [hp.length_eq, rng_length]
  rw [Int.toNat_natCast]
  refine iEqE (neg := true) ?_ rfl RdT.ints RdT.ints
  walk_at "ev"
  refine lc_st (fun i acc M' => M' = M ∧ acc = (inOrder rs (os.take i)).map rnD) (by rw [List.length_map]; omega) ?_ ?_ ⟨rfl, rfl⟩
  · rintro i x acc M' hx ha ⟨eM, rfl⟩
    subst M'
    obtain ⟨o, ho', rfl⟩ := map_get hx
    obtain ⟨j, hj, rfl⟩ := hos o (List.mem_of_getElem? ho')
    have e2 := List.getElem?_eq_getElem hj
    have ar : atI (rs.map rnD) (j : Int) = some (rnD rs[j]) := atI_nat (by rw [List.getElem?_map, e2]; rfl)
    refine ⟨by first | exact ho | trivial, fun kd hkd => ?_⟩
    simp only [wipeG]
    walk_at "ev"
    refine hkd _ _ ⟨rfl, ?_⟩
    rw [take_succ ho']
    unfold inOrder
    rw [List.filterMap_append, List.map_append]
    simp [e2]
  · rintro acc M' ha ⟨eM, rfl⟩
    subst M'
    refine ⟨by first | exact ho | trivial, ?_⟩
    rw [List.length_map, List.take_length]
    walk_at "ev"
    have hin : ∀ r ∈ inOrder rs os, r ∈ rs := fun r hm => by
      unfold inOrder at hm
      obtain ⟨i, _, e⟩ := List.mem_filterMap.mp hm
      exact List.mem_of_getElem? e
    have hil : (inOrder rs os).length ≤ 15 := by
      have : (inOrder rs os).length ≤ os.length := List.length_filterMap_le _ _
      omega
    exact ⟨d, _, ns, inOrder rs os, B, D0, rfl, hd, rfl, hr, hs, hil, hB, fun r hm => (hrn r (hin r hm)).1, fin.of hk⟩
end M
namespace M
open PySem L2
def F_behind_x (EC : EA) : AF := fun ds M k x => ∃ (d e o : D) (ns : List Int) (rs : List (Int × Rat)) (os : List Int), ds = [d, e, o] ∧ rdS M d = some (ns.map .int) ∧ rdS M e = some (rs.map rnD) ∧ rdS M o = some (os.map .int) ∧ ns.length ≤ 1000 ∧ rs.length ≤ 1000 ∧ os.length ≤ 1000 ∧ (∀ r ∈ rs, Sm r.2) ∧
  RainsAns EC ns rs ((os.Perm (rng 0 rs.length) → ∃ B D0 : Nat, RowOk ns ∧ ns.sum ≤ 72 ∧ rs.length ≤ 15 ∧ HRm B D0 ∧ (∀ r ∈ rs, RnOk ns.length B D0 r ∧ 0 < r.2) ∧ k (.lst ((fallR ns (inOrder rs os)).map frD)) M) ∧ (¬ os.Perm (rng 0 rs.length) → x (EC .order, .non) M)) (fun e => x e M)
/-- behind -/
def b_behind_x (EC : EA) : AS := (aSeq (aDropX (aCallX (F_need_rains_x EC) [] (aCons (aVar 0) (aCons (aVar 1) aNil))))
  (aSeq (aIfS (aB (aOp (bEq true) (aCB (cSorted false) (aCons (aVar 2) aNil)) (aLRange1 false (aCB cLen (aCons (aVar 1) aNil)))))
  (aRaise (EC .order) (aC .non))
  aNext)
  (aNoEx (aRet (aCall noX F_fallen [] (aCons (aVar 0) (aCons (aLc false (wLst (aVar 2)) (gNm 3) aYes (aOp bIx (aVar 1) (aVar 3)) [3]) aNil)))))))
theorem len_behind_x (EC : EA) : ∀ ds M k x, F_behind_x EC ds M k x → ds.length = 3 := by
  rintro ds M k x ⟨d, e, o, ns, rs, os, rfl, _⟩; rfl
theorem ok_behind_x (EC : EA) : ∀ ds M k x, F_behind_x EC ds M k x → b_behind_x EC { nx := fun _ M' => fin k .non M', rt := fin k, ex := fun p _ M' => finX x p M' } (startG 4 ds) M := by
  rintro ds M k x ⟨d, e, o, ns, rs, os, rfl, hd, he, ho, hl, hr, hol, sx, ans⟩
  unfold b_behind_x
  walk_at "st"
  walk_at "xv"
  refine ⟨d, e, ns, rs, rfl, hd, he, hl, hr, sx, ans.imp (fun g => ?_) fun e z => finX.of z⟩
  obtain ⟨hk, hx⟩ := g
  walk_at "xv"
  refine iSorted (fun os' p1 p2 => ?_) ho
  walk_at "xv"
  rw [List.length_map]
  refine ⟨by unfold rgOk; omega, ?_⟩
  rw [Int.toNat_natCast]
  by_cases hp : os.Perm (rng 0 rs.length)
  · have e1 : os' = rng 0 rs.length := by
      refine List.Perm.eq_of_pairwise (le := (· ≤ ·)) (fun a b _ _ h1 h2 => Int.le_antisymm h1 h2) p2 ?_ (p1.trans hp)
      unfold rng
      refine List.pairwise_map.mpr ((List.pairwise_lt_range (n := rs.length)).imp fun {a b} h => ?_)
      omega
    subst e1
    obtain ⟨B, D0, g1, g2, g3, g4, g5, hk⟩ := hk hp
    walk_at "xv"
    have hos : ∀ i ∈ os, ∃ j : Nat, j < rs.length ∧ i = (j : Int) := fun i hm => by
      have := hp.mem_iff.mp hm
      unfold rng at this
      obtain ⟨j, hj, rfl⟩ := List.mem_map.mp this
      exact ⟨j, List.mem_range.mp hj, by omega⟩
    have hol : os.length = rs.length := by rw [hp.length_eq, rng_length]
    refine iEqE (neg := true) ?_ rfl RdT.ints RdT.ints
    walk_at "xv"
    refine lc_st (fun i acc M' => M' = M ∧ acc = (inOrder rs (os.take i)).map rnD) (by rw [List.length_map]; omega) ?_ ?_ ⟨rfl, rfl⟩
    · rintro i x acc M' hx ha ⟨eM, rfl⟩
      subst M'
      obtain ⟨o, ho', rfl⟩ := map_get hx
      obtain ⟨j, hj, rfl⟩ := hos o (List.mem_of_getElem? ho')
      have e2 := List.getElem?_eq_getElem hj
      have ar : atI (rs.map rnD) (j : Int) = some (rnD rs[j]) := atI_nat (by rw [List.getElem?_map, e2]; rfl)
      refine ⟨by first | exact ho | trivial, fun kd hkd => ?_⟩
      simp only [wipeG]
      walk_at "ev"
      refine hkd _ _ ⟨rfl, ?_⟩
      rw [take_succ ho']
      unfold inOrder
      rw [List.filterMap_append, List.map_append]
      simp [e2]
    · rintro acc M' ha ⟨eM, rfl⟩
      subst M'
      refine ⟨by first | exact ho | trivial, ?_⟩
      rw [List.length_map, List.take_length]
      walk_at "ev"
      have hin : ∀ r ∈ inOrder rs os, r ∈ rs := fun r hm => by
        unfold inOrder at hm
        obtain ⟨i, _, e⟩ := List.mem_filterMap.mp hm
        exact List.mem_of_getElem? e
      have hil : (inOrder rs os).length ≤ 15 := by
        have : (inOrder rs os).length ≤ os.length := List.length_filterMap_le _ _
        omega
      exact ⟨d, _, ns, inOrder rs os, B, D0, rfl, hd, rfl, g1, g2, hil, g4, fun r hm => (g5 r (hin r hm)).1, fin.of hk⟩
  · have e1 : os' ≠ rng 0 rs.length := fun z => hp (by rw [← z]; exact p1.symm)
    walk_at "xv"
    refine iEqN (neg := true) ?_ (fun z => e1 ?_) RdT.ints RdT.ints
    · walk_at "xv"
      exact finX.of (hx hp)
    · unfold tI at z
      exact (List.map_inj_right (fun a b h => T.int.inj h)).mp (T.lst.inj z)
end M
namespace M
open PySem L2
def refA (n : EN) (w : D) : D := .tup [.str (match n with | .floors => "floors" | .rain => "rain" | _ => "order"), w]
def noneA : D := .tup [.str "none", .non]
/-- what is told of a refusal -/
def RefX (EC : EA) (K : D → Prop) (e : Addr × D) : Prop := ∃ n : EN, e.1 = EC n ∧ n ∈ [EN.floors, .rain, .order] ∧ K (refA n e.2)
def AskOk (M : MH) (o : D) : Option (List Int) → Prop
  | none => o = .non
  | some os => rdS M o = some (os.map .int) ∧ os.length ≤ 1000
def F_law_refusal_v2 (EC : EA) (PT : Addr) : AF := fun ds M k _ => ∃ (d e o : D) (ns : List Int) (rs : List (Int × Rat)) (asked : Option (List Int)), ds = [d, e, o] ∧ rdS M d = some (ns.map .int) ∧ rdS M e = some (rs.map rnD) ∧ AskOk M o asked ∧ ns.length ≤ 1000 ∧ rs.length ≤ 1000 ∧ (∀ r ∈ rs, Sm r.2) ∧
  RainsAns EC ns rs (∃ B D0 : Nat, M PT = some (.obj (.tbl qB)) ∧ RowOk ns ∧ ns.sum ≤ 72 ∧ rs.length ≤ 15 ∧ HRm B D0 ∧ (∀ r ∈ rs, RnOk ns.length B D0 r ∧ 0 < r.2) ∧ ((∀ os, asked = some os → os.Perm (rng 0 rs.length)) → k noneA M) ∧ ((∃ os, asked = some os ∧ ¬ os.Perm (rng 0 rs.length)) → k (refA .order .non) M)) (RefX EC fun d => k d M)
def c1_law_refusal_v2 (EC : EA) (PT : Addr) : AS := (aSeq (aIfS (aB (aOp bIsN (aVar 3) (aC .non)))
  (aRet (aTup (aCons (aC (.str "none")) (aCons (aC .non) aNil))))
  aNext)
  (aSeq (aIfS (aOr (aNot (aB (aCB (cIsE EC (isErr EC [.floors, .rain, .order])) (aCons (aVar 3) (aCons (aC (.ty "ValueError")) aNil))))) (aB (aCB (cIsE EC (isErr EC [.floors, .rain, .order])) (aCons (aVar 3) (aCons (aTup (aCons (aC (.ref (EC .drop))) (aCons (aC (.ref (EC .fp))) (aCons (aC (.ref (EC .rows))) (aCons (aC (.ref (EC .step))) (aCons (aC (.ref (EC .table))) aNil)))))) aNil)))))
  (aRet (aTup (aCons (aC (.str "odd")) (aCons (aC .non) aNil))))
  aNext)
  (aSeq (aIfS (aB (aCB (cIsE EC (isErr EC [.floors, .rain, .order])) (aCons (aVar 3) (aCons (aTup (aCons (aC (.ref (EC .tank))) (aCons (aC (.ref (EC .text))) (aCons (aC (.ref (EC .water))) aNil)))) aNil))))
  (aRet (aTup (aCons (aC (.str "odd")) (aCons (aC .non) aNil))))
  aNext)
  (aSeq (aSet 1 (aLst false (aCons (aCB (cIsE EC (isErr EC [.floors, .rain, .order])) (aCons (aVar 3) (aCons (aC (.ref (EC .floors))) aNil))) (aCons (aCB (cIsE EC (isErr EC [.floors, .rain, .order])) (aCons (aVar 3) (aCons (aC (.ref (EC .rain))) aNil))) (aCons (aCB (cIsE EC (isErr EC [.floors, .rain, .order])) (aCons (aVar 3) (aCons (aC (.ref (EC .order))) aNil))) aNil)))))
  (aRet (aIf (aB (aOp (bEq false) (aMt mCount (aVar 1) (aCons (aC (.bl true)) aNil)) (aC (.int 1)))) (aTup (aCons (aOp bIx (aLst false (aCons (aC (.str "floors")) (aCons (aC (.str "rain")) (aCons (aC (.str "order")) aNil)))) (aMt mIndex (aVar 1) (aCons (aC (.bl true)) aNil))) (aCons (aWhat (isErr EC [.floors, .rain, .order]) (aVar 3)) aNil))) (aTup (aCons (aC (.str "odd")) (aCons (aC .non) aNil)))))))))
/-- _law_refusal -/
def b_law_refusal_v2 (EC : EA) (PT : Addr) : AS := (aSeq (aSet 3 (aC .non))
  (aSeq (aTry (isErr EC [.floors, .rain, .order]) 4
  (aIfS (aB (aOp bIsN (aVar 2) (aC .non)))
  (aDropX (aCallX (F_bounds_x EC PT) [] (aCons (aVar 0) (aCons (aVar 1) aNil))))
  (aDropX (aCallX (F_behind_x EC) [] (aCons (aVar 0) (aCons (aVar 1) (aCons (aVar 2) aNil))))))
  (aSet 3 (aVar 4)))
  (c1_law_refusal_v2 EC PT)))
theorem len_law_refusal_v2 (EC : EA) (PT : Addr) : ∀ ds M k x, F_law_refusal_v2 EC PT ds M k x → ds.length = 3 := by
  rintro ds M k x ⟨d, e, o, ns, rs, a, rfl, _⟩; rfl
theorem iKMtL {om : AM} {ga : AA} {Γ : G} {M : MH} {k : AK} {ds : List D} (h : ga Γ M fun es M2 => om (.lst ds) es M2 k) : kMt om ga Γ k (.lst ds) M := h
theorem rd_isNon {M : MH} {o : D} {l : List D} (h : rdS M o = some l) : o.isNon = false := by
  cases o with
  | non => cases h
  | _ => rfl
theorem ok_c1_law_refusal_v2 {EC : EA} {PT : Addr} {n : EN} (hn : n ∈ [EN.floors, .rain, .order]) {w : D} {M : MH} {k : AK} {x0 x1 x2 y : Option D} (hk : k (refA n w) M) :
    c1_law_refusal_v2 EC PT { nx := fun _ M' => fin k .non M', rt := fin k } [x0, x1, x2, some (.exc (EC n) w), y] M := by
  have he : isErr EC [.floors, .rain, .order] (EC n) := isErr_of hn
  have hc : n = .floors ∨ n = .rain ∨ n = .order := by simpa using hn
  unfold c1_law_refusal_v2
  walk_at "xv"
  refine iIsV (EC := EC) (w := w) ?_ he
  walk_at "xv"
  refine iIsEs [.drop, .fp, .rows, .step, .table] ?_ he
  have e1 : ([EN.drop, .fp, .rows, .step, .table].any fun m => decide (n = m) || decide (m = .flap)) = false := by rcases hc with rfl | rfl | rfl <;> decide
  rw [e1]
  walk_at "xv"
  refine iIsEs [.tank, .text, .water] ?_ he
  have e2 : ([EN.tank, .text, .water].any fun m => decide (n = m) || decide (m = .flap)) = false := by rcases hc with rfl | rfl | rfl <;> decide
  rw [e2]
  walk_at "xv"
  refine iIsE ?_ he
  walk_at "xv"
  refine iIsE ?_ he
  walk_at "xv"
  refine iIsE ?_ he
  walk_at "xv"
  rcases hc with rfl | rfl | rfl
  · refine iKMtL ?_
    walk_at "xv"
    refine iCount (bs := [true, false, false]) ?_ rfl
    walk_at "xv"
    refine iteDT (by decide) ?_
    walk_at "xv"
    refine iKMtL ?_
    walk_at "xv"
    refine iIndex (bs := [true, false, false]) 0 ?_ rfl rfl (by decide)
    walk_at "xv"
    refine iKIx (d := .str "floors") ?_ rfl
    refine iKWhat ?_ he
    walk_at "xv"
    exact fin.of hk
  · refine iKMtL ?_
    walk_at "xv"
    refine iCount (bs := [false, true, false]) ?_ rfl
    walk_at "xv"
    refine iteDT (by decide) ?_
    walk_at "xv"
    refine iKMtL ?_
    walk_at "xv"
    refine iIndex (bs := [false, true, false]) 1 ?_ rfl rfl (by decide)
    walk_at "xv"
    refine iKIx (d := .str "rain") ?_ rfl
    refine iKWhat ?_ he
    walk_at "xv"
    exact fin.of hk
  · refine iKMtL ?_
    walk_at "xv"
    refine iCount (bs := [false, false, true]) ?_ rfl
    walk_at "xv"
    refine iteDT (by decide) ?_
    walk_at "xv"
    refine iKMtL ?_
    walk_at "xv"
    refine iIndex (bs := [false, false, true]) 2 ?_ rfl rfl (by decide)
    walk_at "xv"
    refine iKIx (d := .str "order") ?_ rfl
    refine iKWhat ?_ he
    walk_at "xv"
    exact fin.of hk
theorem ok_law_refusal_v2 (EC : EA) (PT : Addr) : ∀ ds M k x, F_law_refusal_v2 EC PT ds M k x → b_law_refusal_v2 EC PT { nx := fun _ M' => fin k .non M', rt := fin k } (startG 5 ds) M := by
  rintro ds M k x ⟨d, e, o, ns, rs, asked, rfl, hd, he, ho, hl, hr, sx, ans⟩
  walk_at "st"
  unfold b_law_refusal_v2
  walk_at "xv"
  cases asked with
  | none =>
    cases (ho : o = .non)
    walk_at "xv"
    refine ⟨d, e, ns, rs, rfl, hd, he, hl, hr, sx, ans.imp (fun g => ?_) fun p q => ?_⟩
    · obtain ⟨B, D0, hT, g1, g2, g3, g4, g5, hk, _⟩ := g
      refine ⟨B, D0, hT, g1, g2, g3, g4, g5, ?_⟩
      unfold c1_law_refusal_v2
      walk_at "xv"
      exact fin.of (hk fun os z => by cases z)
    · obtain ⟨n, e1, e2, e3⟩ := q
      rw [e1]
      exact ⟨isErr_of e2, ok_c1_law_refusal_v2 e2 e3⟩
  | some os =>
    obtain ⟨h1, h2⟩ := (ho : _ ∧ _)
    rw [rd_isNon h1]
    walk_at "xv"
    refine ⟨d, e, o, ns, rs, os, rfl, hd, he, h1, hl, hr, h2, sx, ans.imp (fun g => ?_) fun p q => ?_⟩
    · obtain ⟨B, D0, hT, g1, g2, g3, g4, g5, hk, hx⟩ := g
      refine ⟨fun z => ⟨B, D0, g1, g2, g3, g4, g5, ?_⟩, fun z => ?_⟩
      · unfold c1_law_refusal_v2
        walk_at "xv"
        exact fin.of (hk fun os' e' => by cases e'; exact z)
      · have e2 : EN.order ∈ [EN.floors, EN.rain, EN.order] := by decide
        exact ⟨isErr_of e2, ok_c1_law_refusal_v2 e2 (hx ⟨os, rfl, z⟩)⟩
    · obtain ⟨n, e1, e2, e3⟩ := q
      rw [e1]
      exact ⟨isErr_of e2, ok_c1_law_refusal_v2 e2 e3⟩
end M
namespace M
open PySem L2
/-! ### sorting by neighbours -/
/-- T passes done, the next one as far as a -/
structure Bub (n T a : Nat) (K : Nat → Int) : Prop where
  hi : ∀ i j, i < j → j < n → n - T ≤ j → K j ≤ K i
  lo : ∀ i, i < min a (n - 1 - T) → K (min a (n - 1 - T)) ≤ K i
def swK (K : Nat → Int) (a : Nat) : Nat → Int := fun i => if i = a then K (a + 1) else if i = a + 1 then K a else K i
theorem Bub.start {n : Nat} {K : Nat → Int} : Bub n 0 0 K := ⟨fun i j h1 h2 h3 => by omega, fun i h => by omega⟩
theorem Bub.stay {n T a : Nat} {K : Nat → Int} (b : Bub n T a K) (h : a + 1 < n) (c : ¬ K a < K (a + 1)) : Bub n T (a + 1) K := by
  refine ⟨b.hi, fun i hi => ?_⟩
  by_cases q : a + 1 ≤ n - 1 - T
  · rw [Nat.min_eq_left q] at hi ⊢
    have l := b.lo
    rw [Nat.min_eq_left (by omega)] at l
    by_cases e : i = a
    · rw [e]; omega
    · have := l i (by omega)
      omega
  · rw [Nat.min_eq_right (by omega)] at hi ⊢
    have l := b.lo
    rw [Nat.min_eq_right (by omega)] at l
    exact l i hi
theorem Bub.swap {n T a : Nat} {K : Nat → Int} (b : Bub n T a K) (h : a + 1 < n) (c : K a < K (a + 1)) : Bub n T (a + 1) (swK K a) := by
  have q : a + 1 < n - T := by
    refine Nat.lt_of_not_le fun w => ?_
    have := b.hi a (a + 1) (by omega) h w
    omega
  have l := b.lo
  rw [Nat.min_eq_left (by omega)] at l
  refine ⟨fun i j h1 h2 h3 => ?_, fun i hi => ?_⟩
  · have e : swK K a j = K j := by unfold swK; rw [if_neg (by omega), if_neg (by omega)]
    rw [e]
    unfold swK
    split
    · exact b.hi _ _ (by omega) h2 h3
    · split
      · exact b.hi _ _ (by omega) h2 h3
      · exact b.hi _ _ h1 h2 h3
  · rw [Nat.min_eq_left (by omega)] at hi ⊢
    have e : swK K a (a + 1) = K a := by unfold swK; rw [if_neg (by omega), if_pos rfl]
    rw [e]
    unfold swK
    split
    · omega
    · rw [if_neg (by omega)]
      exact l i (by omega)
theorem Bub.next {n T : Nat} {K : Nat → Int} (b : Bub n T (n - 1) K) (h : T < n) : Bub n (T + 1) 0 K := by
  refine ⟨fun i j h1 h2 h3 => ?_, fun i hi => by omega⟩
  by_cases q : n - T ≤ j
  · exact b.hi i j h1 h2 q
  · have l := b.lo i
    have e : j = n - 1 - T := by omega
    rw [Nat.min_eq_right (by omega)] at l
    rw [e] at h1 ⊢
    exact l h1
/-! ### orders -/
def gR (rs : List (Int × Rat)) (o : Int) : Int × Rat := rs.getD o.toNat (0, 0)
theorem od_in {rs : List (Int × Rat)} {os : List Int} (p : os.Perm (rng 0 rs.length)) : ∀ o ∈ os, ∃ j : Nat, j < rs.length ∧ o = (j : Int) := fun o hm => by
  have := p.mem_iff.mp hm
  unfold rng at this
  obtain ⟨j, hj, rfl⟩ := List.mem_map.mp this
  exact ⟨j, List.mem_range.mp hj, by omega⟩
theorem gR_at {rs : List (Int × Rat)} {j : Nat} (h : j < rs.length) : rs[j]? = some (gR rs (j : Int)) := by
  unfold gR
  rw [Int.toNat_natCast, List.getD_eq_getElem?_getD, List.getElem?_eq_getElem h]; rfl
theorem inOrder_map {rs : List (Int × Rat)} : ∀ {os : List Int}, (∀ o ∈ os, ∃ j : Nat, j < rs.length ∧ o = (j : Int)) → inOrder rs os = os.map (gR rs)
  | [], _ => rfl
  | o :: os, h => by
    obtain ⟨j, hj, e⟩ := h o List.mem_cons_self
    have ih := inOrder_map (os := os) fun x hx => h x (List.mem_cons_of_mem _ hx)
    unfold inOrder at ih ⊢
    rw [List.filterMap_cons, e, Int.toNat_natCast, gR_at hj, List.map_cons, ih]
theorem rng_map {rs : List (Int × Rat)} : (rng 0 rs.length).map (gR rs) = rs := by
  refine List.ext_getElem? fun i => ?_
  rw [List.getElem?_map]
  by_cases h : i < rs.length
  · unfold rng
    rw [List.getElem?_map, List.getElem?_range h, gR_at h]
    simp
  · rw [List.getElem?_eq_none (by rw [rng_length]; omega), List.getElem?_eq_none (by omega)]; rfl
theorem od_perm {rs : List (Int × Rat)} {os : List Int} (p : os.Perm (rng 0 rs.length)) : (inOrder rs os).Perm rs := by
  rw [inOrder_map (od_in p)]
  have := p.map (gR rs)
  rwa [rng_map] at this
/-- two neighbours exchanged -/
def swL (os : List Int) (a : Nat) (x y : Int) : List Int := os.take a ++ [y, x] ++ os.drop (a + 2)
theorem sw_split {os : List Int} {a : Nat} {x y : Int} (hx : os[a]? = some x) (hy : os[a + 1]? = some y) : os = os.take a ++ [x, y] ++ os.drop (a + 2) := by
  have e1 := take_succ hx
  have e2 := take_succ hy
  have := List.take_append_drop (a + 2) os
  rw [e2, e1] at this
  simp only [List.append_assoc, List.cons_append, List.nil_append] at this ⊢
  exact this.symm
theorem sw_perm {os : List Int} {a : Nat} {x y : Int} (hx : os[a]? = some x) (hy : os[a + 1]? = some y) : (swL os a x y).Perm os := by
  conv => rhs; rw [sw_split hx hy]
  unfold swL
  exact (((List.Perm.swap x y []).append_left _)).append_right _
theorem sw_get {os : List Int} {a : Nat} {x y : Int} (hx : os[a]? = some x) (hy : os[a + 1]? = some y) (i : Nat) : (swL os a x y)[i]? = if i = a then some y else if i = a + 1 then some x else os[i]? := by
  have la : (os.take a).length = a := by rw [List.length_take]; have := (List.getElem?_eq_some_iff.mp hx).1; omega
  unfold swL
  by_cases h : i < a
  · rw [if_neg (by omega), if_neg (by omega), List.append_assoc, List.getElem?_append_left (by omega), List.getElem?_take_of_lt h]
  · by_cases h1 : i = a
    · rw [if_pos h1, List.append_assoc, List.getElem?_append_right (by omega), la, h1, Nat.sub_self]; rfl
    · rw [if_neg h1]
      by_cases h2 : i = a + 1
      · rw [if_pos h2, List.append_assoc, List.getElem?_append_right (by omega), la, h2, show a + 1 - a = 1 by omega]; rfl
      · rw [if_neg h2, List.getElem?_append_right (by rw [List.length_append, la]; show a + 2 ≤ i; omega), List.length_append, la, List.getElem?_drop]
        congr 1
        show a + 2 + (i - (a + 2)) = i
        omega
/-- the tank of the i-th rain of an order -/
def kyF (rs : List (Int × Rat)) (os : List Int) (i : Nat) : Int := (gR rs (os.getD i 0)).1
theorem ky_at {rs : List (Int × Rat)} {os : List Int} {i : Nat} {o : Int} (h : os[i]? = some o) : kyF rs os i = (gR rs o).1 := by
  unfold kyF; rw [List.getD_eq_getElem?_getD, h]; rfl
theorem ky_sw {rs : List (Int × Rat)} {os : List Int} {a : Nat} {x y : Int} (hx : os[a]? = some x) (hy : os[a + 1]? = some y) : kyF rs (swL os a x y) = swK (kyF rs os) a := by
  funext i
  have g := sw_get hx hy i
  unfold swK
  by_cases h1 : i = a
  · rw [if_pos h1] at g ⊢
    rw [ky_at g, ky_at hy]
  · rw [if_neg h1] at g ⊢
    by_cases h2 : i = a + 1
    · rw [if_pos h2] at g ⊢
      rw [ky_at g, ky_at hx]
    · rw [if_neg h2] at g ⊢
      unfold kyF
      rw [List.getD_eq_getElem?_getD, List.getD_eq_getElem?_getD, g]
theorem ky_sorted {rs : List (Int × Rat)} {os : List Int} (p : os.Perm (rng 0 rs.length)) (b : Bub os.length os.length 0 (kyF rs os)) : (inOrder rs os).Pairwise (fun a b => b.1 ≤ a.1) := by
  rw [inOrder_map (od_in p), List.pairwise_map, List.pairwise_iff_getElem]
  intro i j hi hj hij
  have := b.hi i j hij hj (by omega)
  rwa [ky_at (List.getElem?_eq_getElem hi), ky_at (List.getElem?_eq_getElem hj)] at this
section
variable {ns : List Int} {rs : List (Int × Rat)} {B D0 : Nat} {os : List Int} {a : Nat} {x y : Int}
theorem od_good (h : Rns ns B D0 rs) (p : os.Perm (rng 0 rs.length)) : Rns ns B D0 (inOrder rs os) := fun r hr => h r ((od_perm p).mem_iff.mp hr)
theorem od_swap (hr : RowOk ns) (hL : Lcm ns L72) (h : Rns ns B D0 rs) (p : os.Perm (rng 0 rs.length)) (hx : os[a]? = some x) (hy : os[a + 1]? = some y) :
    ((gR rs x).1 ≤ (gR rs y).1 → ∀ k, k ≤ ns.length → hp (fallR ns (inOrder rs os)) k ≤ hp (fallR ns (inOrder rs (swL os a x y))) k) ∧ ((gR rs y).1 ≤ (gR rs x).1 → ∀ k, k ≤ ns.length → hp (fallR ns (inOrder rs (swL os a x y))) k ≤ hp (fallR ns (inOrder rs os)) k) := by
  have p' := (sw_perm hx hy).trans p
  have g := od_good h p
  have g' := od_good h p'
  have e1 : inOrder rs os = (os.take a).map (gR rs) ++ [gR rs x, gR rs y] ++ (os.drop (a + 2)).map (gR rs) := by
    rw [inOrder_map (od_in p)]
    conv => lhs; rw [sw_split hx hy]
    simp
  have e2 : inOrder rs (swL os a x y) = (os.take a).map (gR rs) ++ [gR rs y, gR rs x] ++ (os.drop (a + 2)).map (gR rs) := by
    rw [inOrder_map (od_in p')]
    unfold swL
    simp
  rw [e1] at g ⊢
  rw [e2] at g' ⊢
  exact ⟨fun q => fall_swap hr hL g q, fun q => fall_swap hr hL g' q⟩
/-! ### smallness -/
theorem sm_ps {xs : List Rat} (h : SmS xs) : ∀ z ∈ psR xs, Sm z := fun z hz => by
  unfold psR at hz
  obtain ⟨i, _, rfl⟩ := List.mem_map.mp hz
  exact h.2 i
theorem fall_sms (hr : RowOk ns) (hL : Lcm ns L72) (hB : HRm B D0) (h : Rns ns B D0 rs) (hl : rs.length ≤ 15) : SmS (fallR ns rs) := by
  obtain ⟨_, w⟩ := fallR_ok hr hL h
  exact (w.mono (W := B * (rs.length + 1)) (Nat.mul_le_mul_left _ (by omega))).smS (hB.rm (i := rs.length) (by omega))
theorem most_sms (hr : RowOk ns) (hL : Lcm ns L72) (hB : HRm B D0) (h : Rns ns B D0 rs) (hl : rs.length ≤ 15) : SmS (mostR ns rs) := by
  obtain ⟨l, w⟩ := rainsR_ok h
  obtain ⟨_, _, mw⟩ := settle_ok (xs := rainsR ns.length rs) (bs := []) hr l.symm Flaps.nil_ hL w
  have R0 := hB.rm (i := rs.length) (by omega)
  have R1 := hB.rm (i := 1) (by omega)
  rw [Nat.pow_one] at R1
  exact (mw.mono (W := B * (rs.length + 1)) (Nat.mul_le_mul_left _ (by omega))).smS ⟨R1.d0, R1.d, R0.v⟩
/-- in the order of their tanks -/
def riseR (rs : List (Int × Rat)) : List (Int × Rat) := rs.mergeSort fun a b => decide (a.1 ≤ b.1)
theorem rise_perm : (riseR rs).Perm rs := List.mergeSort_perm rs _
theorem rise_sorted : (riseR rs).Pairwise (fun a b => a.1 ≤ b.1) := by
  have := List.pairwise_mergeSort (le := fun (a b : Int × Rat) => decide (a.1 ≤ b.1)) (fun a b c h1 h2 => by simp only [decide_eq_true_eq] at *; omega) (fun a b => by simp only [Bool.or_eq_true, decide_eq_true_eq]; omega) rs
  exact this.imp fun {a b} h => by simpa using h
theorem low_rise (hr : RowOk ns) (hL : Lcm ns L72) (h : Rns ns B D0 rs) : lowR ns rs = psR (fallR ns (riseR rs)) := by
  rw [ps_low hr hL (fun r hm => h r (rise_perm.mem_iff.mp hm)) rise_sorted, lowR_perm rise_perm]
theorem low_sms (hr : RowOk ns) (hL : Lcm ns L72) (hB : HRm B D0) (h : Rns ns B D0 rs) (hl : rs.length ≤ 15) : ∀ z ∈ lowR ns rs, Sm z := by
  rw [low_rise hr hL h]
  exact sm_ps (fall_sms hr hL hB (fun r hm => h r (rise_perm.mem_iff.mp hm)) (by rw [rise_perm.length_eq]; exact hl))
/-! ### comparing -/
theorem ps_le {u v : List Rat} {n : Nat} (h1 : u.length = n) (h2 : v.length = n) (h : ∀ k, k ≤ n → hp u k ≤ hp v k) : ∀ (i : Nat) x y, (psR u)[i]? = some x → (psR v)[i]? = some y → x ≤ y := fun i x y e1 e2 => by
  have hi := (List.getElem?_eq_some_iff.mp e1).1
  rw [psR_len] at hi
  rw [ps_hp (by omega)] at e1
  rw [ps_hp (by omega)] at e2
  rw [← Option.some.inj e1, ← Option.some.inj e2]
  exact h i (by omega)
theorem low_le {v : List Rat} (h2 : v.length = ns.length) (h : ∀ k, k ≤ ns.length → lowF ns rs k ≤ hp v k) : ∀ (i : Nat) x y, (lowR ns rs)[i]? = some x → (psR v)[i]? = some y → x ≤ y := fun i x y e1 e2 => by
  have hi := (List.getElem?_eq_some_iff.mp e1).1
  rw [lowR_len] at hi
  rw [lowR_get (by omega)] at e1
  rw [ps_hp (by omega)] at e2
  rw [← Option.some.inj e1, ← Option.some.inj e2]
  exact h i (by omega)
theorem od_low (hr : RowOk ns) (hL : Lcm ns L72) (h : Rns ns B D0 rs) (p : os.Perm (rng 0 rs.length)) {k : Nat} (hk : k ≤ ns.length) : lowF ns rs k ≤ hp (fallR ns (inOrder rs os)) k := by
  have := fall_low hr hL (od_good h p) hk
  rwa [lowF_perm (od_perm p)] at this
theorem od_most (hr : RowOk ns) (hL : Lcm ns L72) (h : Rns ns B D0 rs) (p : os.Perm (rng 0 rs.length)) {k : Nat} (hk : k ≤ ns.length) : hp (fallR ns (inOrder rs os)) k ≤ hp (mostR ns rs) k := by
  have := fall_most hr hL (od_good h p) hk
  rwa [most_perm (od_good h p) (od_perm p)] at this
theorem od_end (hr : RowOk ns) (hL : Lcm ns L72) (h : Rns ns B D0 rs) (p : os.Perm (rng 0 rs.length)) (b : Bub os.length os.length 0 (kyF rs os)) : fallR ns (inOrder rs os) = mostR ns rs := by
  rw [fall_eq_most hr hL (od_good h p) (ky_sorted p b), most_perm (od_good h p) (od_perm p)]
end
end M
namespace M
open PySem L2
/-! ### bounds of altered rains -/
section
variable {ns : List Int} {B D0 : Nat} {rs A A' : List (Int × Rat)}
theorem lowF_cons {r : Int × Rat} {k : Nat} : lowF ns (r :: rs) k = r.2 * lowL (pl ns) ns.length r.1 k + lowF ns rs k := by unfold lowF; rw [List.map_cons, List.sum_cons]
theorem sumS_cons {r : Int × Rat} {k : Nat} : sumS (r :: rs) k = stp r.1 r.2 k + sumS rs k := by unfold sumS; rw [List.map_cons, List.sum_cons]
theorem low_eq (h : ∀ k, lowF ns A k = lowF ns A' k) : lowR ns A = lowR ns A' := by unfold lowR; rw [show lowF ns A = lowF ns A' from funext h]
theorem rains_eq (h : Rns ns B D0 A) (h' : Rns ns B D0 A') (e : ∀ k, sumS A k = sumS A' k) : rainsR ns.length A = rainsR ns.length A' := by
  refine hp_ext ((rainsR_ok h).1.trans (rainsR_ok h').1.symm) fun k hk => ?_
  rw [(rainsR_ok h).1] at hk
  rw [rains_hp h hk, rains_hp h' hk, e k]
/-- one rain in two parts -/
theorem half_low {t : Int} {x : Rat} : lowR ns ((t, x / 2) :: (t, x / 2) :: rs) = lowR ns ((t, x) :: rs) := low_eq fun k => by
  rw [lowF_cons, lowF_cons, lowF_cons]
  grind
theorem half_most {t : Int} {x : Rat} (h : Rns ns B D0 ((t, x / 2) :: (t, x / 2) :: rs)) (h' : Rns ns B D0 ((t, x) :: rs)) : mostR ns ((t, x / 2) :: (t, x / 2) :: rs) = mostR ns ((t, x) :: rs) := by
  unfold mostR
  rw [rains_eq h h' fun k => ?_]
  rw [sumS_cons, sumS_cons, sumS_cons]
  unfold stp
  simp only
  split <;> grind
/-- so many times -/
def timesR (m : Int) (rs : List (Int × Rat)) : List (Int × Rat) := rs.map fun r => (r.1, (m : Rat) * r.2)
theorem times_low {m : Int} : lowR ns (timesR m rs) = scR (m : Rat) (lowR ns rs) := by
  have e : ∀ k, lowF ns (timesR m rs) k = (m : Rat) * lowF ns rs k := fun k => by
    induction rs with
    | nil => show (0 : Rat) = _ * 0; grind
    | cons r rs ih =>
      show lowF ns ((r.1, (m : Rat) * r.2) :: timesR m rs) k = _
      rw [lowF_cons, lowF_cons, ih]; grind
  unfold lowR scR
  rw [List.map_map]
  exact List.map_congr_left fun k _ => e k
theorem ps_scale (c : Rat) (xs : List Rat) : psR (scR c xs) = scR c (psR xs) := by
  refine List.ext_getElem? fun k => ?_
  by_cases hk : k ≤ xs.length
  · rw [ps_hp (by rw [scR_len]; exact hk), scR_hp]
    unfold scR
    rw [List.getElem?_map, ps_hp hk]; rfl
  · rw [List.getElem?_eq_none (by rw [psR_len, scR_len]; omega), List.getElem?_eq_none (by rw [scR_len, psR_len]; omega)]
theorem times_most (hr : RowOk ns) (hL : Lcm ns L72) (h : Rns ns B D0 rs) {m : Nat} {B' : Nat} (h' : Rns ns B' D0 (timesR m rs)) : mostR ns (timesR m rs) = scR (m : Rat) (mostR ns rs) := by
  obtain ⟨l, w⟩ := rainsR_ok h
  unfold mostR
  rw [← settle_scale hr l.symm Flaps.nil_ hL w m]
  congr 1
  refine hp_ext (by rw [(rainsR_ok h').1, scR_len, l]) fun k hk => ?_
  rw [(rainsR_ok h').1] at hk
  rw [rains_hp h' hk, scR_hp, rains_hp h hk]
  clear h h' w l
  induction rs with
  | nil => show (0 : Rat) = _ * 0; grind
  | cons r rs ih =>
    show sumS ((r.1, ((m : Int) : Rat) * r.2) :: timesR m rs) k = _
    rw [sumS_cons, sumS_cons, ih]
    unfold stp
    have : ((m : Int) : Rat) = (m : Rat) := Rat.intCast_natCast m
    simp only
    split <;> grind
/-- one rain alone -/
theorem alone_eq (hr : RowOk ns) (hL : Lcm ns L72) {r : Int × Rat} (h : Rns ns B D0 [r]) : lowR ns [r] = psR (fallR ns [r]) ∧ psR (mostR ns [r]) = psR (fallR ns [r]) :=
  ⟨(ps_low hr hL h (List.pairwise_singleton _ _)).symm, by rw [fall_eq_most hr hL h (List.pairwise_singleton _ _)]⟩
/-- one more -/
theorem more_low {r : Int × Rat} : lowR ns (rs ++ [r]) = putR (lowR ns rs) (lowR ns [r]) := by
  refine List.ext_getElem? fun k => ?_
  by_cases hk : k ≤ ns.length
  · rw [lowR_get hk, putR_get (lowR_get hk) (lowR_get hk), lowF_snoc]
    congr 1
    have : lowF ns [r] k = r.2 * lowL (pl ns) ns.length r.1 k := by rw [lowF_cons]; show _ + (0 : Rat) = _; grind
    rw [this]
  · rw [List.getElem?_eq_none (by rw [lowR_len]; omega), List.getElem?_eq_none (by rw [putR_len (by rw [lowR_len, lowR_len]), lowR_len]; omega)]
theorem more_most (hr : RowOk ns) (hL : Lcm ns L72) {r : Int × Rat} (h : Rns ns B D0 (rs ++ [r])) {k : Nat} (hk : k ≤ ns.length) : hp (mostR ns rs) k ≤ hp (mostR ns (rs ++ [r])) k := by
  refine (most_rest hr hL h.l).2.mono hr.strict cn0 cnn (most_rest hr hL h).2 (fun _ h => h) (fun m hm => ?_) hk
  rw [sumS_snoc]
  have := (h.ri r (List.mem_singleton.mpr rfl)).nn
  unfold stp; split <;> grind
end
theorem RdT.frs2 {M : MH} {xs ys : List Rat} : RdT M (.tup [.lst (xs.map frD), .lst (ys.map frD)]) (.tup [tFs xs, tFs ys]) := by
  have := RdT.of M (t := .tup [tFs xs, tFs ys]) (by
    have h1 := tFs_dep xs
    have h2 := tFs_dep ys
    simp only [T.dep, T.deps]
    omega)
  rwa [T.d, T.ds, T.ds, T.ds, tFs_d, tFs_d] at this
theorem eq_two {neg : Bool} {xs ys xs' ys' : List Rat} {M : MH} {k : AK} (e1 : xs = xs') (e2 : ys = ys') (h : k (.bl !neg) M) : bEq neg (.tup [.lst (xs.map frD), .lst (ys.map frD)]) (.tup [.lst (xs'.map frD), .lst (ys'.map frD)]) M k := by
  subst e1 e2
  exact iEqTt h RdT.frs2
theorem eq_frs {neg : Bool} {xs ys : List Rat} {M : MH} {k : AK} (e1 : xs = ys) (h : k (.bl !neg) M) : bEq neg (.lst (xs.map frD)) (.lst (ys.map frD)) M k := by
  subst e1
  exact iEqTt h RdT.frs
theorem Amt.den60 {x : Rat} (h : Amt x) : x.den ≤ 60 ∧ 0 ≤ x.num ∧ x.num < 1000000000001 := by
  have h0 := h.nonneg
  obtain ⟨a, c, h1, h2, h3, h4, rfl⟩ := h
  have d := mkRat_den_dvd (a := a) (c := c) (by omega)
  refine ⟨?_, Rat.num_nonneg.mpr h0, ?_⟩
  · have := Nat.le_of_dvd (by omega) d
    omega
  · rw [mkRat_num (by omega)]
    have g : (0 : Int) ≤ ((Nat.gcd a.natAbs c.toNat : Nat) : Int) := Int.natCast_nonneg _
    have := Int.ediv_le_self ((Nat.gcd a.natAbs c.toNat : Nat) : Int) h1
    omega
end M
/-! S_MShow: which data repr can tell. -/
namespace M
open PySem L2
/-- at most n nodes, all numbers short -/
structure Shb (t : T) (n : Nat) : Prop where
  s : t.py.showable = true
  b : t.py.bulk + 1 ≤ n
structure Shbs (ts : List T) (n : Nat) : Prop where
  s : PyData.showableAll (T.pys ts) = true
  b : PyData.bulkAll (T.pys ts) ≤ n
theorem Shb.mono {t : T} {m n : Nat} (h : Shb t m) (l : m ≤ n) : Shb t n := ⟨h.s, Nat.le_trans h.b l⟩
theorem log2_lt {n k : Nat} (h : n < 2 ^ k) (hk : 0 < k) : n.log2 < k := by
  by_cases z : n = 0
  · subst z; rw [Nat.log2_zero]; exact hk
  · exact (Nat.log2_lt z).mpr h
theorem Shb.int {i : Int} (h : i.natAbs < 2 ^ 1920) : Shb (.int i) 1 := ⟨by rw [T.py, PyData.showable]; exact decide_eq_true (log2_lt h (by decide)), by rw [T.py, PyData.bulk]; exact Nat.le_refl _⟩
theorem Shbs.nil : Shbs [] 0 := ⟨by rw [T.pys, PyData.showableAll], by rw [T.pys, PyData.bulkAll]; exact Nat.le_refl _⟩
theorem Shbs.cons {t : T} {ts : List T} {m n : Nat} (h : Shb t m) (g : Shbs ts n) : Shbs (t :: ts) (m + n) := ⟨by rw [T.pys, PyData.showableAll, h.s, g.s]; rfl, by rw [T.pys, PyData.bulkAll]; have := h.b; have := g.b; omega⟩
theorem Shb.tup {ts : List T} {n : Nat} (h : Shbs ts n) : Shb (.tup ts) (n + 1) := ⟨by rw [T.py, PyData.showable]; exact h.s, by rw [T.py, PyData.bulk]; have := h.b; omega⟩
theorem Shb.lst {ts : List T} {n : Nat} (h : Shbs ts n) : Shb (.lst ts) (n + 1) := ⟨by rw [T.py, PyData.showable]; exact h.s, by rw [T.py, PyData.bulk]; have := h.b; omega⟩
theorem Shbs.map {α : Type} {f : α → T} {m : Nat} : ∀ {xs : List α}, (∀ x ∈ xs, Shb (f x) m) → Shbs (xs.map f) (xs.length * m)
  | [], _ => by rw [List.length_nil, Nat.zero_mul]; exact .nil
  | x :: xs, h => by
    rw [List.map_cons, List.length_cons, Nat.succ_mul, Nat.add_comm]
    exact .cons (h x List.mem_cons_self) (Shbs.map fun y hy => h y (List.mem_cons_of_mem _ hy))
theorem Shbs.le {ts : List T} {m n : Nat} (h : Shbs ts m) (l : m ≤ n) : Shbs ts n := ⟨h.s, Nat.le_trans h.b l⟩
theorem Shbs.mapLe {α : Type} {f : α → T} {m l : Nat} {xs : List α} (h : ∀ x ∈ xs, Shb (f x) m) (hl : xs.length ≤ l) : Shbs (xs.map f) (l * m) := (Shbs.map h).le (Nat.mul_le_mul_right _ hl)
/-- a fraction of short numbers -/
def Sht (x : Rat) : Prop := x.num.natAbs < 2 ^ 1920 ∧ x.den < 2 ^ 1920
theorem Shb.fr {x : Rat} (h : Sht x) : Shb (tF x) 3 := by
  have := Shb.tup (.cons (.int h.1) (.cons (.int (i := (x.den : Int)) (by rw [Int.natAbs_natCast]; exact h.2)) .nil))
  exact this
theorem Shb.ints {ns : List Int} {l : Nat} (h : ∀ n ∈ ns, n.natAbs < 2 ^ 1920) (hl : ns.length ≤ l) : Shb (tI ns) (l + 1) := by
  have := Shb.lst (Shbs.mapLe (f := T.int) (m := 1) (fun n hn => .int (h n hn)) hl)
  rw [Nat.mul_one] at this
  exact this
theorem Shb.frs {xs : List Rat} {l : Nat} (h : ∀ x ∈ xs, Sht x) (hl : xs.length ≤ l) : Shb (tFs xs) (l * 3 + 1) := .lst (Shbs.mapLe (fun x hx => .fr (h x hx)) hl)
theorem Bnd.sht {V D : Nat} {x : Rat} (h : Bnd V D x) (hD : 0 < D) (hD' : D < 2 ^ 1840) (hV : V < 2 ^ 80) : Sht x := by
  have l := Nat.le_of_dvd hD h.den_dvd
  refine ⟨?_, Nat.lt_of_le_of_lt l (Nat.lt_trans hD' (Nat.pow_lt_pow_right (by decide) (by decide)))⟩
  refine Nat.lt_of_le_of_lt (Nat.le_trans h.num_le (Nat.mul_le_mul_left V l)) ?_
  have e : (2 : Nat) ^ 1920 = 2 ^ 80 * 2 ^ 1840 := by rw [← Nat.pow_add]
  rw [e]
  exact Nat.mul_lt_mul'' hV hD'
theorem WOk.sht {V D : Nat} {xs : List Rat} (h : WOk V D xs) (hD : 0 < D) (hD' : D < 2 ^ 1840) (hV : V < 2 ^ 80) : ∀ x ∈ xs, Sht x := fun x hx => by
  have hv : (0 : Rat) ≤ (V : Rat) := Rat.natCast_nonneg
  exact Bnd.sht (V := V) (D := D) ⟨h.d x hx, by have := h.nn x hx; grind, h.le hx⟩ hD hD' hV
def tSt (s : List Int × List Rat) : T := .tup [tI s.1, tFs s.2]
theorem tSt_d (s : List Int × List Rat) : (tSt s).d = stepD s := by
  unfold tSt stepD
  rw [T.d, T.ds, T.ds, T.ds, tI_d, tFs_d]
theorem tSt_dep (s : List Int × List Rat) : (tSt s).dep ≤ 3 := by
  unfold tSt
  rw [T.dep, T.deps, T.deps, T.deps]
  have := tI_dep s.1
  have := tFs_dep s.2
  omega
def tSts (st : List (List Int × List Rat)) : T := .lst (st.map tSt)
theorem tSts_d (st : List (List Int × List Rat)) : (tSts st).d = .lst (st.map stepD) := by
  unfold tSts
  rw [T.d, ds_map]
  exact congrArg D.lst (List.map_congr_left fun s _ => tSt_d s)
theorem tSts_dep (st : List (List Int × List Rat)) : (tSts st).dep ≤ 4 := by
  unfold tSts
  rw [T.dep]
  have : T.deps (st.map tSt) ≤ 3 := deps_le fun x _ => tSt_dep x
  omega
/-- what a History tells: its steps, its water now -/
def tShown (h : HD) : List T := [tSts h.st, tFs h.now]
theorem tShown_rd {M : MH} (h : HD) : RdT M (.lst [.lst (h.st.map stepD), .lst (h.now.map frD)]) (.lst (tShown h)) := by
  have := RdT.of M (t := .lst (tShown h)) (by
    unfold tShown
    rw [T.dep, T.deps, T.deps, T.deps]
    have := tSts_dep h.st
    have := tFs_dep h.now
    omega)
  unfold tShown at this ⊢
  rwa [T.d, T.ds, T.ds, T.ds, tSts_d, tFs_d] at this
theorem iRepr {M : MH} {d : D} {k : AK} {ts : List T} {n : Nat} (h : k (.str (T.lst ts).py.shown) M) (r : RdT M d (.lst ts)) (s : Shbs ts n) (hn : n ≤ 8000) : cRepr [d] M k := by
  refine ⟨ts, r, (Shb.lst s).s, ?_, h⟩
  have := (Shb.lst s).b
  omega
theorem len_sum : ∀ {ns : List Int}, (∀ n ∈ ns, 1 ≤ n) → (ns.length : Int) ≤ ns.sum
  | [], _ => by simp
  | n :: ns, h => by
    have h1 := h n List.mem_cons_self
    have h2 := len_sum fun m hm => h m (List.mem_cons_of_mem _ hm)
    rw [List.sum_cons, List.length_cons]; omega
theorem lt1920 {n : Nat} (h : n ≤ 1000) : n < 2 ^ 1920 := Nat.lt_of_le_of_lt h (by rw [show (1920 : Nat) = 10 + 1910 from rfl, Nat.pow_add]; exact Nat.lt_of_lt_of_le (show 1000 < 2 ^ 10 * 1 by decide) (Nat.mul_le_mul_left _ (Nat.two_pow_pos _)))
theorem shown_ok {B D0 : Nat} {h : HD} (o : HOk B D0 h) (hR : HRm B D0) : Shbs (tShown h) 4880 := by
  obtain ⟨e, nl, nw⟩ := o.now
  have n72 : h.ns.length ≤ 72 := by
    have := len_sum o.row.w
    have := o.sum
    omega
  have few := o.few
  have rm := hR.rm (i := h.st.length) few
  have hV : B * (h.st.length + 1) < 2 ^ 80 := by
    have := hR.b
    have : B * (h.st.length + 1) ≤ B * 17 := Nat.mul_le_mul_left _ (by omega)
    have e : (2 : Nat) ^ 80 = 2 ^ 59 * 2097152 := by decide
    omega
  have one : ∀ s ∈ h.st, Shb (tSt s) 291 := fun s hs => by
    obtain ⟨i, hi⟩ := List.getElem?_of_mem hs
    have hlt := (List.getElem?_eq_some_iff.mp hi).1
    have hw := List.getElem?_eq_getElem (show i < h.ws.length by have := o.wl; omega)
    obtain ⟨f1, f2, f3, f4, f5⟩ := o.s i s _ hi hw
    have fl := Flaps.length f1
    have a1 : Shb (tI s.1) (72 + 1) := .ints (fun n hn => by
      have h1 := f1.lo n hn
      have h2 := f1.hi n hn
      exact lt1920 (by omega)) (by omega)
    have a2 : Shb (tFs s.2) (72 * 3 + 1) := .frs (f4.sht hR.d0 (Nat.lt_trans hR.d (Nat.pow_lt_pow_right (by decide) (by decide))) (Nat.lt_trans hR.b (by decide))) (by omega)
    exact (Shb.tup (.cons a1 (.cons a2 .nil))).mono (by decide)
  have b1 : Shb (tSts h.st) (16 * 291 + 1) := .lst (Shbs.mapLe one few)
  have b2 : Shb (tFs h.now) (72 * 3 + 1) := .frs (nw.sht rm.d0 (Nat.lt_trans rm.d (Nat.pow_lt_pow_right (by decide) (by decide))) hV) (by omega)
  have := Shbs.cons b1 (.cons b2 .nil)
  exact this.le (by decide)
end M
namespace M
open PySem L2
def F_law_k39 (PT : Addr) : AF := fun ds M k _ => ∃ ns : List Int, ds = [.scr ns] ∧ ns.length ≤ 63 ∧ M PT = some (.obj (.tbl qB)) ∧ ∀ M', k (.bl true) M'
def c2_law_k39 (EC : EA) (PT : Addr) : AS := (aSeq (aSet 13 (aLc false (wLst (aLst false (aCons (aC .non) (aCons (aVar 5) (aCons (aVar 10) aNil))))) (gNm 12) aYes (aCall noX (F_law_refusal_v2 EC PT) [] (aCons (aVar 3) (aCons (aVar 4) (aCons (aVar 12) aNil)))) [12]))
  (aIfS (aOr (aB (aOp (bEq true) (aVar 13) (aLst false (aCons (aTup (aCons (aC (.str "none")) (aCons (aC .non) aNil))) (aCons (aTup (aCons (aC (.str "none")) (aCons (aC .non) aNil))) (aCons (aTup (aCons (aC (.str "order")) (aCons (aC .non) aNil))) aNil)))))) (aB (aOp (bEq true) (aCB cRepr (aCons (aLst false (aCons (aVar 3) (aCons (aVar 4) (aCons (aVar 8) (aCons (aVar 10) aNil))))) aNil)) (aVar 11))))
  (aRet (aC (.bl false)))
  aNext))
def c1_law_k39 (EC : EA) (PT : Addr) : AS := (aSeq (aSet 11 (aCB cRepr (aCons (aLst false (aCons (aVar 3) (aCons (aVar 4) (aCons (aVar 8) (aCons (aVar 10) aNil))))) aNil)))
  (aSeq (aFor (wLst (aLst false (aCons (aC .non) (aCons (aVar 5) (aCons (aVar 10) aNil))))) (gNm 12)
  (aSeq (aIfS (aOr (aB (aOp (bEq true) (aCall noX (F_law_refusal_v2 EC PT) [] (aCons (aLst false aNil) (aCons (aVar 8) (aCons (aVar 12) aNil)))) (aTup (aCons (aC (.str "floors")) (aCons (aC .non) aNil))))) (aB (aOp (bEq true) (aCall noX (F_law_refusal_v2 EC PT) [] (aCons (aVar 7) (aCons (aVar 8) (aCons (aVar 12) aNil)))) (aTup (aCons (aC (.str "floors")) (aCons (aVar 6) aNil))))))
  (aRet (aC (.bl false)))
  aNext)
  (aIfS (aB (aOp (bEq true) (aCall noX (F_law_refusal_v2 EC PT) [] (aCons (aVar 3) (aCons (aVar 8) (aCons (aVar 12) aNil)))) (aTup (aCons (aC (.str "rain")) (aCons (aVar 9) aNil)))))
  (aRet (aC (.bl false)))
  aNext)))
  (c2_law_k39 EC PT)))
/-- law -/
def b_law_k39 (EC : EA) (PT : Addr) : AS := (aSeq (aSet 1 (aCall noX F_law_deck [] (aCons (aVar 0) aNil)))
  (aSeq (aFor (wRg1 (aCons (aOp (bAdd false) (aC (.int 3)) (aCB cMin2 (aCons (aC (.int 5)) (aCons (aCB cLen (aCons (aVar 0) aNil)) aNil)))) aNil)) (gNm 2)
  (aSeq (aSet 3 (aCall noX F_law_tanks [] (aCons (aVar 1) (aCons (aC (.int 8)) aNil))))
  (aSeq (aSet 4 (aCall noX F_law_rains [] (aCons (aVar 1) (aCons (aVar 3) (aCons (aC (.int 8)) aNil)))))
  (aSeq (aSet 5 (aRev false (aLRange1 false (aCB cLen (aCons (aVar 4) aNil)))))
  (aSeq (aSet 6 (aCall noX F_law_take [] (aCons (aVar 1) (aCons (aCB cLen (aCons (aVar 3) aNil)) aNil))))
  (aSeq (aSet 7 (aOp (bAdd false) (aOp (bAdd false) (aCut false (aVar 3) aNoPart (aPart (aVar 6))) (aLst false (aCons (aOp bIx (aLst false (aCons (aC (.int 0)) (aCons (aNeg (aC (.int 1))) (aCons (aNeg (aC (.int 99))) aNil)))) (aCall noX F_law_take [] (aCons (aVar 1) (aCons (aC (.int 3)) aNil)))) aNil))) (aCut false (aVar 3) (aPart (aOp (bAdd false) (aVar 6) (aC (.int 1)))) aNoPart)))
  (aSeq (aAsg (aCall noX F_law_bad_rains [] (aCons (aVar 1) (aCons (aVar 3) (aCons (aVar 4) aNil)))) (gTu 2 (gCo (gNm 8) (gCo (gNm 9) gNi))))
  (aSeq (aSet 10 (aCall noX F_law_bad_row [] (aCons (aVar 1) (aCons (aVar 5) aNil))))
  (c1_law_k39 EC PT)))))))))
  (aRet (aC (.bl true)))))
theorem len_law_k39 {PT : Addr} : ∀ ds M k x, F_law_k39 PT ds M k x → ds.length = 1 := by
  rintro ds M k x ⟨a, rfl, _⟩; rfl
abbrev B40 : Nat := 8000000000008
theorem hrm40 : HRm B40 L60 := ⟨L60_pos, Nat.lt_trans L60_lt84 (by decide), by decide⟩
theorem Rn.ok {n : Nat} {r : Int × Rat} (h : Rn n r) : RnOk n B40 L60 r := ⟨h.lo, h.hi, h.a.nonneg, Rat.le_trans h.a.bnd.hi (Rat.natCast_le_natCast.mpr (by decide)), h.a.bnd.den⟩
theorem Rn.rain {n : Nat} {r : Int × Rat} (h : Rn n r) : RainOk n r := ⟨h.lo, h.hi, h.p⟩
def tRn (r : Int × Rat) : T := .tup [.int r.1, tF r.2]
theorem tRn_d (r : Int × Rat) : (tRn r).d = rnD r := by
  unfold tRn rnD
  rw [T.d, T.ds, T.ds, T.ds, T.d, tF_d]
theorem tRn_deps (rs : List (Int × Rat)) : T.deps (rs.map tRn) ≤ 2 := deps_le fun c _ => by
  unfold tRn
  rw [T.dep, T.deps, T.deps, T.deps, tF_dep, T.dep]; decide
def tAll (ns : List Int) (rs qs : List (Int × Rat)) (os : List Int) : List T := [tI ns, .lst (rs.map tRn), .lst (qs.map tRn), tI os]
theorem tAll_rd {M : MH} (ns : List Int) (rs qs : List (Int × Rat)) (os : List Int) : RdT M (.lst [.lst (ns.map .int), .lst (rs.map rnD), .lst (qs.map rnD), .lst (os.map .int)]) (.lst (tAll ns rs qs os)) := by
  have hr := tRn_deps rs
  have hq := tRn_deps qs
  have := RdT.of M (t := .lst (tAll ns rs qs os)) (by
    unfold tAll
    rw [T.dep, T.deps, T.deps, T.deps, T.deps, T.deps, T.dep, T.dep]
    have := tI_dep ns
    have := tI_dep os
    omega)
  unfold tAll at this ⊢
  rw [T.d, T.ds, T.ds, T.ds, T.ds, T.ds, tI_d, tI_d, T.d, T.d, ds_map, ds_map] at this
  rwa [show rs.map (fun x => (tRn x).d) = rs.map rnD from List.map_congr_left fun r _ => tRn_d r, show qs.map (fun x => (tRn x).d) = qs.map rnD from List.map_congr_left fun r _ => tRn_d r] at this
theorem rn_shb {l : Int} {V D0 : Nat} {r : Int × Rat} (h1 : r.1.natAbs ≤ 1000) (b : Bnd V D0 r.2) (h0 : 0 < D0) (hD : D0 < 2 ^ 1840) (hV : V < 2 ^ 80) : Shb (tRn r) 5 :=
  .tup (.cons (.int (lt1920 (by omega))) (.cons (.fr (b.sht h0 hD hV)) .nil))
theorem Bnd.small39 {V D : Nat} {x : Rat} (h : Bnd V D x) (hD0 : 0 < D) (hD : D < 2 ^ 1950) (hV : V < 2 ^ 1950) : Sm x := by
  refine h.sm hD0 ?_ ?_
  · rw [b40_eq]; exact Nat.lt_trans hD (Nat.pow_lt_pow_right (by decide) (by decide))
  · rw [b40_eq]; exact Nat.lt_of_lt_of_le (Nat.mul_lt_mul'' hV hD) (by rw [← Nat.pow_add]; exact Nat.pow_le_pow_right (by decide) (by decide))
/-- a row, rains, odd ones -/
structure Cx39 (ns : List Int) (rs : List (Int × Rat)) (i : Nat) (o : Int × Rat) (bad : List Int) (s : Nat) (ro oo : List Int) : Prop where
  hr : RowOk ns
  hs : ns.sum ≤ 72
  h8 : ns.length ≤ 8
  h9 : ∀ n ∈ ns, 1 ≤ n ∧ n ≤ 72
  rn : ∀ r ∈ rs, Rn ns.length r
  few : rs.length ≤ 8
  hi : i ≤ rs.length
  odd : OddR ns.length o
  bl : bad.length ≤ 1000
  bad : BadAt (fun n : Int => 1 ≤ n) bad s
  ro : ro.Perm (rng 0 rs.length)
  oo : OddO rs.length oo
theorem BadAt.uniq {α : Type} {p : α → Prop} {l : List α} {i j : Nat} (h : BadAt p l i) (g : BadAt p l j) : i = j := by
  obtain ⟨⟨a, ha, na⟩, h2⟩ := h
  obtain ⟨⟨b, hb, nb⟩, g2⟩ := g
  rcases Nat.lt_trichotomy i j with z | z | z
  · exact absurd (g2 i a z ha) na
  · exact z
  · exact absurd (h2 j b z hb) nb
theorem Cx39.odds {ns : List Int} {rs : List (Int × Rat)} {i : Nat} {o : Int × Rat} {bad : List Int} {s : Nat} {ro oo : List Int} (c : Cx39 ns rs i o bad s ro oo) : BadAt (RainOk ns.length) (oddRs rs i o) i ∧ (oddRs rs i o).length ≤ 10 ∧ (∀ r ∈ oddRs rs i o, Sm r.2) ∧ Shbs ((oddRs rs i o).map tRn) (10 * 5) := by
  have hi := c.hi
  have few := c.few
  have h8 := c.h8
  have l1 : (rs.take i).length = i := by rw [List.length_take]; omega
  have mem : ∀ r ∈ oddRs rs i o, r ∈ rs ∨ r = o ∨ r = (0, 1 / 2) := fun r hr => by
    unfold oddRs at hr
    simp only [List.mem_append, List.mem_singleton] at hr
    rcases hr with ((h | h) | h) | h
    · exact .inl (List.mem_of_mem_take h)
    · exact .inr (.inl h)
    · exact .inl (List.mem_of_mem_drop h)
    · exact .inr (.inr h)
  have ll : (oddRs rs i o).length ≤ 10 := by
    unfold oddRs
    rw [List.length_append, List.length_append, List.length_append, l1, List.length_drop, List.length_singleton, List.length_singleton]; omega
  have sm : ∀ r ∈ oddRs rs i o, r.1.natAbs ≤ 1000 ∧ ∃ V D0, Bnd V D0 r.2 ∧ 0 < D0 ∧ D0 < 2 ^ 1840 ∧ V < 2 ^ 80 := fun r hr => by
    rcases mem r hr with h | rfl | rfl
    · have g := c.rn r h
      exact ⟨by have := g.lo; have := g.hi; omega, _, _, g.a.bnd, L60_pos, Nat.lt_trans L60_lt84 (Nat.pow_lt_pow_right (by decide) (by decide)), by decide⟩
    · exact ⟨by have := c.odd.lo; have := c.odd.hi; omega, _, _, c.odd.b, by decide, Nat.lt_trans (by decide : 7 < 2 ^ 8) (Nat.pow_lt_pow_right (by decide) (by decide)), by decide⟩
    · exact ⟨by decide, 1, 2, ⟨⟨1, by decide +kernel⟩, by decide +kernel, by decide +kernel⟩, by decide, Nat.lt_trans (by decide : 2 < 2 ^ 8) (Nat.pow_lt_pow_right (by decide) (by decide)), by decide⟩
  refine ⟨⟨⟨o, ?_, c.odd.bad⟩, fun j b hj hb => ?_⟩, ll, fun r hr => ?_, ?_⟩
  · unfold oddRs
    rw [List.append_assoc, List.append_assoc, List.getElem?_append_right (by omega), l1, Nat.sub_self]
    rfl
  · unfold oddRs at hb
    rw [List.append_assoc, List.append_assoc, List.getElem?_append_left (by omega)] at hb
    exact (c.rn b (List.mem_of_mem_take (List.mem_of_getElem? hb))).rain
  · obtain ⟨_, V, D0, b, h0, hD, hV⟩ := sm r hr
    exact b.small39 h0 (Nat.lt_trans hD (Nat.pow_lt_pow_right (by decide) (by decide))) (Nat.lt_trans hV (Nat.pow_lt_pow_right (by decide) (by decide)))
  · refine Shbs.mapLe (fun r hr => ?_) ll
    obtain ⟨h1, V, D0, b, h0, hD, hV⟩ := sm r hr
    exact rn_shb (l := 0) h1 b h0 hD hV
theorem Cx39.kept {ns : List Int} {rs : List (Int × Rat)} {i : Nat} {o : Int × Rat} {bad : List Int} {s : Nat} {ro oo : List Int} (c : Cx39 ns rs i o bad s ro oo) : Shbs (tAll ns rs (oddRs rs i o) oo) 200 := by
  have few := c.few
  have a1 : Shb (tI ns) (8 + 1) := .ints (fun n hn => by have := c.h9 n hn; exact lt1920 (by omega)) c.h8
  have a2 : Shb (.lst (rs.map tRn)) (8 * 5 + 1) := .lst (Shbs.mapLe (fun r hr => by
    have g := c.rn r hr
    have := c.h8
    exact rn_shb (l := 0) (by have := g.lo; have := g.hi; omega) g.a.bnd L60_pos (Nat.lt_trans L60_lt84 (Nat.pow_lt_pow_right (by decide) (by decide))) (by decide)) few)
  have a3 : Shb (.lst ((oddRs rs i o).map tRn)) (10 * 5 + 1) := .lst c.odds.2.2.2
  have a4 : Shb (tI oo) (10 + 1) := .ints (fun n hn => by have := c.oo.lo n hn; have := c.oo.hi n hn; exact lt1920 (by omega)) (by have := c.oo.len; omega)
  exact (Shbs.cons a1 (.cons a2 (.cons a3 (.cons a4 .nil)))).le (by decide)
theorem eq_sameT {ds : List D} {y : PyData} {M : MH} {k : AK} (hd : rdD M 4 (.tup ds) = .tup ds) (py : (D.tup ds).py = some y) (sh : SeqAt.shaped y = true) (e : PyData.eqv y y = true) (h : k (.bl false) M) : bEq true (.tup ds) (.tup ds) M k := by
  show ∃ x y, (rdD M 4 (.tup ds)).py = some x ∧ (rdD M 4 (.tup ds)).py = some y ∧ SeqAt.shaped x = true ∧ SeqAt.shaped y = true ∧ k (.bl (if true = true then !PyData.eqv x y else PyData.eqv x y)) M
  refine ⟨y, y, by rw [hd]; exact py, by rw [hd]; exact py, sh, sh, ?_⟩
  rw [e]; exact h
theorem eq_sameL {ds : List D} {y : PyData} {M : MH} {k : AK} (hd : rdD M 4 (.lst ds) = .lst ds) (py : (D.lst ds).py = some y) (sh : SeqAt.shaped y = true) (e : PyData.eqv y y = true) (h : k (.bl false) M) : bEq true (.lst ds) (.lst ds) M k := by
  show ∃ x y, (rdD M 4 (.lst ds)).py = some x ∧ (rdD M 4 (.lst ds)).py = some y ∧ SeqAt.shaped x = true ∧ SeqAt.shaped y = true ∧ k (.bl (if true = true then !PyData.eqv x y else PyData.eqv x y)) M
  refine ⟨y, y, by rw [hd]; exact py, by rw [hd]; exact py, sh, sh, ?_⟩
  rw [e]; exact h
theorem pair_non {s : Str} {M : MH} {k : AK} (hs : PyData.canLay0 (.str s) = true) (h : k (.bl false) M) : bEq true (.tup [.str s, .non]) (.tup [.str s, .non]) M k := by
  refine eq_sameT rfl (y := .tuple [.str s, .none]) (by rw [D.py, D.pys, D.py, D.pys, D.py, D.pys]; rfl) ?_ ?_ h
  · unfold SeqAt.shaped
    rw [PyData.canLay0, PyData.canLayAll0, hs, PyData.canLayAll0, PyData.canLayAll0]
    simp [PyData.canLay0, PyData.depth, PyData.depthAll]
  · simp [PyData.eqv, PyData.eqvAll]
theorem pair_int {s : Str} {i : Int} {M : MH} {k : AK} (hs : PyData.canLay0 (.str s) = true) (h : k (.bl false) M) : bEq true (.tup [.str s, .int i]) (.tup [.str s, .int i]) M k := by
  refine eq_sameT rfl (y := .tuple [.str s, .int i]) (by rw [D.py, D.pys, D.py, D.pys, D.py, D.pys]; rfl) ?_ ?_ h
  · unfold SeqAt.shaped
    rw [PyData.canLay0, PyData.canLayAll0, hs, PyData.canLayAll0, PyData.canLayAll0]
    simp [PyData.canLay0, PyData.depth, PyData.depthAll]
  · simp [PyData.eqv, PyData.eqvAll]
theorem told_same {M : MH} {k : AK} (h : k (.bl false) M) : bEq true (.lst [noneA, noneA, refA .order .non]) (.lst [.tup [.str "none", .non], .tup [.str "none", .non], .tup [.str "order", .non]]) M k := by
  refine eq_sameL rfl (y := .list [.tuple [.str "none", .none], .tuple [.str "none", .none], .tuple [.str "order", .none]]) ?_ ?_ ?_ h
  · rfl
  · decide +kernel
  · rfl
theorem ok_c2_law_k39 {EC : EA} {PT : Addr} {ns : List Int} {rs : List (Int × Rat)} {i : Nat} {o : Int × Rat} {bad : List Int} {s : Nat} {ro oo : List Int} (c : Cx39 ns rs i o bad s ro oo) {Z : AD} {M : MH} (eT : M PT = some (.obj (.tbl qB))) {x0 x1 x2 x6 x7 x9 x12 x13 : Option D}
    (k : ∀ y12 y13, Z.nx [x0, x1, x2, some (.lst (ns.map .int)), some (.lst (rs.map rnD)), some (.lst (ro.map .int)), x6, x7, some (.lst ((oddRs rs i o).map rnD)), x9, some (.lst (oo.map .int)), some (.str (T.lst (tAll ns rs (oddRs rs i o) oo)).py.shown), y12, y13] M) :
    c2_law_k39 EC PT Z [x0, x1, x2, some (.lst (ns.map .int)), some (.lst (rs.map rnD)), some (.lst (ro.map .int)), x6, x7, some (.lst ((oddRs rs i o).map rnD)), x9, some (.lst (oo.map .int)), some (.str (T.lst (tAll ns rs (oddRs rs i o) oo)).py.shown), x12, x13] M := by
  have kept := c.kept
  unfold c2_law_k39
  walk_at "ev"
  refine lc_st (fun j acc M' => M' = M ∧ acc = [noneA, noneA, refA .order .non].take j) (by show 3 ≤ 1000000; decide) ?_ ?_ ⟨rfl, rfl⟩
  · rintro j x acc M' hx ha ⟨eM, rfl⟩
    subst M'
    refine ⟨trivial, fun kd hkd => ?_⟩
    simp only [wipeG]
    walk_at "ev"
    have ns0 : ns ≠ [] := c.hr.ne
    have few := c.few
    have sx : ∀ r ∈ rs, Sm r.2 := fun r hr => (c.rn r hr).a.bnd.small39 L60_pos (Nat.lt_trans L60_lt84 (Nat.pow_lt_pow_right (by decide) (by decide))) (Nat.lt_trans (by decide : _ < 2 ^ 60) (Nat.pow_lt_pow_right (by decide) (by decide)))
    have ans : ∀ (asked : Option (List Int)), AskOk M x asked → ((∀ os, asked = some os → os.Perm (rng 0 rs.length)) → kd noneA M) → ((∃ os, asked = some os ∧ ¬ os.Perm (rng 0 rs.length)) → kd (refA .order .non) M) → F_law_refusal_v2 EC PT [.lst (ns.map .int), .lst (rs.map rnD), x] M kd noX := fun asked a1 a2 a3 =>
      ⟨_, _, _, ns, rs, asked, rfl, rfl, rfl, a1, by have := c.h8; omega, by omega, sx, ⟨fun z => absurd z ns0, fun i z => absurd (fun n hn => (c.h9 n hn).1) z.not, fun _ _ i z => absurd (fun r hr => (c.rn r hr).rain) z.not, fun _ _ _ => ⟨B40, L60, eT, c.hr, c.hs, by omega, hrm40, fun r hr => ⟨(c.rn r hr).ok, (c.rn r hr).p⟩, a2, a3⟩⟩⟩
    have rol : ro.length = rs.length := by rw [c.ro.length_eq, rng_length]
    match j, hx with
    | 0, hx =>
      cases hx
      exact ans none rfl (fun _ => hkd _ _ ⟨rfl, rfl⟩) fun ⟨_, z, _⟩ => by cases z
    | 1, hx =>
      cases hx
      exact ans (some ro) ⟨rfl, by omega⟩ (fun _ => hkd _ _ ⟨rfl, rfl⟩) fun ⟨_, z, h⟩ => by cases z; exact absurd c.ro h
    | 2, hx =>
      cases hx
      exact ans (some oo) ⟨rfl, by have := c.oo.len; omega⟩ (fun z => absurd (z oo rfl) c.oo.bad) fun _ => hkd _ _ ⟨rfl, rfl⟩
    | j + 3, hx => cases hx
  · rintro acc M' ha ⟨eM, rfl⟩
    subst M'
    refine ⟨trivial, ?_⟩
    rw [show [noneA, noneA, refA .order .non].take [D.non, D.lst (ro.map D.int), D.lst (oo.map D.int)].length = [noneA, noneA, refA .order .non] from rfl]
    walk_at "ev"
    refine told_same ?_
    walk_at "ev"
    refine iRepr ?_ (tAll_rd ns rs _ oo) kept (by decide)
    walk_at "ev"
    exact k _ _
theorem ok_c1_law_k39 {EC : EA} {PT : Addr} {ns : List Int} {rs : List (Int × Rat)} {i : Nat} {o : Int × Rat} {bad : List Int} {s : Nat} {ro oo : List Int} (c : Cx39 ns rs i o bad s ro oo) {Z : AD} {M : MH} (eT : M PT = some (.obj (.tbl qB))) {x0 x1 x2 x11 x12 x13 : Option D}
    (k : ∀ y11 y12 y13, Z.nx [x0, x1, x2, some (.lst (ns.map .int)), some (.lst (rs.map rnD)), some (.lst (ro.map .int)), some (.int s), some (.lst (bad.map .int)), some (.lst ((oddRs rs i o).map rnD)), some (.int i), some (.lst (oo.map .int)), y11, y12, y13] M) :
    c1_law_k39 EC PT Z [x0, x1, x2, some (.lst (ns.map .int)), some (.lst (rs.map rnD)), some (.lst (ro.map .int)), some (.int s), some (.lst (bad.map .int)), some (.lst ((oddRs rs i o).map rnD)), some (.int i), some (.lst (oo.map .int)), x11, x12, x13] M := by
  have kept := c.kept
  obtain ⟨ob, ol, os', _⟩ := c.odds
  have rol : ro.length = rs.length := by rw [c.ro.length_eq, rng_length]
  have few := c.few
  have h8 := c.h8
  unfold c1_law_k39
  walk_at "ev"
  refine iRepr ?_ (tAll_rd ns rs _ oo) kept (by decide)
  walk_at "ev"
  refine for_go (fun j Γ M' => M' = M ∧ ∃ y12, Γ = [x0, x1, x2, some (.lst (ns.map .int)), some (.lst (rs.map rnD)), some (.lst (ro.map .int)), some (.int s), some (.lst (bad.map .int)), some (.lst ((oddRs rs i o).map rnD)), some (.int i), some (.lst (oo.map .int)), some (.str (T.lst (tAll ns rs (oddRs rs i o) oo)).py.shown), y12, x13]) ⟨rfl, _, rfl⟩ ?_ ?_
  · rintro j Γ M' x hx ⟨eM, y12, rfl⟩
    subst M'
    refine ⟨trivial, ?_⟩
    obtain ⟨asked, ask⟩ : ∃ asked : Option (List Int), AskOk M x asked := by
      match j, hx with
      | 0, hx => cases hx; exact ⟨none, rfl⟩
      | 1, hx => cases hx; exact ⟨some ro, rfl, by omega⟩
      | 2, hx => cases hx; exact ⟨some oo, rfl, by have := c.oo.len; omega⟩
      | j + 3, hx => cases hx
    walk_at "ev"
    refine ⟨_, _, _, [], oddRs rs i o, asked, rfl, rfl, rfl, ask, by decide, by omega, os', ⟨fun _ => ⟨.floors, rfl, by decide, ?_⟩, fun i z => absurd (fun n hn => by cases hn) z.not, fun z => absurd rfl z, fun z => absurd rfl z⟩⟩
    walk_at "ev"
    refine pair_non (s := "floors") (by decide +kernel) ?_
    walk_at "ev"
    refine ⟨_, _, _, bad, oddRs rs i o, asked, rfl, rfl, rfl, ask, c.bl, by omega, os', ⟨fun z => absurd (fun n hn => by rw [z] at hn; cases hn) c.bad.not, fun i' z => ?_, fun _ z => absurd z c.bad.not, fun _ z => absurd z c.bad.not⟩⟩
    cases z.uniq c.bad
    refine ⟨.floors, rfl, by decide, ?_⟩
    walk_at "ev"
    refine pair_int (s := "floors") (by decide +kernel) ?_
    walk_at "ev"
    refine ⟨_, _, _, ns, oddRs rs i o, asked, rfl, rfl, rfl, ask, by omega, by omega, os', ⟨fun z => absurd z c.hr.ne, fun i z => absurd (fun n hn => (c.h9 n hn).1) z.not, fun _ _ i' z => ?_, fun _ _ z => absurd z ob.not⟩⟩
    cases z.uniq ob
    refine ⟨.rain, rfl, by decide, ?_⟩
    walk_at "ev"
    refine pair_int (s := "rain") (by decide +kernel) ?_
    walk_at "ev"
    exact ⟨by walk_at "tr", _, rfl⟩
  · rintro Γ M' ⟨eM, y12, rfl⟩
    subst M'
    refine ⟨trivial, ?_⟩
    exact ok_c2_law_k39 c eT fun z12 z13 => k _ _ _
theorem ok_law_k39 (EC : EA) (PT : Addr) : ∀ ds M k x, F_law_k39 PT ds M k x → b_law_k39 EC PT { nx := fun _ M' => fin k .non M', rt := fin k } (startG 14 ds) M := by
  rintro ds M k _ ⟨ns0, rfl, hl, hT, hk⟩
  walk_at "st"
  unfold b_law_k39
  walk_at "ev"
  refine ⟨ns0, 3000, rfl, hl, by decide, fun g t ngt hg ht => ?_⟩
  have T1 : up (up M g (.part t)) t (deck g 3000) PT = some (.obj (.tbl qB)) := by rw [up_ne (fun z => by rw [z, ht] at hT; cases hT), up_ne (fun z => by rw [z, hg] at hT; cases hT)]; exact hT
  have t1 : up (up M g (.part t)) t (deck g 3000) t = some (deck g 3000) := up_same
  generalize up (up M g (.part t)) t (deck g 3000) = M1 at T1 t1 ⊢
  walk_at "ev"
  rw [List.length_map]
  refine ⟨by omega, ?_⟩
  refine for_go (fun i Γ M' => ∃ b, 300 * (8 - i) ≤ b ∧ M' t = some (deck g b) ∧ M' PT = some (.obj (.tbl qB)) ∧ ∃ x2 x3 x4 x5 x6 x7 x8 x9 y0 y1 y2 y3, Γ = [some (.scr ns0), some (.ref t), x2, x3, x4, x5, x6, x7, x8, x9, y0, y1, y2, y3]) ⟨3000, by omega, t1, T1, _, _, _, _, _, _, _, _, _, _, _, _, rfl⟩ ?_ ?_
  · rintro i Γ M2 x hx ⟨b, hb, ht2, hT2, x2, x3, x4, x5, x6, x7, x8, x9, y0, y1, y2, y3, rfl⟩
    obtain ⟨hi, rfl⟩ := rng_it hx
    refine ⟨trivial, ?_⟩
    have hi8 : i < 8 := by omega
    obtain ⟨b1, rfl⟩ : ∃ b1, b = b1 + 8 + 2 := ⟨b - 10, by omega⟩
    have nT : t ≠ PT := fun z => by rw [z, hT2] at ht2; cases ht2
    walk_at "ev"
    refine ⟨t, g, b1, 8, rfl, ht2, by decide, by decide, fun ns h0 hl8 hw => ?_⟩
    have ht3 : up M2 t (deck g b1) t = some (deck g b1) := up_same
    have hT3 : up M2 t (deck g b1) PT = some (.obj (.tbl qB)) := by rw [up_ne nT.symm]; exact hT2
    generalize up M2 t (deck g b1) = M3 at ht3 hT3 ⊢
    have row : Row ns := ⟨h0, hl8, hw⟩
    walk_at "ev"
    obtain ⟨b2, rfl⟩ : ∃ b2, b1 = b2 + 9 * 8 + 1 := ⟨b1 - 73, by omega⟩
    refine ⟨t, g, b2, 8, ns, rfl, ht3, h0, by omega, by decide, fun rs rl0 rn0 => ?_⟩
    have ht4 : up M3 t (deck g b2) t = some (deck g b2) := up_same
    have hT4 : up M3 t (deck g b2) PT = some (.obj (.tbl qB)) := by rw [up_ne nT.symm]; exact hT3
    generalize up M3 t (deck g b2) = M4 at ht4 hT4 ⊢
    walk_at "ev"
    show aLRange1 false _ _ _ (fun d M1 => sRev false d M1 _)
    walk_at "ev"
    rw [List.length_map]
    refine ⟨by unfold rgOk; omega, ?_⟩
    rw [Int.toNat_natCast]
    refine iRevL ?_
    rw [← List.map_reverse]
    have pro : (rng 0 rs.length).reverse.Perm (rng 0 rs.length) := List.reverse_perm _
    generalize (rng 0 rs.length).reverse = ro at pro ⊢
    have rol : ro.length = rs.length := by rw [pro.length_eq, rng_length]
    walk_at "ev"
    rw [List.length_map]
    have hpl : 0 < ns.length := List.length_pos_iff.mpr h0
    obtain ⟨b3, rfl⟩ : ∃ b3, b2 = b3 + 9 := ⟨b2 - 9, by omega⟩
    refine ⟨t, g, b3 + 8, (ns.length : Int), rfl, ht4, by omega, by omega, fun sp s0 s1 => ?_⟩
    obtain ⟨sp, rfl⟩ : ∃ j : Nat, sp = (j : Int) := ⟨sp.toNat, by omega⟩
    walk_at "ev"
    refine ⟨t, g, b3 + 7, 3, rfl, up_same, by omega, by omega, fun r r0 r1 => ?_⟩
    walk_at "ev"
    rw [up_up]
    obtain ⟨z, e, hz⟩ : ∃ z : Int, atI [D.int 0, D.int (-1), D.int (-99)] r = some (.int z) ∧ z < 1 := by
      obtain rfl | rfl | rfl : r = 0 ∨ r = 1 ∨ r = 2 := by omega
      · exact ⟨0, rfl, by omega⟩
      · exact ⟨-1, rfl, by omega⟩
      · exact ⟨-99, rfl, by omega⟩
    refine iKIx ?_ e
    rw [cut_to, ← List.map_take]
    walk_at "ev"
    rw [show ((sp : Int) + 1) = ((sp + 1 : Nat) : Int) by omega, cut_from, ← List.map_drop]
    have l1 : (ns.take sp).length = sp := by rw [List.length_take]; omega
    have l2 : (ns.drop (sp + 1)).length = ns.length - (sp + 1) := by rw [List.length_drop]
    walk_at "ev"
    rw [show [D.int z] = [z].map D.int from rfl, ← List.map_append, ← List.map_append]
    have bad : BadAt (fun n : Int => 1 ≤ n) (ns.take sp ++ [z] ++ ns.drop (sp + 1)) sp := by
      refine ⟨⟨z, ?_, by omega⟩, fun j b hj hb => ?_⟩
      · rw [List.append_assoc, List.getElem?_append_right (by omega), l1, Nat.sub_self]; rfl
      · rw [List.append_assoc, List.getElem?_append_left (by omega)] at hb
        exact (hw b (List.mem_of_mem_take (List.mem_of_getElem? hb))).1
    have bl : (ns.take sp ++ [z] ++ ns.drop (sp + 1)).length ≤ 1000 := by
      rw [List.length_append, List.length_append, l1, l2, List.length_singleton]; omega
    generalize ns.take sp ++ [z] ++ ns.drop (sp + 1) = bad0 at bad bl ⊢
    refine ⟨t, g, b3 + 2, ns, rs, rfl, up_same, by omega, by omega, fun ii o hii oo => ?_⟩
    walk_at "ev"
    rw [up_up]
    refine ⟨t, g, b3, ro, rfl, up_same, by rw [rol]; exact pro, by omega, fun oor hoo => ?_⟩
    rw [rol] at hoo
    walk_at "ev"
    rw [up_up]
    have c : Cx39 ns rs ii o bad0 sp ro oor := ⟨row.ok, row.sum, hl8, fun n hn => by have := hw n hn; omega, rn0, rl0, hii, oo, bl, bad, pro, hoo⟩
    have hT5 : up M4 t (deck g b3) PT = some (.obj (.tbl qB)) := by rw [up_ne nT.symm]; exact hT4
    refine ok_c1_law_k39 c hT5 fun z11 z12 z13 => ?_
    exact ⟨b3, by omega, up_same, hT5, _, _, _, _, _, _, _, _, _, _, _, _, rfl⟩
  · rintro Γ M' ⟨b, hb, hM, hT', x2, x3, x4, x5, x6, x7, x8, x9, y0, y1, y2, y3, rfl⟩
    refine ⟨trivial, ?_⟩
    walk_at "ev"
    exact fin.of (hk _)
end M
namespace M
open PySem L2
def topS (i : Nat) : Stmt := PySem.Challenge.pw_flapwater_k39_rains_refused.main.body.getD i (.Pass ⟨0, 0, 0, 0⟩)
abbrev s_law_deck : Stmt := topS 36
theorem sc_law_deck : FnScope ["script", "great", "fold", "cell"] ["script"] (defScope s_law_deck) := ⟨rfl, rfl, rfl, by decide +kernel, rfl, by decide +kernel, by decide +kernel⟩
abbrev s_law_take : Stmt := topS 37
theorem sc_law_take : FnScope ["deck", "many", "drawn", "turn", "mixed"] ["deck", "many"] (defScope s_law_take) := ⟨rfl, rfl, rfl, by decide +kernel, rfl, by decide +kernel, by decide +kernel⟩
abbrev s_law_tanks : Stmt := topS 39
theorem sc_law_tanks : FnScope ["deck", "most", "many", "kind", "tank"] ["deck", "most"] (defScope s_law_tanks) := ⟨rfl, rfl, rfl, by decide +kernel, rfl, by decide +kernel, by decide +kernel⟩
abbrev s_law_low_v2 : Stmt := topS 38
theorem sc_law_low_v2 : FnScope ["top", "bottom", "one", "other"] ["top", "bottom"] (defScope s_law_low_v2) := ⟨rfl, rfl, rfl, by decide +kernel, rfl, by decide +kernel, by decide +kernel⟩
abbrev s_law_amount_v3 : Stmt := topS 40
theorem sc_law_amount_v3 : FnScope ["deck", "some", "kind"] ["deck"] (defScope s_law_amount_v3) := ⟨rfl, rfl, rfl, by decide +kernel, rfl, by decide +kernel, by decide +kernel⟩
abbrev s_law_rains : Stmt := topS 41
theorem sc_law_rains : FnScope ["deck", "tanks", "most", "found", "turn", "amount"] ["deck", "tanks", "most"] (defScope s_law_rains) := ⟨rfl, rfl, rfl, by decide +kernel, rfl, by decide +kernel, by decide +kernel⟩
abbrev s_law_bad_rains : Stmt := topS 43
theorem sc_law_bad_rains : FnScope ["deck", "tanks", "some", "at", "tank", "odd"] ["deck", "tanks", "some"] (defScope s_law_bad_rains) := ⟨rfl, rfl, rfl, by decide +kernel, rfl, by decide +kernel, by decide +kernel⟩
abbrev s_law_bad_row : Stmt := topS 44
theorem sc_law_bad_row : FnScope ["deck", "row", "spot", "some"] ["deck", "row"] (defScope s_law_bad_row) := ⟨rfl, rfl, rfl, by decide +kernel, rfl, by decide +kernel, by decide +kernel⟩
abbrev s_need_floors_x : Stmt := topS 20
theorem sc_need_floors_x : FnScope ["floors", "number", "floor"] ["floors"] (defScope s_need_floors_x) := ⟨rfl, rfl, rfl, by decide +kernel, rfl, by decide +kernel, by decide +kernel⟩
abbrev s_is_below : Stmt := topS 18
theorem sc_is_below : FnScope ["one", "other"] ["one", "other"] (defScope s_is_below) := ⟨rfl, rfl, rfl, by decide +kernel, rfl, by decide +kernel, by decide +kernel⟩
abbrev s_need_rains_x : Stmt := topS 29
theorem sc_need_rains_x : FnScope ["floors", "rains", "number", "tank", "amount"] ["floors", "rains"] (defScope s_need_rains_x) := ⟨rfl, rfl, rfl, by decide +kernel, rfl, by decide +kernel, by decide +kernel⟩
abbrev s_lowest : Stmt := topS 15
theorem sc_lowest : FnScope ["top", "bottom", "one", "other"] ["top", "bottom"] (defScope s_lowest) := ⟨rfl, rfl, rfl, by decide +kernel, rfl, by decide +kernel, by decide +kernel⟩
abbrev s_add : Stmt := topS 16
theorem sc_add : FnScope ["one", "other"] ["one", "other"] (defScope s_add) := ⟨rfl, rfl, rfl, by decide +kernel, rfl, by decide +kernel, by decide +kernel⟩
abbrev s_heaped_up : Stmt := topS 23
theorem sc_heaped_up : FnScope ["water", "found", "amount"] ["water"] (defScope s_heaped_up) := ⟨rfl, rfl, rfl, by decide +kernel, rfl, by decide +kernel, by decide +kernel⟩
abbrev s_need_floors : Stmt := topS 20
theorem sc_need_floors : FnScope ["floors", "number", "floor"] ["floors"] (defScope s_need_floors) := ⟨rfl, rfl, rfl, by decide +kernel, rfl, by decide +kernel, by decide +kernel⟩
abbrev s_need_water : Stmt := topS 21
theorem sc_need_water : FnScope ["floors", "water", "number", "amount"] ["floors", "water"] (defScope s_need_water) := ⟨rfl, rfl, rfl, by decide +kernel, rfl, by decide +kernel, by decide +kernel⟩
abbrev s_need_flaps : Stmt := topS 22
theorem sc_need_flaps : FnScope ["floors", "bolted", "number", "flap"] ["floors", "bolted"] (defScope s_need_flaps) := ⟨rfl, rfl, rfl, by decide +kernel, rfl, by decide +kernel, by decide +kernel⟩
abbrev s_stretches : Stmt := topS 24
theorem sc_stretches : FnScope ["floors", "bolted", "cuts"] ["floors", "bolted"] (defScope s_stretches) := ⟨rfl, rfl, rfl, by decide +kernel, rfl, by decide +kernel, by decide +kernel⟩
abbrev s_by : Stmt := topS 17
theorem sc_by : FnScope ["one", "whole"] ["one", "whole"] (defScope s_by) := ⟨rfl, rfl, rfl, by decide +kernel, rfl, by decide +kernel, by decide +kernel⟩
abbrev s_pools_of : Stmt := topS 25
theorem sc_pools_of : FnScope ["floors", "water", "found", "floor", "amount", "wide", "more"] ["floors", "water"] (defScope s_pools_of) := ⟨rfl, rfl, rfl, by decide +kernel, rfl, by decide +kernel, by decide +kernel⟩
abbrev s_rest_of : Stmt := topS 26
theorem sc_rest_of : FnScope ["floors", "water", "found", "at", "floor", "amount", "wide"] ["floors", "water"] (defScope s_rest_of) := ⟨rfl, rfl, rfl, by decide +kernel, rfl, by decide +kernel, by decide +kernel⟩
abbrev s_settled : Stmt := topS 27
theorem sc_settled : FnScope ["floors", "water", "bolted", "found", "first", "last"] ["floors", "water", "bolted"] (defScope s_settled) := ⟨rfl, rfl, rfl, by decide +kernel, rfl, by decide +kernel, by decide +kernel⟩
abbrev s_with_rain : Stmt := topS 30
theorem sc_with_rain : FnScope ["water", "rain", "found"] ["water", "rain"] (defScope s_with_rain) := ⟨rfl, rfl, rfl, by decide +kernel, rfl, by decide +kernel, by decide +kernel⟩
abbrev s_fallen : Stmt := topS 31
theorem sc_fallen : FnScope ["floors", "rains", "water", "rain", "floor"] ["floors", "rains"] (defScope s_fallen) := ⟨rfl, rfl, rfl, by decide +kernel, rfl, by decide +kernel, by decide +kernel⟩
abbrev s_at_once : Stmt := topS 32
theorem sc_at_once : FnScope ["floors", "rains", "water", "rain", "floor"] ["floors", "rains"] (defScope s_at_once) := ⟨rfl, rfl, rfl, by decide +kernel, rfl, by decide +kernel, by decide +kernel⟩
abbrev s_bounds_x : Stmt := topS 33
theorem sc_bounds_x : FnScope ["floors", "rains", "rising"] ["floors", "rains"] (defScope s_bounds_x) := ⟨rfl, rfl, rfl, by decide +kernel, rfl, by decide +kernel, by decide +kernel⟩
abbrev s_behind_x : Stmt := topS 34
theorem sc_behind_x : FnScope ["floors", "rains", "order", "number"] ["floors", "rains", "order"] (defScope s_behind_x) := ⟨rfl, rfl, rfl, by decide +kernel, rfl, by decide +kernel, by decide +kernel⟩
abbrev s_law_refusal_v2 : Stmt := topS 42
theorem sc_law_refusal_v2 : FnScope ["tanks", "some", "row", "caught", "e"] ["tanks", "some", "row"] (defScope s_law_refusal_v2) := ⟨rfl, rfl, rfl, by decide +kernel, rfl, by decide +kernel, by decide +kernel⟩
abbrev s_law_k39 : Stmt := topS 45
theorem sc_law_k39 : FnScope ["script", "deck", "lap", "tanks", "some", "row", "spot", "bad", "odd", "due", "odd_row", "kept", "asked", "told"] ["script"] (defScope s_law_k39) := ⟨rfl, rfl, rfl, by decide +kernel, rfl, by decide +kernel, by decide +kernel⟩
abbrev si_floors : Stmt := inClass (topS 2) 0
theorem sci_floors : FnScope ["self", "what"] ["self", "what"] (defScope si_floors) := ⟨rfl, rfl, rfl, by decide +kernel, rfl, by decide +kernel, by decide +kernel⟩
abbrev si_rain : Stmt := inClass (topS 10) 0
theorem sci_rain : FnScope ["self", "what"] ["self", "what"] (defScope si_rain) := ⟨rfl, rfl, rfl, by decide +kernel, rfl, by decide +kernel, by decide +kernel⟩
abbrev si_order : Stmt := inClass (topS 11) 0
theorem sci_order : FnScope ["self", "what"] ["self", "what"] (defScope si_order) := ⟨rfl, rfl, rfl, by decide +kernel, rfl, by decide +kernel, by decide +kernel⟩
structure Txt (K : PySem.W.Frag) (mg : Str → Option Value) where
  CA : Addr
  PT : Addr
  EC : EA
  FL : FlapT K (EC .flap)
  FK : FlapK K (EC .flap)
  gC_flap : mg "FlapError" = some (.ref (EC .flap))
  gC_floors : mg "NoFloors" = some (.ref (EC .floors))
  gC_water : mg "NoWater" = some (.ref (EC .water))
  gC_fp : mg "NoFlap" = some (.ref (EC .fp))
  gC_step : mg "NoStep" = some (.ref (EC .step))
  gC_table : mg "NoTable" = some (.ref (EC .table))
  gC_rows : mg "NoRows" = some (.ref (EC .rows))
  gC_drop : mg "NoDrop" = some (.ref (EC .drop))
  gC_tank : mg "NoTank" = some (.ref (EC .tank))
  gC_rain : mg "NoRain" = some (.ref (EC .rain))
  gC_order : mg "NoOrder" = some (.ref (EC .order))
  gC_text : mg "NoText" = some (.ref (EC .text))
  eT_floors : ErrT K (EC .flap) (EC .floors)
  fI_floors : Addr
  fdI_floors : FuncData
  FI_floors : Fun K "__init__" "NoFloors.__init__" si_floors fI_floors fdI_floors
  bI_floors : Binds K fdI_floors ["self", "what"] []
  iC_floors : PySem.W.findIn K (.ref (EC .floors)) "__init__" = some (some (.ref fI_floors))
  tI_floors : PySem.W.typeIn K (.ref fI_floors) = some (.type "function")
  eT_rain : ErrT K (EC .flap) (EC .rain)
  fI_rain : Addr
  fdI_rain : FuncData
  FI_rain : Fun K "__init__" "NoRain.__init__" si_rain fI_rain fdI_rain
  bI_rain : Binds K fdI_rain ["self", "what"] []
  iC_rain : PySem.W.findIn K (.ref (EC .rain)) "__init__" = some (some (.ref fI_rain))
  tI_rain : PySem.W.typeIn K (.ref fI_rain) = some (.type "function")
  eT_order : ErrT K (EC .flap) (EC .order)
  fI_order : Addr
  fdI_order : FuncData
  FI_order : Fun K "__init__" "NoOrder.__init__" si_order fI_order fdI_order
  bI_order : Binds K fdI_order ["self", "what"] []
  iC_order : PySem.W.findIn K (.ref (EC .order)) "__init__" = some (some (.ref fI_order))
  tI_order : PySem.W.typeIn K (.ref fI_order) = some (.type "function")
  erT : ∀ C, isErr EC [.floors, .rain, .order] C → ErrT K (EC .flap) C
  xm_flap : ∀ C, isErr EC [.floors, .rain, .order] C → PySem.W.exmOne K (.ref C) (.ref (EC .flap)) = some true
  isT : IsT K EC (isErr EC [.floors, .rain, .order])
  f_law_deck : Addr
  fd_law_deck : FuncData
  F_law_deck : Fun K "_law_deck" "_law_deck" s_law_deck f_law_deck fd_law_deck
  m_law_deck : mg "_law_deck" = some (.ref f_law_deck)
  b_law_deck : Binds K fd_law_deck ["script"] []
  f_law_take : Addr
  fd_law_take : FuncData
  F_law_take : Fun K "_law_take" "_law_take" s_law_take f_law_take fd_law_take
  m_law_take : mg "_law_take" = some (.ref f_law_take)
  b_law_take : Binds K fd_law_take ["deck", "many"] []
  f_law_tanks : Addr
  fd_law_tanks : FuncData
  F_law_tanks : Fun K "_law_tanks" "_law_tanks" s_law_tanks f_law_tanks fd_law_tanks
  m_law_tanks : mg "_law_tanks" = some (.ref f_law_tanks)
  b_law_tanks : Binds K fd_law_tanks ["deck", "most"] []
  f_law_low_v2 : Addr
  fd_law_low_v2 : FuncData
  F_law_low_v2 : Fun K "_law_low" "_law_low" s_law_low_v2 f_law_low_v2 fd_law_low_v2
  m_law_low_v2 : mg "_law_low" = some (.ref f_law_low_v2)
  b_law_low_v2 : Binds K fd_law_low_v2 ["top", "bottom"] []
  f_law_amount_v3 : Addr
  fd_law_amount_v3 : FuncData
  F_law_amount_v3 : Fun K "_law_amount" "_law_amount" s_law_amount_v3 f_law_amount_v3 fd_law_amount_v3
  m_law_amount_v3 : mg "_law_amount" = some (.ref f_law_amount_v3)
  b_law_amount_v3 : Binds K fd_law_amount_v3 ["deck"] []
  f_law_rains : Addr
  fd_law_rains : FuncData
  F_law_rains : Fun K "_law_rains" "_law_rains" s_law_rains f_law_rains fd_law_rains
  m_law_rains : mg "_law_rains" = some (.ref f_law_rains)
  b_law_rains : Binds K fd_law_rains ["deck", "tanks", "most"] []
  f_law_bad_rains : Addr
  fd_law_bad_rains : FuncData
  F_law_bad_rains : Fun K "_law_bad_rains" "_law_bad_rains" s_law_bad_rains f_law_bad_rains fd_law_bad_rains
  m_law_bad_rains : mg "_law_bad_rains" = some (.ref f_law_bad_rains)
  b_law_bad_rains : Binds K fd_law_bad_rains ["deck", "tanks", "some"] []
  f_law_bad_row : Addr
  fd_law_bad_row : FuncData
  F_law_bad_row : Fun K "_law_bad_row" "_law_bad_row" s_law_bad_row f_law_bad_row fd_law_bad_row
  m_law_bad_row : mg "_law_bad_row" = some (.ref f_law_bad_row)
  b_law_bad_row : Binds K fd_law_bad_row ["deck", "row"] []
  f_need_floors_x : Addr
  fd_need_floors_x : FuncData
  F_need_floors_x : Fun K "need_floors" "need_floors" s_need_floors_x f_need_floors_x fd_need_floors_x
  m_need_floors_x : mg "need_floors" = some (.ref f_need_floors_x)
  b_need_floors_x : Binds K fd_need_floors_x ["floors"] []
  f_is_below : Addr
  fd_is_below : FuncData
  F_is_below : Fun K "is_below" "is_below" s_is_below f_is_below fd_is_below
  m_is_below : mg "is_below" = some (.ref f_is_below)
  b_is_below : Binds K fd_is_below ["one", "other"] []
  f_need_rains_x : Addr
  fd_need_rains_x : FuncData
  F_need_rains_x : Fun K "need_rains" "need_rains" s_need_rains_x f_need_rains_x fd_need_rains_x
  m_need_rains_x : mg "need_rains" = some (.ref f_need_rains_x)
  b_need_rains_x : Binds K fd_need_rains_x ["floors", "rains"] []
  f_lowest : Addr
  fd_lowest : FuncData
  F_lowest : Fun K "lowest" "lowest" s_lowest f_lowest fd_lowest
  m_lowest : mg "lowest" = some (.ref f_lowest)
  b_lowest : Binds K fd_lowest ["top", "bottom"] []
  f_add : Addr
  fd_add : FuncData
  F_add : Fun K "add" "add" s_add f_add fd_add
  m_add : mg "add" = some (.ref f_add)
  b_add : Binds K fd_add ["one", "other"] []
  f_heaped_up : Addr
  fd_heaped_up : FuncData
  F_heaped_up : Fun K "heaped_up" "heaped_up" s_heaped_up f_heaped_up fd_heaped_up
  m_heaped_up : mg "heaped_up" = some (.ref f_heaped_up)
  b_heaped_up : Binds K fd_heaped_up ["water"] []
  f_need_floors : Addr
  fd_need_floors : FuncData
  F_need_floors : Fun K "need_floors" "need_floors" s_need_floors f_need_floors fd_need_floors
  m_need_floors : mg "need_floors" = some (.ref f_need_floors)
  b_need_floors : Binds K fd_need_floors ["floors"] []
  f_need_water : Addr
  fd_need_water : FuncData
  F_need_water : Fun K "need_water" "need_water" s_need_water f_need_water fd_need_water
  m_need_water : mg "need_water" = some (.ref f_need_water)
  b_need_water : Binds K fd_need_water ["floors", "water"] []
  f_need_flaps : Addr
  fd_need_flaps : FuncData
  F_need_flaps : Fun K "need_flaps" "need_flaps" s_need_flaps f_need_flaps fd_need_flaps
  m_need_flaps : mg "need_flaps" = some (.ref f_need_flaps)
  b_need_flaps : Binds K fd_need_flaps ["floors", "bolted"] []
  f_stretches : Addr
  fd_stretches : FuncData
  F_stretches : Fun K "stretches" "stretches" s_stretches f_stretches fd_stretches
  m_stretches : mg "stretches" = some (.ref f_stretches)
  b_stretches : Binds K fd_stretches ["floors", "bolted"] []
  f_by : Addr
  fd_by : FuncData
  F_by : Fun K "by" "by" s_by f_by fd_by
  m_by : mg "by" = some (.ref f_by)
  b_by : Binds K fd_by ["one", "whole"] []
  f_pools_of : Addr
  fd_pools_of : FuncData
  F_pools_of : Fun K "pools_of" "pools_of" s_pools_of f_pools_of fd_pools_of
  m_pools_of : mg "pools_of" = some (.ref f_pools_of)
  b_pools_of : Binds K fd_pools_of ["floors", "water"] []
  f_rest_of : Addr
  fd_rest_of : FuncData
  F_rest_of : Fun K "rest_of" "rest_of" s_rest_of f_rest_of fd_rest_of
  m_rest_of : mg "rest_of" = some (.ref f_rest_of)
  b_rest_of : Binds K fd_rest_of ["floors", "water"] []
  e0_settled : Addr
  f_settled : Addr
  fd_settled : FuncData
  F_settled : FunT K "settled" "settled" s_settled f_settled fd_settled [.ref e0_settled]
  m_settled : mg "settled" = some (.ref f_settled)
  b_settled : Binds K fd_settled ["floors", "water", "bolted"] []
  bd1_settled : Binds K fd_settled ["floors", "water", "bolted"] [.ref e0_settled]
  df1_settled : Dfl K [(.tup [])] [.ref e0_settled] [.ref e0_settled]
  f_with_rain : Addr
  fd_with_rain : FuncData
  F_with_rain : Fun K "with_rain" "with_rain" s_with_rain f_with_rain fd_with_rain
  m_with_rain : mg "with_rain" = some (.ref f_with_rain)
  b_with_rain : Binds K fd_with_rain ["water", "rain"] []
  f_fallen : Addr
  fd_fallen : FuncData
  F_fallen : Fun K "fallen" "fallen" s_fallen f_fallen fd_fallen
  m_fallen : mg "fallen" = some (.ref f_fallen)
  b_fallen : Binds K fd_fallen ["floors", "rains"] []
  f_at_once : Addr
  fd_at_once : FuncData
  F_at_once : Fun K "at_once" "at_once" s_at_once f_at_once fd_at_once
  m_at_once : mg "at_once" = some (.ref f_at_once)
  b_at_once : Binds K fd_at_once ["floors", "rains"] []
  f_bounds_x : Addr
  fd_bounds_x : FuncData
  F_bounds_x : Fun K "bounds" "bounds" s_bounds_x f_bounds_x fd_bounds_x
  m_bounds_x : mg "bounds" = some (.ref f_bounds_x)
  b_bounds_x : Binds K fd_bounds_x ["floors", "rains"] []
  f_behind_x : Addr
  fd_behind_x : FuncData
  F_behind_x : Fun K "behind" "behind" s_behind_x f_behind_x fd_behind_x
  m_behind_x : mg "behind" = some (.ref f_behind_x)
  b_behind_x : Binds K fd_behind_x ["floors", "rains", "order"] []
  f_law_refusal_v2 : Addr
  fd_law_refusal_v2 : FuncData
  F_law_refusal_v2 : Fun K "_law_refusal" "_law_refusal" s_law_refusal_v2 f_law_refusal_v2 fd_law_refusal_v2
  m_law_refusal_v2 : mg "_law_refusal" = some (.ref f_law_refusal_v2)
  b_law_refusal_v2 : Binds K fd_law_refusal_v2 ["tanks", "some", "row"] []
  f_law_k39 : Addr
  fd_law_k39 : FuncData
  F_law_k39 : Fun K "law" "law" s_law_k39 f_law_k39 fd_law_k39
  m_law_k39 : mg "law" = some (.ref f_law_k39)
  b_law_k39 : Binds K fd_law_k39 ["script"] []
  FC_bounds_x : FunC K "bounds" "bounds" s_bounds_x f_bounds_x fd_bounds_x CA
  n_ValueError : mg "ValueError" = none
  n_abs : mg "abs" = none
  n_enumerate : mg "enumerate" = none
  n_int : mg "int" = none
  n_isinstance : mg "isinstance" = none
  n_len : mg "len" = none
  n_list : mg "list" = none
  n_min : mg "min" = none
  n_range : mg "range" = none
  n_repr : mg "repr" = none
  n_sorted : mg "sorted" = none
  n_zip : mg "zip" = none
  c_NOUGHT : GlC K mg "NOUGHT" (.tup [(.int 0), (.int 1)])
section
variable {P : Program} {w : World} {K : PySem.W.Frag} {mg : Str → Option Value} {base : Heap}
theorem gi_floors (T : Txt K mg) : FnOk P w K mg base CX0 1 T.fI_floors T.fdI_floors ["self", "what"] (spInit K) := init_fn T.FI_floors sci_floors (fun cdv A outer s H E => pss_cons (ps_expr (pe_feinit T.FL T.gC_flap (pa_cons (pv 0) (pa_cons pe_str pa_nil)))) (pss_one (ps_ost (pv 0) (pv 1))))
theorem ei_floors (T : Txt K mg) : ErrI P w K mg base (T.EC .flap) (T.EC .floors) T.fI_floors T.fdI_floors "NoFloors" := ⟨T.eT_floors, T.gC_floors, T.iC_floors, T.tI_floors, gi_floors T, T.bI_floors⟩
theorem gi_rain (T : Txt K mg) : FnOk P w K mg base CX0 1 T.fI_rain T.fdI_rain ["self", "what"] (spInit K) := init_fn T.FI_rain sci_rain (fun cdv A outer s H E => pss_cons (ps_expr (pe_feinit T.FL T.gC_flap (pa_cons (pv 0) (pa_cons pe_str pa_nil)))) (pss_one (ps_ost (pv 0) (pv 1))))
theorem ei_rain (T : Txt K mg) : ErrI P w K mg base (T.EC .flap) (T.EC .rain) T.fI_rain T.fdI_rain "NoRain" := ⟨T.eT_rain, T.gC_rain, T.iC_rain, T.tI_rain, gi_rain T, T.bI_rain⟩
theorem gi_order (T : Txt K mg) : FnOk P w K mg base CX0 1 T.fI_order T.fdI_order ["self", "what"] (spInit K) := init_fn T.FI_order sci_order (fun cdv A outer s H E => pss_cons (ps_expr (pe_feinit T.FL T.gC_flap (pa_cons (pv 0) (pa_cons pe_str pa_nil)))) (pss_one (ps_ost (pv 0) (pv 1))))
theorem ei_order (T : Txt K mg) : ErrI P w K mg base (T.EC .flap) (T.EC .order) T.fI_order T.fdI_order "NoOrder" := ⟨T.eT_order, T.gC_order, T.iC_order, T.tI_order, gi_order T, T.bI_order⟩
theorem g_law_deck (T : Txt K mg) : FnOk P w K mg base CX0 1 T.f_law_deck T.fd_law_deck ["script"] (liftF K F_law_deck) := by
  have S := sc_law_deck
  exact fn_ok (k := 0) T.F_law_deck S len_law_deck (fun cdv A outer s H E hr =>
    (ss_cons (s_set (i := 1) (e_lst true a_nil) S.nd)
  (ss_cons (s_set (i := 2) ec_int S.nd)
  (ss_cons (s_for (i_list (ev 0)) (g_name (i := 3) S.nd)
  (ss_cons (s_set (i := 2) (e_mod (e_add false (e_mul (ev 2) ec_int) (ev 3)) ec_int) S.nd)
  (ss_one (s_if (t_ge (e_abs T.n_abs (a_cons (ev 3) a_nil)) (e_pow ec_int ec_int))
  (ss_one (s_expr (e_insert (ev 1) (a_cons ec_int (a_cons (e_sub (e_abs T.n_abs (a_cons (ev 3) a_nil)) (e_pow ec_int ec_int)) a_nil)))))
  ss_nil))) rfl PassesOwn.never)
  (ss_one (s_ret (e_lst true (a_cons (ev 1) (a_cons (ev 2) (a_cons ec_int a_nil)))))))))) ok_law_deck
theorem g_law_take (T : Txt K mg) : FnOk P w K mg base CX0 1 T.f_law_take T.fd_law_take ["deck", "many"] (liftF K F_law_take) := by
  have S := sc_law_take
  exact fn_ok (k := 0) T.F_law_take S len_law_take (fun cdv A outer s H E hr =>
    (ss_open 0 (ss_cons (s_while (w_and (t_ne hr (e_ix (ev 0) ec_int) (e_lst false a_nil)) (w_and1 (t_lt (e_ix (e_ix (ev 0) ec_int) (e_neg ec_int)) ec_int))).pt
  (ss_one (s_expr (e_pop (e_ix (ev 0) ec_int)))) PassesOwn.never)
  (ss_cons (s_if (t_ne hr (e_ix (ev 0) ec_int) (e_lst false a_nil))
  (ss_cons (s_set (i := 2) (e_mod (e_ix (e_ix (ev 0) ec_int) (e_neg ec_int)) (ev 1)) S.nd)
  (ss_cons (s_asg (e_fdiv (e_ix (e_ix (ev 0) ec_int) (e_neg ec_int)) (ev 1)) (g_ix (e_ix (ev 0) ec_int) (e_neg ec_int)))
  (ss_one (s_ret (ev 2)))))
  ss_nil)
  (ss_cons (s_asg (e_add false (e_ix (ev 0) ec_int) ec_int) (g_ix (ev 0) ec_int))
  (ss_cons (s_set (i := 3) (e_ix (ev 0) ec_int) S.nd)
  (ss_cons (s_set (i := 4) (e_add false (e_mul (e_add false (e_ix (ev 0) ec_int) ec_int) (e_pow (e_add false (ev 3) ec_int) ec_int)) (e_mul ec_int (ev 3))) S.nd)
  (ss_one (s_ret (e_mod (e_fdiv (e_mod (e_pow (e_mod (ev 4) ec_int) ec_int) ec_int) ec_int) (ev 1))))))))))) ok_law_take
theorem g_law_tanks (T : Txt K mg) : FnOk P w K mg base CX0 2 T.f_law_tanks T.fd_law_tanks ["deck", "most"] (liftF K F_law_tanks) := by
  have S := sc_law_tanks
  have G_law_take := g_law_take (P := P) (w := w) (base := base) T
  exact fn_ok (k := 1) T.F_law_tanks S len_law_tanks (fun cdv A outer s H E hr =>
    (ss_cons (s_asg (e_tup (a_cons (e_add false ec_int (e_call G_law_take hr (by decide) T.m_law_take T.F_law_take.kp T.b_law_take Dfl.nil (a_cons (ev 0) (a_cons (ev 1) a_nil)))) (a_cons (e_call G_law_take hr (by decide) T.m_law_take T.F_law_take.kp T.b_law_take Dfl.nil (a_cons (ev 0) (a_cons ec_int a_nil))) a_nil))) (g_tup (n := 2) (gs_cons (g_name (i := 2) S.nd) (gs_cons (g_name (i := 3) S.nd) gs_nil)) rfl))
  (ss_one (s_ret (e_lc false (own := [("tank", 4)]) rfl S.nd (blkOk_by (own := [("tank", 4)]) (by first | decide +kernel | rfl)) (i_range1 T.n_range (a_cons (ev 2) a_nil)) (fun _ _ _ _ _ => (pg_name (i := 4) S.nd rfl (by first | exact Or.inl rfl | exact Or.inr rfl))) (okw_name (by decide)) (fun _ _ _ _ _ => ts_nil) (fun _ _ _ _ _ => (e_add false ec_int (e_call G_law_take hr (by decide) T.m_law_take T.F_law_take.kp T.b_law_take Dfl.nil (a_cons (ev 0) (a_cons (e_ix (e_lst false (a_cons ec_int (a_cons ec_int (a_cons ec_int a_nil)))) (ev 3)) a_nil)))))))))) ok_law_tanks
theorem g_law_low_v2 (T : Txt K mg) : FnOk P w K mg base CX0 1 T.f_law_low_v2 T.fd_law_low_v2 ["top", "bottom"] (liftF K F_law_low_v2) := by
  have S := sc_law_low_v2
  exact fn_ok (k := 0) T.F_law_low_v2 S len_law_low_v2 (fun cdv A outer s H E hr =>
    (ss_cons (s_par (i := 2) (j := 3) (a_cons (e_abs T.n_abs (a_cons (ev 0) a_nil)) (a_cons (ev 1) a_nil)) rfl S.nd)
  (ss_cons (s_while (t_ne hr (ev 3) ec_int)
  (ss_one (s_par (i := 2) (j := 3) (a_cons (ev 3) (a_cons (e_mod (ev 2) (ev 3)) a_nil)) rfl S.nd)) PassesOwn.never)
  (ss_one (s_ret (e_tup (a_cons (e_fdiv (ev 0) (ev 2)) (a_cons (e_fdiv (ev 1) (ev 2)) a_nil)))))))) ok_law_low_v2
theorem g_law_amount_v3 (T : Txt K mg) : FnOk P w K mg base CX0 2 T.f_law_amount_v3 T.fd_law_amount_v3 ["deck"] (liftF K F_law_amount_v3) := by
  have S := sc_law_amount_v3
  have G_law_take := g_law_take (P := P) (w := w) (base := base) T
  have G_law_low_v2 := g_law_low_v2 (P := P) (w := w) (base := base) T
  exact fn_ok (k := 1) T.F_law_amount_v3 S len_law_amount_v3 (fun cdv A outer s H E hr =>
    (ss_cons (s_set (i := 1) (e_lst false (a_cons ec_int (a_cons (e_call G_law_take hr (by decide) T.m_law_take T.F_law_take.kp T.b_law_take Dfl.nil (a_cons (ev 0) (a_cons ec_int a_nil))) (a_cons (e_call G_law_take hr (by decide) T.m_law_take T.F_law_take.kp T.b_law_take Dfl.nil (a_cons (ev 0) (a_cons ec_int a_nil))) (a_cons (e_add false (e_mul (e_call G_law_take hr (by decide) T.m_law_take T.F_law_take.kp T.b_law_take Dfl.nil (a_cons (ev 0) (a_cons (e_pow ec_int ec_int) a_nil))) (e_pow ec_int ec_int)) (e_call G_law_take hr (by decide) T.m_law_take T.F_law_take.kp T.b_law_take Dfl.nil (a_cons (ev 0) (a_cons (e_pow ec_int ec_int) a_nil)))) a_nil))))) S.nd)
  (ss_cons (s_set (i := 2) (e_call G_law_take hr (by decide) T.m_law_take T.F_law_take.kp T.b_law_take Dfl.nil (a_cons (ev 0) (a_cons ec_int a_nil))) S.nd)
  (ss_one (s_ret (e_call G_law_low_v2 hr (by decide) T.m_law_low_v2 T.F_law_low_v2.kp T.b_law_low_v2 Dfl.nil (a_cons (e_ix (ev 1) (ev 2)) (a_cons (e_ix (e_lst false (a_cons ec_int (a_cons ec_int (a_cons (e_add false ec_int (e_call G_law_take hr (by decide) T.m_law_take T.F_law_take.kp T.b_law_take Dfl.nil (a_cons (ev 0) (a_cons ec_int a_nil)))) (a_cons (e_add false ec_int (e_call G_law_take hr (by decide) T.m_law_take T.F_law_take.kp T.b_law_take Dfl.nil (a_cons (ev 0) (a_cons ec_int a_nil)))) a_nil))))) (ev 2)) a_nil)))))))) ok_law_amount_v3
theorem g_law_rains (T : Txt K mg) : FnOk P w K mg base CX0 3 T.f_law_rains T.fd_law_rains ["deck", "tanks", "most"] (liftF K F_law_rains) := by
  have S := sc_law_rains
  have G_law_take := g_law_take (P := P) (w := w) (base := base) T
  have G_law_amount_v3 := g_law_amount_v3 (P := P) (w := w) (base := base) T
  exact fn_ok (k := 2) T.F_law_rains S len_law_rains (fun cdv A outer s H E hr =>
    (ss_cons (s_set (i := 3) (e_lst true a_nil) S.nd)
  (ss_cons (s_for (i_range1 T.n_range (a_cons (e_call G_law_take hr (by decide) T.m_law_take T.F_law_take.kp T.b_law_take Dfl.nil (a_cons (ev 0) (a_cons (e_add false (ev 2) ec_int) a_nil))) a_nil)) (g_name (i := 4) S.nd)
  (ss_cons (s_set (i := 5) (e_call G_law_amount_v3 hr (by decide) T.m_law_amount_v3 T.F_law_amount_v3.kp T.b_law_amount_v3 Dfl.nil (a_cons (ev 0) a_nil)) S.nd)
  (ss_one (s_expr (e_append (ev 3) (a_cons (e_tup (a_cons (e_add false ec_int (e_call G_law_take hr (by decide) T.m_law_take T.F_law_take.kp T.b_law_take Dfl.nil (a_cons (ev 0) (a_cons (e_len T.n_len (a_cons (ev 1) a_nil)) a_nil)))) (a_cons (e_if (t_gt (e_ix (ev 5) ec_int) ec_int) (ev 5) (e_tup (a_cons (e_add false ec_int (e_call G_law_take hr (by decide) T.m_law_take T.F_law_take.kp T.b_law_take Dfl.nil (a_cons (ev 0) (a_cons ec_int a_nil)))) (a_cons ec_int a_nil)))) a_nil))) a_nil))))) rfl PassesOwn.never)
  (ss_one (s_ret (e_frz (ev 3))))))) ok_law_rains
theorem g_law_bad_rains (T : Txt K mg) : FnOk P w K mg base CX0 2 T.f_law_bad_rains T.fd_law_bad_rains ["deck", "tanks", "some"] (liftF K F_law_bad_rains) := by
  have S := sc_law_bad_rains
  have G_law_take := g_law_take (P := P) (w := w) (base := base) T
  have G_law_low_v2 := g_law_low_v2 (P := P) (w := w) (base := base) T
  exact fn_ok (k := 1) T.F_law_bad_rains S len_law_bad_rains (fun cdv A outer s H E hr =>
    (ss_cons (s_set (i := 3) (e_call G_law_take hr (by decide) T.m_law_take T.F_law_take.kp T.b_law_take Dfl.nil (a_cons (ev 0) (a_cons (e_add false (e_len T.n_len (a_cons (ev 2) a_nil)) ec_int) a_nil))) S.nd)
  (ss_cons (s_set (i := 4) (e_ix (e_lst false (a_cons ec_int (a_cons (e_neg ec_int) (a_cons (e_add false (e_len T.n_len (a_cons (ev 1) a_nil)) ec_int) (a_cons (e_add false (e_add false (e_len T.n_len (a_cons (ev 1) a_nil)) ec_int) (e_call G_law_take hr (by decide) T.m_law_take T.F_law_take.kp T.b_law_take Dfl.nil (a_cons (ev 0) (a_cons ec_int a_nil)))) a_nil))))) (e_call G_law_take hr (by decide) T.m_law_take T.F_law_take.kp T.b_law_take Dfl.nil (a_cons (ev 0) (a_cons ec_int a_nil)))) S.nd)
  (ss_cons (s_set (i := 5) (e_ix (e_lst false (a_cons (e_tup (a_cons (ev 4) (a_cons (e_tup (a_cons ec_int (a_cons ec_int a_nil))) a_nil))) (a_cons (e_tup (a_cons ec_int (a_cons (e_tup (a_cons ec_int (a_cons ec_int a_nil))) a_nil))) (a_cons (e_tup (a_cons ec_int (a_cons (e_call G_law_low_v2 hr (by decide) T.m_law_low_v2 T.F_law_low_v2.kp T.b_law_low_v2 Dfl.nil (a_cons (e_sub (e_neg ec_int) (e_call G_law_take hr (by decide) T.m_law_take T.F_law_take.kp T.b_law_take Dfl.nil (a_cons (ev 0) (a_cons ec_int a_nil)))) (a_cons ec_int a_nil))) a_nil))) (a_cons (e_tup (a_cons (ev 4) (a_cons (e_tup (a_cons ec_int (a_cons ec_int a_nil))) a_nil))) a_nil))))) (e_call G_law_take hr (by decide) T.m_law_take T.F_law_take.kp T.b_law_take Dfl.nil (a_cons (ev 0) (a_cons ec_int a_nil)))) S.nd)
  (ss_one (s_ret (e_tup (a_cons (e_add false (e_add false (e_add false (e_cut false (ev 2) o_none (o_some (ev 3))) (e_lst false (a_cons (ev 5) a_nil))) (e_cut false (ev 2) (o_some (ev 3)) o_none)) (e_lst false (a_cons (e_tup (a_cons ec_int (a_cons (e_tup (a_cons ec_int (a_cons ec_int a_nil))) a_nil))) a_nil))) (a_cons (ev 3) a_nil))))))))) ok_law_bad_rains
theorem g_law_bad_row (T : Txt K mg) : FnOk P w K mg base CX0 2 T.f_law_bad_row T.fd_law_bad_row ["deck", "row"] (liftF K F_law_bad_row) := by
  have S := sc_law_bad_row
  have G_law_take := g_law_take (P := P) (w := w) (base := base) T
  exact fn_ok (k := 1) T.F_law_bad_row S len_law_bad_row (fun cdv A outer s H E hr =>
    (ss_cons (s_set (i := 2) (e_call G_law_take hr (by decide) T.m_law_take T.F_law_take.kp T.b_law_take Dfl.nil (a_cons (ev 0) (a_cons (e_add false (e_len T.n_len (a_cons (ev 1) a_nil)) ec_int) a_nil))) S.nd)
  (ss_cons (s_set (i := 3) (e_lst false (a_cons (e_add false (e_add false (e_cut false (ev 1) o_none (o_some (ev 2))) (e_lst false (a_cons (e_add false (e_len T.n_len (a_cons (ev 1) a_nil)) ec_int) a_nil))) (e_cut false (ev 1) (o_some (ev 2)) o_none)) (a_cons (e_add false (e_add false (ev 1) (e_repL false (e_lst false (a_cons ec_int a_nil)) (e_intB T.n_int (a_cons (e_ne hr (ev 1) (e_lst false a_nil)) a_nil)))) (e_repL false (e_lst false (a_cons ec_int a_nil)) (e_intB T.n_int (a_cons (e_eq hr (ev 1) (e_lst false a_nil)) a_nil)))) a_nil))) S.nd)
  (ss_cons (s_set (i := 3) (e_add false (ev 3) (e_lst false (a_cons (e_add false (e_add false (e_cut false (ev 1) o_none (o_some (ev 2))) (e_lst false (a_cons (e_neg ec_int) a_nil))) (e_cut false (ev 1) (o_some (e_add false (ev 2) ec_int)) o_none)) (a_cons (e_if (t_ne hr (ev 1) (e_lst false a_nil)) (e_cut false (ev 1) (o_some ec_int) o_none) (e_lst false (a_cons ec_int a_nil))) a_nil)))) S.nd)
  (ss_one (s_ret (e_ix (ev 3) (e_call G_law_take hr (by decide) T.m_law_take T.F_law_take.kp T.b_law_take Dfl.nil (a_cons (ev 0) (a_cons ec_int a_nil)))))))))) ok_law_bad_row
theorem g_need_floors_x (T : Txt K mg) : FnOk P w K mg base (L2.CX P w) 3 T.f_need_floors_x T.fd_need_floors_x ["floors"] (liftFX K (F_need_floors_x T.EC)) := by
  have S := sc_need_floors_x
  have EI_floors := ei_floors (P := P) (w := w) (base := base) T
  exact fn_okX (k := 2) T.F_need_floors_x S (len_need_floors_x T.EC) (fun cdv A outer s H E W hr tk hp =>
    (xs_cons (x_if (t_eq hr (e_len T.n_len (a_cons (ev 0) a_nil)) ec_int)
  (xs_one (x_raise EI_floors tk hr (by decide) ec_non))
  xs_nil)
  (xs_one (x_for (i_enum T.n_enumerate (a_cons (ev 0) a_nil)) (g_tup (n := 2) (gs_cons (g_name (i := 1) S.nd) (gs_cons (g_name (i := 2) S.nd) gs_nil)) rfl)
  (xs_one (x_if (t_lt (ev 2) ec_int)
  (xs_one (x_raise EI_floors tk hr (by decide) (ev 1)))
  xs_nil)) rfl hp)))) (ok_need_floors_x T.EC)
theorem g_is_below (T : Txt K mg) : FnOk P w K mg base CX0 1 T.f_is_below T.fd_is_below ["one", "other"] (liftF K F_is_below) := by
  have S := sc_is_below
  exact fn_ok (k := 0) T.F_is_below S len_is_below (fun cdv A outer s H E hr =>
    (ss_one (s_ret (e_lt (e_mul (e_ix (ev 0) ec_int) (e_ix (ev 1) ec_int)) (e_mul (e_ix (ev 1) ec_int) (e_ix (ev 0) ec_int)))))) ok_is_below
theorem g_need_rains_x (T : Txt K mg) : FnOk P w K mg base (L2.CX P w) 4 T.f_need_rains_x T.fd_need_rains_x ["floors", "rains"] (liftFX K (F_need_rains_x T.EC)) := by
  have S := sc_need_rains_x
  have G_need_floors_x := g_need_floors_x (P := P) (w := w) (base := base) T
  have G_is_below := g_is_below (P := P) (w := w) (base := base) T
  have EI_rain := ei_rain (P := P) (w := w) (base := base) T
  exact fn_okX (k := 3) T.F_need_rains_x S (len_need_rains_x T.EC) (fun cdv A outer s H E W hr tk hp =>
    (xs_cons (x_expr (e_callX G_need_floors_x hr (by decide) T.m_need_floors_x T.F_need_floors_x.kp T.b_need_floors_x Dfl.nil tk (a_cons (ev 0) a_nil)))
  (xs_one (x_for (i_enum T.n_enumerate (a_cons (ev 1) a_nil)) (g_tup (n := 2) (gs_cons (g_name (i := 2) S.nd) (gs_cons (g_tup (n := 2) (gs_cons (g_name (i := 3) S.nd) (gs_cons (g_name (i := 4) S.nd) gs_nil)) rfl) gs_nil)) rfl)
  (xs_one (x_if (w_or (t_not (t_lele ec_int (ev 3) (e_len T.n_len (a_cons (ev 0) a_nil)))) (w_or1 (t_not (t_val (e_call G_is_below hr (by decide) T.m_is_below T.F_is_below.kp T.b_is_below Dfl.nil (a_cons (eg T.c_NOUGHT) (a_cons (ev 4) a_nil))))))).pt
  (xs_one (x_raise EI_rain tk hr (by decide) (ev 2)))
  xs_nil)) rfl hp)))) (ok_need_rains_x T.EC)
theorem g_lowest (T : Txt K mg) : FnOk P w K mg base CX0 1 T.f_lowest T.fd_lowest ["top", "bottom"] (liftF K F_lowest) := by
  have S := sc_lowest
  exact fn_ok (k := 0) T.F_lowest S len_lowest (fun cdv A outer s H E hr =>
    (ss_cons (s_par (i := 2) (j := 3) (a_cons (e_abs T.n_abs (a_cons (ev 0) a_nil)) (a_cons (ev 1) a_nil)) rfl S.nd)
  (ss_cons (s_while (t_gt (ev 2) ec_int)
  (ss_one (s_par (i := 2) (j := 3) (a_cons (e_mod (ev 3) (ev 2)) (a_cons (ev 2) a_nil)) rfl S.nd)) PassesOwn.never)
  (ss_one (s_ret (e_tup (a_cons (e_fdiv (ev 0) (ev 3)) (a_cons (e_fdiv (ev 1) (ev 3)) a_nil)))))))) ok_lowest
theorem g_add (T : Txt K mg) : FnOk P w K mg base CX0 2 T.f_add T.fd_add ["one", "other"] (liftF K F_add) := by
  have S := sc_add
  have G_lowest := g_lowest (P := P) (w := w) (base := base) T
  exact fn_ok (k := 1) T.F_add S len_add (fun cdv A outer s H E hr =>
    (ss_one (s_ret (e_call G_lowest hr (by decide) T.m_lowest T.F_lowest.kp T.b_lowest Dfl.nil (a_cons (e_add false (e_mul (e_ix (ev 0) ec_int) (e_ix (ev 1) ec_int)) (e_mul (e_ix (ev 1) ec_int) (e_ix (ev 0) ec_int))) (a_cons (e_mul (e_ix (ev 0) ec_int) (e_ix (ev 1) ec_int)) a_nil)))))) ok_add
theorem g_heaped_up (T : Txt K mg) : FnOk P w K mg base CX0 3 T.f_heaped_up T.fd_heaped_up ["water"] (liftF K F_heaped_up) := by
  have S := sc_heaped_up
  have G_add := g_add (P := P) (w := w) (base := base) T
  exact fn_ok (k := 2) T.F_heaped_up S len_heaped_up (fun cdv A outer s H E hr =>
    (ss_cons (s_set (i := 1) (e_lst true (a_cons (eg T.c_NOUGHT) a_nil)) S.nd)
  (ss_cons (s_for (i_list (ev 0)) (g_name (i := 2) S.nd)
  (ss_one (s_expr (e_append (ev 1) (a_cons (e_call G_add hr (by decide) T.m_add T.F_add.kp T.b_add Dfl.nil (a_cons (e_ix (ev 1) (e_neg ec_int)) (a_cons (ev 2) a_nil))) a_nil)))) rfl PassesOwn.never)
  (ss_one (s_ret (ev 1)))))) ok_heaped_up
theorem g_need_floors (T : Txt K mg) : FnOk P w K mg base CX0 1 T.f_need_floors T.fd_need_floors ["floors"] (liftF K F_need_floors) := by
  have S := sc_need_floors
  exact fn_ok (k := 0) T.F_need_floors S len_need_floors (fun cdv A outer s H E hr =>
    (ss_cons (s_if (t_eq hr (e_len T.n_len (a_cons (ev 0) a_nil)) ec_int)
  (ss_one s_never)
  ss_nil)
  (ss_one (s_for (i_enum T.n_enumerate (a_cons (ev 0) a_nil)) (g_tup (n := 2) (gs_cons (g_name (i := 1) S.nd) (gs_cons (g_name (i := 2) S.nd) gs_nil)) rfl)
  (ss_one (s_if (t_lt (ev 2) ec_int)
  (ss_one s_never)
  ss_nil)) rfl PassesOwn.never)))) ok_need_floors
theorem g_need_water (T : Txt K mg) : FnOk P w K mg base CX0 2 T.f_need_water T.fd_need_water ["floors", "water"] (liftF K F_need_water) := by
  have S := sc_need_water
  have G_is_below := g_is_below (P := P) (w := w) (base := base) T
  exact fn_ok (k := 1) T.F_need_water S len_need_water (fun cdv A outer s H E hr =>
    (ss_cons (s_if (t_ne hr (e_len T.n_len (a_cons (ev 1) a_nil)) (e_len T.n_len (a_cons (ev 0) a_nil)))
  (ss_one s_never)
  ss_nil)
  (ss_one (s_for (i_enum T.n_enumerate (a_cons (ev 1) a_nil)) (g_tup (n := 2) (gs_cons (g_name (i := 2) S.nd) (gs_cons (g_name (i := 3) S.nd) gs_nil)) rfl)
  (ss_one (s_if (t_val (e_call G_is_below hr (by decide) T.m_is_below T.F_is_below.kp T.b_is_below Dfl.nil (a_cons (ev 3) (a_cons (eg T.c_NOUGHT) a_nil))))
  (ss_one s_never)
  ss_nil)) rfl PassesOwn.never)))) ok_need_water
theorem g_need_flaps (T : Txt K mg) : FnOk P w K mg base CX0 1 T.f_need_flaps T.fd_need_flaps ["floors", "bolted"] (liftF K F_need_flaps) := by
  have S := sc_need_flaps
  exact fn_ok (k := 0) T.F_need_flaps S len_need_flaps (fun cdv A outer s H E hr =>
    (ss_one (s_for (i_enumT T.n_enumerate (a_cons (ev 1) a_nil)) (g_tup (n := 2) (gs_cons (g_name (i := 2) S.nd) (gs_cons (g_name (i := 3) S.nd) gs_nil)) rfl)
  (ss_one (s_if (w_or (t_not (t_ltlt ec_int (ev 3) (e_len T.n_len (a_cons (ev 0) a_nil)))) (w_or1 (t_in (ev 3) (e_cut false (ev 1) o_none (o_some (ev 2)))))).pt
  (ss_one s_never)
  ss_nil)) rfl PassesOwn.never))) ok_need_flaps
theorem g_stretches (T : Txt K mg) : FnOk P w K mg base CX0 1 T.f_stretches T.fd_stretches ["floors", "bolted"] (liftF K F_stretches) := by
  have S := sc_stretches
  exact fn_ok (k := 0) T.F_stretches S len_stretches (fun cdv A outer s H E hr =>
    (ss_cons (s_set (i := 2) (e_add false (e_add false (e_lst false (a_cons ec_int a_nil)) (e_sortedT false T.n_sorted (a_cons (ev 1) a_nil))) (e_lst false (a_cons (e_len T.n_len (a_cons (ev 0) a_nil)) a_nil))) S.nd)
  (ss_one (s_ret (e_lzip false rfl T.n_list T.n_zip (a_cons (ev 2) (a_cons (e_cut false (ev 2) (o_some ec_int) o_none) a_nil))))))) ok_stretches
theorem g_by (T : Txt K mg) : FnOk P w K mg base CX0 2 T.f_by T.fd_by ["one", "whole"] (liftF K F_by) := by
  have S := sc_by
  have G_lowest := g_lowest (P := P) (w := w) (base := base) T
  exact fn_ok (k := 1) T.F_by S len_by (fun cdv A outer s H E hr =>
    (ss_one (s_ret (e_call G_lowest hr (by decide) T.m_lowest T.F_lowest.kp T.b_lowest Dfl.nil (a_cons (e_ix (ev 0) ec_int) (a_cons (e_mul (e_ix (ev 0) ec_int) (ev 1)) a_nil)))))) ok_by
theorem g_pools_of (T : Txt K mg) : FnOk P w K mg base CX0 3 T.f_pools_of T.fd_pools_of ["floors", "water"] (liftF K F_pools_of) := by
  have S := sc_pools_of
  have G_is_below := g_is_below (P := P) (w := w) (base := base) T
  have G_by := g_by (P := P) (w := w) (base := base) T
  have G_add := g_add (P := P) (w := w) (base := base) T
  exact fn_ok (k := 2) T.F_pools_of S len_pools_of (fun cdv A outer s H E hr =>
    (ss_cons (s_set (i := 2) (e_lst true a_nil) S.nd)
  (ss_cons (s_for (i_zip T.n_zip (a_cons (ev 0) (a_cons (ev 1) a_nil))) (g_tup (n := 2) (gs_cons (g_name (i := 3) S.nd) (gs_cons (g_name (i := 4) S.nd) gs_nil)) rfl)
  (ss_cons (s_while (w_and (t_ne hr (ev 2) (e_lst false a_nil)) (w_and1 (t_val (e_call G_is_below hr (by decide) T.m_is_below T.F_is_below.kp T.b_is_below Dfl.nil (a_cons (e_call G_by hr (by decide) T.m_by T.F_by.kp T.b_by Dfl.nil (a_cons (ev 4) (a_cons (ev 3) a_nil))) (a_cons (e_call G_by hr (by decide) T.m_by T.F_by.kp T.b_by Dfl.nil (a_cons (e_ix (e_ix (ev 2) (e_neg ec_int)) ec_int) (a_cons (e_ix (e_ix (ev 2) (e_neg ec_int)) ec_int) a_nil))) a_nil)))))).pt
  (ss_cons (s_asg (e_pop (ev 2)) (g_tup (n := 2) (gs_cons (g_name (i := 5) S.nd) (gs_cons (g_name (i := 6) S.nd) gs_nil)) rfl))
  (ss_one (s_par (i := 3) (j := 4) (a_cons (e_add false (ev 3) (ev 5)) (a_cons (e_call G_add hr (by decide) T.m_add T.F_add.kp T.b_add Dfl.nil (a_cons (ev 4) (a_cons (ev 6) a_nil))) a_nil)) rfl S.nd))) PassesOwn.never)
  (ss_one (s_expr (e_append (ev 2) (a_cons (e_tup (a_cons (ev 3) (a_cons (ev 4) a_nil))) a_nil))))) rfl PassesOwn.never)
  (ss_one (s_ret (e_frz (ev 2))))))) ok_pools_of
theorem g_rest_of (T : Txt K mg) : FnOk P w K mg base CX0 4 T.f_rest_of T.fd_rest_of ["floors", "water"] (liftF K F_rest_of) := by
  have S := sc_rest_of
  have G_pools_of := g_pools_of (P := P) (w := w) (base := base) T
  have G_lowest := g_lowest (P := P) (w := w) (base := base) T
  exact fn_ok (k := 3) T.F_rest_of S len_rest_of (fun cdv A outer s H E hr =>
    (ss_cons (s_set (i := 2) (e_lst true a_nil) S.nd)
  (ss_cons (s_set (i := 3) ec_int S.nd)
  (ss_cons (s_for (i_list (e_call G_pools_of hr (by decide) T.m_pools_of T.F_pools_of.kp T.b_pools_of Dfl.nil (a_cons (ev 0) (a_cons (ev 1) a_nil)))) (g_tup (n := 2) (gs_cons (g_name (i := 4) S.nd) (gs_cons (g_name (i := 5) S.nd) gs_nil)) rfl)
  (ss_cons (s_set (i := 6) ec_int S.nd)
  (ss_one (s_while (t_lt (ev 6) (ev 4))
  (ss_cons (s_expr (e_append (ev 2) (a_cons (e_call G_lowest hr (by decide) T.m_lowest T.F_lowest.kp T.b_lowest Dfl.nil (a_cons (e_mul (e_ix (ev 5) ec_int) (e_ix (ev 0) (ev 3))) (a_cons (e_mul (e_ix (ev 5) ec_int) (ev 4)) a_nil))) a_nil)))
  (ss_cons (s_aug (i := 6) (e_ix (ev 0) (ev 3)) S.nd)
  (ss_one (s_aug (i := 3) ec_int S.nd)))) PassesOwn.never))) rfl PassesOwn.never)
  (ss_one (s_ret (e_frz (ev 2)))))))) ok_rest_of
theorem g_settled (T : Txt K mg) : FnOk P w K mg base CX0 5 T.f_settled T.fd_settled ["floors", "water", "bolted"] (liftF K F_settled) := by
  have S := sc_settled
  have G_need_floors := g_need_floors (P := P) (w := w) (base := base) T
  have G_need_water := g_need_water (P := P) (w := w) (base := base) T
  have G_need_flaps := g_need_flaps (P := P) (w := w) (base := base) T
  have G_stretches := g_stretches (P := P) (w := w) (base := base) T
  have G_rest_of := g_rest_of (P := P) (w := w) (base := base) T
  exact fn_okT (k := 4) T.F_settled S len_settled (fun cdv A outer s H E hr =>
    (ss_cons (s_expr (e_call G_need_floors hr (by decide) T.m_need_floors T.F_need_floors.kp T.b_need_floors Dfl.nil (a_cons (ev 0) a_nil)))
  (ss_cons (s_expr (e_call G_need_water hr (by decide) T.m_need_water T.F_need_water.kp T.b_need_water Dfl.nil (a_cons (ev 0) (a_cons (ev 1) a_nil))))
  (ss_cons (s_expr (e_call G_need_flaps hr (by decide) T.m_need_flaps T.F_need_flaps.kp T.b_need_flaps Dfl.nil (a_cons (ev 0) (a_cons (ev 2) a_nil))))
  (ss_cons (s_set (i := 3) (e_lst true a_nil) S.nd)
  (ss_cons (s_for (i_list (e_call G_stretches hr (by decide) T.m_stretches T.F_stretches.kp T.b_stretches Dfl.nil (a_cons (ev 0) (a_cons (ev 2) a_nil)))) (g_tup (n := 2) (gs_cons (g_name (i := 4) S.nd) (gs_cons (g_name (i := 5) S.nd) gs_nil)) rfl)
  (ss_one (s_aug (i := 3) (e_call G_rest_of hr (by decide) T.m_rest_of T.F_rest_of.kp T.b_rest_of Dfl.nil (a_cons (e_cut false (ev 0) (o_some (ev 4)) (o_some (ev 5))) (a_cons (e_cut false (ev 1) (o_some (ev 4)) (o_some (ev 5))) a_nil))) S.nd)) rfl PassesOwn.never)
  (ss_one (s_ret (ev 3))))))))) ok_settled
theorem g_with_rain (T : Txt K mg) : FnOk P w K mg base CX0 3 T.f_with_rain T.fd_with_rain ["water", "rain"] (liftF K F_with_rain) := by
  have S := sc_with_rain
  have G_add := g_add (P := P) (w := w) (base := base) T
  exact fn_ok (k := 2) T.F_with_rain S len_with_rain (fun cdv A outer s H E hr =>
    (ss_cons (s_set (i := 2) (e_list true T.n_list (a_cons (ev 0) a_nil)) S.nd)
  (ss_cons (s_asg (e_call G_add hr (by decide) T.m_add T.F_add.kp T.b_add Dfl.nil (a_cons (e_ix (ev 2) (e_sub (e_ix (ev 1) ec_int) ec_int)) (a_cons (e_ix (ev 1) ec_int) a_nil))) (g_ix (ev 2) (e_sub (e_ix (ev 1) ec_int) ec_int)))
  (ss_one (s_ret (e_frz (ev 2))))))) ok_with_rain
theorem g_fallen (T : Txt K mg) : FnOk P w K mg base CX0 6 T.f_fallen T.fd_fallen ["floors", "rains"] (liftF K F_fallen) := by
  have S := sc_fallen
  have G_settled := g_settled (P := P) (w := w) (base := base) T
  have G_with_rain := g_with_rain (P := P) (w := w) (base := base) T
  exact fn_ok (k := 5) T.F_fallen S len_fallen (fun cdv A outer s H E hr =>
    (ss_cons (s_setLc false (i := 2) (own := [("floor", 4)]) rfl S.nd rfl rfl (sw_true rfl rfl rfl (by decide +kernel)) (blkOk_by (own := [("floor", 4)]) (by first | decide +kernel | rfl)) (i_list (ev 0)) (fun _ _ _ _ _ => (pg_name (i := 4) S.nd rfl (by first | exact Or.inl rfl | exact Or.inr rfl))) (okw_name (by decide)) (fun _ _ _ _ _ => ts_nil) (fun _ _ _ _ _ => (eg T.c_NOUGHT)))
  (ss_cons (s_for (i_list (ev 1)) (g_name (i := 3) S.nd)
  (ss_one (s_set (i := 2) (e_frz (e_call G_settled hr (by decide) T.m_settled T.F_settled.kp T.bd1_settled T.df1_settled (a_cons (ev 0) (a_cons (e_call G_with_rain hr (by decide) T.m_with_rain T.F_with_rain.kp T.b_with_rain Dfl.nil (a_cons (ev 2) (a_cons (ev 3) a_nil))) a_nil)))) S.nd)) rfl PassesOwn.never)
  (ss_one (s_ret (ev 2)))))) ok_fallen
theorem g_at_once (T : Txt K mg) : FnOk P w K mg base CX0 6 T.f_at_once T.fd_at_once ["floors", "rains"] (liftF K F_at_once) := by
  have S := sc_at_once
  have G_with_rain := g_with_rain (P := P) (w := w) (base := base) T
  have G_settled := g_settled (P := P) (w := w) (base := base) T
  exact fn_ok (k := 5) T.F_at_once S len_at_once (fun cdv A outer s H E hr =>
    (ss_cons (s_setLc false (i := 2) (own := [("floor", 4)]) rfl S.nd rfl rfl (sw_true rfl rfl rfl (by decide +kernel)) (blkOk_by (own := [("floor", 4)]) (by first | decide +kernel | rfl)) (i_list (ev 0)) (fun _ _ _ _ _ => (pg_name (i := 4) S.nd rfl (by first | exact Or.inl rfl | exact Or.inr rfl))) (okw_name (by decide)) (fun _ _ _ _ _ => ts_nil) (fun _ _ _ _ _ => (eg T.c_NOUGHT)))
  (ss_cons (s_for (i_list (ev 1)) (g_name (i := 3) S.nd)
  (ss_one (s_set (i := 2) (e_call G_with_rain hr (by decide) T.m_with_rain T.F_with_rain.kp T.b_with_rain Dfl.nil (a_cons (ev 2) (a_cons (ev 3) a_nil))) S.nd)) rfl PassesOwn.never)
  (ss_one (s_ret (e_frz (e_call G_settled hr (by decide) T.m_settled T.F_settled.kp T.bd1_settled T.df1_settled (a_cons (ev 0) (a_cons (ev 2) a_nil))))))))) ok_at_once
theorem g_bounds_x (T : Txt K mg) (TB : LamX.TabB base mg T.CA T.PT) : FnOk P w K mg base (L2.CX P w) 7 T.f_bounds_x T.fd_bounds_x ["floors", "rains"] (liftFX K (F_bounds_x T.EC T.PT)) := by
  have S := sc_bounds_x
  have G_need_rains_x := g_need_rains_x (P := P) (w := w) (base := base) T
  have G_heaped_up := g_heaped_up (P := P) (w := w) (base := base) T
  have G_fallen := g_fallen (P := P) (w := w) (base := base) T
  have G_at_once := g_at_once (P := P) (w := w) (base := base) T
  exact fn_okXC (k := 6) T.FC_bounds_x S (len_bounds_x T.EC T.PT) (fun A outer s H E W hr tk hp =>
    (xs_cons (x_expr (e_callX G_need_rains_x hr (by decide) T.m_need_rains_x T.F_need_rains_x.kp T.b_need_rains_x Dfl.nil tk (a_cons (ev 0) (a_cons (ev 1) a_nil))))
  (xs_tail (ss_cons (s_set (i := 2) (e_sortK false TB rfl hr T.n_sorted (ev 1) ⟨rfl, rfl, rfl, by decide +kernel, by decide +kernel, rfl, rfl⟩ (fun _ _ _ _ _ _ => rfl)) S.nd)
  (ss_one (s_ret (e_tup (a_cons (e_frz (e_call G_heaped_up hr (by decide) T.m_heaped_up T.F_heaped_up.kp T.b_heaped_up Dfl.nil (a_cons (e_call G_fallen hr (by decide) T.m_fallen T.F_fallen.kp T.b_fallen Dfl.nil (a_cons (ev 0) (a_cons (ev 2) a_nil))) a_nil))) (a_cons (e_frz (e_call G_heaped_up hr (by decide) T.m_heaped_up T.F_heaped_up.kp T.b_heaped_up Dfl.nil (a_cons (e_call G_at_once hr (by decide) T.m_at_once T.F_at_once.kp T.b_at_once Dfl.nil (a_cons (ev 0) (a_cons (ev 1) a_nil))) a_nil))) a_nil))))))))) (ok_bounds_x T.EC T.PT)
theorem g_behind_x (T : Txt K mg) : FnOk P w K mg base (L2.CX P w) 7 T.f_behind_x T.fd_behind_x ["floors", "rains", "order"] (liftFX K (F_behind_x T.EC)) := by
  have S := sc_behind_x
  have G_need_rains_x := g_need_rains_x (P := P) (w := w) (base := base) T
  have G_fallen := g_fallen (P := P) (w := w) (base := base) T
  have EI_order := ei_order (P := P) (w := w) (base := base) T
  exact fn_okX (k := 6) T.F_behind_x S (len_behind_x T.EC) (fun cdv A outer s H E W hr tk hp =>
    (xs_cons (x_expr (e_callX G_need_rains_x hr (by decide) T.m_need_rains_x T.F_need_rains_x.kp T.b_need_rains_x Dfl.nil tk (a_cons (ev 0) (a_cons (ev 1) a_nil))))
  (xs_cons (x_if (t_ne hr (e_sorted false T.n_sorted (a_cons (ev 2) a_nil)) (e_lrange1 false rfl T.n_list T.n_range (e_len T.n_len (a_cons (ev 1) a_nil))))
  (xs_one (x_raise EI_order tk hr (by decide) ec_non))
  xs_nil)
  (xs_tail (ss_one (s_ret (e_call G_fallen hr (by decide) T.m_fallen T.F_fallen.kp T.b_fallen Dfl.nil (a_cons (ev 0) (a_cons (e_lc false (own := [("number", 3)]) rfl S.nd (blkOk_by (own := [("number", 3)]) (by first | decide +kernel | rfl)) (i_list (ev 2)) (fun _ _ _ _ _ => (pg_name (i := 3) S.nd rfl (by first | exact Or.inl rfl | exact Or.inr rfl))) (okw_name (by decide)) (fun _ _ _ _ _ => ts_nil) (fun _ _ _ _ _ => (e_ix (ev 1) (ev 3)))) a_nil))))))))) (ok_behind_x T.EC)
theorem g_law_refusal_v2 (T : Txt K mg) (TB : LamX.TabB base mg T.CA T.PT) : FnOk P w K mg base CX0 8 T.f_law_refusal_v2 T.fd_law_refusal_v2 ["tanks", "some", "row"] (liftF K (F_law_refusal_v2 T.EC T.PT)) := by
  have S := sc_law_refusal_v2
  have G_bounds_x := g_bounds_x (P := P) (w := w) (base := base) T TB
  have G_behind_x := g_behind_x (P := P) (w := w) (base := base) T
  exact fn_ok (k := 7) T.F_law_refusal_v2 S (len_law_refusal_v2 T.EC T.PT) (fun cdv A outer s H E hr =>
    (ss_cons (s_set (i := 3) ec_non S.nd)
  (ss_cons (s_try T.xm_flap T.gC_flap S.nd (fun W pn xe tk hp => (xs_one (x_if (t_isN (ev 2) ec_non)
  (xs_one (x_expr (e_callX G_bounds_x hr (by decide) T.m_bounds_x T.F_bounds_x.kp T.b_bounds_x Dfl.nil tk (a_cons (ev 0) (a_cons (ev 1) a_nil)))))
  (xs_one (x_expr (e_callX G_behind_x hr (by decide) T.m_behind_x T.F_behind_x.kp T.b_behind_x Dfl.nil tk (a_cons (ev 0) (a_cons (ev 1) (a_cons (ev 2) a_nil)))))))))
  (fun ea pn => (ss_one (s_set (i := 3) (ev 4) S.nd))))
  (ss_cons (s_if (t_isN (ev 3) ec_non)
  (ss_one (s_ret (e_tup (a_cons ec_str (a_cons ec_non a_nil)))))
  ss_nil)
  (ss_cons (s_if (w_or (t_not (t_val (e_isE T.isT T.n_isinstance (a_cons (ev 3) (a_cons (e_ve T.n_ValueError) a_nil))))) (w_or1 (t_val (e_isE T.isT T.n_isinstance (a_cons (ev 3) (a_cons (e_tup (a_cons (e_clsE T.gC_drop) (a_cons (e_clsE T.gC_fp) (a_cons (e_clsE T.gC_rows) (a_cons (e_clsE T.gC_step) (a_cons (e_clsE T.gC_table) a_nil)))))) a_nil)))))).pt
  (ss_one (s_ret (e_tup (a_cons ec_str (a_cons ec_non a_nil)))))
  ss_nil)
  (ss_cons (s_if (t_val (e_isE T.isT T.n_isinstance (a_cons (ev 3) (a_cons (e_tup (a_cons (e_clsE T.gC_tank) (a_cons (e_clsE T.gC_text) (a_cons (e_clsE T.gC_water) a_nil)))) a_nil))))
  (ss_one (s_ret (e_tup (a_cons ec_str (a_cons ec_non a_nil)))))
  ss_nil)
  (ss_cons (s_set (i := 1) (e_lst false (a_cons (e_isE T.isT T.n_isinstance (a_cons (ev 3) (a_cons (e_clsE T.gC_floors) a_nil))) (a_cons (e_isE T.isT T.n_isinstance (a_cons (ev 3) (a_cons (e_clsE T.gC_rain) a_nil))) (a_cons (e_isE T.isT T.n_isinstance (a_cons (ev 3) (a_cons (e_clsE T.gC_order) a_nil))) a_nil)))) S.nd)
  (ss_one (s_ret (e_if (t_eq hr (e_count (ev 1) (a_cons ec_bl a_nil)) ec_int) (e_tup (a_cons (e_ix (e_lst false (a_cons ec_str (a_cons ec_str (a_cons ec_str a_nil)))) (e_index (ev 1) (a_cons ec_bl a_nil))) (a_cons (e_what T.erT (ev 3)) a_nil))) (e_tup (a_cons ec_str (a_cons ec_non a_nil))))))))))))) (ok_law_refusal_v2 T.EC T.PT)
theorem g_law_k39 (T : Txt K mg) (TB : LamX.TabB base mg T.CA T.PT) : FnOkG P w K mg base 9 T.f_law_k39 T.fd_law_k39 ["script"] (liftF K (F_law_k39 T.PT)) := by
  have S := sc_law_k39
  have G_law_deck := g_law_deck (P := P) (w := w) (base := base) T
  have G_law_tanks := g_law_tanks (P := P) (w := w) (base := base) T
  have G_law_rains := g_law_rains (P := P) (w := w) (base := base) T
  have G_law_take := g_law_take (P := P) (w := w) (base := base) T
  have G_law_bad_rains := g_law_bad_rains (P := P) (w := w) (base := base) T
  have G_law_bad_row := g_law_bad_row (P := P) (w := w) (base := base) T
  have G_law_refusal_v2 := g_law_refusal_v2 (P := P) (w := w) (base := base) T TB
  exact fn_okG (k := 8) T.F_law_k39 S len_law_k39 (fun cdv A outer s H E hr hG =>
    (ss_cons (s_set (i := 1) (e_call G_law_deck hr (by decide) T.m_law_deck T.F_law_deck.kp T.b_law_deck Dfl.nil (a_cons (ev 0) a_nil)) S.nd)
  (ss_cons (s_for (i_range1 T.n_range (a_cons (e_add false ec_int (e_min2 rfl T.n_min (a_cons ec_int (a_cons (e_len T.n_len (a_cons (ev 0) a_nil)) a_nil)))) a_nil)) (g_name (i := 2) S.nd)
  (ss_cons (s_set (i := 3) (e_call G_law_tanks hr (by decide) T.m_law_tanks T.F_law_tanks.kp T.b_law_tanks Dfl.nil (a_cons (ev 1) (a_cons ec_int a_nil))) S.nd)
  (ss_cons (s_set (i := 4) (e_call G_law_rains hr (by decide) T.m_law_rains T.F_law_rains.kp T.b_law_rains Dfl.nil (a_cons (ev 1) (a_cons (ev 3) (a_cons ec_int a_nil)))) S.nd)
  (ss_cons (s_set (i := 5) (e_rev false (e_lrange1 false rfl T.n_list T.n_range (e_len T.n_len (a_cons (ev 4) a_nil)))) S.nd)
  (ss_cons (s_set (i := 6) (e_call G_law_take hr (by decide) T.m_law_take T.F_law_take.kp T.b_law_take Dfl.nil (a_cons (ev 1) (a_cons (e_len T.n_len (a_cons (ev 3) a_nil)) a_nil))) S.nd)
  (ss_cons (s_set (i := 7) (e_add false (e_add false (e_cut false (ev 3) o_none (o_some (ev 6))) (e_lst false (a_cons (e_ix (e_lst false (a_cons ec_int (a_cons (e_neg ec_int) (a_cons (e_neg ec_int) a_nil)))) (e_call G_law_take hr (by decide) T.m_law_take T.F_law_take.kp T.b_law_take Dfl.nil (a_cons (ev 1) (a_cons ec_int a_nil)))) a_nil))) (e_cut false (ev 3) (o_some (e_add false (ev 6) ec_int)) o_none)) S.nd)
  (ss_cons (s_asg (e_call G_law_bad_rains hr (by decide) T.m_law_bad_rains T.F_law_bad_rains.kp T.b_law_bad_rains Dfl.nil (a_cons (ev 1) (a_cons (ev 3) (a_cons (ev 4) a_nil)))) (g_tup (n := 2) (gs_cons (g_name (i := 8) S.nd) (gs_cons (g_name (i := 9) S.nd) gs_nil)) rfl))
  (ss_cons (s_set (i := 10) (e_call G_law_bad_row hr (by decide) T.m_law_bad_row T.F_law_bad_row.kp T.b_law_bad_row Dfl.nil (a_cons (ev 1) (a_cons (ev 5) a_nil))) S.nd)
  (ss_cons (s_set (i := 11) (e_repr hG hr T.n_repr (a_cons (e_lst false (a_cons (ev 3) (a_cons (ev 4) (a_cons (ev 8) (a_cons (ev 10) a_nil))))) a_nil)) S.nd)
  (ss_cons (s_for (i_list (e_lst false (a_cons ec_non (a_cons (ev 5) (a_cons (ev 10) a_nil))))) (g_name (i := 12) S.nd)
  (ss_cons (s_if (w_or (t_ne hr (e_call G_law_refusal_v2 hr (by decide) T.m_law_refusal_v2 T.F_law_refusal_v2.kp T.b_law_refusal_v2 Dfl.nil (a_cons (e_lst false a_nil) (a_cons (ev 8) (a_cons (ev 12) a_nil)))) (e_tup (a_cons ec_str (a_cons ec_non a_nil)))) (w_or1 (t_ne hr (e_call G_law_refusal_v2 hr (by decide) T.m_law_refusal_v2 T.F_law_refusal_v2.kp T.b_law_refusal_v2 Dfl.nil (a_cons (ev 7) (a_cons (ev 8) (a_cons (ev 12) a_nil)))) (e_tup (a_cons ec_str (a_cons (ev 6) a_nil)))))).pt
  (ss_one (s_ret ec_bl))
  ss_nil)
  (ss_one (s_if (t_ne hr (e_call G_law_refusal_v2 hr (by decide) T.m_law_refusal_v2 T.F_law_refusal_v2.kp T.b_law_refusal_v2 Dfl.nil (a_cons (ev 3) (a_cons (ev 8) (a_cons (ev 12) a_nil)))) (e_tup (a_cons ec_str (a_cons (ev 9) a_nil))))
  (ss_one (s_ret ec_bl))
  ss_nil))) rfl PassesOwn.never)
  (ss_cons (s_setLc false (i := 13) (own := [("asked", 12)]) rfl S.nd rfl rfl (sw_true rfl rfl rfl (by decide +kernel)) (blkOk_by (own := [("asked", 12)]) (by first | decide +kernel | rfl)) (i_list (e_lst false (a_cons ec_non (a_cons (ev 5) (a_cons (ev 10) a_nil))))) (fun _ _ _ _ _ => (pg_name (i := 12) S.nd rfl (by first | exact Or.inl rfl | exact Or.inr rfl))) (okw_name (by decide)) (fun _ _ _ _ _ => ts_nil) (fun _ _ _ _ _ => (e_call G_law_refusal_v2 hr (by decide) T.m_law_refusal_v2 T.F_law_refusal_v2.kp T.b_law_refusal_v2 Dfl.nil (a_cons (ev 3) (a_cons (ev 4) (a_cons (ev 12) a_nil))))))
  (ss_one (s_if (w_or (t_ne hr (ev 13) (e_lst false (a_cons (e_tup (a_cons ec_str (a_cons ec_non a_nil))) (a_cons (e_tup (a_cons ec_str (a_cons ec_non a_nil))) (a_cons (e_tup (a_cons ec_str (a_cons ec_non a_nil))) a_nil))))) (w_or1 (t_ne hr (e_repr hG hr T.n_repr (a_cons (e_lst false (a_cons (ev 3) (a_cons (ev 4) (a_cons (ev 8) (a_cons (ev 10) a_nil))))) a_nil)) (ev 11)))).pt
  (ss_one (s_ret ec_bl))
  ss_nil)))))))))))) rfl PassesOwn.never)
  (ss_one (s_ret ec_bl))))) (by
    intro ds M k x h9
    have h8 := ok_law_k39 T.EC T.PT ds M k x h9
    unfold b_law_k39 c1_law_k39 c2_law_k39 at h8
    exact h8)
end
theorem all_mk {l : PySem.W.OpenLaw} {w : World} {K : PySem.W.Frag} {h : Heap} {mg : Str → Option Value} {fa f_law_deck f_law_take f_law_tanks f_law_low_v2 f_law_amount_v3 f_law_rains f_law_bad_rains f_law_bad_row f_need_floors_x f_is_below f_need_rains_x f_lowest f_add f_heaped_up f_need_floors f_need_water f_need_flaps f_stretches f_by f_pools_of f_rest_of f_settled f_with_rain f_fallen f_at_once f_bounds_x f_behind_x f_law_refusal_v2 f_law_k39 : Addr} (X : K.In h) (G : h.Ns mainGlobals mg) (hfa : mg "law" = some (.ref fa))
    {C_flap C_floors C_water C_fp C_step C_table C_rows C_drop C_tank C_rain C_order C_text : Addr}
    (aF : PySem.W.nsIn K mainGlobals "FlapError" = some (some (.ref C_flap))) (veF : PySem.W.findCls K (.ref C_flap) (.type "type") "__init__" = some (.val (.builtin "ValueError.__init__"))) (rdF : PySem.W.readsIn K C_flap (.type "type") = true) (gaF : PySem.W.specialIn K (.ref C_flap) "__getattribute__" = some (some (.builtin "type.__getattribute__"))) (exF : PySem.W.subIn K (.ref C_flap) (.type "BaseException") = some true) (clF : PySem.W.isClsIn K C_flap = true) (tyF : PySem.W.typeIn K (.ref C_flap) = some (.type "type"))
    (aE_floors : PySem.W.nsIn K mainGlobals "NoFloors" = some (some (.ref C_floors)))
    (clE_floors : PySem.W.isClsIn K C_floors = true) (tyE_floors : PySem.W.typeIn K (.ref C_floors) = some (.type "type"))
    (aE_water : PySem.W.nsIn K mainGlobals "NoWater" = some (some (.ref C_water)))
    (clE_water : PySem.W.isClsIn K C_water = true) (tyE_water : PySem.W.typeIn K (.ref C_water) = some (.type "type"))
    (aE_fp : PySem.W.nsIn K mainGlobals "NoFlap" = some (some (.ref C_fp)))
    (clE_fp : PySem.W.isClsIn K C_fp = true) (tyE_fp : PySem.W.typeIn K (.ref C_fp) = some (.type "type"))
    (aE_step : PySem.W.nsIn K mainGlobals "NoStep" = some (some (.ref C_step)))
    (clE_step : PySem.W.isClsIn K C_step = true) (tyE_step : PySem.W.typeIn K (.ref C_step) = some (.type "type"))
    (aE_table : PySem.W.nsIn K mainGlobals "NoTable" = some (some (.ref C_table)))
    (clE_table : PySem.W.isClsIn K C_table = true) (tyE_table : PySem.W.typeIn K (.ref C_table) = some (.type "type"))
    (aE_rows : PySem.W.nsIn K mainGlobals "NoRows" = some (some (.ref C_rows)))
    (clE_rows : PySem.W.isClsIn K C_rows = true) (tyE_rows : PySem.W.typeIn K (.ref C_rows) = some (.type "type"))
    (aE_drop : PySem.W.nsIn K mainGlobals "NoDrop" = some (some (.ref C_drop)))
    (clE_drop : PySem.W.isClsIn K C_drop = true) (tyE_drop : PySem.W.typeIn K (.ref C_drop) = some (.type "type"))
    (aE_tank : PySem.W.nsIn K mainGlobals "NoTank" = some (some (.ref C_tank)))
    (clE_tank : PySem.W.isClsIn K C_tank = true) (tyE_tank : PySem.W.typeIn K (.ref C_tank) = some (.type "type"))
    (aE_rain : PySem.W.nsIn K mainGlobals "NoRain" = some (some (.ref C_rain)))
    (clE_rain : PySem.W.isClsIn K C_rain = true) (tyE_rain : PySem.W.typeIn K (.ref C_rain) = some (.type "type"))
    (aE_order : PySem.W.nsIn K mainGlobals "NoOrder" = some (some (.ref C_order)))
    (clE_order : PySem.W.isClsIn K C_order = true) (tyE_order : PySem.W.typeIn K (.ref C_order) = some (.type "type"))
    (aE_text : PySem.W.nsIn K mainGlobals "NoText" = some (some (.ref C_text)))
    (clE_text : PySem.W.isClsIn K C_text = true) (tyE_text : PySem.W.typeIn K (.ref C_text) = some (.type "type"))
    (hnE : PySem.W.specialIn K (.builtin "object.__class__") "__get__" = some (some (.builtin "getset_descriptor.__get__"))) (htE : PySem.W.takesIn K (.builtin "object.__class__") = some true)
    {nm_floors q_floors : Str} {N_floors : Addr} {bs_floors : List Value} {sn_floors : List Str} {sub_floors : List Value} {ab_floors : Bool} {col_floors : Option Bool} {dd_floors : Option Addr} {k0_floors k1_floors k2_floors k3_floors k5_floors : Option Value} {f_init_floors : Addr}
    {odI_floors anI_floors : Option Addr} {slI_floors : Array (Option Value)} {ocI_floors kVI_floors dcI_floors pmI_floors cdI_floors ctI_floors : Value}
    (lE_floors : K.lookup C_floors = some (excClassObj nm_floors q_floors C_floors N_floors bs_floors (excMro C_flap) true sn_floors sub_floors ab_floors col_floors dd_floors k0_floors k1_floors k2_floors k3_floors k5_floors "ValueError.__new__"))
    (saE_floors : PySem.W.findIn K (.ref C_floors) "__setattr__" = some (some (.builtin "object.__setattr__"))) (kE_floors : PySem.W.keepIn K (.ref C_floors) = true) (nwE_floors : PySem.W.findIn K (.ref C_floors) "what" = some none) (gaE_floors : PySem.W.findIn K (.ref C_floors) "__getattribute__" = some (some (.builtin "BaseException.__getattribute__"))) (ggE_floors : PySem.W.findIn K (.ref C_floors) "__getattr__" = some none) (haE_floors : PySem.W.findIn K (.ref C_floors) "__class__" = some (some (.builtin "object.__class__"))) (iE_floors : PySem.W.findIn K (.ref C_floors) "__init__" = some (some (.ref f_init_floors))) (tE_floors : PySem.W.typeIn K (.ref f_init_floors) = some (.type "function"))
    (liE_floors : K.lookup f_init_floors = some ⟨ocI_floors, odI_floors, .func (PySem.W.fnOf "__init__" "NoFloors.__init__" (defArgs si_floors) (defBody si_floors) (defScope si_floors) .none kVI_floors dcI_floors pmI_floors anI_floors cdI_floors ctI_floors), slI_floors⟩) (ciE_floors : PySem.W.codeIn K cdI_floors "NoFloors.__init__" = true) (kiE_floors : PySem.W.keepIn K (.ref f_init_floors) = true)
    {nm_rain q_rain : Str} {N_rain : Addr} {bs_rain : List Value} {sn_rain : List Str} {sub_rain : List Value} {ab_rain : Bool} {col_rain : Option Bool} {dd_rain : Option Addr} {k0_rain k1_rain k2_rain k3_rain k5_rain : Option Value} {f_init_rain : Addr}
    {odI_rain anI_rain : Option Addr} {slI_rain : Array (Option Value)} {ocI_rain kVI_rain dcI_rain pmI_rain cdI_rain ctI_rain : Value}
    (lE_rain : K.lookup C_rain = some (excClassObj nm_rain q_rain C_rain N_rain bs_rain (excMro C_flap) true sn_rain sub_rain ab_rain col_rain dd_rain k0_rain k1_rain k2_rain k3_rain k5_rain "ValueError.__new__"))
    (saE_rain : PySem.W.findIn K (.ref C_rain) "__setattr__" = some (some (.builtin "object.__setattr__"))) (kE_rain : PySem.W.keepIn K (.ref C_rain) = true) (nwE_rain : PySem.W.findIn K (.ref C_rain) "what" = some none) (gaE_rain : PySem.W.findIn K (.ref C_rain) "__getattribute__" = some (some (.builtin "BaseException.__getattribute__"))) (ggE_rain : PySem.W.findIn K (.ref C_rain) "__getattr__" = some none) (haE_rain : PySem.W.findIn K (.ref C_rain) "__class__" = some (some (.builtin "object.__class__"))) (iE_rain : PySem.W.findIn K (.ref C_rain) "__init__" = some (some (.ref f_init_rain))) (tE_rain : PySem.W.typeIn K (.ref f_init_rain) = some (.type "function"))
    (liE_rain : K.lookup f_init_rain = some ⟨ocI_rain, odI_rain, .func (PySem.W.fnOf "__init__" "NoRain.__init__" (defArgs si_rain) (defBody si_rain) (defScope si_rain) .none kVI_rain dcI_rain pmI_rain anI_rain cdI_rain ctI_rain), slI_rain⟩) (ciE_rain : PySem.W.codeIn K cdI_rain "NoRain.__init__" = true) (kiE_rain : PySem.W.keepIn K (.ref f_init_rain) = true)
    {nm_order q_order : Str} {N_order : Addr} {bs_order : List Value} {sn_order : List Str} {sub_order : List Value} {ab_order : Bool} {col_order : Option Bool} {dd_order : Option Addr} {k0_order k1_order k2_order k3_order k5_order : Option Value} {f_init_order : Addr}
    {odI_order anI_order : Option Addr} {slI_order : Array (Option Value)} {ocI_order kVI_order dcI_order pmI_order cdI_order ctI_order : Value}
    (lE_order : K.lookup C_order = some (excClassObj nm_order q_order C_order N_order bs_order (excMro C_flap) true sn_order sub_order ab_order col_order dd_order k0_order k1_order k2_order k3_order k5_order "ValueError.__new__"))
    (saE_order : PySem.W.findIn K (.ref C_order) "__setattr__" = some (some (.builtin "object.__setattr__"))) (kE_order : PySem.W.keepIn K (.ref C_order) = true) (nwE_order : PySem.W.findIn K (.ref C_order) "what" = some none) (gaE_order : PySem.W.findIn K (.ref C_order) "__getattribute__" = some (some (.builtin "BaseException.__getattribute__"))) (ggE_order : PySem.W.findIn K (.ref C_order) "__getattr__" = some none) (haE_order : PySem.W.findIn K (.ref C_order) "__class__" = some (some (.builtin "object.__class__"))) (iE_order : PySem.W.findIn K (.ref C_order) "__init__" = some (some (.ref f_init_order))) (tE_order : PySem.W.typeIn K (.ref f_init_order) = some (.type "function"))
    (liE_order : K.lookup f_init_order = some ⟨ocI_order, odI_order, .func (PySem.W.fnOf "__init__" "NoOrder.__init__" (defArgs si_order) (defBody si_order) (defScope si_order) .none kVI_order dcI_order pmI_order anI_order cdI_order ctI_order), slI_order⟩) (ciE_order : PySem.W.codeIn K cdI_order "NoOrder.__init__" = true) (kiE_order : PySem.W.keepIn K (.ref f_init_order) = true)
    (ndE : [C_flap, C_floors, C_water, C_fp, C_step, C_table, C_rows, C_drop, C_tank, C_rain, C_order, C_text].Nodup)
    {od_law_deck an_law_deck : Option Addr} {sl_law_deck : Array (Option Value)} {oc_law_deck kV_law_deck dc_law_deck pm_law_deck cd_law_deck ct_law_deck : Value}
    (a_law_deck : PySem.W.nsIn K mainGlobals "_law_deck" = some (some (.ref f_law_deck)))
    (l_law_deck : K.lookup f_law_deck = some ⟨oc_law_deck, od_law_deck, .func (PySem.W.fnOf "_law_deck" "_law_deck" (defArgs s_law_deck) (defBody s_law_deck) (defScope s_law_deck) .none kV_law_deck dc_law_deck pm_law_deck an_law_deck cd_law_deck ct_law_deck), sl_law_deck⟩) (c_law_deck : PySem.W.codeIn K cd_law_deck "_law_deck" = true) (k_law_deck : PySem.W.keepIn K (.ref f_law_deck) = true)
    {od_law_take an_law_take : Option Addr} {sl_law_take : Array (Option Value)} {oc_law_take kV_law_take dc_law_take pm_law_take cd_law_take ct_law_take : Value}
    (a_law_take : PySem.W.nsIn K mainGlobals "_law_take" = some (some (.ref f_law_take)))
    (l_law_take : K.lookup f_law_take = some ⟨oc_law_take, od_law_take, .func (PySem.W.fnOf "_law_take" "_law_take" (defArgs s_law_take) (defBody s_law_take) (defScope s_law_take) .none kV_law_take dc_law_take pm_law_take an_law_take cd_law_take ct_law_take), sl_law_take⟩) (c_law_take : PySem.W.codeIn K cd_law_take "_law_take" = true) (k_law_take : PySem.W.keepIn K (.ref f_law_take) = true)
    {od_law_tanks an_law_tanks : Option Addr} {sl_law_tanks : Array (Option Value)} {oc_law_tanks kV_law_tanks dc_law_tanks pm_law_tanks cd_law_tanks ct_law_tanks : Value}
    (a_law_tanks : PySem.W.nsIn K mainGlobals "_law_tanks" = some (some (.ref f_law_tanks)))
    (l_law_tanks : K.lookup f_law_tanks = some ⟨oc_law_tanks, od_law_tanks, .func (PySem.W.fnOf "_law_tanks" "_law_tanks" (defArgs s_law_tanks) (defBody s_law_tanks) (defScope s_law_tanks) .none kV_law_tanks dc_law_tanks pm_law_tanks an_law_tanks cd_law_tanks ct_law_tanks), sl_law_tanks⟩) (c_law_tanks : PySem.W.codeIn K cd_law_tanks "_law_tanks" = true) (k_law_tanks : PySem.W.keepIn K (.ref f_law_tanks) = true)
    {od_law_low_v2 an_law_low_v2 : Option Addr} {sl_law_low_v2 : Array (Option Value)} {oc_law_low_v2 kV_law_low_v2 dc_law_low_v2 pm_law_low_v2 cd_law_low_v2 ct_law_low_v2 : Value}
    (a_law_low_v2 : PySem.W.nsIn K mainGlobals "_law_low" = some (some (.ref f_law_low_v2)))
    (l_law_low_v2 : K.lookup f_law_low_v2 = some ⟨oc_law_low_v2, od_law_low_v2, .func (PySem.W.fnOf "_law_low" "_law_low" (defArgs s_law_low_v2) (defBody s_law_low_v2) (defScope s_law_low_v2) .none kV_law_low_v2 dc_law_low_v2 pm_law_low_v2 an_law_low_v2 cd_law_low_v2 ct_law_low_v2), sl_law_low_v2⟩) (c_law_low_v2 : PySem.W.codeIn K cd_law_low_v2 "_law_low" = true) (k_law_low_v2 : PySem.W.keepIn K (.ref f_law_low_v2) = true)
    {od_law_amount_v3 an_law_amount_v3 : Option Addr} {sl_law_amount_v3 : Array (Option Value)} {oc_law_amount_v3 kV_law_amount_v3 dc_law_amount_v3 pm_law_amount_v3 cd_law_amount_v3 ct_law_amount_v3 : Value}
    (a_law_amount_v3 : PySem.W.nsIn K mainGlobals "_law_amount" = some (some (.ref f_law_amount_v3)))
    (l_law_amount_v3 : K.lookup f_law_amount_v3 = some ⟨oc_law_amount_v3, od_law_amount_v3, .func (PySem.W.fnOf "_law_amount" "_law_amount" (defArgs s_law_amount_v3) (defBody s_law_amount_v3) (defScope s_law_amount_v3) .none kV_law_amount_v3 dc_law_amount_v3 pm_law_amount_v3 an_law_amount_v3 cd_law_amount_v3 ct_law_amount_v3), sl_law_amount_v3⟩) (c_law_amount_v3 : PySem.W.codeIn K cd_law_amount_v3 "_law_amount" = true) (k_law_amount_v3 : PySem.W.keepIn K (.ref f_law_amount_v3) = true)
    {od_law_rains an_law_rains : Option Addr} {sl_law_rains : Array (Option Value)} {oc_law_rains kV_law_rains dc_law_rains pm_law_rains cd_law_rains ct_law_rains : Value}
    (a_law_rains : PySem.W.nsIn K mainGlobals "_law_rains" = some (some (.ref f_law_rains)))
    (l_law_rains : K.lookup f_law_rains = some ⟨oc_law_rains, od_law_rains, .func (PySem.W.fnOf "_law_rains" "_law_rains" (defArgs s_law_rains) (defBody s_law_rains) (defScope s_law_rains) .none kV_law_rains dc_law_rains pm_law_rains an_law_rains cd_law_rains ct_law_rains), sl_law_rains⟩) (c_law_rains : PySem.W.codeIn K cd_law_rains "_law_rains" = true) (k_law_rains : PySem.W.keepIn K (.ref f_law_rains) = true)
    {od_law_bad_rains an_law_bad_rains : Option Addr} {sl_law_bad_rains : Array (Option Value)} {oc_law_bad_rains kV_law_bad_rains dc_law_bad_rains pm_law_bad_rains cd_law_bad_rains ct_law_bad_rains : Value}
    (a_law_bad_rains : PySem.W.nsIn K mainGlobals "_law_bad_rains" = some (some (.ref f_law_bad_rains)))
    (l_law_bad_rains : K.lookup f_law_bad_rains = some ⟨oc_law_bad_rains, od_law_bad_rains, .func (PySem.W.fnOf "_law_bad_rains" "_law_bad_rains" (defArgs s_law_bad_rains) (defBody s_law_bad_rains) (defScope s_law_bad_rains) .none kV_law_bad_rains dc_law_bad_rains pm_law_bad_rains an_law_bad_rains cd_law_bad_rains ct_law_bad_rains), sl_law_bad_rains⟩) (c_law_bad_rains : PySem.W.codeIn K cd_law_bad_rains "_law_bad_rains" = true) (k_law_bad_rains : PySem.W.keepIn K (.ref f_law_bad_rains) = true)
    {od_law_bad_row an_law_bad_row : Option Addr} {sl_law_bad_row : Array (Option Value)} {oc_law_bad_row kV_law_bad_row dc_law_bad_row pm_law_bad_row cd_law_bad_row ct_law_bad_row : Value}
    (a_law_bad_row : PySem.W.nsIn K mainGlobals "_law_bad_row" = some (some (.ref f_law_bad_row)))
    (l_law_bad_row : K.lookup f_law_bad_row = some ⟨oc_law_bad_row, od_law_bad_row, .func (PySem.W.fnOf "_law_bad_row" "_law_bad_row" (defArgs s_law_bad_row) (defBody s_law_bad_row) (defScope s_law_bad_row) .none kV_law_bad_row dc_law_bad_row pm_law_bad_row an_law_bad_row cd_law_bad_row ct_law_bad_row), sl_law_bad_row⟩) (c_law_bad_row : PySem.W.codeIn K cd_law_bad_row "_law_bad_row" = true) (k_law_bad_row : PySem.W.keepIn K (.ref f_law_bad_row) = true)
    {od_need_floors_x an_need_floors_x : Option Addr} {sl_need_floors_x : Array (Option Value)} {oc_need_floors_x kV_need_floors_x dc_need_floors_x pm_need_floors_x cd_need_floors_x ct_need_floors_x : Value}
    (a_need_floors_x : PySem.W.nsIn K mainGlobals "need_floors" = some (some (.ref f_need_floors_x)))
    (l_need_floors_x : K.lookup f_need_floors_x = some ⟨oc_need_floors_x, od_need_floors_x, .func (PySem.W.fnOf "need_floors" "need_floors" (defArgs s_need_floors_x) (defBody s_need_floors_x) (defScope s_need_floors_x) .none kV_need_floors_x dc_need_floors_x pm_need_floors_x an_need_floors_x cd_need_floors_x ct_need_floors_x), sl_need_floors_x⟩) (c_need_floors_x : PySem.W.codeIn K cd_need_floors_x "need_floors" = true) (k_need_floors_x : PySem.W.keepIn K (.ref f_need_floors_x) = true)
    {od_is_below an_is_below : Option Addr} {sl_is_below : Array (Option Value)} {oc_is_below kV_is_below dc_is_below pm_is_below cd_is_below ct_is_below : Value}
    (a_is_below : PySem.W.nsIn K mainGlobals "is_below" = some (some (.ref f_is_below)))
    (l_is_below : K.lookup f_is_below = some ⟨oc_is_below, od_is_below, .func (PySem.W.fnOf "is_below" "is_below" (defArgs s_is_below) (defBody s_is_below) (defScope s_is_below) .none kV_is_below dc_is_below pm_is_below an_is_below cd_is_below ct_is_below), sl_is_below⟩) (c_is_below : PySem.W.codeIn K cd_is_below "is_below" = true) (k_is_below : PySem.W.keepIn K (.ref f_is_below) = true)
    {od_need_rains_x an_need_rains_x : Option Addr} {sl_need_rains_x : Array (Option Value)} {oc_need_rains_x kV_need_rains_x dc_need_rains_x pm_need_rains_x cd_need_rains_x ct_need_rains_x : Value}
    (a_need_rains_x : PySem.W.nsIn K mainGlobals "need_rains" = some (some (.ref f_need_rains_x)))
    (l_need_rains_x : K.lookup f_need_rains_x = some ⟨oc_need_rains_x, od_need_rains_x, .func (PySem.W.fnOf "need_rains" "need_rains" (defArgs s_need_rains_x) (defBody s_need_rains_x) (defScope s_need_rains_x) .none kV_need_rains_x dc_need_rains_x pm_need_rains_x an_need_rains_x cd_need_rains_x ct_need_rains_x), sl_need_rains_x⟩) (c_need_rains_x : PySem.W.codeIn K cd_need_rains_x "need_rains" = true) (k_need_rains_x : PySem.W.keepIn K (.ref f_need_rains_x) = true)
    {od_lowest an_lowest : Option Addr} {sl_lowest : Array (Option Value)} {oc_lowest kV_lowest dc_lowest pm_lowest cd_lowest ct_lowest : Value}
    (a_lowest : PySem.W.nsIn K mainGlobals "lowest" = some (some (.ref f_lowest)))
    (l_lowest : K.lookup f_lowest = some ⟨oc_lowest, od_lowest, .func (PySem.W.fnOf "lowest" "lowest" (defArgs s_lowest) (defBody s_lowest) (defScope s_lowest) .none kV_lowest dc_lowest pm_lowest an_lowest cd_lowest ct_lowest), sl_lowest⟩) (c_lowest : PySem.W.codeIn K cd_lowest "lowest" = true) (k_lowest : PySem.W.keepIn K (.ref f_lowest) = true)
    {od_add an_add : Option Addr} {sl_add : Array (Option Value)} {oc_add kV_add dc_add pm_add cd_add ct_add : Value}
    (a_add : PySem.W.nsIn K mainGlobals "add" = some (some (.ref f_add)))
    (l_add : K.lookup f_add = some ⟨oc_add, od_add, .func (PySem.W.fnOf "add" "add" (defArgs s_add) (defBody s_add) (defScope s_add) .none kV_add dc_add pm_add an_add cd_add ct_add), sl_add⟩) (c_add : PySem.W.codeIn K cd_add "add" = true) (k_add : PySem.W.keepIn K (.ref f_add) = true)
    {od_heaped_up an_heaped_up : Option Addr} {sl_heaped_up : Array (Option Value)} {oc_heaped_up kV_heaped_up dc_heaped_up pm_heaped_up cd_heaped_up ct_heaped_up : Value}
    (a_heaped_up : PySem.W.nsIn K mainGlobals "heaped_up" = some (some (.ref f_heaped_up)))
    (l_heaped_up : K.lookup f_heaped_up = some ⟨oc_heaped_up, od_heaped_up, .func (PySem.W.fnOf "heaped_up" "heaped_up" (defArgs s_heaped_up) (defBody s_heaped_up) (defScope s_heaped_up) .none kV_heaped_up dc_heaped_up pm_heaped_up an_heaped_up cd_heaped_up ct_heaped_up), sl_heaped_up⟩) (c_heaped_up : PySem.W.codeIn K cd_heaped_up "heaped_up" = true) (k_heaped_up : PySem.W.keepIn K (.ref f_heaped_up) = true)
    {od_need_floors an_need_floors : Option Addr} {sl_need_floors : Array (Option Value)} {oc_need_floors kV_need_floors dc_need_floors pm_need_floors cd_need_floors ct_need_floors : Value}
    (a_need_floors : PySem.W.nsIn K mainGlobals "need_floors" = some (some (.ref f_need_floors)))
    (l_need_floors : K.lookup f_need_floors = some ⟨oc_need_floors, od_need_floors, .func (PySem.W.fnOf "need_floors" "need_floors" (defArgs s_need_floors) (defBody s_need_floors) (defScope s_need_floors) .none kV_need_floors dc_need_floors pm_need_floors an_need_floors cd_need_floors ct_need_floors), sl_need_floors⟩) (c_need_floors : PySem.W.codeIn K cd_need_floors "need_floors" = true) (k_need_floors : PySem.W.keepIn K (.ref f_need_floors) = true)
    {od_need_water an_need_water : Option Addr} {sl_need_water : Array (Option Value)} {oc_need_water kV_need_water dc_need_water pm_need_water cd_need_water ct_need_water : Value}
    (a_need_water : PySem.W.nsIn K mainGlobals "need_water" = some (some (.ref f_need_water)))
    (l_need_water : K.lookup f_need_water = some ⟨oc_need_water, od_need_water, .func (PySem.W.fnOf "need_water" "need_water" (defArgs s_need_water) (defBody s_need_water) (defScope s_need_water) .none kV_need_water dc_need_water pm_need_water an_need_water cd_need_water ct_need_water), sl_need_water⟩) (c_need_water : PySem.W.codeIn K cd_need_water "need_water" = true) (k_need_water : PySem.W.keepIn K (.ref f_need_water) = true)
    {od_need_flaps an_need_flaps : Option Addr} {sl_need_flaps : Array (Option Value)} {oc_need_flaps kV_need_flaps dc_need_flaps pm_need_flaps cd_need_flaps ct_need_flaps : Value}
    (a_need_flaps : PySem.W.nsIn K mainGlobals "need_flaps" = some (some (.ref f_need_flaps)))
    (l_need_flaps : K.lookup f_need_flaps = some ⟨oc_need_flaps, od_need_flaps, .func (PySem.W.fnOf "need_flaps" "need_flaps" (defArgs s_need_flaps) (defBody s_need_flaps) (defScope s_need_flaps) .none kV_need_flaps dc_need_flaps pm_need_flaps an_need_flaps cd_need_flaps ct_need_flaps), sl_need_flaps⟩) (c_need_flaps : PySem.W.codeIn K cd_need_flaps "need_flaps" = true) (k_need_flaps : PySem.W.keepIn K (.ref f_need_flaps) = true)
    {od_stretches an_stretches : Option Addr} {sl_stretches : Array (Option Value)} {oc_stretches kV_stretches dc_stretches pm_stretches cd_stretches ct_stretches : Value}
    (a_stretches : PySem.W.nsIn K mainGlobals "stretches" = some (some (.ref f_stretches)))
    (l_stretches : K.lookup f_stretches = some ⟨oc_stretches, od_stretches, .func (PySem.W.fnOf "stretches" "stretches" (defArgs s_stretches) (defBody s_stretches) (defScope s_stretches) .none kV_stretches dc_stretches pm_stretches an_stretches cd_stretches ct_stretches), sl_stretches⟩) (c_stretches : PySem.W.codeIn K cd_stretches "stretches" = true) (k_stretches : PySem.W.keepIn K (.ref f_stretches) = true)
    {od_by an_by : Option Addr} {sl_by : Array (Option Value)} {oc_by kV_by dc_by pm_by cd_by ct_by : Value}
    (a_by : PySem.W.nsIn K mainGlobals "by" = some (some (.ref f_by)))
    (l_by : K.lookup f_by = some ⟨oc_by, od_by, .func (PySem.W.fnOf "by" "by" (defArgs s_by) (defBody s_by) (defScope s_by) .none kV_by dc_by pm_by an_by cd_by ct_by), sl_by⟩) (c_by : PySem.W.codeIn K cd_by "by" = true) (k_by : PySem.W.keepIn K (.ref f_by) = true)
    {od_pools_of an_pools_of : Option Addr} {sl_pools_of : Array (Option Value)} {oc_pools_of kV_pools_of dc_pools_of pm_pools_of cd_pools_of ct_pools_of : Value}
    (a_pools_of : PySem.W.nsIn K mainGlobals "pools_of" = some (some (.ref f_pools_of)))
    (l_pools_of : K.lookup f_pools_of = some ⟨oc_pools_of, od_pools_of, .func (PySem.W.fnOf "pools_of" "pools_of" (defArgs s_pools_of) (defBody s_pools_of) (defScope s_pools_of) .none kV_pools_of dc_pools_of pm_pools_of an_pools_of cd_pools_of ct_pools_of), sl_pools_of⟩) (c_pools_of : PySem.W.codeIn K cd_pools_of "pools_of" = true) (k_pools_of : PySem.W.keepIn K (.ref f_pools_of) = true)
    {od_rest_of an_rest_of : Option Addr} {sl_rest_of : Array (Option Value)} {oc_rest_of kV_rest_of dc_rest_of pm_rest_of cd_rest_of ct_rest_of : Value}
    (a_rest_of : PySem.W.nsIn K mainGlobals "rest_of" = some (some (.ref f_rest_of)))
    (l_rest_of : K.lookup f_rest_of = some ⟨oc_rest_of, od_rest_of, .func (PySem.W.fnOf "rest_of" "rest_of" (defArgs s_rest_of) (defBody s_rest_of) (defScope s_rest_of) .none kV_rest_of dc_rest_of pm_rest_of an_rest_of cd_rest_of ct_rest_of), sl_rest_of⟩) (c_rest_of : PySem.W.codeIn K cd_rest_of "rest_of" = true) (k_rest_of : PySem.W.keepIn K (.ref f_rest_of) = true)
    {od_settled an_settled : Option Addr} {sl_settled : Array (Option Value)} {oc_settled kV_settled dc_settled pm_settled cd_settled ct_settled : Value}
    {dT_settled : Addr} {odT_settled : Option Addr} {slT_settled : Array (Option Value)} {nT_settled : Nat} {ocT_settled : Value}
    {e0_settled : Addr} {ode0_settled : Option Addr} {ne0_settled : Nat} {sle0_settled : Array (Option Value)}
    (a_settled : PySem.W.nsIn K mainGlobals "settled" = some (some (.ref f_settled)))
    (l_settled : K.lookup f_settled = some ⟨oc_settled, od_settled, .func (PySem.W.fnOf "settled" "settled" (defArgs s_settled) (defBody s_settled) (defScope s_settled) (.ref dT_settled) kV_settled dc_settled pm_settled an_settled cd_settled ct_settled), sl_settled⟩) (c_settled : PySem.W.codeIn K cd_settled "settled" = true) (k_settled : PySem.W.keepIn K (.ref f_settled) = true)
    (hT_settled : K.lookup dT_settled = some ⟨ocT_settled, odT_settled, .seq #[.ref e0_settled] nT_settled, slT_settled⟩)
    (he0_settled : K.lookup e0_settled = some ⟨.type "tuple", ode0_settled, .seq #[] ne0_settled, sle0_settled⟩)
    {od_with_rain an_with_rain : Option Addr} {sl_with_rain : Array (Option Value)} {oc_with_rain kV_with_rain dc_with_rain pm_with_rain cd_with_rain ct_with_rain : Value}
    (a_with_rain : PySem.W.nsIn K mainGlobals "with_rain" = some (some (.ref f_with_rain)))
    (l_with_rain : K.lookup f_with_rain = some ⟨oc_with_rain, od_with_rain, .func (PySem.W.fnOf "with_rain" "with_rain" (defArgs s_with_rain) (defBody s_with_rain) (defScope s_with_rain) .none kV_with_rain dc_with_rain pm_with_rain an_with_rain cd_with_rain ct_with_rain), sl_with_rain⟩) (c_with_rain : PySem.W.codeIn K cd_with_rain "with_rain" = true) (k_with_rain : PySem.W.keepIn K (.ref f_with_rain) = true)
    {od_fallen an_fallen : Option Addr} {sl_fallen : Array (Option Value)} {oc_fallen kV_fallen dc_fallen pm_fallen cd_fallen ct_fallen : Value}
    (a_fallen : PySem.W.nsIn K mainGlobals "fallen" = some (some (.ref f_fallen)))
    (l_fallen : K.lookup f_fallen = some ⟨oc_fallen, od_fallen, .func (PySem.W.fnOf "fallen" "fallen" (defArgs s_fallen) (defBody s_fallen) (defScope s_fallen) .none kV_fallen dc_fallen pm_fallen an_fallen cd_fallen ct_fallen), sl_fallen⟩) (c_fallen : PySem.W.codeIn K cd_fallen "fallen" = true) (k_fallen : PySem.W.keepIn K (.ref f_fallen) = true)
    {od_at_once an_at_once : Option Addr} {sl_at_once : Array (Option Value)} {oc_at_once kV_at_once dc_at_once pm_at_once cd_at_once ct_at_once : Value}
    (a_at_once : PySem.W.nsIn K mainGlobals "at_once" = some (some (.ref f_at_once)))
    (l_at_once : K.lookup f_at_once = some ⟨oc_at_once, od_at_once, .func (PySem.W.fnOf "at_once" "at_once" (defArgs s_at_once) (defBody s_at_once) (defScope s_at_once) .none kV_at_once dc_at_once pm_at_once an_at_once cd_at_once ct_at_once), sl_at_once⟩) (c_at_once : PySem.W.codeIn K cd_at_once "at_once" = true) (k_at_once : PySem.W.keepIn K (.ref f_at_once) = true)
    {od_bounds_x an_bounds_x : Option Addr} {sl_bounds_x : Array (Option Value)} {oc_bounds_x kV_bounds_x dc_bounds_x pm_bounds_x cd_bounds_x ct_bounds_x : Value}
    (a_bounds_x : PySem.W.nsIn K mainGlobals "bounds" = some (some (.ref f_bounds_x)))
    (l_bounds_x : K.lookup f_bounds_x = some ⟨oc_bounds_x, od_bounds_x, .func (PySem.W.fnOf "bounds" "bounds" (defArgs s_bounds_x) (defBody s_bounds_x) (defScope s_bounds_x) .none kV_bounds_x dc_bounds_x pm_bounds_x an_bounds_x cd_bounds_x ct_bounds_x), sl_bounds_x⟩) (c_bounds_x : PySem.W.codeIn K cd_bounds_x "bounds" = true) (k_bounds_x : PySem.W.keepIn K (.ref f_bounds_x) = true)
    {od_behind_x an_behind_x : Option Addr} {sl_behind_x : Array (Option Value)} {oc_behind_x kV_behind_x dc_behind_x pm_behind_x cd_behind_x ct_behind_x : Value}
    (a_behind_x : PySem.W.nsIn K mainGlobals "behind" = some (some (.ref f_behind_x)))
    (l_behind_x : K.lookup f_behind_x = some ⟨oc_behind_x, od_behind_x, .func (PySem.W.fnOf "behind" "behind" (defArgs s_behind_x) (defBody s_behind_x) (defScope s_behind_x) .none kV_behind_x dc_behind_x pm_behind_x an_behind_x cd_behind_x ct_behind_x), sl_behind_x⟩) (c_behind_x : PySem.W.codeIn K cd_behind_x "behind" = true) (k_behind_x : PySem.W.keepIn K (.ref f_behind_x) = true)
    {od_law_refusal_v2 an_law_refusal_v2 : Option Addr} {sl_law_refusal_v2 : Array (Option Value)} {oc_law_refusal_v2 kV_law_refusal_v2 dc_law_refusal_v2 pm_law_refusal_v2 cd_law_refusal_v2 ct_law_refusal_v2 : Value}
    (a_law_refusal_v2 : PySem.W.nsIn K mainGlobals "_law_refusal" = some (some (.ref f_law_refusal_v2)))
    (l_law_refusal_v2 : K.lookup f_law_refusal_v2 = some ⟨oc_law_refusal_v2, od_law_refusal_v2, .func (PySem.W.fnOf "_law_refusal" "_law_refusal" (defArgs s_law_refusal_v2) (defBody s_law_refusal_v2) (defScope s_law_refusal_v2) .none kV_law_refusal_v2 dc_law_refusal_v2 pm_law_refusal_v2 an_law_refusal_v2 cd_law_refusal_v2 ct_law_refusal_v2), sl_law_refusal_v2⟩) (c_law_refusal_v2 : PySem.W.codeIn K cd_law_refusal_v2 "_law_refusal" = true) (k_law_refusal_v2 : PySem.W.keepIn K (.ref f_law_refusal_v2) = true)
    {od_law_k39 an_law_k39 : Option Addr} {sl_law_k39 : Array (Option Value)} {oc_law_k39 kV_law_k39 dc_law_k39 pm_law_k39 cd_law_k39 ct_law_k39 : Value}
    (a_law_k39 : PySem.W.nsIn K mainGlobals "law" = some (some (.ref f_law_k39)))
    (l_law_k39 : K.lookup f_law_k39 = some ⟨oc_law_k39, od_law_k39, .func (PySem.W.fnOf "law" "law" (defArgs s_law_k39) (defBody s_law_k39) (defScope s_law_k39) .none kV_law_k39 dc_law_k39 pm_law_k39 an_law_k39 cd_law_k39 ct_law_k39), sl_law_k39⟩) (c_law_k39 : PySem.W.codeIn K cd_law_k39 "law" = true) (k_law_k39 : PySem.W.keepIn K (.ref f_law_k39) = true)
    {CA_t PA_t : Addr} {ec_t : Value} {d_t : Option Addr} {vs_t : Array Value} {sl_t : Array (Option Value)} (cdE_t : cd_bounds_x = .ref CA_t) (lc_t : K.lookup CA_t = some ⟨ec_t, d_t, .fields vs_t, sl_t⟩) (tP_t : vs_t[11]? = some (.ref PA_t)) (hd_t : PySem.W.codeHdIn K CA_t PA_t = true) (nP_t : K.lookup PA_t = none) (hT_t : h.get? PA_t = some { cls := .none, data := .fields #[] })
    (n_ValueError : PySem.W.nsIn K mainGlobals "ValueError" = some none)
    (n_abs : PySem.W.nsIn K mainGlobals "abs" = some none)
    (n_enumerate : PySem.W.nsIn K mainGlobals "enumerate" = some none)
    (n_int : PySem.W.nsIn K mainGlobals "int" = some none)
    (n_isinstance : PySem.W.nsIn K mainGlobals "isinstance" = some none)
    (n_len : PySem.W.nsIn K mainGlobals "len" = some none)
    (n_list : PySem.W.nsIn K mainGlobals "list" = some none)
    (n_min : PySem.W.nsIn K mainGlobals "min" = some none)
    (n_range : PySem.W.nsIn K mainGlobals "range" = some none)
    (n_repr : PySem.W.nsIn K mainGlobals "repr" = some none)
    (n_sorted : PySem.W.nsIn K mainGlobals "sorted" = some none)
    (n_zip : PySem.W.nsIn K mainGlobals "zip" = some none)
    {gc_NOUGHT : Addr} {god_NOUGHT : Option Addr} {gsl_NOUGHT : Array (Option Value)} {gn_NOUGHT : Nat} {gt0_NOUGHT gt1_NOUGHT : Tok} (g_NOUGHT : PySem.W.nsIn K mainGlobals "NOUGHT" = some (some (.ref gc_NOUGHT))) (h_NOUGHT : K.lookup gc_NOUGHT = some ⟨.type "tuple", god_NOUGHT, .seq #[.int 0 gt0_NOUGHT, .int 1 gt1_NOUGHT] gn_NOUGHT, gsl_NOUGHT⟩)
    : ∃ F : AF, LawAtG l w K 9 mg fa h F := by
  subst cdE_t
  have e := hfa.symm.trans (PySem.W.mg_of X G a_law_k39)
  cases e
  have F_law_deck := fun_mk (st := s_law_deck) l_law_deck c_law_deck k_law_deck
  have b_law_deck := F_law_deck.binds (ps := ["script"]) fun _ _ _ _ _ _ us hl => match us, hl with | [_], _ => rfl
  have F_law_take := fun_mk (st := s_law_take) l_law_take c_law_take k_law_take
  have b_law_take := F_law_take.binds (ps := ["deck", "many"]) fun _ _ _ _ _ _ us hl => match us, hl with | [_, _], _ => rfl
  have F_law_tanks := fun_mk (st := s_law_tanks) l_law_tanks c_law_tanks k_law_tanks
  have b_law_tanks := F_law_tanks.binds (ps := ["deck", "most"]) fun _ _ _ _ _ _ us hl => match us, hl with | [_, _], _ => rfl
  have F_law_low_v2 := fun_mk (st := s_law_low_v2) l_law_low_v2 c_law_low_v2 k_law_low_v2
  have b_law_low_v2 := F_law_low_v2.binds (ps := ["top", "bottom"]) fun _ _ _ _ _ _ us hl => match us, hl with | [_, _], _ => rfl
  have F_law_amount_v3 := fun_mk (st := s_law_amount_v3) l_law_amount_v3 c_law_amount_v3 k_law_amount_v3
  have b_law_amount_v3 := F_law_amount_v3.binds (ps := ["deck"]) fun _ _ _ _ _ _ us hl => match us, hl with | [_], _ => rfl
  have F_law_rains := fun_mk (st := s_law_rains) l_law_rains c_law_rains k_law_rains
  have b_law_rains := F_law_rains.binds (ps := ["deck", "tanks", "most"]) fun _ _ _ _ _ _ us hl => match us, hl with | [_, _, _], _ => rfl
  have F_law_bad_rains := fun_mk (st := s_law_bad_rains) l_law_bad_rains c_law_bad_rains k_law_bad_rains
  have b_law_bad_rains := F_law_bad_rains.binds (ps := ["deck", "tanks", "some"]) fun _ _ _ _ _ _ us hl => match us, hl with | [_, _, _], _ => rfl
  have F_law_bad_row := fun_mk (st := s_law_bad_row) l_law_bad_row c_law_bad_row k_law_bad_row
  have b_law_bad_row := F_law_bad_row.binds (ps := ["deck", "row"]) fun _ _ _ _ _ _ us hl => match us, hl with | [_, _], _ => rfl
  have F_need_floors_x := fun_mk (st := s_need_floors_x) l_need_floors_x c_need_floors_x k_need_floors_x
  have b_need_floors_x := F_need_floors_x.binds (ps := ["floors"]) fun _ _ _ _ _ _ us hl => match us, hl with | [_], _ => rfl
  have F_is_below := fun_mk (st := s_is_below) l_is_below c_is_below k_is_below
  have b_is_below := F_is_below.binds (ps := ["one", "other"]) fun _ _ _ _ _ _ us hl => match us, hl with | [_, _], _ => rfl
  have F_need_rains_x := fun_mk (st := s_need_rains_x) l_need_rains_x c_need_rains_x k_need_rains_x
  have b_need_rains_x := F_need_rains_x.binds (ps := ["floors", "rains"]) fun _ _ _ _ _ _ us hl => match us, hl with | [_, _], _ => rfl
  have F_lowest := fun_mk (st := s_lowest) l_lowest c_lowest k_lowest
  have b_lowest := F_lowest.binds (ps := ["top", "bottom"]) fun _ _ _ _ _ _ us hl => match us, hl with | [_, _], _ => rfl
  have F_add := fun_mk (st := s_add) l_add c_add k_add
  have b_add := F_add.binds (ps := ["one", "other"]) fun _ _ _ _ _ _ us hl => match us, hl with | [_, _], _ => rfl
  have F_heaped_up := fun_mk (st := s_heaped_up) l_heaped_up c_heaped_up k_heaped_up
  have b_heaped_up := F_heaped_up.binds (ps := ["water"]) fun _ _ _ _ _ _ us hl => match us, hl with | [_], _ => rfl
  have F_need_floors := fun_mk (st := s_need_floors) l_need_floors c_need_floors k_need_floors
  have b_need_floors := F_need_floors.binds (ps := ["floors"]) fun _ _ _ _ _ _ us hl => match us, hl with | [_], _ => rfl
  have F_need_water := fun_mk (st := s_need_water) l_need_water c_need_water k_need_water
  have b_need_water := F_need_water.binds (ps := ["floors", "water"]) fun _ _ _ _ _ _ us hl => match us, hl with | [_, _], _ => rfl
  have F_need_flaps := fun_mk (st := s_need_flaps) l_need_flaps c_need_flaps k_need_flaps
  have b_need_flaps := F_need_flaps.binds (ps := ["floors", "bolted"]) fun _ _ _ _ _ _ us hl => match us, hl with | [_, _], _ => rfl
  have F_stretches := fun_mk (st := s_stretches) l_stretches c_stretches k_stretches
  have b_stretches := F_stretches.binds (ps := ["floors", "bolted"]) fun _ _ _ _ _ _ us hl => match us, hl with | [_, _], _ => rfl
  have F_by := fun_mk (st := s_by) l_by c_by k_by
  have b_by := F_by.binds (ps := ["one", "whole"]) fun _ _ _ _ _ _ us hl => match us, hl with | [_, _], _ => rfl
  have F_pools_of := fun_mk (st := s_pools_of) l_pools_of c_pools_of k_pools_of
  have b_pools_of := F_pools_of.binds (ps := ["floors", "water"]) fun _ _ _ _ _ _ us hl => match us, hl with | [_, _], _ => rfl
  have F_rest_of := fun_mk (st := s_rest_of) l_rest_of c_rest_of k_rest_of
  have b_rest_of := F_rest_of.binds (ps := ["floors", "water"]) fun _ _ _ _ _ _ us hl => match us, hl with | [_, _], _ => rfl
  have F_settled := funT_mk (st := s_settled) (its := [.ref e0_settled]) l_settled c_settled k_settled hT_settled rfl
  have b_settled := FunT.binds (ps := ["floors", "water", "bolted"]) (ds := []) 3 rfl F_settled fun _ _ _ _ _ _ _ us hl => match us, hl with | [_, _, _], _ => ⟨_, rfl, rfl⟩
  have bd1_settled := FunT.binds (ps := ["floors", "water", "bolted"]) (ds := [.ref e0_settled]) 2 rfl F_settled fun _ _ _ _ _ _ _ us hl => match us, hl with | [_, _], _ => ⟨_, rfl, rfl⟩
  have F_with_rain := fun_mk (st := s_with_rain) l_with_rain c_with_rain k_with_rain
  have b_with_rain := F_with_rain.binds (ps := ["water", "rain"]) fun _ _ _ _ _ _ us hl => match us, hl with | [_, _], _ => rfl
  have F_fallen := fun_mk (st := s_fallen) l_fallen c_fallen k_fallen
  have b_fallen := F_fallen.binds (ps := ["floors", "rains"]) fun _ _ _ _ _ _ us hl => match us, hl with | [_, _], _ => rfl
  have F_at_once := fun_mk (st := s_at_once) l_at_once c_at_once k_at_once
  have b_at_once := F_at_once.binds (ps := ["floors", "rains"]) fun _ _ _ _ _ _ us hl => match us, hl with | [_, _], _ => rfl
  have F_bounds_x := fun_mk (st := s_bounds_x) l_bounds_x c_bounds_x k_bounds_x
  have b_bounds_x := F_bounds_x.binds (ps := ["floors", "rains"]) fun _ _ _ _ _ _ us hl => match us, hl with | [_, _], _ => rfl
  have F_behind_x := fun_mk (st := s_behind_x) l_behind_x c_behind_x k_behind_x
  have b_behind_x := F_behind_x.binds (ps := ["floors", "rains", "order"]) fun _ _ _ _ _ _ us hl => match us, hl with | [_, _, _], _ => rfl
  have F_law_refusal_v2 := fun_mk (st := s_law_refusal_v2) l_law_refusal_v2 c_law_refusal_v2 k_law_refusal_v2
  have b_law_refusal_v2 := F_law_refusal_v2.binds (ps := ["tanks", "some", "row"]) fun _ _ _ _ _ _ us hl => match us, hl with | [_, _, _], _ => rfl
  have F_law_k39 := fun_mk (st := s_law_k39) l_law_k39 c_law_k39 k_law_k39
  have b_law_k39 := F_law_k39.binds (ps := ["script"]) fun _ _ _ _ _ _ us hl => match us, hl with | [_], _ => rfl
  have FI_floors := fun_mk (st := si_floors) liE_floors ciE_floors kiE_floors
  have bI_floors := FI_floors.binds (ps := ["self", "what"]) fun _ _ _ _ _ _ us hl => match us, hl with | [_, _], _ => rfl
  have eT_floors : ErrT K ((ecOf [C_flap, C_floors, C_water, C_fp, C_step, C_table, C_rows, C_drop, C_tank, C_rain, C_order, C_text]) .flap) ((ecOf [C_flap, C_floors, C_water, C_fp, C_step, C_table, C_rows, C_drop, C_tank, C_rain, C_order, C_text]) .floors) := ⟨⟨_, _, _, _, _, _, _, _, _, _, _, _, _, _, lE_floors⟩, saE_floors, kE_floors, nwE_floors, gaE_floors, ggE_floors, haE_floors⟩
  have FI_rain := fun_mk (st := si_rain) liE_rain ciE_rain kiE_rain
  have bI_rain := FI_rain.binds (ps := ["self", "what"]) fun _ _ _ _ _ _ us hl => match us, hl with | [_, _], _ => rfl
  have eT_rain : ErrT K ((ecOf [C_flap, C_floors, C_water, C_fp, C_step, C_table, C_rows, C_drop, C_tank, C_rain, C_order, C_text]) .flap) ((ecOf [C_flap, C_floors, C_water, C_fp, C_step, C_table, C_rows, C_drop, C_tank, C_rain, C_order, C_text]) .rain) := ⟨⟨_, _, _, _, _, _, _, _, _, _, _, _, _, _, lE_rain⟩, saE_rain, kE_rain, nwE_rain, gaE_rain, ggE_rain, haE_rain⟩
  have FI_order := fun_mk (st := si_order) liE_order ciE_order kiE_order
  have bI_order := FI_order.binds (ps := ["self", "what"]) fun _ _ _ _ _ _ us hl => match us, hl with | [_, _], _ => rfl
  have eT_order : ErrT K ((ecOf [C_flap, C_floors, C_water, C_fp, C_step, C_table, C_rows, C_drop, C_tank, C_rain, C_order, C_text]) .flap) ((ecOf [C_flap, C_floors, C_water, C_fp, C_step, C_table, C_rows, C_drop, C_tank, C_rain, C_order, C_text]) .order) := ⟨⟨_, _, _, _, _, _, _, _, _, _, _, _, _, _, lE_order⟩, saE_order, kE_order, nwE_order, gaE_order, ggE_order, haE_order⟩
  have erT : ∀ C, isErr (ecOf [C_flap, C_floors, C_water, C_fp, C_step, C_table, C_rows, C_drop, C_tank, C_rain, C_order, C_text]) [.floors, .rain, .order] C → ErrT K ((ecOf [C_flap, C_floors, C_water, C_fp, C_step, C_table, C_rows, C_drop, C_tank, C_rain, C_order, C_text]) .flap) C := by
    rintro C ⟨n, hn, rfl⟩
    cases n <;> first | exact absurd hn (by decide) | exact eT_floors | exact eT_rain | exact eT_order
  have FK : FlapK K ((ecOf [C_flap, C_floors, C_water, C_fp, C_step, C_table, C_rows, C_drop, C_tank, C_rain, C_order, C_text]) .flap) := ⟨exF, clF, tyF⟩
  have xm_flap : ∀ C, isErr (ecOf [C_flap, C_floors, C_water, C_fp, C_step, C_table, C_rows, C_drop, C_tank, C_rain, C_order, C_text]) [.floors, .rain, .order] C → PySem.W.exmOne K (.ref C) (.ref ((ecOf [C_flap, C_floors, C_water, C_fp, C_step, C_table, C_rows, C_drop, C_tank, C_rain, C_order, C_text]) .flap)) = some true := fun C h => exm_flap (erT C h) FK
  have isT : IsT K (ecOf [C_flap, C_floors, C_water, C_fp, C_step, C_table, C_rows, C_drop, C_tank, C_rain, C_order, C_text]) (isErr (ecOf [C_flap, C_floors, C_water, C_fp, C_step, C_table, C_rows, C_drop, C_tank, C_rain, C_order, C_text]) [.floors, .rain, .order]) := by
    refine ist_mk ndE rfl ⟨hnE, htE⟩ (fun n hn => ?_) fun n => ?_
    · cases n <;> first | exact absurd hn (by decide) | exact ⟨by decide, eT_floors⟩ | exact ⟨by decide, eT_rain⟩ | exact ⟨by decide, eT_order⟩
    · cases n
      · exact ⟨clF, tyF⟩
      · exact ⟨clE_floors, tyE_floors⟩
      · exact ⟨clE_water, tyE_water⟩
      · exact ⟨clE_fp, tyE_fp⟩
      · exact ⟨clE_step, tyE_step⟩
      · exact ⟨clE_table, tyE_table⟩
      · exact ⟨clE_rows, tyE_rows⟩
      · exact ⟨clE_drop, tyE_drop⟩
      · exact ⟨clE_tank, tyE_tank⟩
      · exact ⟨clE_rain, tyE_rain⟩
      · exact ⟨clE_order, tyE_order⟩
      · exact ⟨clE_text, tyE_text⟩
  let T : Txt K mg := {
    EC := (ecOf [C_flap, C_floors, C_water, C_fp, C_step, C_table, C_rows, C_drop, C_tank, C_rain, C_order, C_text]),
    FL := ⟨veF, rdF, gaF⟩,
    FK := FK,
    gC_flap := PySem.W.mg_of X G aF,
    erT := erT,
    gC_floors := PySem.W.mg_of X G aE_floors,
    gC_water := PySem.W.mg_of X G aE_water,
    gC_fp := PySem.W.mg_of X G aE_fp,
    gC_step := PySem.W.mg_of X G aE_step,
    gC_table := PySem.W.mg_of X G aE_table,
    gC_rows := PySem.W.mg_of X G aE_rows,
    gC_drop := PySem.W.mg_of X G aE_drop,
    gC_tank := PySem.W.mg_of X G aE_tank,
    gC_rain := PySem.W.mg_of X G aE_rain,
    gC_order := PySem.W.mg_of X G aE_order,
    gC_text := PySem.W.mg_of X G aE_text,
    eT_floors := eT_floors,
    fI_floors := _,
    fdI_floors := _,
    FI_floors := FI_floors,
    bI_floors := bI_floors,
    iC_floors := iE_floors,
    tI_floors := tE_floors,
    eT_rain := eT_rain,
    fI_rain := _,
    fdI_rain := _,
    FI_rain := FI_rain,
    bI_rain := bI_rain,
    iC_rain := iE_rain,
    tI_rain := tE_rain,
    eT_order := eT_order,
    fI_order := _,
    fdI_order := _,
    FI_order := FI_order,
    bI_order := bI_order,
    iC_order := iE_order,
    tI_order := tE_order,
    xm_flap := xm_flap,
    isT := isT,
    f_law_deck := f_law_deck,
    fd_law_deck := _,
    F_law_deck := F_law_deck,
    m_law_deck := PySem.W.mg_of X G a_law_deck,
    b_law_deck := b_law_deck,
    f_law_take := f_law_take,
    fd_law_take := _,
    F_law_take := F_law_take,
    m_law_take := PySem.W.mg_of X G a_law_take,
    b_law_take := b_law_take,
    f_law_tanks := f_law_tanks,
    fd_law_tanks := _,
    F_law_tanks := F_law_tanks,
    m_law_tanks := PySem.W.mg_of X G a_law_tanks,
    b_law_tanks := b_law_tanks,
    f_law_low_v2 := f_law_low_v2,
    fd_law_low_v2 := _,
    F_law_low_v2 := F_law_low_v2,
    m_law_low_v2 := PySem.W.mg_of X G a_law_low_v2,
    b_law_low_v2 := b_law_low_v2,
    f_law_amount_v3 := f_law_amount_v3,
    fd_law_amount_v3 := _,
    F_law_amount_v3 := F_law_amount_v3,
    m_law_amount_v3 := PySem.W.mg_of X G a_law_amount_v3,
    b_law_amount_v3 := b_law_amount_v3,
    f_law_rains := f_law_rains,
    fd_law_rains := _,
    F_law_rains := F_law_rains,
    m_law_rains := PySem.W.mg_of X G a_law_rains,
    b_law_rains := b_law_rains,
    f_law_bad_rains := f_law_bad_rains,
    fd_law_bad_rains := _,
    F_law_bad_rains := F_law_bad_rains,
    m_law_bad_rains := PySem.W.mg_of X G a_law_bad_rains,
    b_law_bad_rains := b_law_bad_rains,
    f_law_bad_row := f_law_bad_row,
    fd_law_bad_row := _,
    F_law_bad_row := F_law_bad_row,
    m_law_bad_row := PySem.W.mg_of X G a_law_bad_row,
    b_law_bad_row := b_law_bad_row,
    f_need_floors_x := f_need_floors_x,
    fd_need_floors_x := _,
    F_need_floors_x := F_need_floors_x,
    m_need_floors_x := PySem.W.mg_of X G a_need_floors_x,
    b_need_floors_x := b_need_floors_x,
    f_is_below := f_is_below,
    fd_is_below := _,
    F_is_below := F_is_below,
    m_is_below := PySem.W.mg_of X G a_is_below,
    b_is_below := b_is_below,
    f_need_rains_x := f_need_rains_x,
    fd_need_rains_x := _,
    F_need_rains_x := F_need_rains_x,
    m_need_rains_x := PySem.W.mg_of X G a_need_rains_x,
    b_need_rains_x := b_need_rains_x,
    f_lowest := f_lowest,
    fd_lowest := _,
    F_lowest := F_lowest,
    m_lowest := PySem.W.mg_of X G a_lowest,
    b_lowest := b_lowest,
    f_add := f_add,
    fd_add := _,
    F_add := F_add,
    m_add := PySem.W.mg_of X G a_add,
    b_add := b_add,
    f_heaped_up := f_heaped_up,
    fd_heaped_up := _,
    F_heaped_up := F_heaped_up,
    m_heaped_up := PySem.W.mg_of X G a_heaped_up,
    b_heaped_up := b_heaped_up,
    f_need_floors := f_need_floors,
    fd_need_floors := _,
    F_need_floors := F_need_floors,
    m_need_floors := PySem.W.mg_of X G a_need_floors,
    b_need_floors := b_need_floors,
    f_need_water := f_need_water,
    fd_need_water := _,
    F_need_water := F_need_water,
    m_need_water := PySem.W.mg_of X G a_need_water,
    b_need_water := b_need_water,
    f_need_flaps := f_need_flaps,
    fd_need_flaps := _,
    F_need_flaps := F_need_flaps,
    m_need_flaps := PySem.W.mg_of X G a_need_flaps,
    b_need_flaps := b_need_flaps,
    f_stretches := f_stretches,
    fd_stretches := _,
    F_stretches := F_stretches,
    m_stretches := PySem.W.mg_of X G a_stretches,
    b_stretches := b_stretches,
    f_by := f_by,
    fd_by := _,
    F_by := F_by,
    m_by := PySem.W.mg_of X G a_by,
    b_by := b_by,
    f_pools_of := f_pools_of,
    fd_pools_of := _,
    F_pools_of := F_pools_of,
    m_pools_of := PySem.W.mg_of X G a_pools_of,
    b_pools_of := b_pools_of,
    f_rest_of := f_rest_of,
    fd_rest_of := _,
    F_rest_of := F_rest_of,
    m_rest_of := PySem.W.mg_of X G a_rest_of,
    b_rest_of := b_rest_of,
    bd1_settled := bd1_settled,
    df1_settled := Dfl.tup0 he0_settled,
    e0_settled := e0_settled,
    f_settled := f_settled,
    fd_settled := _,
    F_settled := F_settled,
    m_settled := PySem.W.mg_of X G a_settled,
    b_settled := b_settled,
    f_with_rain := f_with_rain,
    fd_with_rain := _,
    F_with_rain := F_with_rain,
    m_with_rain := PySem.W.mg_of X G a_with_rain,
    b_with_rain := b_with_rain,
    f_fallen := f_fallen,
    fd_fallen := _,
    F_fallen := F_fallen,
    m_fallen := PySem.W.mg_of X G a_fallen,
    b_fallen := b_fallen,
    f_at_once := f_at_once,
    fd_at_once := _,
    F_at_once := F_at_once,
    m_at_once := PySem.W.mg_of X G a_at_once,
    b_at_once := b_at_once,
    f_bounds_x := f_bounds_x,
    fd_bounds_x := _,
    F_bounds_x := F_bounds_x,
    m_bounds_x := PySem.W.mg_of X G a_bounds_x,
    b_bounds_x := b_bounds_x,
    f_behind_x := f_behind_x,
    fd_behind_x := _,
    F_behind_x := F_behind_x,
    m_behind_x := PySem.W.mg_of X G a_behind_x,
    b_behind_x := b_behind_x,
    f_law_refusal_v2 := f_law_refusal_v2,
    fd_law_refusal_v2 := _,
    F_law_refusal_v2 := F_law_refusal_v2,
    m_law_refusal_v2 := PySem.W.mg_of X G a_law_refusal_v2,
    b_law_refusal_v2 := b_law_refusal_v2,
    f_law_k39 := fa,
    fd_law_k39 := _,
    F_law_k39 := F_law_k39,
    m_law_k39 := PySem.W.mg_of X G a_law_k39,
    b_law_k39 := b_law_k39,
    CA := CA_t,
    PT := PA_t,
    FC_bounds_x := ⟨⟨_, _, _, _, _, _, _, _, rfl, l_bounds_x, c_bounds_x⟩⟩,
    n_ValueError := PySem.W.mg_none_of X G n_ValueError,
    n_abs := PySem.W.mg_none_of X G n_abs,
    n_enumerate := PySem.W.mg_none_of X G n_enumerate,
    n_int := PySem.W.mg_none_of X G n_int,
    n_isinstance := PySem.W.mg_none_of X G n_isinstance,
    n_len := PySem.W.mg_none_of X G n_len,
    n_list := PySem.W.mg_none_of X G n_list,
    n_min := PySem.W.mg_none_of X G n_min,
    n_range := PySem.W.mg_none_of X G n_range,
    n_repr := PySem.W.mg_none_of X G n_repr,
    n_sorted := PySem.W.mg_none_of X G n_sorted,
    n_zip := PySem.W.mg_none_of X G n_zip,
    c_NOUGHT := GlC.pair (PySem.W.mg_of X G g_NOUGHT) h_NOUGHT }
  exact ⟨_, _, _, T.fd_law_k39, qB, hT_t, nP_t, PySem.W.codeHd_of_K X hd_t, fun s v => .of_eq rfl, fun ns hl k M hM h => ⟨ns, rfl, hl, hM, h⟩, fun base _ _ TB => g_law_k39 (P := l.prog) (w := w) (base := base) T TB⟩
theorem walk {l : PySem.W.OpenLaw} {q : Program} {loose : List Str} {XP : (Str → Option Value) → Heap → Prop} {YP : World → Heap → Prop} {d : DefRec} {K : Params → PySem.W.Frag} (hn : l.most = some 63) (hdf : d.params.defaults = [])
    (hY : ∀ (w : World) (h : Heap), YP w h → (K w.params).In h)
    (G : ∀ (w : World) (mg : Str → Option Value) (fa : Addr) (h : Heap), YP w h → (K w.params).In h → h.Ns mainGlobals mg → mg d.name = some (.ref fa) → ∃ F : AF, LawAtG l w (K w.params) 9 mg fa h F) :
    PySem.W.WalkO q loose XP YP l.row.toRowW d [] (fun f vs => PySem.call f vs) := walkGT (k := 9) hn hdf ⟨rfl, by decide, by decide⟩ hY G
end M
open PySem PySem.W PyProof.Rows in
theorem PySem.Challenge.cw_flapwater_k39_rains_refused_holds : PySem.Challenge.rw_flapwater_k39_rains_refused.Holds := by
  w_on; o_law; k_head; (case hw => w_witness2)
  k_fill
  refine M.walk (l := PySem.Challenge.rw_flapwater_k39_rains_refused) rfl rfl (fun w h Y => PySem.W.km_in_of Y) ?F
  case F =>
    intro w mg fa h Y KX G hmg
    refine' M.all_mk KX G hmg ?aF ?veF ?rdF ?gaF ?exF ?clF ?tyF ?aE_floors ?clE_floors ?tyE_floors ?aE_water ?clE_water ?tyE_water ?aE_fp ?clE_fp ?tyE_fp ?aE_step ?clE_step ?tyE_step ?aE_table ?clE_table ?tyE_table ?aE_rows ?clE_rows ?tyE_rows ?aE_drop ?clE_drop ?tyE_drop ?aE_tank ?clE_tank ?tyE_tank ?aE_rain ?clE_rain ?tyE_rain ?aE_order ?clE_order ?tyE_order ?aE_text ?clE_text ?tyE_text ?hnE ?htE ?lE_floors ?saE_floors ?kE_floors ?nwE_floors ?gaE_floors ?ggE_floors ?haE_floors ?iE_floors ?tE_floors ?liE_floors ?ciE_floors ?kiE_floors ?lE_rain ?saE_rain ?kE_rain ?nwE_rain ?gaE_rain ?ggE_rain ?haE_rain ?iE_rain ?tE_rain ?liE_rain ?ciE_rain ?kiE_rain ?lE_order ?saE_order ?kE_order ?nwE_order ?gaE_order ?ggE_order ?haE_order ?iE_order ?tE_order ?liE_order ?ciE_order ?kiE_order ?ndE ?a_law_deck ?l_law_deck ?c_law_deck ?k_law_deck ?a_law_take ?l_law_take ?c_law_take ?k_law_take ?a_law_tanks ?l_law_tanks ?c_law_tanks ?k_law_tanks ?a_law_low_v2 ?l_law_low_v2 ?c_law_low_v2 ?k_law_low_v2 ?a_law_amount_v3 ?l_law_amount_v3 ?c_law_amount_v3 ?k_law_amount_v3 ?a_law_rains ?l_law_rains ?c_law_rains ?k_law_rains ?a_law_bad_rains ?l_law_bad_rains ?c_law_bad_rains ?k_law_bad_rains ?a_law_bad_row ?l_law_bad_row ?c_law_bad_row ?k_law_bad_row ?a_need_floors_x ?l_need_floors_x ?c_need_floors_x ?k_need_floors_x ?a_is_below ?l_is_below ?c_is_below ?k_is_below ?a_need_rains_x ?l_need_rains_x ?c_need_rains_x ?k_need_rains_x ?a_lowest ?l_lowest ?c_lowest ?k_lowest ?a_add ?l_add ?c_add ?k_add ?a_heaped_up ?l_heaped_up ?c_heaped_up ?k_heaped_up ?a_need_floors ?l_need_floors ?c_need_floors ?k_need_floors ?a_need_water ?l_need_water ?c_need_water ?k_need_water ?a_need_flaps ?l_need_flaps ?c_need_flaps ?k_need_flaps ?a_stretches ?l_stretches ?c_stretches ?k_stretches ?a_by ?l_by ?c_by ?k_by ?a_pools_of ?l_pools_of ?c_pools_of ?k_pools_of ?a_rest_of ?l_rest_of ?c_rest_of ?k_rest_of ?a_settled ?l_settled ?c_settled ?k_settled ?hT_settled ?he0_settled ?a_with_rain ?l_with_rain ?c_with_rain ?k_with_rain ?a_fallen ?l_fallen ?c_fallen ?k_fallen ?a_at_once ?l_at_once ?c_at_once ?k_at_once ?a_bounds_x ?l_bounds_x ?c_bounds_x ?k_bounds_x ?a_behind_x ?l_behind_x ?c_behind_x ?k_behind_x ?a_law_refusal_v2 ?l_law_refusal_v2 ?c_law_refusal_v2 ?k_law_refusal_v2 ?a_law_k39 ?l_law_k39 ?c_law_k39 ?k_law_k39 ?cdE_t ?lc_t ?tP_t ?hd_t ?nP_t ?hT_t ?n_ValueError ?n_abs ?n_enumerate ?n_int ?n_isinstance ?n_len ?n_list ?n_min ?n_range ?n_repr ?n_sorted ?n_zip ?g_NOUGHT ?h_NOUGHT
    (case aF => k_is)
    (case veF => k_is)
    (case rdF => k_is)
    (case gaF => k_is)
    (case exF => k_is)
    (case clF => k_is)
    (case tyF => k_is)
    (case aE_floors => k_is)
    (case clE_floors => k_is)
    (case tyE_floors => k_is)
    (case aE_water => k_is)
    (case clE_water => k_is)
    (case tyE_water => k_is)
    (case aE_fp => k_is)
    (case clE_fp => k_is)
    (case tyE_fp => k_is)
    (case aE_step => k_is)
    (case clE_step => k_is)
    (case tyE_step => k_is)
    (case aE_table => k_is)
    (case clE_table => k_is)
    (case tyE_table => k_is)
    (case aE_rows => k_is)
    (case clE_rows => k_is)
    (case tyE_rows => k_is)
    (case aE_drop => k_is)
    (case clE_drop => k_is)
    (case tyE_drop => k_is)
    (case aE_tank => k_is)
    (case clE_tank => k_is)
    (case tyE_tank => k_is)
    (case aE_rain => k_is)
    (case clE_rain => k_is)
    (case tyE_rain => k_is)
    (case aE_order => k_is)
    (case clE_order => k_is)
    (case tyE_order => k_is)
    (case aE_text => k_is)
    (case clE_text => k_is)
    (case tyE_text => k_is)
    (case hnE => k_is)
    (case htE => k_is)
    (case lE_floors => k_is)
    (case saE_floors => k_is)
    (case kE_floors => k_is)
    (case nwE_floors => k_is)
    (case gaE_floors => k_is)
    (case ggE_floors => k_is)
    (case haE_floors => k_is)
    (case iE_floors => k_is)
    (case tE_floors => k_is)
    (case liE_floors => k_is)
    (case ciE_floors => k_is)
    (case kiE_floors => k_is)
    (case lE_rain => k_is)
    (case saE_rain => k_is)
    (case kE_rain => k_is)
    (case nwE_rain => k_is)
    (case gaE_rain => k_is)
    (case ggE_rain => k_is)
    (case haE_rain => k_is)
    (case iE_rain => k_is)
    (case tE_rain => k_is)
    (case liE_rain => k_is)
    (case ciE_rain => k_is)
    (case kiE_rain => k_is)
    (case lE_order => k_is)
    (case saE_order => k_is)
    (case kE_order => k_is)
    (case nwE_order => k_is)
    (case gaE_order => k_is)
    (case ggE_order => k_is)
    (case haE_order => k_is)
    (case iE_order => k_is)
    (case tE_order => k_is)
    (case liE_order => k_is)
    (case ciE_order => k_is)
    (case kiE_order => k_is)
    (case a_law_deck => k_is)
    (case l_law_deck => k_is)
    (case c_law_deck => k_is)
    (case k_law_deck => k_is)
    (case a_law_take => k_is)
    (case l_law_take => k_is)
    (case c_law_take => k_is)
    (case k_law_take => k_is)
    (case a_law_tanks => k_is)
    (case l_law_tanks => k_is)
    (case c_law_tanks => k_is)
    (case k_law_tanks => k_is)
    (case a_law_low_v2 => k_is)
    (case l_law_low_v2 => k_is)
    (case c_law_low_v2 => k_is)
    (case k_law_low_v2 => k_is)
    (case a_law_amount_v3 => k_is)
    (case l_law_amount_v3 => k_is)
    (case c_law_amount_v3 => k_is)
    (case k_law_amount_v3 => k_is)
    (case a_law_rains => k_is)
    (case l_law_rains => k_is)
    (case c_law_rains => k_is)
    (case k_law_rains => k_is)
    (case a_law_bad_rains => k_is)
    (case l_law_bad_rains => k_is)
    (case c_law_bad_rains => k_is)
    (case k_law_bad_rains => k_is)
    (case a_law_bad_row => k_is)
    (case l_law_bad_row => k_is)
    (case c_law_bad_row => k_is)
    (case k_law_bad_row => k_is)
    (case a_need_floors_x => k_is)
    (case l_need_floors_x => k_is)
    (case c_need_floors_x => k_is)
    (case k_need_floors_x => k_is)
    (case a_is_below => k_is)
    (case l_is_below => k_is)
    (case c_is_below => k_is)
    (case k_is_below => k_is)
    (case a_need_rains_x => k_is)
    (case l_need_rains_x => k_is)
    (case c_need_rains_x => k_is)
    (case k_need_rains_x => k_is)
    (case a_lowest => k_is)
    (case l_lowest => k_is)
    (case c_lowest => k_is)
    (case k_lowest => k_is)
    (case a_add => k_is)
    (case l_add => k_is)
    (case c_add => k_is)
    (case k_add => k_is)
    (case a_heaped_up => k_is)
    (case l_heaped_up => k_is)
    (case c_heaped_up => k_is)
    (case k_heaped_up => k_is)
    (case a_need_floors => k_is)
    (case l_need_floors => k_is)
    (case c_need_floors => k_is)
    (case k_need_floors => k_is)
    (case a_need_water => k_is)
    (case l_need_water => k_is)
    (case c_need_water => k_is)
    (case k_need_water => k_is)
    (case a_need_flaps => k_is)
    (case l_need_flaps => k_is)
    (case c_need_flaps => k_is)
    (case k_need_flaps => k_is)
    (case a_stretches => k_is)
    (case l_stretches => k_is)
    (case c_stretches => k_is)
    (case k_stretches => k_is)
    (case a_by => k_is)
    (case l_by => k_is)
    (case c_by => k_is)
    (case k_by => k_is)
    (case a_pools_of => k_is)
    (case l_pools_of => k_is)
    (case c_pools_of => k_is)
    (case k_pools_of => k_is)
    (case a_rest_of => k_is)
    (case l_rest_of => k_is)
    (case c_rest_of => k_is)
    (case k_rest_of => k_is)
    (case a_settled => k_is)
    (case l_settled => k_is)
    (case c_settled => k_is)
    (case k_settled => k_is)
    (case hT_settled => k_is)
    (case he0_settled => k_is)
    (case a_with_rain => k_is)
    (case l_with_rain => k_is)
    (case c_with_rain => k_is)
    (case k_with_rain => k_is)
    (case a_fallen => k_is)
    (case l_fallen => k_is)
    (case c_fallen => k_is)
    (case k_fallen => k_is)
    (case a_at_once => k_is)
    (case l_at_once => k_is)
    (case c_at_once => k_is)
    (case k_at_once => k_is)
    (case a_bounds_x => k_is)
    (case l_bounds_x => k_is)
    (case c_bounds_x => k_is)
    (case k_bounds_x => k_is)
    (case a_behind_x => k_is)
    (case l_behind_x => k_is)
    (case c_behind_x => k_is)
    (case k_behind_x => k_is)
    (case a_law_refusal_v2 => k_is)
    (case l_law_refusal_v2 => k_is)
    (case c_law_refusal_v2 => k_is)
    (case k_law_refusal_v2 => k_is)
    (case a_law_k39 => k_is)
    (case l_law_k39 => k_is)
    (case c_law_k39 => k_is)
    (case k_law_k39 => k_is)
    (case cdE_t => exact rfl)
    (case lc_t => k_is)
    (case tP_t => exact rfl)
    (case hd_t => exact (by kernel_rfl))
    (case nP_t => exact (by kernel_rfl))
    (case hT_t => exact (PySem.W.km_tabs_of Y _ (List.mem_singleton.mpr rfl)))
    (case n_ValueError => k_is)
    (case n_abs => k_is)
    (case n_enumerate => k_is)
    (case n_int => k_is)
    (case n_isinstance => k_is)
    (case n_len => k_is)
    (case n_list => k_is)
    (case n_min => k_is)
    (case n_range => k_is)
    (case n_repr => k_is)
    (case n_sorted => k_is)
    (case n_zip => k_is)
    (case g_NOUGHT => k_is)
    (case h_NOUGHT => k_is)
    (case ndE => decide)
