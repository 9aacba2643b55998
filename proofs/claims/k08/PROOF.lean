import PyProof.Rows.All
import PySem.Challenge.RW_flapwater_k08_histories_step_by_step
import Wide.All
import OpenK.AllK
import Wide.FinOn
import HandS.ForMost
import HandS.ForExc
import HandS.Wide
import HandS.SortInts
import HandS.Defaults
import HandS.Lambda
import HandS.IsInst
import HandS.Style
import HandS.Text
import HandS.FStr
import HandS.Deep
import HandS.MakeKw
import HandS.MakeKwOnly
import KE.KDictZip
import HandS.DictTup
import HandS.Conv
import PyProof.Draws
import PyProof.TupleIter
import PyProof.TupleOfSeq
import HandS.OwnEq
import PyProof.InstNe
import HandS.Codes
import HandS.Zip
import HandS.More
set_option Elab.async false
set_option maxRecDepth 100000
set_option maxHeartbeats 4000000
set_option linter.all false
set_option exponentiation.threshold 100000
/-! MCore: data without the heap (D), a small heap of what may change (MH), and how both stand over HandS's heap (Conc, Rel). -/
namespace M
open PySem L2

inductive D where
  | non | bl (b : Bool) | int (i : Int) | str (x : Str) | tup (ds : List D) | lst (ds : List D) | scr (ns : List Int) | ref (a : Addr) | ty (n : String)
  /-- an exception that was caught: its class, what it tells -/
  | exc (C : Addr) (w : D)

/-- one object that may change -/
inductive BO where
  | lst (ds : List D)
  | dic (kvs : List (Key × D))
  | ins (C : Addr) (fs : List (Str × D))
  /-- a table of code objects of one name -/
  | tbl (q : Str)
/-- what stands at an address of the small heap: an object, a part of a box, a box of objects (its own, then its parts') -/
inductive MO where
  | obj (b : BO)
  | part (o : Addr)
  | box (ps : List Addr) (φ : List BO → Prop)
abbrev MH := Addr → Option MO
def up (M : MH) (a : Addr) (o : MO) : MH := fun b => if b = a then some o else M b
def dl (M : MH) (a : Addr) : MH := fun b => if b = a then none else M b
theorem up_same {M : MH} {a : Addr} {o : MO} : up M a o a = some o := if_pos rfl
theorem up_ne {M : MH} {a b : Addr} {o : MO} (h : b ≠ a) : up M a o b = M b := if_neg h
theorem dl_same {M : MH} {a : Addr} : dl M a a = none := if_pos rfl
theorem dl_ne {M : MH} {a b : Addr} (h : b ≠ a) : dl M a b = M b := if_neg h
theorem up_up {M : MH} {a : Addr} {o u : MO} : up (up M a o) a u = up M a u := by
  funext b; unfold up; split <;> rfl
theorem dl_up {M : MH} {a : Addr} {o : MO} (h : M a = none) : dl (up M a o) a = M := by
  funext b; unfold dl up; split
  · rename_i e; rw [e]; exact h.symm
  · rfl
theorem up_self {M : MH} {a : Addr} {o : MO} (h : M a = some o) : up M a o = M := by
  funext b; unfold up; split
  · rename_i e; rw [e]; exact h.symm
  · rfl
theorem up_comm {M : MH} {a b : Addr} {o u : MO} (h : a ≠ b) : up (up M a o) b u = up (up M b u) a o := by
  funext c; unfold up
  by_cases h1 : c = a
  · rw [if_pos h1, if_neg (by rw [h1]; exact h), if_pos h1]
  · rw [if_neg h1]; split
    · rfl
    · rfl

/-! ### data over the heap -/
/-- a tuple that is known, or of the module -/
def TupI (K : PySem.W.Frag) (I : Hp) (a : Addr) (vs : List V) : Prop :=
  I a = some (.tup vs) ∨ ∃ (o : Obj) (its : Array Value) (n : Nat), K.lookup a = some o ∧ o.cls = .type "tuple" ∧ o.data = .seq its n ∧ its.size ≤ sizeLine ∧ Vals vs its.toList
/-- an exception object that was caught -/
def ExZ (cls : Value) (d : Option Addr) (a : Addr) : HO := .ext fun h => ∃ oe : Obj, h.get? a = some oe ∧ Zc cls d oe ∧ ∃ vs, oe.data = .fields vs
mutual
def Rel (K : PySem.W.Frag) (I : Hp) : D → V → Prop
  | .non, v => v = .non
  | .bl b, v => v = .bl b
  | .int i, v => v = .int i
  | .str x, v => v = .str x
  | .tup ds, v => ∃ a vs, v = .ref a ∧ TupI K I a vs ∧ Rels K I ds vs
  | .lst ds, v => ∃ a vs, v = .ref a ∧ I a = some (.lst vs) ∧ Rels K I ds vs
  | .scr ns, v => ∃ a, v = .ref a ∧ SqL K I a (ns.map V.int)
  | .ref a, v => v = .ref a
  | .ty n, v => v = .ty n
  | .exc C w, v => ∃ a d u, v = .ref a ∧ I a = some (ExZ (.ref C) (some d) a) ∧ I d = some (.xd [(("what" : Str), u)]) ∧ Rel K I w u
def Rels (K : PySem.W.Frag) (I : Hp) : List D → List V → Prop
  | [], vs => vs = []
  | d :: ds, vs => ∃ w ws, vs = w :: ws ∧ Rel K I d w ∧ Rels K I ds ws
end
def Le (I I' : Hp) : Prop := ∀ a o, I a = some o → I' a = some o
theorem Le.refl (I : Hp) : Le I I := fun _ _ h => h
theorem Le.trans {I J L : Hp} (a : Le I J) (b : Le J L) : Le I L := fun x o h => b x o (a x o h)
theorem Le.new {I : Hp} {p : Addr} {o : HO} (h : I p = none) : Le I (upd I p o) := fun a u e => by
  rw [upd_ne (ne_of_none e h)]; exact e
theorem rd_le {I J : Hp} {a : Addr} {u : HO} (e : Le I J) (h : Rd I a u) : Rd J a u := by
  rcases h with h | ⟨o, h⟩
  · exact .inl (e a _ h)
  · exact .inr ⟨o, e a _ h⟩
theorem sql_le {K : PySem.W.Frag} {I J : Hp} {a : Addr} {xs : List V} (e : Le I J) (h : SqL K I a xs) : SqL K J a xs := by
  rcases h with h | h
  · exact .inl (rd_le e h)
  · exact .inr h
theorem sqt_le {K : PySem.W.Frag} {I J : Hp} {a : Addr} {xs : List V} (e : Le I J) (h : SqT K I a xs) : SqT K J a xs := by
  rcases h with h | h
  · exact .inl (rd_le e h)
  · exact .inr h
theorem TupI.le {K : PySem.W.Frag} {I J : Hp} {a : Addr} {xs : List V} (e : Le I J) (h : TupI K I a xs) : TupI K J a xs := h.imp (e _ _) id
theorem TupI.sqt {K : PySem.W.Frag} {I : Hp} {a : Addr} {xs : List V} (h : TupI K I a xs) : SqT K I a xs := h.imp Or.inl id
section
variable {K : PySem.W.Frag} {I J : Hp}
mutual
theorem Rel.le (e : Le I J) : ∀ (d : D) (v : V), Rel K I d v → Rel K J d v
  | .non, _, h => by simpa [Rel] using h
  | .bl _, _, h => by simpa [Rel] using h
  | .int _, _, h => by simpa [Rel] using h
  | .str _, _, h => by simpa [Rel] using h
  | .ref _, _, h => by simpa [Rel] using h
  | .ty _, _, h => by simpa [Rel] using h
  | .exc C w, v, h => by
    rw [Rel] at h ⊢
    obtain ⟨a, d, u, h1, h2, h3, h4⟩ := h
    exact ⟨a, d, u, h1, e _ _ h2, e _ _ h3, Rel.le e w u h4⟩
  | .tup ds, v, h => by
    rw [Rel] at h ⊢
    obtain ⟨a, vs, h1, h2, h3⟩ := h
    exact ⟨a, vs, h1, h2.le e, Rels.le e ds vs h3⟩
  | .lst ds, v, h => by
    rw [Rel] at h ⊢
    obtain ⟨a, vs, h1, h2, h3⟩ := h
    exact ⟨a, vs, h1, e _ _ h2, Rels.le e ds vs h3⟩
  | .scr ns, v, h => by
    rw [Rel] at h ⊢
    obtain ⟨a, h1, h2⟩ := h
    exact ⟨a, h1, sql_le e h2⟩
theorem Rels.le (e : Le I J) : ∀ (ds : List D) (vs : List V), Rels K I ds vs → Rels K J ds vs
  | [], _, h => by simpa [Rels] using h
  | d :: ds, vs, h => by
    rw [Rels] at h ⊢
    obtain ⟨w, ws, h1, h2, h3⟩ := h
    exact ⟨w, ws, h1, Rel.le e d w h2, Rels.le e ds ws h3⟩
end
theorem Rels.nil : Rels K I [] [] := by rw [Rels]
theorem Rels.cons {d : D} {v : V} {ds : List D} {vs : List V} (h : Rel K I d v) (t : Rels K I ds vs) : Rels K I (d :: ds) (v :: vs) := by
  rw [Rels]; exact ⟨v, vs, rfl, h, t⟩
theorem Rels.nil_inv {vs : List V} (h : Rels K I [] vs) : vs = [] := by simpa [Rels] using h
theorem Rels.cons_inv {d : D} {ds : List D} {vs : List V} (h : Rels K I (d :: ds) vs) : ∃ w ws, vs = w :: ws ∧ Rel K I d w ∧ Rels K I ds ws := by
  rwa [Rels] at h
theorem Rels.length : ∀ {ds : List D} {vs : List V}, Rels K I ds vs → ds.length = vs.length
  | [], vs, h => by rw [h.nil_inv]; rfl
  | d :: ds, vs, h => by
    obtain ⟨w, ws, rfl, _, h3⟩ := h.cons_inv
    rw [List.length_cons, List.length_cons, Rels.length h3]
theorem Rels.get : ∀ {ds : List D} {vs : List V} {i : Nat} {d : D}, Rels K I ds vs → ds[i]? = some d → ∃ v, vs[i]? = some v ∧ Rel K I d v
  | [], vs, i, d, h, e => by simp at e
  | x :: ds, vs, i, d, h, e => by
    obtain ⟨w, ws, rfl, h2, h3⟩ := h.cons_inv
    cases i with
    | zero => simp at e; subst e; exact ⟨w, rfl, h2⟩
    | succ i => simp at e; obtain ⟨v, a, b⟩ := Rels.get h3 e; exact ⟨v, by simpa using a, b⟩
theorem Rels.append : ∀ {ds es : List D} {vs ws : List V}, Rels K I ds vs → Rels K I es ws → Rels K I (ds ++ es) (vs ++ ws)
  | [], es, vs, ws, h, g => by rw [h.nil_inv]; exact g
  | d :: ds, es, vs, ws, h, g => by
    obtain ⟨w, ws', rfl, h2, h3⟩ := h.cons_inv
    exact .cons h2 (Rels.append h3 g)
theorem Rels.one {d : D} {v : V} (h : Rel K I d v) : Rels K I [d] [v] := .cons h .nil
theorem Rels.take : ∀ {ds : List D} {vs : List V} (n : Nat), Rels K I ds vs → Rels K I (ds.take n) (vs.take n)
  | [], vs, n, h => by rw [h.nil_inv]; simpa using Rels.nil
  | d :: ds, vs, n, h => by
    obtain ⟨w, ws, rfl, h2, h3⟩ := h.cons_inv
    cases n with
    | zero => exact .nil
    | succ n => exact .cons h2 (Rels.take n h3)
theorem Rels.drop : ∀ {ds : List D} {vs : List V} (n : Nat), Rels K I ds vs → Rels K I (ds.drop n) (vs.drop n)
  | [], vs, n, h => by rw [h.nil_inv]; simpa using Rels.nil
  | d :: ds, vs, n, h => by
    cases n with
    | zero => exact h
    | succ n =>
      obtain ⟨w, ws, rfl, h2, h3⟩ := h.cons_inv
      exact Rels.drop n h3
theorem Rels.set : ∀ {ds : List D} {vs : List V} (n : Nat) {d : D} {v : V}, Rels K I ds vs → Rel K I d v → Rels K I (ds.set n d) (vs.set n v)
  | [], vs, n, d, v, h, r => by rw [h.nil_inv]; simpa using Rels.nil
  | x :: ds, vs, n, d, v, h, r => by
    obtain ⟨w, ws, rfl, h2, h3⟩ := h.cons_inv
    cases n with
    | zero => exact .cons r h3
    | succ n => exact .cons h2 (Rels.set n h3 r)
theorem Rels.eraseIdx : ∀ {ds : List D} {vs : List V} (n : Nat), Rels K I ds vs → Rels K I (ds.eraseIdx n) (vs.eraseIdx n)
  | [], vs, n, h => by rw [h.nil_inv]; simpa using Rels.nil
  | x :: ds, vs, n, h => by
    obtain ⟨w, ws, rfl, h2, h3⟩ := h.cons_inv
    cases n with
    | zero => exact h3
    | succ n => exact .cons h2 (Rels.eraseIdx n h3)
theorem Rels.dropLast {ds : List D} {vs : List V} (h : Rels K I ds vs) : Rels K I ds.dropLast vs.dropLast := by
  rw [List.dropLast_eq_take, List.dropLast_eq_take, h.length]; exact h.take _
theorem Rels.reverse : ∀ {ds : List D} {vs : List V}, Rels K I ds vs → Rels K I ds.reverse vs.reverse
  | [], vs, h => by rw [h.nil_inv]; exact .nil
  | d :: ds, vs, h => by
    obtain ⟨w, ws, rfl, h2, h3⟩ := h.cons_inv
    rw [List.reverse_cons, List.reverse_cons]
    exact .append (Rels.reverse h3) (.one h2)
theorem Rels.ints : ∀ {ns : List Int} {vs : List V}, Rels K I (ns.map D.int) vs → vs = ns.map V.int
  | [], vs, h => h.nil_inv
  | n :: ns, vs, h => by
    obtain ⟨w, ws, rfl, h2, h3⟩ := Rels.cons_inv (d := .int n) (ds := ns.map D.int) h
    rw [Rel] at h2
    rw [h2, Rels.ints h3]; rfl
theorem Rels.of_ints : ∀ {ns : List Int}, Rels K I (ns.map D.int) (ns.map V.int)
  | [] => .nil
  | n :: ns => .cons (by rw [Rel]) Rels.of_ints
end

/-! ### the small heap over the heap -/
def RelF (K : PySem.W.Frag) (I : Hp) : List (Str × D) → List (Str × V) → Prop
  | [], vs => vs = []
  | (f, d) :: ds, vs => ∃ w ws, vs = (f, w) :: ws ∧ Rel K I d w ∧ RelF K I ds ws
def RelK (K : PySem.W.Frag) (I : Hp) : List (Key × D) → List (Key × V) → Prop
  | [], vs => vs = []
  | (f, d) :: ds, vs => ∃ w ws, vs = (f, w) :: ws ∧ Rel K I d w ∧ RelK K I ds ws
def RelB (K : PySem.W.Frag) (H I : Hp) (a : Addr) : BO → Prop
  | .lst ds => ∃ vs, H a = some (.lst vs) ∧ Rels K I ds vs
  | .dic kvs => ∃ vs, H a = some (.dK vs) ∧ RelK K I kvs vs
  | .ins C fs => ∃ dx vs, H a = some (.ins C dx vs) ∧ RelF K I fs vs
  | .tbl q => ∃ ps : Array Value, H a = some (.tbl ps) ∧ TriplesOk ps.toList ∧ ∀ (pos : Pos) (cv : Value), codeAmong pos ps.toList = some cv → ∃ c, cv = .ref c ∧ I c = some (LamX.CodeO c q)
def RelBs (K : PySem.W.Frag) (H I : Hp) : List Addr → List BO → Prop
  | [], bs => bs = []
  | a :: as, bs => ∃ b r, bs = b :: r ∧ RelB K H I a b ∧ RelBs K H I as r
def RelM (K : PySem.W.Frag) (H I : Hp) (M : MH) (a : Addr) : MO → Prop
  | .obj b => RelB K H I a b
  | .part _ => H a ≠ none
  | .box ps φ => (∀ p ∈ ps, M p = some (.part a)) ∧ ∃ bs, RelBs K H I (a :: ps) bs ∧ φ bs
structure Conc (K : PySem.W.Frag) (H I : Hp) (M : MH) (F : Hp) : Prop where
  sub : Le I H
  fre : ∀ a, M a ≠ none → I a = none
  rel : ∀ a o, M a = some o → RelM K H I M a o
  frm : ∀ a o, F a = some o → H a = some o ∧ I a = none ∧ M a = none
section
variable {K : PySem.W.Frag} {H H' I J F : Hp} {M : MH} {a p : Addr}
theorem RelF.le (e : Le I J) : ∀ {ds : List (Str × D)} {vs : List (Str × V)}, RelF K I ds vs → RelF K J ds vs
  | [], vs, h => h
  | (f, d) :: ds, vs, ⟨w, ws, h1, h2, h3⟩ => ⟨w, ws, h1, Rel.le e _ _ h2, RelF.le e h3⟩
theorem RelK.le (e : Le I J) : ∀ {ds : List (Key × D)} {vs : List (Key × V)}, RelK K I ds vs → RelK K J ds vs
  | [], vs, h => h
  | (f, d) :: ds, vs, ⟨w, ws, h1, h2, h3⟩ => ⟨w, ws, h1, Rel.le e _ _ h2, RelK.le e h3⟩
theorem RelB.le (e : Le I J) (k : ∀ o, H a = some o → H' a = some o) : ∀ {b : BO}, RelB K H I a b → RelB K H' J a b
  | .lst _, ⟨vs, h1, h2⟩ => ⟨vs, k _ h1, Rels.le e _ _ h2⟩
  | .dic _, ⟨vs, h1, h2⟩ => ⟨vs, k _ h1, RelK.le e h2⟩
  | .ins _ _, ⟨dx, vs, h1, h2⟩ => ⟨dx, vs, k _ h1, RelF.le e h2⟩
  | .tbl _, ⟨ps, h1, h2, h3⟩ => ⟨ps, k _ h1, h2, fun pos cv hc => let ⟨c, e1, e2⟩ := h3 pos cv hc; ⟨c, e1, e _ _ e2⟩⟩
theorem RelB.ne0 {b : BO} (h : RelB K H I a b) : H a ≠ none := by
  cases b with
  | lst ds => obtain ⟨vs, h1, _⟩ := h; rw [h1]; simp
  | dic ds => obtain ⟨vs, h1, _⟩ := h; rw [h1]; simp
  | ins C ds => obtain ⟨dx, vs, h1, _⟩ := h; rw [h1]; simp
  | tbl q => obtain ⟨ps, h1, _⟩ := h; rw [h1]; simp
theorem RelBs.le (e : Le I J) : ∀ {as : List Addr} {bs : List BO}, (∀ a ∈ as, ∀ o, H a = Option.some o → H' a = Option.some o) → RelBs K H I as bs → RelBs K H' J as bs
  | [], bs, _, h => h
  | a :: as, bs, k, ⟨b, r, h1, h2, h3⟩ => ⟨b, r, h1, h2.le e (k a List.mem_cons_self), RelBs.le e (fun x hx => k x (List.mem_cons_of_mem _ hx)) h3⟩
theorem RelM.ne0 {o : MO} (h : RelM K H I M a o) : H a ≠ none := by
  cases o with
  | obj b => exact RelB.ne0 h
  | part _ => exact h
  | box ps φ =>
    obtain ⟨_, bs, ⟨b, r, _, h2, _⟩, _⟩ := h
    exact h2.ne0
theorem Conc.fresh (c : Conc K H I M F) (h : H p = none) : I p = none ∧ M p = none := by
  constructor
  · cases e : I p with
    | none => rfl
    | some o => rw [c.sub p o e] at h; cases h
  · cases e : M p with
    | none => rfl
    | some o => exact absurd h (c.rel p o e).ne0
theorem Conc.notF (c : Conc K H I M F) (h : H p = none) : F p = none := by
  cases e : F p with
  | none => rfl
  | some o => rw [(c.frm p o e).1] at h; cases h
/-- the heap grows, what is known grows: no mutable object is touched -/
theorem Conc.grow (c : Conc K H I M F) (e : Le I J) (s : Le J H') (k : ∀ a o, M a ≠ none → H a = some o → H' a = some o) (n : ∀ a, M a ≠ none → J a = none) (f : ∀ a o, F a = some o → H' a = some o ∧ J a = none) : Conc K H' J M F := by
  refine ⟨s, n, fun a o h => ?_, fun a o h => ⟨(f a o h).1, (f a o h).2, (c.frm a o h).2.2⟩⟩
  have hm : M a ≠ none := by rw [h]; simp
  cases o with
  | obj b => exact RelB.le e (fun o => k a o hm) (c.rel a _ h)
  | part o =>
    have := c.rel a _ h
    cases q : H a with
    | none => exact absurd q this
    | some o => show H' a ≠ none; rw [k a o hm q]; simp
  | box ps φ =>
    obtain ⟨h1, bs, h2, h3⟩ := c.rel a _ h
    refine ⟨h1, bs, RelBs.le e (fun x hx o => k x o ?_) h2, h3⟩
    rcases List.mem_cons.mp hx with rfl | hx
    · exact hm
    · rw [h1 x hx]; simp
/-- a new object, frozen -/
theorem Conc.newF {o : HO} (c : Conc K H I M F) (h : H p = none) : Conc K (upd H p o) (upd I p o) M F := by
  obtain ⟨h1, h2⟩ := c.fresh h
  refine c.grow (Le.new h1) (fun a u e => ?_) (fun a u m e => by rw [upd_ne (ne_of_none e h)]; exact e) (fun a m => ?_) fun a u e => ?_
  · by_cases q : a = p
    · subst q; rw [upd_same] at e ⊢; exact e
    · rw [upd_ne q] at e ⊢; exact c.sub a u e
  · have q : a ≠ p := fun z => by rw [z] at m; exact m h2
    rw [upd_ne q]; exact c.fre a m
  · obtain ⟨a1, a2, a3⟩ := c.frm a u e
    rw [upd_ne (ne_of_none a1 h), upd_ne (ne_of_none a1 h)]; exact ⟨a1, a2⟩
/-- a new object of which nothing is known -/
theorem Conc.new0 {o : HO} (c : Conc K H I M F) (h : H p = none) : Conc K (upd H p o) I M F :=
  c.grow (Le.refl I) (fun a u e => by rw [upd_ne (ne_of_none (c.sub a u e) h)]; exact c.sub a u e) (fun a u m e => by rw [upd_ne (ne_of_none e h)]; exact e) c.fre
    fun a u e => by rw [upd_ne (ne_of_none (c.frm a u e).1 h)]; exact ⟨(c.frm a u e).1, (c.frm a u e).2.1⟩
/-- an object put at a: new there, or it was a single object -/
theorem Conc.put {b : BO} {o : HO} (c : Conc K H I M F) (ha : I a = none) (hF : F a = none) (hM : M a = none ∨ ∃ b0, M a = some (.obj b0)) (r : RelB K (upd H a o) I a b) : Conc K (upd H a o) I (up M a (.obj b)) F := by
  have np : ∀ x o, M x = some (.part o) → x ≠ a := fun x o e z => by
    subst z
    rcases hM with q | ⟨_, q⟩ <;> rw [q] at e <;> cases e
  refine ⟨fun x u e => ?_, fun x m => ?_, fun x u e => ?_, fun x u e => ?_⟩
  · rw [upd_ne (ne_of_none e ha)]; exact c.sub x u e
  · by_cases q : x = a
    · rw [q]; exact ha
    · rw [up_ne q] at m; exact c.fre x m
  · by_cases q : x = a
    · subst q; rw [up_same] at e; cases e; exact r
    · rw [up_ne q] at e
      have hx := c.rel x u e
      cases u with
      | obj b' => exact RelB.le (Le.refl I) (fun o h => by rw [upd_ne q]; exact h) hx
      | part _ => show upd H a o x ≠ none; rw [upd_ne q]; exact hx
      | box ps φ =>
        obtain ⟨h1, bs, h2, h3⟩ := hx
        refine ⟨fun y hy => by rw [up_ne (np y _ (h1 y hy))]; exact h1 y hy, bs, RelBs.le (Le.refl I) (fun y hy o h => ?_) h2, h3⟩
        rcases List.mem_cons.mp hy with rfl | hy
        · rw [upd_ne q]; exact h
        · rw [upd_ne (np y _ (h1 y hy))]; exact h
  · obtain ⟨a1, a2, a3⟩ := c.frm x u e
    have q : x ≠ a := fun z => by rw [z, hF] at e; cases e
    rw [upd_ne q, up_ne q]; exact ⟨a1, a2, a3⟩
theorem Conc.newM {b : BO} {o : HO} (c : Conc K H I M F) (h : H p = none) (r : RelB K (upd H p o) I p b) : Conc K (upd H p o) I (up M p (.obj b)) F :=
  c.put (c.fresh h).1 (c.notF h) (.inl (c.fresh h).2) r
theorem Conc.notF' {o : MO} (c : Conc K H I M F) (h : M a = some o) : F a = none := by
  cases e : F a with
  | none => rfl
  | some u => rw [(c.frm a u e).2.2] at h; cases h
theorem Conc.set {b b0 : BO} {o : HO} (c : Conc K H I M F) (h : M a = some (.obj b0)) (r : RelB K (upd H a o) I a b) : Conc K (upd H a o) I (up M a (.obj b)) F :=
  c.put (c.fre a (by rw [h]; simp)) (c.notF' h) (.inr ⟨b0, h⟩) r
/-- a list is frozen -/
theorem Conc.freeze {ds : List D} (c : Conc K H I M F) (h : M a = some (.obj (.lst ds))) : ∃ vs, H a = some (.lst vs) ∧ Rels K I ds vs ∧ Conc K H (upd I a (.lst vs)) (dl M a) F ∧ Le I (upd I a (.lst vs)) := by
  obtain ⟨vs, h1, h2⟩ := c.rel a _ h
  have hi : I a = none := c.fre a (by rw [h]; simp)
  have le : Le I (upd I a (.lst vs)) := Le.new hi
  refine ⟨vs, h1, h2, ⟨fun x u e => ?_, fun x m => ?_, fun x u e => ?_, fun x u e => ?_⟩, le⟩
  · by_cases q : x = a
    · subst q; rw [upd_same] at e; cases e; exact h1
    · rw [upd_ne q] at e; exact c.sub x u e
  · by_cases q : x = a
    · subst q; rw [dl_same] at m; exact absurd rfl m
    · rw [dl_ne q] at m; rw [upd_ne q]; exact c.fre x m
  · by_cases q : x = a
    · subst q; rw [dl_same] at e; cases e
    · rw [dl_ne q] at e
      have hx := c.rel x u e
      cases u with
      | obj b' => exact RelB.le le (fun o h => h) hx
      | part _ => exact hx
      | box ps φ =>
        obtain ⟨g1, bs, g2, g3⟩ := hx
        refine ⟨fun y hy => ?_, bs, RelBs.le le (fun y hy o h => h) g2, g3⟩
        have : y ≠ a := fun z => by subst z; have := g1 y hy; rw [h] at this; cases this
        rw [dl_ne this]; exact g1 y hy
  · obtain ⟨a1, a2, a3⟩ := c.frm x u e
    have q : x ≠ a := fun z => by rw [z, c.notF' h] at e; cases e
    rw [upd_ne q, dl_ne q]; exact ⟨a1, a2, a3⟩
/-- the frame changes at an address of its own -/
theorem Conc.setF {o u : HO} (c : Conc K H I M F) (h : F a = some u) : Conc K (upd H a o) I M (upd F a o) := by
  obtain ⟨a1, a2, a3⟩ := c.frm a u h
  refine ⟨fun x v e => by rw [upd_ne (ne_of_none e a2)]; exact c.sub x v e, c.fre, fun x v e => ?_, fun x v e => ?_⟩
  · have q : ∀ y, M y ≠ none → y ≠ a := fun y m z => by rw [z] at m; exact m a3
    have hx := c.rel x v e
    have qx : x ≠ a := q x (by rw [e]; simp)
    cases v with
    | obj b => exact RelB.le (Le.refl I) (fun o h => by rw [upd_ne qx]; exact h) hx
    | part _ => show upd H a o x ≠ none; rw [upd_ne qx]; exact hx
    | box ps φ =>
      obtain ⟨h1, bs, h2, h3⟩ := hx
      refine ⟨h1, bs, RelBs.le (Le.refl I) (fun y hy o h => ?_) h2, h3⟩
      rcases List.mem_cons.mp hy with rfl | hy
      · rw [upd_ne qx]; exact h
      · rw [upd_ne (q y (by rw [h1 y hy]; simp))]; exact h
  · by_cases q : x = a
    · subst q; rw [upd_same] at e ⊢; cases e; exact ⟨rfl, a2, a3⟩
    · rw [upd_ne q] at e ⊢; exact c.frm x v e
/-- a new object, of the frame -/
theorem Conc.newFr {o : HO} (c : Conc K H I M F) (h : H p = none) : Conc K (upd H p o) I M (upd F p o) := by
  have c' := c.new0 (o := o) h
  refine ⟨c'.sub, c'.fre, c'.rel, fun x v e => ?_⟩
  by_cases q : x = p
  · subst q; rw [upd_same] at e ⊢; cases e; exact ⟨rfl, c.fresh h⟩
  · rw [upd_ne q] at e; exact c'.frm x v e
/-- less of the frame -/
theorem Conc.unF {F' : Hp} (c : Conc K H I M F) (h : Le F' F) : Conc K H I M F' := ⟨c.sub, c.fre, c.rel, fun a o e => c.frm a o (h a o e)⟩
def noF (F : Hp) (a : Addr) : Hp := fun b => if b = a then none else F b
theorem noF_same : noF F a a = none := if_pos rfl
theorem noF_ne {b : Addr} (h : b ≠ a) : noF F a b = F b := if_neg h
theorem noF_le : Le (noF F a) F := fun x v e => by
  by_cases q : x = a
  · rw [q, noF_same] at e; cases e
  · rw [noF_ne q] at e; exact e
/-- an object of the frame is taken into what is known -/
theorem Conc.iceF {o : HO} (c : Conc K H I M F) (h : F a = some o) : Conc K H (upd I a o) M (noF F a) := by
  obtain ⟨a1, a2, a3⟩ := c.frm a o h
  refine Conc.grow (c.unF noF_le) (Le.new a2) (fun x v e => ?_) (fun x v m e => e) (fun x m => ?_) fun x v e => ?_
  · by_cases q : x = a
    · subst q; rw [upd_same] at e; cases e; exact a1
    · rw [upd_ne q] at e; exact c.sub x v e
  · have q : x ≠ a := fun z => by rw [z] at m; exact m a3
    rw [upd_ne q]; exact c.fre x m
  · by_cases q : x = a
    · rw [q, noF_same] at e; cases e
    · rw [noF_ne q] at e; rw [upd_ne q]; exact ⟨(c.frm x v e).1, (c.frm x v e).2.1⟩
/-- .. into what may change -/
theorem Conc.meltF {o : HO} {b : BO} (c : Conc K H I M F) (h : F a = some o) (r : RelB K H I a b) : Conc K H I (up M a (.obj b)) (noF F a) := by
  obtain ⟨a1, a2, a3⟩ := c.frm a o h
  have e0 : upd H a o = H := by
    funext x; unfold upd; split
    · rename_i q; rw [q, a1]
    · rfl
  have c2 := (c.unF noF_le : Conc K H I M (noF F a)).put (a := a) (b := b) (o := o) a2 noF_same (.inl a3) (by rw [e0]; exact r)
  rw [e0] at c2
  exact c2
end
end M
/-! MRules: transformers over data (AE, AS ..), how HandS's transformers follow from them. -/
namespace M
open PySem L2

abbrev G := List (Option D)
abbrev AK := D → MH → Prop
abbrev AE := G → MH → AK → Prop
abbrev AT := G → MH → (Bool → MH → Prop) → Prop
abbrev AA := G → MH → (List D → MH → Prop) → Prop
abbrev AO := G → MH → (Option Int → MH → Prop) → Prop
structure AD where
  nx : G → MH → Prop
  rt : AK
  bk : G → MH → Prop := fun _ _ => False
  ct : G → MH → Prop := fun _ _ => False
  /-- an own exception: its class, what it tells; the slots -/
  ex : Addr × D → G → MH → Prop := fun _ _ _ => False
abbrev AS := AD → G → MH → Prop
abbrev AG := D → G → MH → (G → MH → Prop) → Prop
abbrev AGs := List D → G → MH → (G → MH → Prop) → Prop

def RelS (K : PySem.W.Frag) (I : Hp) : G → L2.St → Prop
  | [], σ => σ = []
  | none :: Γ, σ => ∃ x r, σ = x :: r ∧ RelS K I Γ r
  | some d :: Γ, σ => ∃ v r, σ = some v :: r ∧ Rel K I d v ∧ RelS K I Γ r
section
variable {K : PySem.W.Frag} {I J : Hp}
theorem RelS.le (e : Le I J) : ∀ {Γ : G} {σ : L2.St}, RelS K I Γ σ → RelS K J Γ σ
  | [], σ, h => h
  | none :: Γ, σ, ⟨x, r, h1, h2⟩ => ⟨x, r, h1, RelS.le e h2⟩
  | some d :: Γ, σ, ⟨v, r, h1, h2, h3⟩ => ⟨v, r, h1, Rel.le e _ _ h2, RelS.le e h3⟩
theorem RelS.get : ∀ {Γ : G} {σ : L2.St} {i : Nat} {d : D}, RelS K I Γ σ → Γ[i]? = some (some d) → ∃ v, σ[i]? = some (some v) ∧ Rel K I d v
  | [], σ, i, d, h, e => by simp at e
  | none :: Γ, σ, i, d, ⟨x, r, h1, h2⟩, e => by
    subst h1
    cases i with
    | zero => simp at e
    | succ i => simp at e; obtain ⟨v, a, b⟩ := RelS.get h2 e; exact ⟨v, by simpa using a, b⟩
  | some y :: Γ, σ, i, d, ⟨w, r, h1, h2, h3⟩, e => by
    subst h1
    cases i with
    | zero => simp at e; subst e; exact ⟨w, rfl, h2⟩
    | succ i => simp at e; obtain ⟨v, a, b⟩ := RelS.get h3 e; exact ⟨v, by simpa using a, b⟩
theorem RelS.set : ∀ {Γ : G} {σ : L2.St} {i : Nat} {d : D} {v : V}, RelS K I Γ σ → Rel K I d v → RelS K I (Γ.set i (some d)) (σ.set i (some v))
  | [], σ, i, d, v, h, r => by rw [show σ = [] from h]; exact rfl
  | none :: Γ, σ, i, d, v, ⟨x, r, h1, h2⟩, q => by
    subst h1
    cases i with
    | zero => exact ⟨v, r, rfl, q, h2⟩
    | succ i => exact ⟨x, r.set i (some v), rfl, RelS.set h2 q⟩
  | some y :: Γ, σ, i, d, v, ⟨w, r, h1, h2, h3⟩, q => by
    subst h1
    cases i with
    | zero => exact ⟨v, r, rfl, q, h3⟩
    | succ i => exact ⟨w, r.set i (some v), rfl, h2, RelS.set h3 q⟩
/-- a slot is forgotten -/
theorem RelS.forget : ∀ {Γ : G} {σ : L2.St} {i : Nat}, RelS K I Γ σ → RelS K I (Γ.set i none) (σ.set i none)
  | [], σ, i, h => by rw [show σ = [] from h]; exact rfl
  | none :: Γ, σ, i, ⟨x, r, h1, h2⟩ => by
    subst h1
    cases i with
    | zero => exact ⟨none, r, rfl, h2⟩
    | succ i => exact ⟨x, r.set i none, rfl, RelS.forget h2⟩
  | some y :: Γ, σ, i, ⟨w, r, h1, h2, h3⟩ => by
    subst h1
    cases i with
    | zero => exact ⟨none, r, rfl, h3⟩
    | succ i => exact ⟨w, r.set i none, rfl, h2, RelS.forget h3⟩
theorem RelS.length : ∀ {Γ : G} {σ : L2.St}, RelS K I Γ σ → Γ.length = σ.length
  | [], σ, h => by rw [show σ = [] from h]; rfl
  | none :: Γ, σ, ⟨x, r, h1, h2⟩ => by subst h1; rw [List.length_cons, List.length_cons, RelS.length h2]
  | some y :: Γ, σ, ⟨w, r, h1, h2, h3⟩ => by subst h1; rw [List.length_cons, List.length_cons, RelS.length h3]
theorem RelS.nones : ∀ {n : Nat} {σ : L2.St}, σ.length = n → RelS K I (List.replicate n none) σ
  | 0, σ, h => List.eq_nil_of_length_eq_zero h
  | n + 1, [], h => by simp at h
  | n + 1, x :: r, h => ⟨x, r, rfl, RelS.nones (by simpa using h)⟩
theorem RelS.start : ∀ {ds : List D} {vs : List V} {n : Nat}, Rels K I ds vs → RelS K I (ds.map some ++ List.replicate n none) (vs.map some ++ List.replicate n none)
  | [], vs, n, h => by rw [h.nil_inv]; exact RelS.nones (by simp)
  | d :: ds, vs, n, h => by
    obtain ⟨w, ws, rfl, h2, h3⟩ := h.cons_inv
    exact ⟨w, _, rfl, h2, RelS.start h3⟩
end

/-! ### what a continuation over data is worth -/
def kE (K : PySem.W.Frag) (I F : Hp) (k : AK) (Q : VK) : Prop := ∀ d M v H I', k d M → Le I I' → Conc K H I' M F → Rel K I' d v → Q v H
def kT (K : PySem.W.Frag) (I F : Hp) (k : Bool → MH → Prop) (Q : Bool → Hp → Prop) : Prop := ∀ b M H I', k b M → Le I I' → Conc K H I' M F → Q b H
def kA (K : PySem.W.Frag) (I F : Hp) (k : List D → MH → Prop) (Q : List V → Hp → Prop) : Prop := ∀ ds M vs H I', k ds M → Le I I' → Conc K H I' M F → Rels K I' ds vs → Q vs H
def kO (K : PySem.W.Frag) (I F : Hp) (k : Option Int → MH → Prop) (Q : Option Int → Hp → Prop) : Prop := ∀ o M H I', k o M → Le I I' → Conc K H I' M F → Q o H
def kN (K : PySem.W.Frag) (I F : Hp) (k : G → MH → Prop) (Q : L2.St → Hp → Prop) : Prop := ∀ Γ M σ H I', k Γ M → Le I I' → Conc K H I' M F → RelS K I' Γ σ → Q σ H
structure kS (K : PySem.W.Frag) (I F : Hp) (D : AD) (E : Ends) : Prop where
  nx : kN K I F D.nx E.nx
  rt : kE K I F D.rt E.rt
  bk : kN K I F D.bk E.bk
  ct : kN K I F D.ct E.ct
theorem kE.le {K : PySem.W.Frag} {I J F : Hp} {k : AK} {Q : VK} (h : kE K I F k Q) (e : Le I J) : kE K J F k Q := fun d M v H I' a b => h d M v H I' a (e.trans b)
theorem kN.le {K : PySem.W.Frag} {I J F : Hp} {k : G → MH → Prop} {Q : L2.St → Hp → Prop} (h : kN K I F k Q) (e : Le I J) : kN K J F k Q := fun Γ M σ H I' a b => h Γ M σ H I' a (e.trans b)
theorem kS.le {K : PySem.W.Frag} {I J F : Hp} {D : AD} {E : Ends} (h : kS K I F D E) (e : Le I J) : kS K J F D E := ⟨h.nx.le e, h.rt.le e, h.bk.le e, h.ct.le e⟩

def lift (K : PySem.W.Frag) (f : AE) : TE := fun σ H Q => ∃ Γ M I F k, RelS K I Γ σ ∧ Conc K H I M F ∧ f Γ M k ∧ kE K I F k Q
def liftT (K : PySem.W.Frag) (f : AT) : TT := fun σ H Q => ∃ Γ M I F k, RelS K I Γ σ ∧ Conc K H I M F ∧ f Γ M k ∧ kT K I F k Q
def liftA (K : PySem.W.Frag) (f : AA) : TA := fun σ H Q => ∃ Γ M I F k, RelS K I Γ σ ∧ Conc K H I M F ∧ f Γ M k ∧ kA K I F k Q
def liftO (K : PySem.W.Frag) (f : AO) : TO := fun σ H Q => ∃ Γ M I F k, RelS K I Γ σ ∧ Conc K H I M F ∧ f Γ M k ∧ kO K I F k Q
def liftS (K : PySem.W.Frag) (f : AS) : TS := fun E σ H => ∃ Γ M I F D, RelS K I Γ σ ∧ Conc K H I M F ∧ f D Γ M ∧ kS K I F D E
def liftG (K : PySem.W.Frag) (f : AG) : TG := fun v σ H Q => ∃ d Γ M I F k, Rel K I d v ∧ RelS K I Γ σ ∧ Conc K H I M F ∧ f d Γ M k ∧ kN K I F k Q
def liftGs (K : PySem.W.Frag) (f : AGs) : TGs := fun vs σ H Q => ∃ ds Γ M I F k, Rels K I ds vs ∧ RelS K I Γ σ ∧ Conc K H I M F ∧ f ds Γ M k ∧ kN K I F k Q

section
variable {X : Cx} {e a b c : Expr} {es : List Expr} {pos : Pos}
theorem _root_.L2.PE.imp {t t' : TE} (h : PE X e t) (i : ∀ σ H Q, t' σ H Q → t σ H Q) : PE X e t' := ⟨fun pins s σ H Q I q => h.run pins s σ H Q I (i σ H Q q)⟩
theorem _root_.L2.PT.imp {t t' : TT} (h : PT X e t) (i : ∀ σ H Q, t' σ H Q → t σ H Q) : PT X e t' := ⟨fun pins s σ H Q I q => h.run pins s σ H Q I (i σ H Q q)⟩
theorem _root_.L2.PW.imp {t t' : TT} (h : PW X e t) (i : ∀ σ H Q, t' σ H Q → t σ H Q) : PW X e t' := ⟨fun wh pins s σ H Q I q => h.run wh pins s σ H Q I (i σ H Q q)⟩
theorem _root_.L2.PA.imp {t t' : TA} (h : PA X es t) (i : ∀ σ H Q, t' σ H Q → t σ H Q) : PA X es t' := ⟨fun p pins s σ H Q I q => h.run p pins s σ H Q I (i σ H Q q)⟩
theorem _root_.L2.PO.imp {o : Option Expr} {t t' : TO} (h : PO X o t) (i : ∀ σ H Q, t' σ H Q → t σ H Q) : PO X o t' := ⟨fun pins s σ H Q I q => h.run pins s σ H Q I (i σ H Q q)⟩
theorem _root_.L2.PS.imp {st : Stmt} {t t' : TS} (h : PS X st t) (i : ∀ D σ H, t' D σ H → t D σ H) : PS X st t' := ⟨fun pins s σ H D I q => h.run pins s σ H D I (i D σ H q)⟩
theorem _root_.L2.PSs.imp {st : List Stmt} {t t' : TS} (h : PSs X st t) (i : ∀ D σ H, t' D σ H → t D σ H) : PSs X st t' := ⟨fun pins s σ H D I q => h.run pins s σ H D I (i D σ H q)⟩
theorem _root_.L2.PG.imp {t t' : TG} (h : PG X e t) (i : ∀ v σ H Q, t' v σ H Q → t v σ H Q) : PG X e t' := ⟨fun pins s σ H v u Q I r q => h.run pins s σ H v u Q I r (i v σ H Q q)⟩
theorem _root_.L2.PGs.imp {t t' : TGs} (h : PGs X es t) (i : ∀ v σ H Q, t' v σ H Q → t v σ H Q) : PGs X es t' := ⟨fun pins s σ H v u Q I r q => h.run pins s σ H v u Q I r (i v σ H Q q)⟩
end

/-! ### names and constants -/
def aVar (i : Nat) : AE := fun Γ M k => match Γ[i]? with
  | some (some d) => k d M
  | _ => False
def aC (d : D) : AE := fun _ M k => k d M
section
variable {X : Cx} {e a b c : Expr} {es : List Expr} {pos : Pos}
theorem ev (i : Nat) {x : Str} {pos : Pos} (hN : X.N[i]? = some x := by rfl) (hv : Vis X.env.scope x := by first | exact Or.inl rfl | exact Or.inr (Or.inl rfl) | exact Or.inr (Or.inr rfl)) (hd : (x == ("__debug__" : Str)) = false := by decide)
    (hcd : (x == ("__classdict__" : Str)) = false := by decide) : PE X (.Name x pos) (lift X.K (aVar i)) := by
  refine (pe_var (i := i) hN hv hd hcd).imp fun σ H Q ⟨Γ, M, I, F, k, hs, hc, hf, hk⟩ => ?_
  unfold aVar at hf
  split at hf
  · rename_i d e
    obtain ⟨v, e1, r⟩ := hs.get e
    exact ⟨v, e1, hk d M v H I hf (Le.refl I) hc r⟩
  · exact hf.elim
theorem lift_c {K : PySem.W.Frag} {d : D} {v : V} (r : ∀ I, Rel K I d v) : ∀ σ H Q, lift K (aC d) σ H Q → tC v σ H Q := fun σ H Q ⟨Γ, M, I, F, k, hs, hc, hf, hk⟩ =>
  hk d M v H I hf (Le.refl I) hc (r I)
theorem ec_int {i j pos} : PE X (.Constant (.int i) j pos) (lift X.K (aC (.int i))) := pe_int.imp (lift_c fun _ => by rw [Rel])
theorem ec_bl {i j pos} : PE X (.Constant (.bool i) j pos) (lift X.K (aC (.bl i))) := pe_bl.imp (lift_c fun _ => by rw [Rel])
theorem ec_non {j pos} : PE X (.Constant .none j pos) (lift X.K (aC .non)) := pe_non.imp (lift_c fun _ => by rw [Rel])
theorem ec_str {x j pos} : PE X (.Constant (.str x) j pos) (lift X.K (aC (.str x))) := pe_str.imp (lift_c fun _ => by rw [Rel])
/-- a constant of the module -/
structure GlC (K : PySem.W.Frag) (mg : Str → Option Value) (x : Str) (d : D) : Prop where
  ex : ∃ u v, mg x = some u ∧ RelV v u ∧ ∀ I, Rel K I d v
theorem eg {x : Str} {d : D} {pos : Pos} (g : GlC X.K X.mg x d) (hg : Gl X x := by rfl) (hd : (x == ("__debug__" : Str)) = false := by decide) : PE X (.Name x pos) (lift X.K (aC d)) := by
  obtain ⟨u, v, hm, r, h⟩ := g.ex
  exact (pe_glob hg hm r hd).imp (lift_c h)

/-! ### two-place operations -/
abbrev AB := D → D → MH → AK → Prop
def OkB (K : PySem.W.Frag) (r : R2) (op : AB) : Prop := ∀ d e M k v u H I F Q, op d e M k → Conc K H I M F → Rel K I d v → Rel K I e u → kE K I F k Q → r v u H Q
def aOp (op : AB) (fa fb : AE) : AE := fun Γ M k => fa Γ M fun d M1 => fb Γ M1 fun e M2 => op d e M2 k
theorem lift_op {K : PySem.W.Frag} {r : R2} {op : AB} {fa fb : AE} (h : OkB K r op) : ∀ σ H Q, lift K (aOp op fa fb) σ H Q → tOp r (lift K fa) (lift K fb) σ H Q := fun σ H Q ⟨Γ, M, I, F, k, hs, hc, hf, hk⟩ =>
  ⟨Γ, M, I, F, _, hs, hc, hf, fun d M1 v H1 I1 h1 l1 c1 r1 => ⟨Γ, M1, I1, F, _, hs.le l1, c1, h1, fun e M2 u H2 I2 h2 l2 c2 r2 =>
    h d e M2 k v u H2 I2 F Q h2 c2 (Rel.le l2 _ _ r1) r2 (hk.le (l1.trans l2))⟩⟩

/-- a new list: to be changed (true), or frozen at once -/
def nl (m : Bool) (ds : List D) (M : MH) (k : AK) : Prop := match m with
  | true => ∀ p, M p = none → k (.ref p) (up M p (.obj (.lst ds)))
  | false => k (.lst ds) M
theorem nl_ok {K : PySem.W.Frag} {m : Bool} {ds : List D} {M : MH} {k : AK} {H I F : Hp} {vs : List V} {Q : VK} {p : Addr} (h : nl m ds M k) (c : Conc K H I M F) (r : Rels K I ds vs) (hk : kE K I F k Q) (hp : H p = none) : Q (.ref p) (upd H p (.lst vs)) := by
  cases m with
  | true => exact hk _ _ _ _ I (h p (c.fresh hp).2) (Le.refl I) (c.newM hp ⟨vs, upd_same, r⟩) (by rw [Rel])
  | false =>
    have l : Le I (upd I p (.lst vs)) := Le.new (c.fresh hp).1
    refine hk _ _ _ _ _ h l (c.newF hp) ?_
    rw [Rel]
    exact ⟨p, vs, rfl, upd_same, Rels.le l _ _ r⟩
/-- a new tuple -/
theorem nt_ok {K : PySem.W.Frag} {ds : List D} {M : MH} {k : AK} {H I F : Hp} {vs : List V} {Q : VK} {p : Addr} (h : k (.tup ds) M) (c : Conc K H I M F) (r : Rels K I ds vs) (hk : kE K I F k Q) (hp : H p = none) : Q (.ref p) (upd H p (.tup vs)) := by
  have l : Le I (upd I p (.tup vs)) := Le.new (c.fresh hp).1
  refine hk _ _ _ _ _ h l (c.newF hp) ?_
  rw [Rel]
  exact ⟨p, vs, rfl, .inl upd_same, Rels.le l _ _ r⟩
/-- what a list holds: frozen, or of the small heap -/
def rdL (M : MH) : D → Option (List D)
  | .lst ds => some ds
  | .ref a => match M a with
    | some (.obj (.lst ds)) => some ds
    | _ => none
  | _ => none
/-- .. or the script -/
def rdS (M : MH) : D → Option (List D)
  | .scr ns => some (ns.map .int)
  | d => rdL M d
theorem rdL_ok {K : PySem.W.Frag} {M : MH} {H I F : Hp} {d : D} {v : V} {ds : List D} (h : rdL M d = some ds) (c : Conc K H I M F) (r : Rel K I d v) : ∃ a vs, v = .ref a ∧ H a = some (.lst vs) ∧ Rels K I ds vs := by
  cases d with
  | lst es =>
    rw [Rel] at r
    obtain ⟨a, vs, h1, h2, h3⟩ := r
    have : es = ds := Option.some.inj h
    subst this
    exact ⟨a, vs, h1, c.sub _ _ h2, h3⟩
  | ref a =>
    rw [Rel] at r
    have h : (match M a with
      | some (.obj (.lst ds)) => some ds
      | _ => none) = some ds := h
    split at h
    · rename_i es e
      have : es = ds := Option.some.inj h
      subst this
      obtain ⟨vs, h1, h2⟩ := c.rel a _ e
      exact ⟨a, vs, r, h1, h2⟩
    · cases h
  | _ => cases h
theorem rdS_ok {K : PySem.W.Frag} {M : MH} {H I F : Hp} {d : D} {v : V} {ds : List D} (h : rdS M d = some ds) (c : Conc K H I M F) (r : Rel K I d v) : ∃ a vs, v = .ref a ∧ SqL K H a vs ∧ Rels K I ds vs := by
  have core : rdL M d = some ds → ∃ a vs, v = .ref a ∧ SqL K H a vs ∧ Rels K I ds vs := fun h => by
    obtain ⟨a, vs, h1, h2, h3⟩ := rdL_ok h c r
    exact ⟨a, vs, h1, SqL.of h2, h3⟩
  cases d with
  | scr ns =>
    rw [Rel] at r
    obtain ⟨a, h1, h2⟩ := r
    have : ns.map D.int = ds := Option.some.inj h
    subst this
    exact ⟨a, _, h1, sql_le c.sub h2, Rels.of_ints⟩
  | _ => exact core h
theorem rel_tup {K : PySem.W.Frag} {M : MH} {H I F : Hp} {v : V} {ds : List D} (c : Conc K H I M F) (r : Rel K I (.tup ds) v) : ∃ a vs, v = .ref a ∧ SqT K H a vs ∧ Rels K I ds vs := by
  rw [Rel] at r
  obtain ⟨a, vs, h1, h2, h3⟩ := r
  exact ⟨a, vs, h1, sqt_le c.sub h2.sqt, h3⟩

/-! ### operators -/
def bAdd (m : Bool) : AB := fun d e M k => match d, e with
  | .int i, .int j => k (.int (i + j)) M
  | .str x, .str y => x.length + y.length ≤ sizeLine ∧ k (.str (x ++ y)) M
  | d, e => match rdL M d, rdL M e with
    | some ds, some es => ds.length + es.length ≤ sizeLine ∧ nl m (ds ++ es) M k
    | _, _ => False
abbrev rAddA : R2 := fun x y H Q => (rI0 (fun i j => .int (i + j)) x y H Q) ∨ ((fun x y H Q => ∃ i j, x = .str i ∧ y = .str j ∧ i.length + j.length ≤ sizeLine ∧ Q (.str (i ++ j)) H : R2) x y H Q ∨ rCat x y H Q)
theorem op_addA : OpR X (binaryOp .Add) rAddA := op_add.or (op_add_str.or op_cat)
theorem cat_ok {K : PySem.W.Frag} {m : Bool} {d e : D} {ds es : List D} {M : MH} {k : AK} {v u : V} {H I F : Hp} {Q : VK} (h1 : rdL M d = some ds) (h2 : rdL M e = some es) (hl : ds.length + es.length ≤ sizeLine) (h : nl m (ds ++ es) M k)
    (c : Conc K H I M F) (r1 : Rel K I d v) (r2 : Rel K I e u) (hk : kE K I F k Q) : rCat v u H Q := by
  obtain ⟨a, vs, e1, g1, s1⟩ := rdL_ok h1 c r1
  obtain ⟨b, ws, e2, g2, s2⟩ := rdL_ok h2 c r2
  exact ⟨a, b, vs, ws, e1, e2, g1, g2, by rw [← s1.length, ← s2.length]; exact hl, fun p hp => nl_ok h c (s1.append s2) hk hp⟩
theorem bAdd_ok {K : PySem.W.Frag} {m : Bool} : OkB K rAddA (bAdd m) := by
  intro d e M k v u H I F Q h c r1 r2 hk
  unfold bAdd at h
  split at h
  · rw [Rel] at r1 r2
    exact .inl ⟨_, _, r1, r2, hk _ M _ H I h (Le.refl I) c (by rw [Rel])⟩
  · rw [Rel] at r1 r2
    exact .inr (.inl ⟨_, _, r1, r2, h.1, hk _ M _ H I h.2 (Le.refl I) c (by rw [Rel])⟩)
  · split at h
    · rename_i ds es h1 h2
      exact .inr (.inr (cat_ok h1 h2 h.1 h.2 c r1 r2 hk))
    · exact h.elim
theorem e_add (m : Bool) {fa fb : AE} (ha : PE X a (lift X.K fa)) (hb : PE X b (lift X.K fb)) : PE X (.BinOp a .Add b pos) (lift X.K (aOp (bAdd m) fa fb)) := (pe_op op_addA ha hb).imp (lift_op bAdd_ok)
/-- ints in, under C -/
def bI (C : Int → Int → Prop) (g : Int → Int → D) : AB := fun d e M k => match d, e with
  | .int i, .int j => C i j ∧ k (g i j) M
  | _, _ => False
def bI0 (g : Int → Int → D) : AB := fun d e M k => match d, e with
  | .int i, .int j => k (g i j) M
  | _, _ => False
theorem bI_ok {K : PySem.W.Frag} {C : Int → Int → Prop} {g : Int → Int → D} {g' : Int → Int → V} (hg : ∀ I i j, Rel K I (g i j) (g' i j)) : OkB K (rI C g') (bI C g) := by
  intro d e M k v u H I F Q h c r1 r2 hk
  unfold bI at h
  split at h
  · rw [Rel] at r1 r2
    exact ⟨_, _, r1, r2, h.1, hk _ M _ H I h.2 (Le.refl I) c (hg I _ _)⟩
  · exact h.elim
theorem bI0_ok {K : PySem.W.Frag} {g : Int → Int → D} {g' : Int → Int → V} (hg : ∀ I i j, Rel K I (g i j) (g' i j)) : OkB K (rI0 g') (bI0 g) := by
  intro d e M k v u H I F Q h c r1 r2 hk
  unfold bI0 at h
  split at h
  · rw [Rel] at r1 r2
    exact ⟨_, _, r1, r2, hk _ M _ H I h (Le.refl I) c (hg I _ _)⟩
  · exact h.elim
abbrev bSub : AB := bI0 fun i j => .int (i - j)
theorem e_sub {fa fb : AE} (ha : PE X a (lift X.K fa)) (hb : PE X b (lift X.K fb)) : PE X (.BinOp a .Sub b pos) (lift X.K (aOp bSub fa fb)) := (pe_op op_sub ha hb).imp (lift_op (bI0_ok fun _ _ _ => by rw [Rel]))
end
end M
/-! MExpr: expressions. -/
namespace M
open PySem L2
section
variable {X : Cx} {e a b c : Expr} {es : List Expr} {pos : Pos} {K : PySem.W.Frag}
/-! ### ints -/
theorem op_mulA : OpR X (binaryOp .Mult) (rI IntMulOk fun i j => .int (i * j)) := opI fun _ _ _ _ _ _ _ hc q => PyProof.Rows.mul_int q hc
abbrev bMul : AB := bI IntMulOk fun i j => .int (i * j)
abbrev bFdiv : AB := bI CDivW fun i j => .int (i / j)
abbrev bMod : AB := bI (fun _ j => 0 < j) fun i j => .int (i % j)
abbrev bPow : AB := bI CPow fun i j => .int (i ^ j.toNat)
abbrev bLt : AB := bI0 fun i j => .bl (decide (i < j))
abbrev bLe : AB := bI0 fun i j => .bl (decide (i ≤ j))
abbrev bGt : AB := bI0 fun i j => .bl (decide (j < i))
abbrev bGe : AB := bI0 fun i j => .bl (decide (j ≤ i))
section
variable {fa fb : AE} (ha : PE X a (lift X.K fa)) (hb : PE X b (lift X.K fb))
include ha hb
theorem e_mul : PE X (.BinOp a .Mult b pos) (lift X.K (aOp bMul fa fb)) := (pe_op op_mulA ha hb).imp (lift_op (bI_ok fun _ _ _ => by rw [Rel]))
theorem e_fdiv : PE X (.BinOp a .FloorDiv b pos) (lift X.K (aOp bFdiv fa fb)) := (pe_op op_fdivW ha hb).imp (lift_op (bI_ok fun _ _ _ => by rw [Rel]))
theorem e_mod : PE X (.BinOp a .Mod b pos) (lift X.K (aOp bMod fa fb)) := (pe_op op_mod ha hb).imp (lift_op (bI_ok fun _ _ _ => by rw [Rel]))
theorem e_pow : PE X (.BinOp a .Pow b pos) (lift X.K (aOp bPow fa fb)) := (pe_op op_pow ha hb).imp (lift_op (bI_ok fun _ _ _ => by rw [Rel]))
theorem e_lt : PE X (.Compare a [.Lt] [b] pos) (lift X.K (aOp bLt fa fb)) := (pe_cmpR op_lt ha hb (nomark _)).imp (lift_op (bI0_ok fun _ _ _ => by rw [Rel]))
theorem e_le : PE X (.Compare a [.LtE] [b] pos) (lift X.K (aOp bLe fa fb)) := (pe_cmpR op_le ha hb (nomark _)).imp (lift_op (bI0_ok fun _ _ _ => by rw [Rel]))
theorem e_gt : PE X (.Compare a [.Gt] [b] pos) (lift X.K (aOp bGt fa fb)) := (pe_cmpR op_gt ha hb (nomark _)).imp (lift_op (bI0_ok fun _ _ _ => by rw [Rel]))
theorem e_ge : PE X (.Compare a [.GtE] [b] pos) (lift X.K (aOp bGe fa fb)) := (pe_cmpR op_ge ha hb (nomark _)).imp (lift_op (bI0_ok fun _ _ _ => by rw [Rel]))
end
/-- -1 and so on -/
def aNeg (f : AE) : AE := fun Γ M k => f Γ M fun d M1 => match d with
  | .int i => k (.int (-i)) M1
  | _ => False
theorem e_neg {f : AE} (h : PE X a (lift X.K f)) : PE X (.UnaryOp .USub a pos) (lift X.K (aNeg f)) := by
  refine (pe_un un_neg h).imp fun σ H Q ⟨Γ, M, I, F, k, hs, hc, hf, hk⟩ => ⟨Γ, M, I, F, _, hs, hc, hf, fun d M1 v H1 I1 h1 l1 c1 r1 => ?_⟩
  cases d with
  | int i =>
    rw [Rel] at r1
    exact ⟨i, r1, hk _ M1 _ H1 I1 h1 l1 c1 (by rw [Rel])⟩
  | _ => exact h1.elim

/-! ### == -/
mutual
/-- data without what may change -/
def D.py : D → Option PyData
  | .non => some .none
  | .bl b => some (.bool b)
  | .int i => some (.int i)
  | .str x => some (.str x)
  | .tup ds => (D.pys ds).map .tuple
  | .lst ds => (D.pys ds).map .list
  | .scr ns => some (.list (ns.map .int))
  | .ref _ => none
  | .ty _ => none
  | .exc _ _ => none
def D.pys : List D → Option (List PyData)
  | [] => some []
  | d :: ds => match D.py d, D.pys ds with
    | some x, some xs => some (x :: xs)
    | _, _ => none
end
mutual
theorem D.py_ok {I H : Hp} (l : Le I H) : ∀ (d : D) (v : V) (x : PyData), d.py = some x → Rel K I d v → Dp K H v x
  | .non, v, x, h, r => by rw [D.py] at h; cases h; rw [Rel] at r; subst r; exact .non
  | .bl b, v, x, h, r => by rw [D.py] at h; cases h; rw [Rel] at r; subst r; exact .bl b
  | .int i, v, x, h, r => by rw [D.py] at h; cases h; rw [Rel] at r; subst r; exact .int i
  | .str s, v, x, h, r => by rw [D.py] at h; cases h; rw [Rel] at r; subst r; exact .str s
  | .ref a, v, x, h, r => by rw [D.py] at h; cases h
  | .ty a, v, x, h, r => by rw [D.py] at h; cases h
  | .exc a _, v, x, h, r => by rw [D.py] at h; cases h
  | .tup ds, v, x, h, r => by
    rw [D.py] at h
    rw [Rel] at r
    obtain ⟨a, vs, rfl, h2, h3⟩ := r
    cases q : D.pys ds with
    | none => rw [q] at h; cases h
    | some xs => rw [q] at h; cases h; exact .tup (sqt_le l h2.sqt) (D.pys_ok l ds vs xs q h3)
  | .lst ds, v, x, h, r => by
    rw [D.py] at h
    rw [Rel] at r
    obtain ⟨a, vs, rfl, h2, h3⟩ := r
    cases q : D.pys ds with
    | none => rw [q] at h; cases h
    | some xs => rw [q] at h; cases h; exact .lst (SqL.of (l _ _ h2)) (D.pys_ok l ds vs xs q h3)
  | .scr ns, v, x, h, r => by
    rw [D.py] at h
    rw [Rel] at r
    cases h
    obtain ⟨a, rfl, h2⟩ := r
    refine .lst (sql_le l h2) ?_
    clear h2
    induction ns with
    | nil => exact .nil
    | cons n ns ih => exact .cons (.int n) ih
theorem D.pys_ok {I H : Hp} (l : Le I H) : ∀ (ds : List D) (vs : List V) (xs : List PyData), D.pys ds = some xs → Rels K I ds vs → DpAll K H vs xs
  | [], vs, xs, h, r => by rw [D.pys] at h; cases h; rw [r.nil_inv]; exact .nil
  | d :: ds, vs, xs, h, r => by
    obtain ⟨w, ws, rfl, h2, h3⟩ := r.cons_inv
    rw [D.pys] at h
    split at h
    · rename_i x xs' e1 e2
      cases h
      exact .cons (D.py_ok l d w x e1 h2) (D.pys_ok l ds ws xs' e2 h3)
    · cases h
end
/-- data with the lists of the small heap read, three deep -/
def rdD (M : MH) : Nat → D → D
  | 0, d => d
  | n + 1, .ref a => match M a with
    | some (.obj (.lst ds)) => .lst (ds.map (rdD M n))
    | _ => .ref a
  | n + 1, .lst ds => .lst (ds.map (rdD M n))
  | n + 1, .tup ds => .tup (ds.map (rdD M n))
  | _ + 1, d => d
end
theorem pys_map {f : D → D} {R : D → V → PyData → Prop} (h : ∀ d v x, (f d).py = some x → R d v x → True) : True := trivial
theorem rdD_all {H I : Hp} {M : MH} {n : Nat} (ih : ∀ d v x, (rdD M n d).py = some x → Rel K I d v → Dp K H v x) : ∀ (ds : List D) (vs : List V) (xs : List PyData), D.pys (ds.map (rdD M n)) = some xs → Rels K I ds vs → DpAll K H vs xs
  | [], vs, xs, h, r => by rw [List.map_nil, D.pys] at h; cases h; rw [r.nil_inv]; exact .nil
  | d :: ds, vs, xs, h, r => by
    obtain ⟨w, ws, rfl, h2, h3⟩ := r.cons_inv
    rw [List.map_cons, D.pys] at h
    split at h
    · rename_i x xs' e1 e2
      cases h
      exact .cons (ih d w x e1 h2) (rdD_all ih ds ws xs' e2 h3)
    · cases h
theorem rdD_ok {H I F : Hp} {M : MH} (c : Conc K H I M F) : ∀ (n : Nat) (d : D) (v : V) (x : PyData), (rdD M n d).py = some x → Rel K I d v → Dp K H v x := by
  intro n
  induction n with
  | zero => intro d v x h r; exact D.py_ok c.sub d v x h r
  | succ n ih =>
    intro d v x h r
    cases d with
    | ref a =>
      have h : (match M a with
        | some (.obj (.lst ds)) => D.lst (ds.map (rdD M n))
        | _ => .ref a).py = some x := h
      split at h
      · rename_i ds e
        rw [D.py] at h
        obtain ⟨vs, h1, h2⟩ := c.rel a _ e
        rw [Rel] at r
        subst r
        cases q : D.pys (ds.map (rdD M n)) with
        | none => rw [q] at h; cases h
        | some xs => rw [q] at h; cases h; exact .lst (SqL.of h1) (rdD_all ih ds vs xs q h2)
      · rw [D.py] at h; cases h
    | lst ds =>
      rw [rdD, D.py] at h
      rw [Rel] at r
      obtain ⟨a, vs, rfl, h2, h3⟩ := r
      cases q : D.pys (ds.map (rdD M n)) with
      | none => rw [q] at h; cases h
      | some xs => rw [q] at h; cases h; exact .lst (SqL.of (c.sub _ _ h2)) (rdD_all ih ds vs xs q h3)
    | tup ds =>
      rw [rdD, D.py] at h
      rw [Rel] at r
      obtain ⟨a, vs, rfl, h2, h3⟩ := r
      cases q : D.pys (ds.map (rdD M n)) with
      | none => rw [q] at h; cases h
      | some xs => rw [q] at h; cases h; exact .tup (sqt_le c.sub h2.sqt) (rdD_all ih ds vs xs q h3)
    | exc C w => exact D.py_ok c.sub _ v x h r
    | non => exact D.py_ok c.sub _ v x h r
    | bl b => exact D.py_ok c.sub _ v x h r
    | int b => exact D.py_ok c.sub _ v x h r
    | str b => exact D.py_ok c.sub _ v x h r
    | scr b => exact D.py_ok c.sub _ v x h r
    | ty b => exact D.py_ok c.sub _ v x h r
/-- == (neg: !=) -/
def bEq (neg : Bool) : AB := fun d e M k => match d, e with
  | .int i, .int j => k (.bl (if neg then !decide (i = j) else decide (i = j))) M
  | .str i, .str j => k (.bl (if neg then !decide (i = j) else decide (i = j))) M
  | d, e => ∃ x y, (rdD M 4 d).py = some x ∧ (rdD M 4 e).py = some y ∧ SeqAt.shaped x = true ∧ SeqAt.shaped y = true ∧ k (.bl (if neg then !PyData.eqv x y else PyData.eqv x y)) M
abbrev rEqA (K : PySem.W.Frag) : R2 := fun x y H Q => rEq x y H Q ∨ rEqD K x y H Q
abbrev rNeA (K : PySem.W.Frag) : R2 := fun x y H Q => rNe x y H Q ∨ rNeD K x y H Q
theorem op_eqA (hu : X.A.units + 64 < cLine) : OpR X (compareOp .Eq) (rEqA X.K) := op_eq.or (op_eqD hu)
theorem op_neA (hu : X.A.units + 64 < cLine) : OpR X (compareOp .NotEq) (rNeA X.K) := op_ne.or (op_neD hu)
theorem bEq_ok : OkB K (rEqA K) (bEq false) := by
  intro d e M k v u H I F Q h c r1 r2 hk
  unfold bEq at h
  split at h
  · rename_i i j
    rw [Rel] at r1 r2
    subst r1 r2
    refine .inl ⟨rfl, ?_⟩
    refine hk _ M _ H I h (Le.refl I) c ?_
    rw [Rel]
    by_cases q : i = j
    · simp [q]
    · simp [q]
  · rename_i i j
    rw [Rel] at r1 r2
    subst r1 r2
    refine .inl ⟨rfl, ?_⟩
    refine hk _ M _ H I h (Le.refl I) c ?_
    rw [Rel]
    by_cases q : i = j
    · simp [q]
    · simp [q]
  · obtain ⟨x, y, h1, h2, h3, h4, h5⟩ := h
    exact .inr ⟨x, y, rdD_ok c _ _ _ _ h1 r1, rdD_ok c _ _ _ _ h2 r2, h3, h4, hk _ M _ H I h5 (Le.refl I) c (by rw [Rel]; rfl)⟩
theorem bNe_ok : OkB K (rNeA K) (bEq true) := by
  intro d e M k v u H I F Q h c r1 r2 hk
  unfold bEq at h
  split at h
  · rename_i i j
    rw [Rel] at r1 r2
    subst r1 r2
    refine .inl ⟨rfl, ?_⟩
    refine hk _ M _ H I h (Le.refl I) c ?_
    rw [Rel]
    by_cases q : i = j
    · simp [q]
    · simp [q]
  · rename_i i j
    rw [Rel] at r1 r2
    subst r1 r2
    refine .inl ⟨rfl, ?_⟩
    refine hk _ M _ H I h (Le.refl I) c ?_
    rw [Rel]
    by_cases q : i = j
    · simp [q]
    · simp [q]
  · obtain ⟨x, y, h1, h2, h3, h4, h5⟩ := h
    exact .inr ⟨x, y, rdD_ok c _ _ _ _ h1 r1, rdD_ok c _ _ _ _ h2 r2, h3, h4, hk _ M _ H I h5 (Le.refl I) c (by rw [Rel]; rfl)⟩
section
variable {fa fb fc : AE} {k : Nat}
theorem e_eq (hr : Room k X.A) (ha : PE X a (lift X.K fa)) (hb : PE X b (lift X.K fb)) : PE X (.Compare a [.Eq] [b] pos) (lift X.K (aOp (bEq false) fa fb)) := (pe_cmpR (op_eqA hr.units) ha hb (nomark _)).imp (lift_op bEq_ok)
theorem e_ne (hr : Room k X.A) (ha : PE X a (lift X.K fa)) (hb : PE X b (lift X.K fb)) : PE X (.Compare a [.NotEq] [b] pos) (lift X.K (aOp (bEq true) fa fb)) := (pe_cmpR (op_neA hr.units) ha hb (nomark _)).imp (lift_op bNe_ok)
/-- is None, is not None -/
def D.isNon : D → Bool
  | .non => true
  | _ => false
def bIsN : AB := fun d e M k => match e with
  | .non => k (.bl d.isNon) M
  | _ => False
def bNotN : AB := fun d e M k => match e with
  | .non => k (.bl !d.isNon) M
  | _ => False
theorem isNon_rel {I : Hp} {d : D} {v : V} (r : Rel K I d v) : decide (v = .non) = d.isNon := by
  cases d <;> rw [Rel] at r
  all_goals first
    | (subst r; rfl)
    | (obtain ⟨a, vs, rfl, _⟩ := r; rfl)
    | (obtain ⟨a, d, u, rfl, _⟩ := r; rfl)
    | (obtain ⟨a, rfl, _⟩ := r; rfl)
theorem bIsN_ok : OkB K (fun x y H Q => y = .non ∧ Q (.bl (decide (x = .non))) H) bIsN := by
  intro d e M k v u H I F Q h c r1 r2 hk
  unfold bIsN at h
  split at h
  · rw [Rel] at r2
    exact ⟨r2, hk _ M _ H I h (Le.refl I) c (by rw [Rel, isNon_rel r1])⟩
  · exact h.elim
theorem bNotN_ok : OkB K (fun x y H Q => y = .non ∧ Q (.bl (!decide (x = .non))) H) bNotN := by
  intro d e M k v u H I F Q h c r1 r2 hk
  unfold bNotN at h
  split at h
  · rw [Rel] at r2
    exact ⟨r2, hk _ M _ H I h (Le.refl I) c (by rw [Rel, isNon_rel r1])⟩
  · exact h.elim
theorem e_isN (ha : PE X a (lift X.K fa)) (hb : PE X b (lift X.K fb)) : PE X (.Compare a [.Is] [b] pos) (lift X.K (aOp bIsN fa fb)) := (pe_cmpR op_isN ha hb (nomark _)).imp (lift_op bIsN_ok)
theorem e_notN (ha : PE X a (lift X.K fa)) (hb : PE X b (lift X.K fb)) : PE X (.Compare a [.IsNot] [b] pos) (lift X.K (aOp bNotN fa fb)) := (pe_cmpR op_notN ha hb (nomark _)).imp (lift_op bNotN_ok)

/-! ### a op b op c, ints -/
def aChain (p q : Int → Int → Bool) (fa fb fc : AE) : AE := fun Γ M k => fa Γ M fun d M1 => fb Γ M1 fun e M2 => match d, e with
  | .int i, .int j => if p i j = true then fc Γ M2 fun g M3 => match g with
      | .int l => k (.bl (q j l)) M3
      | _ => False
    else k (.bl false) M2
  | _, _ => False
theorem lift_chain {p q : Int → Int → Bool} {fa fb fc : AE} : ∀ σ H Q, lift K (aChain p q fa fb fc) σ H Q → tChain (rI0 fun i j => .bl (p i j)) (rI0 fun i j => .bl (q i j)) (lift K fa) (lift K fb) (lift K fc) σ H Q := by
  rintro σ H Q ⟨Γ, M, I, F, k, hs, hc, hf, hk⟩
  refine ⟨Γ, M, I, F, _, hs, hc, hf, fun d M1 v H1 I1 h1 l1 c1 r1 => ⟨Γ, M1, I1, F, _, hs.le l1, c1, h1, fun e M2 u H2 I2 h2 l2 c2 r2 => ?_⟩⟩
  split at h2
  · rename_i i j
    have r1' := Rel.le l2 _ _ r1
    rw [Rel] at r1' r2
    refine ⟨i, j, r1', r2, p i j, rfl, ?_⟩
    split
    · rename_i hp
      rw [if_pos hp] at h2
      refine ⟨Γ, M2, I2, F, _, hs.le (l1.trans l2), c2, h2, fun g M3 w H3 I3 h3 l3 c3 r3 => ?_⟩
      cases g with
      | int l =>
        rw [Rel] at r3
        exact ⟨j, l, r2, r3, hk _ _ _ _ _ h3 ((l1.trans l2).trans l3) c3 (by rw [Rel])⟩
      | _ => exact h3.elim
    · rename_i hp
      rw [if_neg hp] at h2
      exact hk _ _ _ _ _ h2 (l1.trans l2) c2 (by rw [Rel])
  · exact h2.elim
theorem e_ltlt (ha : PE X a (lift X.K fa)) (hb : PE X b (lift X.K fb)) (hc : PE X c (lift X.K fc)) (hm : lastMarks [.Lt, .Lt] [b, c] = false := by with_unfolding_all rfl) :
    PE X (.Compare a [.Lt, .Lt] [b, c] pos) (lift X.K (aChain (fun i j => decide (i < j)) (fun i j => decide (i < j)) fa fb fc)) := (pe_chain op_lt op_lt ha hb hc hm).imp lift_chain
theorem e_ltle (ha : PE X a (lift X.K fa)) (hb : PE X b (lift X.K fb)) (hc : PE X c (lift X.K fc)) (hm : lastMarks [.Lt, .LtE] [b, c] = false := by with_unfolding_all rfl) :
    PE X (.Compare a [.Lt, .LtE] [b, c] pos) (lift X.K (aChain (fun i j => decide (i < j)) (fun i j => decide (i ≤ j)) fa fb fc)) := (pe_chain op_lt op_le ha hb hc hm).imp lift_chain
theorem e_lelt (ha : PE X a (lift X.K fa)) (hb : PE X b (lift X.K fb)) (hc : PE X c (lift X.K fc)) (hm : lastMarks [.LtE, .Lt] [b, c] = false := by with_unfolding_all rfl) :
    PE X (.Compare a [.LtE, .Lt] [b, c] pos) (lift X.K (aChain (fun i j => decide (i ≤ j)) (fun i j => decide (i < j)) fa fb fc)) := (pe_chain op_le op_lt ha hb hc hm).imp lift_chain
theorem e_lele (ha : PE X a (lift X.K fa)) (hb : PE X b (lift X.K fb)) (hc : PE X c (lift X.K fc)) (hm : lastMarks [.LtE, .LtE] [b, c] = false := by with_unfolding_all rfl) :
    PE X (.Compare a [.LtE, .LtE] [b, c] pos) (lift X.K (aChain (fun i j => decide (i ≤ j)) (fun i j => decide (i ≤ j)) fa fb fc)) := (pe_chain op_le op_le ha hb hc hm).imp lift_chain
end

/-! ### tests -/
def aB (f : AE) : AT := fun Γ M k => f Γ M fun d M1 => match d with
  | .bl b => k b M1
  | _ => False
def aAnd (f g : AT) : AT := fun Γ M k => f Γ M fun b M1 => if b = true then g Γ M1 k else k false M1
def aOr (f g : AT) : AT := fun Γ M k => f Γ M fun b M1 => if b = true then k true M1 else g Γ M1 k
def aNot (f : AT) : AT := fun Γ M k => f Γ M fun b M1 => k (!b) M1
theorem bl_rel {I : Hp} {d : D} {v : V} {k : Bool → MH → Prop} {M : MH} (h : match d with | .bl b => k b M | _ => False) (r : Rel K I d v) : ∃ b, v = .bl b ∧ k b M := by
  cases d with
  | bl b => rw [Rel] at r; exact ⟨b, r, h⟩
  | _ => exact h.elim
theorem lift_B {f : AE} : ∀ σ H Q, liftT K (aB f) σ H Q → tB (lift K f) σ H Q := fun σ H Q ⟨Γ, M, I, F, k, hs, hc, hf, hk⟩ =>
  ⟨Γ, M, I, F, _, hs, hc, hf, fun d M1 v H1 I1 h1 l1 c1 r1 => by
    obtain ⟨b, e, q⟩ := bl_rel h1 r1
    exact ⟨b, e, hk b M1 H1 I1 q l1 c1⟩⟩
theorem t_val {f : AE} (h : PE X e (lift X.K f)) (he : ∀ whole, isTrue e X.env whole = (do let v ← whole; standAt e.pos; holding [v] (truthy v)) := by intro _; rfl) : PT X e (liftT X.K (aB f)) := (pt_val h he).imp lift_B
/-- a comparison as a test, from its rule as a value -/
theorem t_op {op : CmpOp} {r : R2} {b' : AB} {fa fb : AE} (ho : OpR X (compareOp op) r) (hb' : OkB X.K r b') (ha : PE X a (lift X.K fa)) (hb : PE X b (lift X.K fb)) (hm : behindInMarks op b = false) : PT X (.Compare a [op] [b] pos) (liftT X.K (aB (aOp b' fa fb))) :=
  (pt_cmpR ho ha hb hm).imp fun σ H Q h => by
    have h2 := lift_B σ H Q h
    exact lift_op hb' σ H _ h2
section
variable {fa fb fc : AE} {k : Nat}
section
variable (ha : PE X a (lift X.K fa)) (hb : PE X b (lift X.K fb))
include ha hb
theorem t_lt : PT X (.Compare a [.Lt] [b] pos) (liftT X.K (aB (aOp bLt fa fb))) := t_op op_lt (bI0_ok fun _ _ _ => by rw [Rel]) ha hb (nomark _)
theorem t_le : PT X (.Compare a [.LtE] [b] pos) (liftT X.K (aB (aOp bLe fa fb))) := t_op op_le (bI0_ok fun _ _ _ => by rw [Rel]) ha hb (nomark _)
theorem t_gt : PT X (.Compare a [.Gt] [b] pos) (liftT X.K (aB (aOp bGt fa fb))) := t_op op_gt (bI0_ok fun _ _ _ => by rw [Rel]) ha hb (nomark _)
theorem t_ge : PT X (.Compare a [.GtE] [b] pos) (liftT X.K (aB (aOp bGe fa fb))) := t_op op_ge (bI0_ok fun _ _ _ => by rw [Rel]) ha hb (nomark _)
theorem t_isN : PT X (.Compare a [.Is] [b] pos) (liftT X.K (aB (aOp bIsN fa fb))) := t_op op_isN bIsN_ok ha hb (nomark _)
theorem t_notN : PT X (.Compare a [.IsNot] [b] pos) (liftT X.K (aB (aOp bNotN fa fb))) := t_op op_notN bNotN_ok ha hb (nomark _)
end
theorem t_eq (hr : Room k X.A) (ha : PE X a (lift X.K fa)) (hb : PE X b (lift X.K fb)) : PT X (.Compare a [.Eq] [b] pos) (liftT X.K (aB (aOp (bEq false) fa fb))) := t_op (op_eqA hr.units) bEq_ok ha hb (nomark _)
theorem t_ne (hr : Room k X.A) (ha : PE X a (lift X.K fa)) (hb : PE X b (lift X.K fb)) : PT X (.Compare a [.NotEq] [b] pos) (liftT X.K (aB (aOp (bEq true) fa fb))) := t_op (op_neA hr.units) bNe_ok ha hb (nomark _)
theorem t_chain {op op' : CmpOp} {p q : Int → Int → Bool} (ho : OpR X (compareOp op) (rI0 fun i j => .bl (p i j))) (ho' : OpR X (compareOp op') (rI0 fun i j => .bl (q i j))) (ha : PE X a (lift X.K fa)) (hb : PE X b (lift X.K fb)) (hc : PE X c (lift X.K fc)) (hm : lastMarks [op, op'] [b, c] = false) :
    PT X (.Compare a [op, op'] [b, c] pos) (liftT X.K (aB (aChain p q fa fb fc))) := (pt_chain ho ho' ha hb hc hm).imp fun σ H Q h => lift_chain σ H _ (lift_B σ H Q h)
theorem t_ltlt (ha : PE X a (lift X.K fa)) (hb : PE X b (lift X.K fb)) (hc : PE X c (lift X.K fc)) (hm : lastMarks [.Lt, .Lt] [b, c] = false := by with_unfolding_all rfl) : PT X (.Compare a [.Lt, .Lt] [b, c] pos) (liftT X.K (aB (aChain (fun i j => decide (i < j)) (fun i j => decide (i < j)) fa fb fc))) := t_chain op_lt op_lt ha hb hc hm
theorem t_ltle (ha : PE X a (lift X.K fa)) (hb : PE X b (lift X.K fb)) (hc : PE X c (lift X.K fc)) (hm : lastMarks [.Lt, .LtE] [b, c] = false := by with_unfolding_all rfl) : PT X (.Compare a [.Lt, .LtE] [b, c] pos) (liftT X.K (aB (aChain (fun i j => decide (i < j)) (fun i j => decide (i ≤ j)) fa fb fc))) := t_chain op_lt op_le ha hb hc hm
theorem t_lelt (ha : PE X a (lift X.K fa)) (hb : PE X b (lift X.K fb)) (hc : PE X c (lift X.K fc)) (hm : lastMarks [.LtE, .Lt] [b, c] = false := by with_unfolding_all rfl) : PT X (.Compare a [.LtE, .Lt] [b, c] pos) (liftT X.K (aB (aChain (fun i j => decide (i ≤ j)) (fun i j => decide (i < j)) fa fb fc))) := t_chain op_le op_lt ha hb hc hm
theorem t_lele (ha : PE X a (lift X.K fa)) (hb : PE X b (lift X.K fb)) (hc : PE X c (lift X.K fc)) (hm : lastMarks [.LtE, .LtE] [b, c] = false := by with_unfolding_all rfl) : PT X (.Compare a [.LtE, .LtE] [b, c] pos) (liftT X.K (aB (aChain (fun i j => decide (i ≤ j)) (fun i j => decide (i ≤ j)) fa fb fc))) := t_chain op_le op_le ha hb hc hm
end
theorem lift_and {f g : AT} : ∀ σ H Q, liftT K (aAnd f g) σ H Q → tAnd (liftT K f) (liftT K g) σ H Q := fun σ H Q ⟨Γ, M, I, F, k, hs, hc, hf, hk⟩ =>
  ⟨Γ, M, I, F, _, hs, hc, hf, fun b M1 H1 I1 h1 l1 c1 => by
    cases b with
    | true => exact ⟨Γ, M1, I1, F, k, hs.le l1, c1, h1, fun b' M2 H2 I2 a1 a2 a3 => hk b' M2 H2 I2 a1 (l1.trans a2) a3⟩
    | false => exact hk _ _ _ _ h1 l1 c1⟩
theorem lift_or {f g : AT} : ∀ σ H Q, liftT K (aOr f g) σ H Q → tOr (liftT K f) (liftT K g) σ H Q := fun σ H Q ⟨Γ, M, I, F, k, hs, hc, hf, hk⟩ =>
  ⟨Γ, M, I, F, _, hs, hc, hf, fun b M1 H1 I1 h1 l1 c1 => by
    cases b with
    | false => exact ⟨Γ, M1, I1, F, k, hs.le l1, c1, h1, fun b' M2 H2 I2 a1 a2 a3 => hk b' M2 H2 I2 a1 (l1.trans a2) a3⟩
    | true => exact hk _ _ _ _ h1 l1 c1⟩
variable {rest : List Expr} {f g : AT}
theorem w_and1 (ha : PT X a (liftT X.K f)) : PW X (.BoolOp .And [a] pos) (liftT X.K f) := pw_and1 ha
theorem w_or1 (ha : PT X a (liftT X.K f)) : PW X (.BoolOp .Or [a] pos) (liftT X.K f) := pw_or1 ha
theorem w_and (ha : PT X a (liftT X.K f)) (hb : PW X (.BoolOp .And (b :: rest) pos) (liftT X.K g)) : PW X (.BoolOp .And (a :: b :: rest) pos) (liftT X.K (aAnd f g)) := (pw_and ha hb).imp lift_and
theorem w_or (ha : PT X a (liftT X.K f)) (hb : PW X (.BoolOp .Or (b :: rest) pos) (liftT X.K g)) : PW X (.BoolOp .Or (a :: b :: rest) pos) (liftT X.K (aOr f g)) := (pw_or ha hb).imp lift_or
theorem t_not (ha : PT X a (liftT X.K f)) : PT X (.UnaryOp .Not a pos) (liftT X.K (aNot f)) := (pt_not ha).imp fun σ H Q ⟨Γ, M, I, F, k, hs, hc, hf, hk⟩ =>
  ⟨Γ, M, I, F, _, hs, hc, hf, fun b M1 H1 I1 h1 l1 c1 => hk _ _ _ _ h1 l1 c1⟩
/-- .. as values -/
def aAndV (f g : AE) : AE := fun Γ M k => f Γ M fun d M1 => match d with
  | .bl b => if b = true then g Γ M1 k else k (.bl false) M1
  | _ => False
def aOrV (f g : AE) : AE := fun Γ M k => f Γ M fun d M1 => match d with
  | .bl b => if b = true then k (.bl true) M1 else g Γ M1 k
  | _ => False
def aNotV (f : AE) : AE := fun Γ M k => f Γ M fun d M1 => match d with
  | .bl b => k (.bl !b) M1
  | _ => False
def aIf (t : AT) (f g : AE) : AE := fun Γ M k => t Γ M fun b M1 => if b = true then f Γ M1 k else g Γ M1 k
section
variable {fa fb : AE} {t : AT}
theorem e_one {op} (h : PE X a (lift X.K fa)) : PE X (.BoolOp op [a] pos) (lift X.K fa) := pe_one h
theorem e_and (ha : PE X a (lift X.K fa)) (hb : PE X (.BoolOp .And (b :: rest) pos) (lift X.K fb)) : PE X (.BoolOp .And (a :: b :: rest) pos) (lift X.K (aAndV fa fb)) := (pe_and ha hb).imp fun σ H Q ⟨Γ, M, I, F, k, hs, hc, hf, hk⟩ =>
  ⟨Γ, M, I, F, _, hs, hc, hf, fun d M1 v H1 I1 h1 l1 c1 r1 => by
    cases d with
    | bl b =>
      rw [Rel] at r1
      refine ⟨b, r1, ?_⟩
      cases b with
      | true => exact ⟨Γ, M1, I1, F, k, hs.le l1, c1, h1, hk.le l1⟩
      | false => exact hk _ _ _ _ _ h1 l1 c1 (by rw [Rel])
    | _ => exact h1.elim⟩
theorem e_or (ha : PE X a (lift X.K fa)) (hb : PE X (.BoolOp .Or (b :: rest) pos) (lift X.K fb)) : PE X (.BoolOp .Or (a :: b :: rest) pos) (lift X.K (aOrV fa fb)) := (pe_or ha hb).imp fun σ H Q ⟨Γ, M, I, F, k, hs, hc, hf, hk⟩ =>
  ⟨Γ, M, I, F, _, hs, hc, hf, fun d M1 v H1 I1 h1 l1 c1 r1 => by
    cases d with
    | bl b =>
      rw [Rel] at r1
      refine ⟨b, r1, ?_⟩
      cases b with
      | false => exact ⟨Γ, M1, I1, F, k, hs.le l1, c1, h1, hk.le l1⟩
      | true => exact hk _ _ _ _ _ h1 l1 c1 (by rw [Rel])
    | _ => exact h1.elim⟩
theorem e_not (ha : PE X a (lift X.K fa)) : PE X (.UnaryOp .Not a pos) (lift X.K (aNotV fa)) := (pe_not ha).imp fun σ H Q ⟨Γ, M, I, F, k, hs, hc, hf, hk⟩ =>
  ⟨Γ, M, I, F, _, hs, hc, hf, fun d M1 v H1 I1 h1 l1 c1 r1 => by
    cases d with
    | bl b => rw [Rel] at r1; exact ⟨b, r1, hk _ _ _ _ _ h1 l1 c1 (by rw [Rel])⟩
    | _ => exact h1.elim⟩
theorem e_if (hc : PT X c (liftT X.K t)) (ha : PE X a (lift X.K fa)) (hb : PE X b (lift X.K fb)) : PE X (.IfExp c a b pos) (lift X.K (aIf t fa fb)) := (pe_ifExp hc ha hb).imp fun σ H Q ⟨Γ, M, I, F, k, hs, hc, hf, hk⟩ =>
  ⟨Γ, M, I, F, _, hs, hc, hf, fun b M1 H1 I1 h1 l1 c1 => by
    cases b with
    | true => exact ⟨Γ, M1, I1, F, k, hs.le l1, c1, h1, hk.le l1⟩
    | false => exact ⟨Γ, M1, I1, F, k, hs.le l1, c1, h1, hk.le l1⟩⟩
end

/-! ### arguments, displays -/
def aNil : AA := fun _ M k => k [] M
def aCons (f : AE) (g : AA) : AA := fun Γ M k => f Γ M fun d M1 => g Γ M1 fun ds M2 => k (d :: ds) M2
theorem a_nil : PA X [] (liftA X.K aNil) := pa_nil.imp fun σ H Q ⟨Γ, M, I, F, k, hs, hc, hf, hk⟩ => hk _ _ _ _ _ hf (Le.refl I) hc .nil
theorem lift_cons {f : AE} {g : AA} : ∀ σ H Q, liftA K (aCons f g) σ H Q → tCons (lift K f) (liftA K g) σ H Q := fun σ H Q ⟨Γ, M, I, F, k, hs, hc, hf, hk⟩ =>
  ⟨Γ, M, I, F, _, hs, hc, hf, fun d M1 v H1 I1 h1 l1 c1 r1 => ⟨Γ, M1, I1, F, _, hs.le l1, c1, h1, fun ds M2 vs H2 I2 h2 l2 c2 r2 => hk _ _ _ _ _ h2 (l1.trans l2) c2 (.cons (Rel.le l2 _ _ r1) r2)⟩⟩
theorem a_cons {f : AE} {g : AA} (ha : PE X e (lift X.K f)) (hr : PA X es (liftA X.K g)) (hs : starEach (e :: es) X.env = (false, eval e X.env) :: starEach es X.env := by rfl) : PA X (e :: es) (liftA X.K (aCons f g)) := (pa_cons ha hr hs).imp lift_cons
def aTup (g : AA) : AE := fun Γ M k => g Γ M fun ds M1 => ds.length ≤ sizeLine ∧ k (.tup ds) M1
def aLst (m : Bool) (g : AA) : AE := fun Γ M k => g Γ M fun ds M1 => ds.length ≤ sizeLine ∧ nl m ds M1 k
theorem e_tup {g : AA} {x1} (h : PA X es (liftA X.K g)) : PE X (.Tuple es x1 pos) (lift X.K (aTup g)) := (pe_tup h).imp fun σ H Q ⟨Γ, M, I, F, k, hs, hc, hf, hk⟩ =>
  ⟨Γ, M, I, F, _, hs, hc, hf, fun ds M1 vs H1 I1 h1 l1 c1 r1 => ⟨by rw [← r1.length]; exact h1.1, fun p hp => nt_ok h1.2 c1 r1 (hk.le l1) hp⟩⟩
theorem e_lst (m : Bool) {g : AA} (h : PA X es (liftA X.K g)) : PE X (.List es pos) (lift X.K (aLst m g)) := (pe_lst h).imp fun σ H Q ⟨Γ, M, I, F, k, hs, hc, hf, hk⟩ =>
  ⟨Γ, M, I, F, _, hs, hc, hf, fun ds M1 vs H1 I1 h1 l1 c1 r1 => ⟨by rw [← r1.length]; exact h1.1, fun p hp => nl_ok h1.2 c1 r1 (hk.le l1) hp⟩⟩

/-! ### items and slices -/
def bIx : AB := fun d e M k => match e with
  | .int i => match d with
    | .tup ds => (match atI ds i with | some x => k x M | none => False)
    | .str z => z.length ≤ sizeLine ∧ (match atI z.cps.toList i with | some c => k (.str ⟨#[c]⟩) M | none => False)
    | d => match rdS M d with
      | some ds => (match atI ds i with | some x => k x M | none => False)
      | none => False
  | _ => False
theorem atI_rel {I : Hp} {ds : List D} {vs : List V} {i : Int} {x : D} (h : atI ds i = some x) (r : Rels K I ds vs) : ∃ v, atI vs i = some v ∧ Rel K I x v := by
  unfold atI at h ⊢
  rw [← r.length]
  cases q : ixN ds.length i with
  | none => rw [q] at h; cases h
  | some j => rw [q] at h; exact r.get h
theorem bIx_ok : OkB K (rIx K) bIx := by
  intro d e M k v u H I F Q h c r1 r2 hk
  unfold bIx at h
  split at h
  · rename_i i
    rw [Rel] at r2
    split at h
    · rename_i ds
      obtain ⟨a, vs, e1, g1, s1⟩ := rel_tup c r1
      split at h
      · rename_i x e2
        obtain ⟨w, e3, rx⟩ := atI_rel e2 s1
        exact .inr (.inl ⟨a, vs, i, w, e1, r2, g1, e3, hk _ _ _ _ _ h (Le.refl I) c rx⟩)
      · exact h.elim
    · rename_i z
      rw [Rel] at r1
      obtain ⟨hz, h⟩ := h
      split at h
      · rename_i x e2
        exact .inr (.inr ⟨z, i, x, r1, r2, hz, e2, hk _ _ _ _ _ h (Le.refl I) c (by rw [Rel])⟩)
      · exact h.elim
    · split at h
      · rename_i ds e0
        obtain ⟨a, vs, e1, g1, s1⟩ := rdS_ok e0 c r1
        split at h
        · rename_i x e2
          obtain ⟨w, e3, rx⟩ := atI_rel e2 s1
          exact .inl ⟨a, vs, i, w, e1, r2, g1, e3, hk _ _ _ _ _ h (Le.refl I) c rx⟩
        · exact h.elim
      · exact h.elim
  · exact h.elim
theorem e_ix {fa fb : AE} (ha : PE X a (lift X.K fa)) (hb : PE X b (lift X.K fb)) (hs : PlainIx b := by intro _ _; rfl) : PE X (.Subscript a b pos) (lift X.K (aOp bIx fa fb)) := (pe_ix ix_seq ha hb hs).imp (lift_op bIx_ok)
def aNoPart : AO := fun _ M k => k none M
def aPart (f : AE) : AO := fun Γ M k => f Γ M fun d M1 => match d with
  | .int i => k (some i) M1
  | _ => False
theorem o_none : PO X none (liftO X.K aNoPart) := po_none.imp fun σ H Q ⟨Γ, M, I, F, k, hs, hc, hf, hk⟩ => hk _ _ _ _ hf (Le.refl I) hc
theorem o_some {f : AE} (h : PE X e (lift X.K f)) : PO X (some e) (liftO X.K (aPart f)) := (po_some h).imp fun σ H Q ⟨Γ, M, I, F, k, hs, hc, hf, hk⟩ =>
  ⟨Γ, M, I, F, _, hs, hc, hf, fun d M1 v H1 I1 h1 l1 c1 r1 => by
    cases d with
    | int i => rw [Rel] at r1; exact ⟨i, r1, hk _ _ _ _ h1 l1 c1⟩
    | _ => exact h1.elim⟩
def cutD {α : Type} (xs : List α) (lo hi : Option Int) : List α := (xs.drop (HT.sIx xs.length 0 lo)).take (HT.sIx xs.length xs.length hi - HT.sIx xs.length 0 lo)
theorem cut_rel {I : Hp} {ds : List D} {vs : List V} (r : Rels K I ds vs) (lo hi : Option Int) : Rels K I (cutD ds lo hi) (cutV vs lo hi) := by
  unfold cutD cutV
  rw [r.length]
  exact (r.drop _).take _
/-- xs[lo:hi], a list's (or the script's), a text's -/
def sCut (m : Bool) (d : D) (lo hi : Option Int) (M : MH) (k : AK) : Prop := match d with
  | .str z => z.length ≤ sizeLine ∧ k (.str (cutS z lo hi)) M
  | d => match rdS M d with
    | some ds => nl m (cutD ds lo hi) M k
    | none => False
def aCut (m : Bool) (f : AE) (l h : AO) : AE := fun Γ M k => f Γ M fun d M1 => l Γ M1 fun lo M2 => h Γ M2 fun hi M3 => sCut m d lo hi M3 k
end M
/-! MStmt: slices, calls, statements, loops, defs. -/
namespace M
open PySem L2
section
variable {X : Cx} {e a b c : Expr} {es : List Expr} {pos p2 : Pos} {K : PySem.W.Frag}
theorem e_cut (m : Bool) {lo hi : Option Expr} {f : AE} {l h : AO} (he : PE X e (lift X.K f)) (hl : PO X lo (liftO X.K l)) (hh : PO X hi (liftO X.K h)) : PE X (.Subscript e (.Slice lo hi none p2) pos) (lift X.K (aCut m f l h)) := by
  refine (pe_slice (sl_list.or sl_str) he hl hh).imp fun σ H Q ⟨Γ, M, I, F, k, hs, hc, hf, hk⟩ => ?_
  refine ⟨Γ, M, I, F, _, hs, hc, hf, fun d M1 v H1 I1 h1 l1 c1 r1 => ⟨Γ, M1, I1, F, _, hs.le l1, c1, h1, fun o M2 H2 I2 h2 l2 c2 => ⟨Γ, M2, I2, F, _, hs.le (l1.trans l2), c2, h2, fun o' M3 H3 I3 h3 l3 c3 => ?_⟩⟩⟩
  have r3 := Rel.le (l2.trans l3) _ _ r1
  have hk3 := hk.le ((l1.trans l2).trans l3)
  unfold sCut at h3
  split at h3
  · rw [Rel] at r3
    exact .inr ⟨_, r3, h3.1, hk3 _ _ _ _ _ h3.2 (Le.refl _) c3 (by rw [Rel])⟩
  · split at h3
    · rename_i ds e0
      obtain ⟨q, vs, e1, g1, s1⟩ := rdS_ok e0 c3 r3
      exact .inl ⟨q, vs, e1, g1, fun p hp => nl_ok h3 c3 (cut_rel s1 _ _) hk3 hp⟩
    · exact h3.elim

/-! ### calls of built-ins -/
abbrev AC := List D → MH → AK → Prop
def OkC (K : PySem.W.Frag) (r : List V → Hp → VK → Prop) (op : AC) : Prop := ∀ ds M k vs H I F Q, op ds M k → Conc K H I M F → Rels K I ds vs → kE K I F k Q → r vs H Q
def aCB (op : AC) (g : AA) : AE := fun Γ M k => g Γ M fun ds M1 => op ds M1 k
theorem lift_CB {r : List V → Hp → VK → Prop} {op : AC} {g : AA} (h : OkC K r op) : ∀ σ H Q, lift K (aCB op g) σ H Q → tCB r (liftA K g) σ H Q := fun σ H Q ⟨Γ, M, I, F, k, hs, hc, hf, hk⟩ =>
  ⟨Γ, M, I, F, _, hs, hc, hf, fun ds M1 vs H1 I1 h1 l1 c1 r1 => h ds M1 k vs H1 I1 F Q h1 c1 r1 (hk.le l1)⟩
section
variable {x : Str} {p pos : Pos} {id T : String} {r : List V → Hp → VK → Prop} {op : AC} {g : AA}
theorem e_callB (hc : CallR X (.builtin id) r) (ho : OkC X.K r op) (hm : X.mg x = none) (hv : bootBuiltins x = some (.builtin id)) (ha : PA X (e :: es) (liftA X.K g)) (hg : Gl X x := by rfl) (hn : x ≠ "__name__" := by decide) (hdb : (x == ("__debug__" : Str)) = false := by decide)
    (he : starEach (e :: es) X.env = (false, eval e X.env) :: starEach es X.env := by rfl) (hpl : (backTo pos (starEach es X.env)).any (·.1) = false := by rfl) : PE X (.Call (.Name x p) (e :: es) [] pos) (lift X.K (aCB op g)) := (pe_callB hc hg hm hv ha hn hdb he hpl).imp (lift_CB ho)
theorem e_callTy (hc : CallR X (.type T) r) (ho : OkC X.K r op) (hm : X.mg x = none) (hv : bootBuiltins x = some (.type T)) (ha : PA X (e :: es) (liftA X.K g)) (hg : Gl X x := by rfl) (hn : x ≠ "__name__" := by decide) (hdb : (x == ("__debug__" : Str)) = false := by decide)
    (he : starEach (e :: es) X.env = (false, eval e X.env) :: starEach es X.env := by rfl) (hpl : (backTo pos (starEach es X.env)).any (·.1) = false := by rfl) : PE X (.Call (.Name x p) (e :: es) [] pos) (lift X.K (aCB op g)) := (pe_callTy hc hg hm hv ha hn hdb he hpl).imp (lift_CB ho)
end
/-- len -/
def cLen : AC := fun ds M k => match ds with
  | [.tup xs] => k (.int xs.length) M
  | [.str z] => z.length ≤ sizeLine ∧ k (.int z.length) M
  | [d] => match rdS M d with
    | some xs => k (.int xs.length) M
    | none => False
  | _ => False
theorem rels1 {I : Hp} {d : D} {vs : List V} (r : Rels K I [d] vs) : ∃ v, vs = [v] ∧ Rel K I d v := by
  obtain ⟨w, ws, rfl, h2, h3⟩ := r.cons_inv
  rw [h3.nil_inv]; exact ⟨w, rfl, h2⟩
theorem rels2 {I : Hp} {d d' : D} {vs : List V} (r : Rels K I [d, d'] vs) : ∃ v v', vs = [v, v'] ∧ Rel K I d v ∧ Rel K I d' v' := by
  obtain ⟨w, ws, rfl, h2, h3⟩ := r.cons_inv
  obtain ⟨v', rfl, h4⟩ := rels1 h3
  exact ⟨w, v', rfl, h2, h4⟩
theorem cLen_ok : OkC K (fun xs H Q => ∃ x n, xs = [x] ∧ LenV K x H n ∧ Q (.int n) H) cLen := by
  intro ds M k vs H I F Q h c r hk
  unfold cLen at h
  split at h
  · obtain ⟨v, rfl, r9⟩ := rels1 r
    obtain ⟨a, ws, rfl, g, s⟩ := rel_tup c r9
    exact ⟨_, ws.length, rfl, .inr ⟨ws, g, rfl⟩, hk _ _ _ _ _ h (Le.refl I) c (by rw [Rel, s.length])⟩
  · obtain ⟨v, rfl, r9⟩ := rels1 r
    rw [Rel] at r9; subst r9
    exact ⟨_, _, rfl, ⟨h.1, rfl⟩, hk _ _ _ _ _ h.2 (Le.refl I) c (by rw [Rel])⟩
  · obtain ⟨v, rfl, r9⟩ := rels1 r
    split at h
    · rename_i xs e0
      obtain ⟨a, ws, rfl, g, s⟩ := rdS_ok e0 c r9
      exact ⟨_, ws.length, rfl, .inl ⟨ws, g, rfl⟩, hk _ _ _ _ _ h (Le.refl I) c (by rw [Rel, s.length])⟩
    · exact h.elim
  · exact h.elim
/-- ints in, a value out -/
def c1I (g : Int → D) : AC := fun ds M k => match ds with
  | [.int i] => k (g i) M
  | _ => False
def c2I (g : Int → Int → D) : AC := fun ds M k => match ds with
  | [.int i, .int j] => k (g i j) M
  | _ => False
theorem c1I_ok {g : Int → D} {g' : Int → V} (hg : ∀ I i, Rel K I (g i) (g' i)) : OkC K (fun xs H Q => ∃ i, xs = [.int i] ∧ Q (g' i) H) (c1I g) := by
  intro ds M k vs H I F Q h c r hk
  unfold c1I at h
  split at h
  · obtain ⟨v, rfl, r9⟩ := rels1 r
    rw [Rel] at r9; subst r9
    exact ⟨_, rfl, hk _ _ _ _ _ h (Le.refl I) c (hg I _)⟩
  · exact h.elim
theorem c2I_ok {g : Int → Int → D} {g' : Int → Int → V} (hg : ∀ I i j, Rel K I (g i j) (g' i j)) : OkC K (fun xs H Q => ∃ i j, xs = [.int i, .int j] ∧ Q (g' i j) H) (c2I g) := by
  intro ds M k vs H I F Q h c r hk
  unfold c2I at h
  split at h
  · obtain ⟨v, u, rfl, r1, r2⟩ := rels2 r
    rw [Rel] at r1 r2; subst r1 r2
    exact ⟨_, _, rfl, hk _ _ _ _ _ h (Le.refl I) c (hg I _ _)⟩
  · exact h.elim
abbrev cAbs : AC := c1I fun i => .int (if i < 0 then -i else i)
abbrev cMax2 : AC := c2I fun i j => .int (if j > i then j else i)
abbrev cMin2 : AC := c2I fun i j => .int (if j < i then j else i)
section
variable {g : AA} {p pos : Pos}
theorem e_len (hm : X.mg "len" = none) (ha : PA X (e :: es) (liftA X.K g)) (hg : Gl X "len" := by rfl) (he : starEach (e :: es) X.env = (false, eval e X.env) :: starEach es X.env := by rfl) (hpl : (backTo pos (starEach es X.env)).any (·.1) = false := by rfl) :
    PE X (.Call (.Name "len" p) (e :: es) [] pos) (lift X.K (aCB cLen g)) := e_callB call_len cLen_ok hm (by decide +kernel) ha hg (by decide) (by decide) he hpl
theorem e_abs (hm : X.mg "abs" = none) (ha : PA X (e :: es) (liftA X.K g)) (hg : Gl X "abs" := by rfl) (he : starEach (e :: es) X.env = (false, eval e X.env) :: starEach es X.env := by rfl) (hpl : (backTo pos (starEach es X.env)).any (·.1) = false := by rfl) :
    PE X (.Call (.Name "abs" p) (e :: es) [] pos) (lift X.K (aCB cAbs g)) := e_callB call_abs (c1I_ok fun _ _ => by rw [Rel]) hm (by decide +kernel) ha hg (by decide) (by decide) he hpl
theorem e_max2 (hc : X.calm = true) (hm : X.mg "max" = none) (ha : PA X (e :: es) (liftA X.K g)) (hg : Gl X "max" := by rfl) (he : starEach (e :: es) X.env = (false, eval e X.env) :: starEach es X.env := by rfl) (hpl : (backTo pos (starEach es X.env)).any (·.1) = false := by rfl) :
    PE X (.Call (.Name "max" p) (e :: es) [] pos) (lift X.K (aCB cMax2 g)) := e_callB (call_max2 hc) (c2I_ok fun _ _ _ => by rw [Rel]) hm (by decide +kernel) ha hg (by decide) (by decide) he hpl
theorem e_min2 (hc : X.calm = true) (hm : X.mg "min" = none) (ha : PA X (e :: es) (liftA X.K g)) (hg : Gl X "min" := by rfl) (he : starEach (e :: es) X.env = (false, eval e X.env) :: starEach es X.env := by rfl) (hpl : (backTo pos (starEach es X.env)).any (·.1) = false := by rfl) :
    PE X (.Call (.Name "min" p) (e :: es) [] pos) (lift X.K (aCB cMin2 g)) := e_callB (call_min2 hc) (c2I_ok fun _ _ _ => by rw [Rel]) hm (by decide +kernel) ha hg (by decide) (by decide) he hpl
end
/-- sum of ints -/
def intsOf : List D → Option (List Int)
  | [] => some []
  | .int i :: r => (intsOf r).map (i :: ·)
  | _ => none
theorem intsOf_eq : ∀ {ds : List D} {ns : List Int}, intsOf ds = some ns → ds = ns.map .int
  | [], ns, h => by cases h; rfl
  | d :: r, ns, h => by
    cases d with
    | int i =>
      have h : (intsOf r).map (i :: ·) = some ns := h
      cases q : intsOf r with
      | none => rw [q] at h; cases h
      | some ms => rw [q] at h; cases h; rw [intsOf_eq q]; rfl
    | _ => cases h
theorem intsOf_map (ns : List Int) : intsOf (ns.map .int) = some ns := by
  induction ns with
  | nil => rfl
  | cons n r ih => show (intsOf (r.map .int)).map (n :: ·) = some (n :: r); rw [ih]; rfl
def cSum : AC := fun ds M k => match ds with
  | [d] => match (rdS M d).bind intsOf with
    | some ns => k (.int ns.sum) M
    | none => False
  | _ => False
theorem ints_ok {M : MH} {H I F : Hp} {d : D} {v : V} {ns : List Int} (h : (rdS M d).bind intsOf = some ns) (c : Conc K H I M F) (r : Rel K I d v) : ∃ a, v = .ref a ∧ SqL K H a (ns.map V.int) := by
  cases q : rdS M d with
  | none => rw [q] at h; cases h
  | some ds =>
    rw [q] at h
    have h2 : intsOf ds = some ns := h
    obtain ⟨a, vs, e1, g, s⟩ := rdS_ok q c r
    rw [intsOf_eq h2] at s
    rw [Rels.ints s] at g
    exact ⟨a, e1, g⟩
theorem cSum_ok : OkC K (rSum K) cSum := by
  intro ds M k vs H I F Q h c r hk
  unfold cSum at h
  split at h
  · obtain ⟨v, rfl, r9⟩ := rels1 r
    split at h
    · rename_i ns e0
      obtain ⟨a, rfl, g⟩ := ints_ok e0 c r9
      exact ⟨a, ns, rfl, g, hk _ _ _ _ _ h (Le.refl I) c (by rw [Rel])⟩
    · exact h.elim
  · exact h.elim
theorem e_sum {g : AA} {p pos : Pos} (hc : X.calm = true) (hm : X.mg "sum" = none) (ha : PA X (e :: es) (liftA X.K g)) (hg : Gl X "sum" := by rfl) (he : starEach (e :: es) X.env = (false, eval e X.env) :: starEach es X.env := by rfl) (hpl : (backTo pos (starEach es X.env)).any (·.1) = false := by rfl) :
    PE X (.Call (.Name "sum" p) (e :: es) [] pos) (lift X.K (aCB cSum g)) := e_callB (cr_sum hc) cSum_ok hm (by decide +kernel) ha hg (by decide) (by decide) he hpl
/-- list(xs) -/
def cList (m : Bool) : AC := fun ds M k => match ds with
  | [.tup xs] => nl m xs M k
  | [d] => match rdS M d with
    | some xs => nl m xs M k
    | none => False
  | _ => False
theorem cList_ok {m : Bool} : OkC K (fun xs H Q => ∃ p ys, xs = [.ref p] ∧ (SqL K H p ys ∨ SqT K H p ys) ∧ ∀ l, H l = none → Q (.ref l) (upd H l (.lst ys))) (cList m) := by
  intro ds M k vs H I F Q h c r hk
  unfold cList at h
  split at h
  · obtain ⟨v, rfl, r9⟩ := rels1 r
    obtain ⟨a, ws, rfl, g, s⟩ := rel_tup c r9
    exact ⟨a, ws, rfl, .inr g, fun p hp => nl_ok h c s hk hp⟩
  · obtain ⟨v, rfl, r9⟩ := rels1 r
    split at h
    · rename_i xs e0
      obtain ⟨a, ws, rfl, g, s⟩ := rdS_ok e0 c r9
      exact ⟨a, ws, rfl, .inl g, fun p hp => nl_ok h c s hk hp⟩
    · exact h.elim
  · exact h.elim
theorem e_list (m : Bool) {g : AA} {p pos : Pos} (hm : X.mg "list" = none) (ha : PA X (e :: es) (liftA X.K g)) (hg : Gl X "list" := by rfl) (he : starEach (e :: es) X.env = (false, eval e X.env) :: starEach es X.env := by rfl) (hpl : (backTo pos (starEach es X.env)).any (·.1) = false := by rfl) :
    PE X (.Call (.Name "list" p) (e :: es) [] pos) (lift X.K (aCB (cList m) g)) := e_callTy call_list_of cList_ok hm (by decide +kernel) ha hg (by decide) (by decide) he hpl

/-! ### methods of lists -/
/-- list methods by values -/
abbrev AM := D → List D → MH → AK → Prop
def OkM (K : PySem.W.Frag) (r : V → List V → Hp → VK → Prop) (op : AM) : Prop := ∀ d ds M k v vs H I F Q, op d ds M k → Conc K H I M F → Rel K I d v → Rels K I ds vs → kE K I F k Q → r v vs H Q
def aMt0 (op : AM) (f : AE) : AE := fun Γ M k => f Γ M fun d M1 => match rdL M1 d with
  | some _ => op d [] M1 k
  | none => False
def aMt (op : AM) (f : AE) (g : AA) : AE := fun Γ M k => f Γ M fun d M1 => match rdL M1 d with
  | some _ => g Γ M1 fun ds M2 => op d ds M2 k
  | none => False
theorem tyL {M : MH} {H I F : Hp} {d : D} {v : V} {ds : List D} (h : rdL M d = some ds) (c : Conc K H I M F) (r : Rel K I d v) : tyV K "list" v H := by
  obtain ⟨a, vs, rfl, g, _⟩ := rdL_ok h c r
  exact .inl ⟨rfl, vs, SqL.of g⟩
theorem lift_Mt {r : V → List V → Hp → VK → Prop} {op : AM} {f : AE} {g : AA} (h : OkM K r op) : ∀ σ H Q, lift K (aMt op f g) σ H Q → tBM K "list" r (lift K f) (liftA K g) σ H Q := fun σ H Q ⟨Γ, M, I, F, k, hs, hc, hf, hk⟩ =>
  ⟨Γ, M, I, F, _, hs, hc, hf, fun d M1 v H1 I1 h1 l1 c1 r1 => by
    split at h1
    · rename_i ds e0
      exact ⟨tyL e0 c1 r1, Γ, M1, I1, F, _, hs.le l1, c1, h1, fun es M2 vs H2 I2 h2 l2 c2 r2 => h _ _ _ _ _ _ _ _ _ _ h2 c2 (Rel.le l2 _ _ r1) r2 (hk.le (l1.trans l2))⟩
    · exact h1.elim⟩
theorem lift_Mt0 {r : V → List V → Hp → VK → Prop} {op : AM} {f : AE} (h : OkM K r op) : ∀ σ H Q, lift K (aMt0 op f) σ H Q → tBM0 K "list" r (lift K f) σ H Q := fun σ H Q ⟨Γ, M, I, F, k, hs, hc, hf, hk⟩ =>
  ⟨Γ, M, I, F, _, hs, hc, hf, fun d M1 v H1 I1 h1 l1 c1 r1 => by
    split at h1
    · rename_i ds e0
      exact ⟨tyL e0 c1 r1, h _ _ _ _ _ _ _ _ _ _ h1 c1 r1 .nil (hk.le l1)⟩
    · exact h1.elim⟩
/-- a list of the small heap, changed -/
def wrL (d : D) (M : MH) (f : Addr → List D → Prop) : Prop := match d with
  | .ref a => match M a with
    | some (.obj (.lst ds)) => f a ds
    | _ => False
  | _ => False
theorem wrL_ok {M : MH} {H I F : Hp} {d : D} {v : V} {f : Addr → List D → Prop} (h : wrL d M f) (c : Conc K H I M F) (r : Rel K I d v) : ∃ a ds vs, v = .ref a ∧ M a = some (.obj (.lst ds)) ∧ H a = some (.lst vs) ∧ Rels K I ds vs ∧ f a ds := by
  cases d with
  | ref a =>
    rw [Rel] at r
    have h : (match M a with
      | some (.obj (.lst ds)) => f a ds
      | _ => False) := h
    split at h
    · rename_i ds e
      obtain ⟨vs, h1, h2⟩ := c.rel a _ e
      exact ⟨a, ds, vs, r, e, h1, h2, h⟩
    · exact h.elim
  | _ => exact h.elim
def mAppend : AM := fun d es M k => match es with
  | [x] => wrL d M fun a ds => ds.length < sizeLine ∧ k .non (up M a (.obj (.lst (ds ++ [x]))))
  | _ => False
theorem mAppend_ok : OkM K rAppend mAppend := by
  intro d es M k v vs H I F Q h c r rs hk
  unfold mAppend at h
  split at h
  · obtain ⟨w, rfl, rw'⟩ := rels1 rs
    obtain ⟨a, ds, ws, rfl, hM, hH, hr, hl, q⟩ := wrL_ok h c r
    exact ⟨a, ws, w, rfl, rfl, hH, by rw [← hr.length]; exact hl, hk _ _ _ _ _ q (Le.refl I) (c.set hM ⟨_, upd_same, hr.append (.one rw')⟩) (by rw [Rel])⟩
  · exact h.elim
def mPop : AM := fun d es M k => match es with
  | [] => wrL d M fun a ds => match ds[ds.length - 1]? with
    | some x => k x (up M a (.obj (.lst ds.dropLast)))
    | none => False
  | [.int i] => wrL d M fun a ds => (-(2 ^ 63) ≤ i ∧ i < 2 ^ 63) ∧ match seqIndex? i ds.length with
    | some j => (match ds[j]? with
      | some x => k x (up M a (.obj (.lst (ds.eraseIdx j))))
      | none => False)
    | none => False
  | _ => False
theorem mPop_ok : OkM K (fun x xs H Q => rPop x xs H Q ∨ rPopAt x xs H Q) mPop := by
  intro d es M k v vs H I F Q h c r rs hk
  unfold mPop at h
  split at h
  · rw [rs.nil_inv]
    obtain ⟨a, ds, ws, rfl, hM, hH, hr, q⟩ := wrL_ok h c r
    split at q
    · rename_i x e0
      obtain ⟨w, e1, rx⟩ := hr.get e0
      rw [hr.length] at e1
      exact .inl ⟨a, ws, w, rfl, rfl, hH, e1, hk _ _ _ _ _ q (Le.refl I) (c.set hM ⟨_, upd_same, hr.dropLast⟩) rx⟩
    · exact q.elim
  · rename_i i
    obtain ⟨w, rfl, rw'⟩ := rels1 rs
    rw [Rel] at rw'; subst rw'
    obtain ⟨a, ds, ws, rfl, hM, hH, hr, ⟨b1, b2⟩, q⟩ := wrL_ok h c r
    split at q
    · rename_i j ej
      split at q
      · rename_i x e0
        obtain ⟨w, e1, rx⟩ := hr.get e0
        rw [hr.length] at ej
        exact .inr ⟨a, ws, i, j, w, rfl, rfl, hH, b1, b2, ej, e1, hk _ _ _ _ _ q (Le.refl I) (c.set hM ⟨_, upd_same, hr.eraseIdx j⟩) rx⟩
      · exact q.elim
    · exact q.elim
  · exact h.elim
def mReverse : AM := fun d es M k => match es with
  | [] => wrL d M fun a ds => k .non (up M a (.obj (.lst ds.reverse)))
  | _ => False
theorem mReverse_ok : OkM K rReverse mReverse := by
  intro d es M k v vs H I F Q h c r rs hk
  unfold mReverse at h
  split at h
  · rw [rs.nil_inv]
    obtain ⟨a, ds, ws, rfl, hM, hH, hr, q⟩ := wrL_ok h c r
    exact ⟨a, ws, rfl, rfl, hH, hk _ _ _ _ _ q (Le.refl I) (c.set hM ⟨_, upd_same, hr.reverse⟩) (by rw [Rel])⟩
  · exact h.elim
def mClear : AM := fun d es M k => match es with
  | [] => wrL d M fun a ds => k .non (up M a (.obj (.lst [])))
  | _ => False
theorem mClear_ok : OkM K rClear mClear := by
  intro d es M k v vs H I F Q h c r rs hk
  unfold mClear at h
  split at h
  · rw [rs.nil_inv]
    obtain ⟨a, ds, ws, rfl, hM, hH, hr, q⟩ := wrL_ok h c r
    exact ⟨a, ws, rfl, rfl, hH, hk _ _ _ _ _ q (Le.refl I) (c.set hM ⟨_, upd_same, .nil⟩) (by rw [Rel])⟩
  · exact h.elim
def mExtend : AM := fun d es M k => match es with
  | [x] => wrL d M fun a ds => match rdL M x with
    | some xs => ds.length + xs.length ≤ sizeLine ∧ k .non (up M a (.obj (.lst (ds ++ xs))))
    | none => False
  | _ => False
theorem mExtend_ok : OkM K rExtend mExtend := by
  intro d es M k v vs H I F Q h c r rs hk
  unfold mExtend at h
  split at h
  · obtain ⟨w, rfl, rw'⟩ := rels1 rs
    obtain ⟨a, ds, ws, rfl, hM, hH, hr, q⟩ := wrL_ok h c r
    split at q
    · rename_i xs e0
      obtain ⟨b, us, rfl, gH, gr⟩ := rdL_ok e0 c rw'
      exact ⟨a, b, ws, us, rfl, rfl, hH, gH, by rw [← hr.length, ← gr.length]; exact q.1, hk _ _ _ _ _ q.2 (Le.refl I) (c.set hM ⟨_, upd_same, hr.append gr⟩) (by rw [Rel])⟩
    · exact q.elim
  · exact h.elim

/-! ### statements -/
def aSeq (s t : AS) : AS := fun D Γ M => s { D with nx := fun Γ M => t D Γ M } Γ M
def aNext : AS := fun D Γ M => D.nx Γ M
def aBreak : AS := fun D Γ M => D.bk Γ M
def aCont : AS := fun D Γ M => D.ct Γ M
def aNever : AS := fun _ _ _ => False
def aDrop (f : AE) : AS := fun D Γ M => f Γ M fun _ M1 => D.nx Γ M1
def aRet (f : AE) : AS := fun D Γ M => f Γ M D.rt
def aRetN : AS := fun D _ M => D.rt .non M
def aIfS (c : AT) (s t : AS) : AS := fun D Γ M => c Γ M fun b M1 => if b = true then s D Γ M1 else t D Γ M1
def aSet (i : Nat) (f : AE) : AS := fun D Γ M => f Γ M fun d M1 => D.nx (Γ.set i (some d)) M1
def aPar (i j : Nat) (g : AA) : AS := fun D Γ M => g Γ M fun ds M1 => match ds with
  | [d, e] => D.nx ((Γ.set i (some d)).set j (some e)) M1
  | _ => False
def aAsg (f : AE) (g : AG) : AS := fun D Γ M => f Γ M fun d M1 => g d Γ M1 D.nx
variable {st : Stmt} {rest : List Stmt} {s t : AS}
theorem ss_nil : PSs X [] (liftS X.K aNext) := pss_nil.imp fun E σ H ⟨Γ, M, I, F, D, hs, hc, hf, hk⟩ => hk.nx _ _ _ _ _ hf (Le.refl I) hc hs
theorem lift_seq : ∀ E σ H, liftS K (aSeq s t) E σ H → tSeq (liftS K s) (liftS K t) E σ H := fun E σ H ⟨Γ, M, I, F, D, hs, hc, hf, hk⟩ =>
  ⟨Γ, M, I, F, { D with nx := fun Γ M => t D Γ M }, hs, hc, hf, ⟨fun Γ1 M1 σ1 H1 I1 h1 l1 c1 s1 => ⟨Γ1, M1, I1, F, D, s1, c1, h1, hk.le l1⟩, hk.rt, hk.bk, hk.ct⟩⟩
theorem ss_cons (h1 : PS X st (liftS X.K s)) (h2 : PSs X rest (liftS X.K t)) : PSs X (st :: rest) (liftS X.K (aSeq s t)) := (pss_cons h1 h2).imp lift_seq
theorem ss_one (h1 : PS X st (liftS X.K s)) : PSs X [st] (liftS X.K s) := pss_one h1
theorem s_pass : PS X (.Pass pos) (liftS X.K aNext) := ps_pass.imp fun E σ H ⟨Γ, M, I, F, D, hs, hc, hf, hk⟩ => hk.nx _ _ _ _ _ hf (Le.refl I) hc hs
theorem s_never : PS X st (liftS X.K aNever) := ps_never.imp fun E σ H ⟨Γ, M, I, F, D, hs, hc, hf, hk⟩ => hf.elim
theorem ss_never {sts : List Stmt} : PSs X sts (liftS X.K aNever) := pss_never.imp fun E σ H ⟨Γ, M, I, F, D, hs, hc, hf, hk⟩ => hf.elim
theorem s_expr {f : AE} (he : PE X e (lift X.K f)) (hs : swapsWith e none pos.line X.env = pure false := by rfl) : PS X (.Expr e pos) (liftS X.K (aDrop f)) := (ps_expr he hs).imp fun E σ H ⟨Γ, M, I, F, D, hs, hc, hf, hk⟩ =>
  ⟨Γ, M, I, F, _, hs, hc, hf, fun d M1 v H1 I1 h1 l1 c1 r1 => hk.nx _ _ _ _ _ h1 l1 c1 (hs.le l1)⟩
theorem s_ret {f : AE} (he : PE X e (lift X.K f)) : PS X (.Return (some e) pos) (liftS X.K (aRet f)) := (ps_ret he).imp fun E σ H ⟨Γ, M, I, F, D, hs, hc, hf, hk⟩ => ⟨Γ, M, I, F, _, hs, hc, hf, hk.rt⟩
theorem s_retN : PS X (.Return none pos) (liftS X.K aRetN) := ps_retN.imp fun E σ H ⟨Γ, M, I, F, D, hs, hc, hf, hk⟩ => hk.rt _ _ _ _ _ hf (Le.refl I) hc (by rw [Rel])
theorem s_if {c : Expr} {x y : List Stmt} {tc : AT} (hc : PT X c (liftT X.K tc)) (ha : PSs X x (liftS X.K s)) (hb : PSs X y (liftS X.K t)) : PS X (.If c x y pos) (liftS X.K (aIfS tc s t)) := (ps_if hc ha hb).imp fun E σ H ⟨Γ, M, I, F, D, hs, hc, hf, hk⟩ =>
  ⟨Γ, M, I, F, _, hs, hc, hf, fun b M1 H1 I1 h1 l1 c1 => by
    cases b with
    | true => exact ⟨Γ, M1, I1, F, D, hs.le l1, c1, h1, hk.le l1⟩
    | false => exact ⟨Γ, M1, I1, F, D, hs.le l1, c1, h1, hk.le l1⟩⟩
theorem s_set {i : Nat} {x : Str} {e : Expr} {f : AE} {pos' : Pos} (he : PE X e (lift X.K f)) (hN : X.N.Nodup) (hi : X.N[i]? = some x := by rfl) (hx : Loc X.env.scope x := by first | exact Or.inl rfl | exact Or.inr rfl) (hs : swapsWith e (some (.Name x pos')) pos.line X.env = pure false := by rfl) (hf : X.fn x = true ∨ X.env.scope.names.lookup x = some .local := by first | exact .inl rfl | exact .inr rfl | assumption) :
    PS X (.Assign [.Name x pos'] e pos) (liftS X.K (aSet i f)) := (ps_set hN hi hx he hs hf).imp fun E σ H ⟨Γ, M, I, F, D, hs, hc, hf, hk⟩ =>
  ⟨Γ, M, I, F, _, hs, hc, hf, fun d M1 v H1 I1 h1 l1 c1 r1 => hk.nx _ _ _ _ _ h1 l1 c1 ((hs.le l1).set r1)⟩
theorem s_par {i j : Nat} {x y : Str} {a b : Expr} {g : AA} {px py pt : Pos} {kt k2 pt2} (ha : PA X [a, b] (liftA X.K g)) (hc : X.calm = true) (hN : X.N.Nodup) (hi : X.N[i]? = some x := by rfl) (hj : X.N[j]? = some y := by rfl) (hij : i ≠ j := by decide)
    (hx : X.env.scope.names.lookup x = some .local := by rfl) (hy : X.env.scope.names.lookup y = some .local := by rfl)
    (hw : swappedStores [.Tuple [.Name x px, .Name y py] kt pt] (.Tuple [a, b] k2 pt2) X.env = pure (some [x, y]) := by rfl)
    (hs : swapsWithSole [.Tuple [.Name x px, .Name y py] kt pt] (.Tuple [a, b] k2 pt2) pos.line X.env = pure false := by rfl) :
    PS X (.Assign [.Tuple [.Name x px, .Name y py] kt pt] (.Tuple [a, b] k2 pt2) pos) (liftS X.K (aPar i j g)) := (ps_par hc hN hi hj hij hx hy ha hw hs).imp fun E σ H ⟨Γ, M, I, F, D, hs, hc, hf, hk⟩ =>
  ⟨Γ, M, I, F, _, hs, hc, hf, fun ds M1 vs H1 I1 h1 l1 c1 r1 => by
    split at h1
    · obtain ⟨v, w, rfl, r1, r2⟩ := rels2 r1
      exact ⟨v, w, rfl, hk.nx _ _ _ _ _ h1 l1 c1 (((hs.le l1).set r1).set r2)⟩
    · exact h1.elim⟩
/-! targets -/
def gNm (i : Nat) : AG := fun d Γ M k => k (Γ.set i (some d)) M
def gNi : AGs := fun ds Γ M k => match ds with
  | [] => k Γ M
  | _ => False
def gCo (t : AG) (u : AGs) : AGs := fun ds Γ M k => match ds with
  | d :: r => t d Γ M fun Γ1 M1 => u r Γ1 M1 k
  | [] => False
def gTu (n : Nat) (t : AGs) : AG := fun d Γ M k => match d with
  | .tup ds => ds.length = n ∧ t ds Γ M k
  | _ => False
theorem g_name {i : Nat} {x : Str} (hN : X.N.Nodup) (hi : X.N[i]? = some x := by rfl) (hx : Loc X.env.scope x := by first | exact Or.inl rfl | exact Or.inr rfl) (hf : X.fn x = true ∨ X.env.scope.names.lookup x = some .local := by first | exact .inl rfl | exact .inr rfl | assumption) : PG X (.Name x pos) (liftG X.K (gNm i)) :=
  (pg_name hN hi hx hf).imp fun v σ H Q ⟨d, Γ, M, I, F, k, r, hs, hc, hf, hk⟩ => hk _ _ _ _ _ hf (Le.refl I) hc (hs.set r)
theorem gs_nil : PGs X [] (liftGs X.K gNi) := pgs_nil.imp fun vs σ H Q ⟨ds, Γ, M, I, F, k, r, hs, hc, hf, hk⟩ => by
  unfold gNi at hf
  split at hf
  · exact ⟨r.nil_inv, hk _ _ _ _ _ hf (Le.refl I) hc hs⟩
  · exact hf.elim
theorem gs_cons {t : AG} {u : AGs} (h1 : PG X e (liftG X.K t)) (h2 : PGs X es (liftGs X.K u)) (hs : (assignEach (e :: es) X.env).map (·.2) = assign e X.env :: (assignEach es X.env).map (·.2) := by rfl) : PGs X (e :: es) (liftGs X.K (gCo t u)) :=
  (pgs_cons h1 h2 hs).imp fun vs σ H Q ⟨ds, Γ, M, I, F, k, r, hs, hc, hf, hk⟩ => by
    unfold gCo at hf
    split at hf
    · obtain ⟨v, ws, rfl, r1, r2⟩ := r.cons_inv
      exact ⟨v, ws, rfl, _, Γ, M, I, F, _, r1, hs, hc, hf, fun Γ1 M1 σ1 H1 I1 h1 l1 c1 s1 => ⟨_, Γ1, M1, I1, F, k, Rels.le l1 _ _ r2, s1, c1, h1, hk.le l1⟩⟩
    · exact hf.elim
theorem g_tup {k : Nat} {t : AGs} {n : Nat} (h : PGs X es (liftGs X.K t)) (hc : X.calm = true) (hn : (assignEach es X.env).length = n := by rfl) (hst : (assignEach es X.env).findIdx? (·.1) = none := by rfl) : PG X (.Tuple es k pos) (liftG X.K (gTu n t)) :=
  (pg_tup hc h hn hst).imp fun v σ H Q ⟨d, Γ, M, I, F, k, r, hs, hc, hf, hk⟩ => by
    unfold gTu at hf
    split at hf
    · obtain ⟨a, vs, rfl, g, rs⟩ := rel_tup hc r
      exact ⟨a, vs, rfl, g, by rw [← rs.length]; exact hf.1, _, Γ, M, I, F, k, rs, hs, hc, hf.2, hk⟩
    · exact hf.elim
theorem s_asg {tg e : Expr} {f : AE} {g : AG} (he : PE X e (lift X.K f)) (hg : PG X tg (liftG X.K g)) (hs : swapsWithSole [tg] e pos.line X.env = pure false := by rfl) (hw : swappedStores [tg] e X.env = pure none := by rfl)
    (h1 : (assignEach [tg] X.env).map (·.2) = [assign tg X.env] := by rfl) : PS X (.Assign [tg] e pos) (liftS X.K (aAsg f g)) := (ps_asg he hg hs hw h1).imp fun E σ H ⟨Γ, M, I, F, D, hs, hc, hf, hk⟩ =>
  ⟨Γ, M, I, F, _, hs, hc, hf, fun d M1 v H1 I1 h1 l1 c1 r1 => ⟨d, Γ, M1, I1, F, D.nx, r1, hs.le l1, c1, h1, hk.nx.le l1⟩⟩
end
end M
/-! MLoop: while, for, comprehensions; what they walk. -/
namespace M
open PySem L2
section
variable {X : Cx} {e a b c : Expr} {es : List Expr} {pos p2 : Pos} {K : PySem.W.Frag} {st : Stmt} {rest body : List Stmt} {s t : AS}
/-- W: by a measure -/
def aWhile (c : AT) (b : AS) : AS := fun D Γ M => ∃ W : Nat → G → MH → Prop, (∃ m, W m Γ M) ∧ ∀ m Γ M, W m Γ M →
  c Γ M fun t M1 => if t = true then b { nx := fun Γ' M' => ∃ m', m' < m ∧ W m' Γ' M', rt := D.rt, bk := D.nx, ct := fun Γ' M' => ∃ m', m' < m ∧ W m' Γ' M', ex := D.ex } Γ M1 else D.nx Γ M1
theorem s_while {c : Expr} {tc : AT} (hc : PT X c (liftT X.K tc)) (hb : PSs X body (liftS X.K s)) (hp : PassesOwn (model X.prog X.w) X.A X.env X.xe) : PS X (.While c body [] pos) (liftS X.K (aWhile tc s)) :=
  (ps_while hp hc hb).imp fun E σ H ⟨Γ, M, I, F, D, hs, hc, ⟨W, ⟨m, w⟩, hf⟩, hk⟩ => by
    refine ⟨fun m σ H => ∃ Γ M J, W m Γ M ∧ Le I J ∧ RelS X.K J Γ σ ∧ Conc X.K H J M F, ⟨m, Γ, M, I, w, Le.refl I, hs, hc⟩, ?_⟩
    rintro m1 σ1 H1 ⟨Γ1, M1, J, w1, l1, s1, c1⟩
    refine ⟨Γ1, M1, J, F, _, s1, c1, hf m1 Γ1 M1 w1, fun b M2 H2 I2 h2 l2 c2 => ?_⟩
    cases b with
    | true =>
      rw [if_pos rfl] at h2 ⊢
      refine ⟨fun σ' H' => ∃ m', m' < m1 ∧ ∃ Γ M J, W m' Γ M ∧ Le I J ∧ RelS X.K J Γ σ' ∧ Conc X.K H' J M F, fun _ _ q => q, ?_⟩
      refine ⟨Γ1, M2, I2, F, _, s1.le l2, c2, h2, ⟨?_, hk.rt.le (l1.trans l2), hk.nx.le (l1.trans l2), ?_⟩⟩
      · rintro Γ3 M3 σ3 H3 I3 ⟨m', hm, w3⟩ l3 c3 s3
        exact ⟨m', hm, Γ3, M3, I3, w3, (l1.trans l2).trans l3, s3, c3⟩
      · rintro Γ3 M3 σ3 H3 I3 ⟨m', hm, w3⟩ l3 c3 s3
        exact ⟨m', hm, Γ3, M3, I3, w3, (l1.trans l2).trans l3, s3, c3⟩
    | false =>
      rw [if_neg Bool.false_ne_true] at h2 ⊢
      exact hk.nx _ _ _ _ _ h2 (l1.trans l2) c2 (s1.le l2)

/-! ### what is walked -/
structure AIt where
  items : List D
  ok : MH → Prop
abbrev AI := G → MH → (AIt → MH → Prop) → Prop
def ItOk (K : PySem.W.Frag) (F I : Hp) (J : It) (A : AIt) : Prop := ∀ (i : Nat) (H J' : Hp) (M : MH), Le I J' → ∀ F', Le F F' → Conc K H J' M F' → A.ok M →
  (A.items[i]? = none → J.stop i H) ∧ ∀ d, A.items[i]? = some d → J.go i H ∧ ∀ x H', J.yld i H x H' → ∃ I', Le J' I' ∧ Conc K H' I' M F' ∧ Rel K I' d x
theorem ItOk.le {K : PySem.W.Frag} {I I' F F' : Hp} {J : It} {A : AIt} (h : ItOk K F I J A) (l : Le I I') (lf : Le F F') : ItOk K F' I' J A := fun i H J' M a F2 f => h i H J' M (l.trans a) F2 (lf.trans f)
def liftI (K : PySem.W.Frag) (w : AI) : TI := fun σ H R => ∃ Γ M I F k, RelS K I Γ σ ∧ Conc K H I M F ∧ w Γ M k ∧ ∀ A M' J H' I', k A M' → Le I I' → Conc K H' I' M' F → ItOk K F I' J A → R J H'
theorem _root_.L2.PI.imp {tg iter : Expr} {t t' : TI} (h : PI X tg iter t) (i : ∀ σ H R, t' σ H R → t σ H R) : PI X tg iter t' := ⟨fun pins s σ H R I q => h.run pins s σ H R I (i σ H R q)⟩
/-- for: W by the turn -/
def aFor (w : AI) (g : AG) (b : AS) : AS := fun D Γ M => w Γ M fun A M1 => ∃ W : Nat → G → MH → Prop, W 0 Γ M1 ∧ ∀ i Γ M, i ≤ A.items.length → W i Γ M → A.ok M ∧ match A.items[i]? with
  | none => D.nx Γ M
  | some x => g x Γ M fun Γ' M' => b { nx := W (i + 1), rt := D.rt, bk := D.nx, ct := W (i + 1), ex := D.ex } Γ' M'
theorem s_for {tg iter : Expr} {w : AI} {g : AG} (hi : PI X tg iter (liftI X.K w)) (hg : PG X tg (liftG X.K g)) (hb : PSs X body (liftS X.K s)) (hc : X.calm = true) (hp : PassesOwn (model X.prog X.w) X.A X.env X.xe) (hs : ∀ x, foldedSetIterable iter X.env x = pure x := by intro _; rfl) :
    PS X (.For tg iter body [] pos) (liftS X.K (aFor w g s)) := (ps_for hp hc hi hg hb hs).imp fun E σ H ⟨Γ, M, I, F, D, hs, hc, hf, hk⟩ => by
    refine ⟨Γ, M, I, F, _, hs, hc, hf, ?_⟩
    rintro A M1 J H1 I1 ⟨W, w0, step⟩ l1 c1 ok
    refine ⟨fun i m σ H => ∃ Γ M J, W i Γ M ∧ i ≤ A.items.length ∧ m = A.items.length - i ∧ Le I1 J ∧ RelS X.K J Γ σ ∧ Conc X.K H J M F, ⟨_, Γ, M1, I1, w0, Nat.zero_le _, rfl, Le.refl _, hs.le l1, c1⟩, ?_⟩
    rintro i m σ2 H2 ⟨Γ2, M2, J2, w2, hi, rfl, l2, s2, c2⟩
    obtain ⟨aok, st⟩ := step i Γ2 M2 hi w2
    obtain ⟨o1, o2⟩ := ok i H2 J2 M2 l2 F (Le.refl F) c2 aok
    cases q : A.items[i]? with
    | none =>
      rw [q] at st
      exact .inl ⟨o1 q, hk.nx _ _ _ _ _ st (l1.trans l2) c2 s2⟩
    | some x =>
      rw [q] at st
      have hlt : i < A.items.length := (List.getElem?_eq_some_iff.mp q).1
      obtain ⟨go, yl⟩ := o2 x q
      refine .inr ⟨go, fun σ' H' => ∃ m', m' < A.items.length - i ∧ ∃ Γ M J, W (i + 1) Γ M ∧ i + 1 ≤ A.items.length ∧ m' = A.items.length - (i + 1) ∧ Le I1 J ∧ RelS X.K J Γ σ' ∧ Conc X.K H' J M F, fun _ _ q => q, fun v H3 y => ?_⟩
      obtain ⟨I3, l3, c3, r3⟩ := yl v H3 y
      refine ⟨x, Γ2, M2, I3, F, _, r3, s2.le l3, c3, st, fun Γ4 M4 σ4 H4 I4 h4 l4 c4 s4 => ?_⟩
      have la : Le I I4 := ((l1.trans l2).trans l3).trans l4
      refine ⟨Γ4, M4, I4, F, _, s4, c4, h4, ⟨?_, hk.rt.le la, hk.nx.le la, ?_⟩⟩
      · intro Γ5 M5 σ5 H5 I5 h5 l5 c5 s5
        exact ⟨_, by omega, Γ5, M5, I5, h5, hlt, rfl, ((l2.trans l3).trans l4).trans l5, s5, c5⟩
      · intro Γ5 M5 σ5 H5 I5 h5 l5 c5 s5
        exact ⟨_, by omega, Γ5, M5, I5, h5, hlt, rfl, ((l2.trans l3).trans l4).trans l5, s5, c5⟩
/-! lists, tuples -/
def wLst (f : AE) : AI := fun Γ M k => f Γ M fun d M1 => match rdS M1 d with
  | some ds => k ⟨ds, fun M => rdS M d = some ds⟩ M1
  | none => False
def wTp (f : AE) : AI := fun Γ M k => f Γ M fun d M1 => match d with
  | .tup ds => k ⟨ds, fun _ => True⟩ M1
  | _ => False
theorem rdS_addr {M M' : MH} {H H' I I' F F' : Hp} {d : D} {v v' : V} {ds : List D} (r : Rel K I d v) (r' : Rel K I' d v') (l : Le I I') : v = v' → True := fun _ => trivial
theorem Rels.get_none {I : Hp} {ds : List D} {vs : List V} (r : Rels K I ds vs) {i : Nat} (h : ds[i]? = none) : vs.length ≤ i := by
  rw [← r.length]; exact List.getElem?_eq_none_iff.mp h
theorem itl_ok {M : MH} {H I F : Hp} {d : D} {a : Addr} {ds : List D} (r : Rel K I d (.ref a)) : ItOk K F I (Itl K a) ⟨ds, fun M => rdS M d = some ds⟩ := by
  intro i H1 J M1 l F1 lf c hok
  obtain ⟨a', vs, e1, g, s⟩ := rdS_ok (M := M1) hok c (Rel.le l _ _ r)
  cases e1
  refine ⟨fun h => ⟨vs, g, s.get_none h⟩, fun x h => ?_⟩
  obtain ⟨v, hv, rv⟩ := s.get h
  refine ⟨⟨vs, v, g, hv⟩, fun y H' q => ?_⟩
  obtain ⟨rfl, q⟩ := q
  have := q vs g
  rw [hv] at this; cases this
  exact ⟨J, Le.refl J, c, rv⟩
theorem i_list {tg : Expr} {f : AE} (he : PE X e (lift X.K f)) : PI X tg e (liftI X.K (wLst f)) := (pi_list he).imp fun σ H R ⟨Γ, M, I, F, k, hs, hc, hf, hk⟩ =>
  ⟨Γ, M, I, F, _, hs, hc, hf, fun d M1 v H1 I1 h1 l1 c1 r1 => by
    split at h1
    · rename_i ds e0
      obtain ⟨p, vs, rfl, g, s⟩ := rdS_ok e0 c1 r1
      exact ⟨p, rfl, ⟨vs, g⟩, hk _ _ _ _ _ h1 l1 c1 (itl_ok (M := M1) (H := H1) r1)⟩
    · exact h1.elim⟩
theorem i_tup {tg : Expr} {f : AE} (he : PE X e (lift X.K f)) : PI X tg e (liftI X.K (wTp f)) := (pi_tup he).imp fun σ H R ⟨Γ, M, I, F, k, hs, hc, hf, hk⟩ =>
  ⟨Γ, M, I, F, _, hs, hc, hf, fun d M1 v H1 I1 h1 l1 c1 r1 => by
    split at h1
    · rename_i ds
      obtain ⟨p, vs, rfl, g, s⟩ := rel_tup c1 r1
      refine ⟨p, rfl, ⟨vs, g⟩, hk _ _ _ _ _ h1 l1 c1 ?_⟩
      intro i H2 J M2 l2 F2 lf c2 _
      obtain ⟨p', vs', e1, g2, s2⟩ := rel_tup c2 (Rel.le l2 _ _ r1)
      cases e1
      refine ⟨fun h => ⟨vs', g2, s2.get_none h⟩, fun x h => ?_⟩
      obtain ⟨v, hv, rv⟩ := s2.get h
      refine ⟨⟨vs', v, g2, hv⟩, fun y H' q => ?_⟩
      obtain ⟨rfl, q⟩ := q
      have := q vs' g2
      rw [hv] at this; cases this
      exact ⟨J, Le.refl J, c2, rv⟩
    · exact h1.elim⟩
/-! ranges -/
def rng (lo : Int) (n : Nat) : List Int := (List.range n).map fun (i : Nat) => lo + (i : Int)
theorem rng_get {lo : Int} {n i : Nat} : (rng lo n)[i]? = if i < n then some (lo + (i : Int)) else none := by
  unfold rng
  rw [List.getElem?_map]
  by_cases h : i < n
  · rw [if_pos h, List.getElem?_range h]; rfl
  · rw [if_neg h, List.getElem?_eq_none (by simpa using h)]; rfl
theorem rng_length {lo : Int} {n : Nat} : (rng lo n).length = n := by simp [rng]
def wRg1 (g : AA) : AI := fun Γ M k => g Γ M fun ds M1 => match ds with
  | [.int j] => (-(2 ^ 62) ≤ j ∧ j < 2 ^ 62) ∧ k ⟨(rng 0 j.toNat).map .int, fun _ => True⟩ M1
  | _ => False
def wRg2 (g : AA) : AI := fun Γ M k => g Γ M fun ds M1 => match ds with
  | [.int i, .int j] => (-(2 ^ 62) ≤ i ∧ i < 2 ^ 62 ∧ -(2 ^ 62) ≤ j ∧ j < 2 ^ 62) ∧ k ⟨(rng i (j - i).toNat).map .int, fun _ => True⟩ M1
  | _ => False
theorem itr_ok {F I : Hp} {lo : Int} {n : Nat} : ItOk K F I (Itr lo n) ⟨(rng lo n).map .int, fun _ => True⟩ := by
  intro i H1 J M1 l F1 lf c _
  refine ⟨fun h => ?_, fun x h => ?_⟩
  · have := List.getElem?_eq_none_iff.mp h
    rw [List.length_map, rng_length] at this
    exact this
  · have h : ((rng lo n).map D.int)[i]? = some x := h
    rw [List.getElem?_map, rng_get] at h
    by_cases q : i < n
    · rw [if_pos q] at h
      cases h
      refine ⟨q, fun y H' q2 => ?_⟩
      obtain ⟨rfl, rfl⟩ := q2
      exact ⟨J, Le.refl J, c, by rw [Rel]⟩
    · rw [if_neg q] at h; cases h
theorem i_range1 {tg a : Expr} {g : AA} {p pos : Pos} (hm : X.mg "range" = none) (ha : PA X [a] (liftA X.K g)) (hg : Gl X "range" := by rfl) (hs : starEach [a] X.env = [(false, eval a X.env)] := by rfl) : PI X tg (.Call (.Name "range" p) [a] [] pos) (liftI X.K (wRg1 g)) :=
  (pi_range1 hg hm ha hs).imp fun σ H R ⟨Γ, M, I, F, k, hs, hc, hf, hk⟩ => ⟨Γ, M, I, F, _, hs, hc, hf, fun ds M1 vs H1 I1 h1 l1 c1 r1 => by
    split at h1
    · rename_i j
      obtain ⟨v, rfl, r2⟩ := rels1 r1
      rw [Rel] at r2; subst r2
      exact ⟨j, rfl, h1.1.1, h1.1.2, hk _ _ _ _ _ h1.2 l1 c1 itr_ok⟩
    · exact h1.elim⟩
theorem i_range2 {tg a b : Expr} {g : AA} {p pos : Pos} (hm : X.mg "range" = none) (ha : PA X [a, b] (liftA X.K g)) (hg : Gl X "range" := by rfl) (hs : starEach [a, b] X.env = [(false, eval a X.env), (false, eval b X.env)] := by rfl) (hs2 : starEach [b] X.env = [(false, eval b X.env)] := by rfl) :
    PI X tg (.Call (.Name "range" p) [a, b] [] pos) (liftI X.K (wRg2 g)) :=
  (pi_range2 hg hm ha hs hs2).imp fun σ H R ⟨Γ, M, I, F, k, hs, hc, hf, hk⟩ => ⟨Γ, M, I, F, _, hs, hc, hf, fun ds M1 vs H1 I1 h1 l1 c1 r1 => by
    split at h1
    · rename_i i j
      obtain ⟨v, u, rfl, r2, r3⟩ := rels2 r1
      rw [Rel] at r2 r3; subst r2 r3
      exact ⟨i, j, rfl, h1.1, hk _ _ _ _ _ h1.2 l1 c1 itr_ok⟩
    · exact h1.elim⟩
/-! enumerate, zip -/
def enumD : Nat → List D → List D
  | _, [] => []
  | i, d :: ds => .tup [.int (i : Int), d] :: enumD (i + 1) ds
theorem enumD_get : ∀ {ds : List D} {i n : Nat}, (enumD n ds)[i]? = (ds[i]?).map fun d => .tup [.int ((n + i : Nat) : Int), d]
  | [], i, n => by simp [enumD]
  | d :: ds, 0, n => by simp [enumD]
  | d :: ds, i + 1, n => by
    show (enumD (n + 1) ds)[i]? = (ds[i]?).map _
    rw [enumD_get]
    have : n + 1 + i = n + (i + 1) := by omega
    rw [this]
def zipD : List D → List D → List D
  | d :: ds, e :: es => .tup [d, e] :: zipD ds es
  | _, _ => []
theorem zipD_get : ∀ {ds es : List D} {i : Nat}, (zipD ds es)[i]? = match ds[i]?, es[i]? with
    | some d, some e => some (.tup [d, e])
    | _, _ => none
  | [], es, i => by simp [zipD]
  | d :: ds, [], i => by simp [zipD]
  | d :: ds, e :: es, 0 => by simp [zipD]
  | d :: ds, e :: es, i + 1 => by
    show (zipD ds es)[i]? = _
    rw [zipD_get]
    simp
def wEn (g : AA) : AI := fun Γ M k => g Γ M fun ds M1 => match ds with
  | [d] => (match rdS M1 d with
    | some xs => k ⟨enumD 0 xs, fun M => rdS M d = some xs⟩ M1
    | none => False)
  | _ => False
def wZp (g : AA) : AI := fun Γ M k => g Γ M fun ds M1 => match ds with
  | [d, e] => (match rdS M1 d, rdS M1 e with
    | some xs, some ys => k ⟨zipD xs ys, fun M => rdS M d = some xs ∧ rdS M e = some ys⟩ M1
    | _, _ => False)
  | _ => False
theorem i_enum {a : Expr} {elts : List Expr} {kk : Nat} {tpos : Pos} {g : AA} {p pos : Pos} (hm : X.mg "enumerate" = none) (ha : PA X [a] (liftA X.K g)) (hg : Gl X "enumerate" := by rfl) (hs : starEach [a] X.env = [(false, eval a X.env)] := by rfl) :
    PI X (.Tuple elts kk tpos) (.Call (.Name "enumerate" p) [a] [] pos) (liftI X.K (wEn g)) :=
  (pi_enum hg hm ha hs).imp fun σ H R ⟨Γ, M, I, F, k, hs, hc, hf, hk⟩ => ⟨Γ, M, I, F, _, hs, hc, hf, fun ds M1 vs H1 I1 h1 l1 c1 r1 => by
    split at h1
    · rename_i d
      obtain ⟨v, rfl, r2⟩ := rels1 r1
      split at h1
      · rename_i xs e0
        obtain ⟨q, ws, rfl, g0, s0⟩ := rdS_ok e0 c1 r2
        refine ⟨q, ws, rfl, g0, hk _ _ _ _ _ h1 l1 c1 ?_⟩
        intro i H2 J M2 l2 F2 lf c2 ok
        obtain ⟨q', us, e1, g2, s2⟩ := rdS_ok ok c2 (Rel.le l2 _ _ r2)
        cases e1
        refine ⟨fun h => ⟨us, g2, s2.get_none (by
          have h : (enumD 0 xs)[i]? = none := h
          rw [enumD_get] at h
          cases q : xs[i]? with
          | none => rfl
          | some y => rw [q] at h; cases h)⟩, fun x h => ?_⟩
        have h : (enumD 0 xs)[i]? = some x := h
        rw [enumD_get] at h
        cases q : xs[i]? with
        | none => rw [q] at h; cases h
        | some y =>
          rw [q] at h
          cases h
          obtain ⟨v, hv, rv⟩ := s2.get q
          refine ⟨⟨us, v, g2, hv⟩, fun z H' q2 => ?_⟩
          obtain ⟨T, u, rfl, hT, rfl, q3⟩ := q2
          have := q3 us g2
          rw [hv] at this; cases this
          have le : Le J (upd J T (.tup [.int (i : Nat), v])) := Le.new (c2.fresh hT).1
          refine ⟨_, le, c2.newF hT, ?_⟩
          rw [Rel]
          refine ⟨T, _, rfl, .inl upd_same, .cons (by rw [Rel, Nat.zero_add]) (.one (Rel.le le _ _ rv))⟩
      · exact h1.elim
    · exact h1.elim⟩
theorem i_zip {a b : Expr} {elts : List Expr} {kk : Nat} {tpos : Pos} {g : AA} {p pos : Pos} (hm : X.mg "zip" = none) (ha : PA X [a, b] (liftA X.K g)) (hg : Gl X "zip" := by rfl) (hs : starEach [a, b] X.env = (false, eval a X.env) :: starEach [b] X.env := by rfl) (hpl : (backTo pos (starEach [b] X.env)).any (·.1) = false := by rfl) :
    PI X (.Tuple elts kk tpos) (.Call (.Name "zip" p) [a, b] [] pos) (liftI X.K (wZp g)) :=
  (pi_zip hg hm ha hs hpl).imp fun σ H R ⟨Γ, M, I, F, k, hs, hc, hf, hk⟩ => ⟨Γ, M, I, F, _, hs, hc, hf, fun ds M1 vs H1 I1 h1 l1 c1 r1 => by
    split at h1
    · rename_i d e
      obtain ⟨v, u, rfl, r2, r3⟩ := rels2 r1
      split at h1
      · rename_i xs ys e0 e1
        obtain ⟨q, ws, rfl, g0, s0⟩ := rdS_ok e0 c1 r2
        obtain ⟨q', ws', rfl, g0', s0'⟩ := rdS_ok e1 c1 r3
        refine ⟨q, q', ws, ws', rfl, g0, g0', hk _ _ _ _ _ h1 l1 c1 ?_⟩
        intro i H2 J M2 l2 F2 lf c2 ok
        obtain ⟨p1, us, e1, g2, s2⟩ := rdS_ok ok.1 c2 (Rel.le l2 _ _ r2)
        obtain ⟨p2, us', e2, g2', s2'⟩ := rdS_ok ok.2 c2 (Rel.le l2 _ _ r3)
        cases e1
        cases e2
        constructor
        · intro h
          have h : (zipD xs ys)[i]? = none := h
          rw [zipD_get] at h
          refine ⟨us, us', g2, g2', ?_⟩
          cases q : xs[i]? with
          | none => exact .inl (s2.get_none q)
          | some x =>
            cases q' : ys[i]? with
            | none => exact .inr (s2'.get_none q')
            | some y => rw [q, q'] at h; cases h
        · intro x h
          have h : (zipD xs ys)[i]? = some x := h
          rw [zipD_get] at h
          cases q : xs[i]? with
          | none => rw [q] at h; cases h
          | some x1 =>
            cases q' : ys[i]? with
            | none => rw [q, q'] at h; cases h
            | some y1 =>
              rw [q, q'] at h
              cases h
              obtain ⟨v, hv, rv⟩ := s2.get q
              obtain ⟨v', hv', rv'⟩ := s2'.get q'
              refine ⟨⟨us, us', v, v', g2, g2', hv, hv'⟩, fun z H' q2 => ?_⟩
              obtain ⟨T, u, u', rfl, hT, rfl, q3, q4⟩ := q2
              have := q3 us g2
              rw [hv] at this; cases this
              have := q4 us' g2'
              rw [hv'] at this; cases this
              have le : Le J (upd J T (.tup [v, v'])) := Le.new (c2.fresh hT).1
              refine ⟨_, le, c2.newF hT, ?_⟩
              rw [Rel]
              exact ⟨T, _, rfl, .inl upd_same, .cons (Rel.le le _ _ rv) (.one (Rel.le le _ _ rv'))⟩
      · exact h1.elim
    · exact h1.elim⟩
/-! texts, sign by sign -/
def signsD (z : Str) : List D := z.cps.toList.map fun c => .str ⟨#[c]⟩
def wSt (f : AE) : AI := fun Γ M k => f Γ M fun d M1 => match d with
  | .str z => k ⟨signsD z, fun _ => True⟩ M1
  | _ => False
theorem i_str {tg : Expr} {f : AE} (he : PE X e (lift X.K f)) : PI X tg e (liftI X.K (wSt f)) := (pi_str he).imp fun σ H R ⟨Γ, M, I, F, k, hs, hc, hf, hk⟩ =>
  ⟨Γ, M, I, F, _, hs, hc, hf, fun d M1 v H1 I1 h1 l1 c1 r1 => by
    split at h1
    · rename_i z
      rw [Rel] at r1
      refine ⟨z, r1, hk _ _ _ _ _ h1 l1 c1 ?_⟩
      intro i H2 J M2 l2 F2 lf c2 _
      refine ⟨fun h => ?_, fun x h => ?_⟩
      · have := List.getElem?_eq_none_iff.mp h
        show z.cps.size ≤ i
        simpa [signsD] using this
      · have h : (signsD z)[i]? = some x := h
        unfold signsD at h
        rw [List.getElem?_map] at h
        cases q : z.cps.toList[i]? with
        | none => rw [q] at h; cases h
        | some c =>
          rw [q] at h
          cases h
          have hc' : z.cps[i]? = some c := by simpa using q
          refine ⟨(Array.getElem?_eq_some_iff.mp hc').1, fun y H' q2 => ?_⟩
          obtain ⟨rfl, c', hc2, rfl⟩ := q2
          rw [hc'] at hc2; cases hc2
          exact ⟨J, Le.refl J, c2, by rw [Rel]⟩
    · exact h1.elim⟩

/-! ### comprehensions -/
def lcGo (m : Bool) (ok : MH → Prop) (g : AG) (tt : AT) (te : AE) (Γ : G) : List D → List D → MH → (List D → MH → Prop) → Prop
  | [], acc, M, k => ok M ∧ k acc M
  | x :: xs, acc, M, k => ok M ∧ g x Γ M fun Γ' M' => tt Γ' M' fun b M1 => if b = true then te Γ' M1 fun d M2 => acc.length < sizeLine ∧ lcGo m ok g tt te Γ xs (acc ++ [d]) M2 k else lcGo m ok g tt te Γ xs acc M1 k
def wipeG (Γ : G) : List Nat → G
  | [] => Γ
  | v :: vs => (wipeG Γ vs).set v none
def aLc (m : Bool) (w : AI) (g : AG) (tt : AT) (te : AE) (vs : List Nat) : AE := fun Γ M k => w Γ M fun A M1 => lcGo m A.ok g tt te (wipeG Γ vs) A.items [] M1 fun ds M2 => nl m ds M2 k
def aYes : AT := fun _ M k => k true M
theorem RelS.wipe {I : Hp} : ∀ {vs : List Nat} {Γ : G} {σ : L2.St}, RelS K I Γ σ → RelS K I (wipeG Γ vs) (wipe σ vs)
  | [], Γ, σ, h => h
  | v :: vs, Γ, σ, h => (RelS.wipe (vs := vs) h).forget
theorem _root_.L2.PTs.imp {ifs : List Expr} {t t' : TT} (h : PTs X ifs t) (i : ∀ σ H Q, t' σ H Q → t σ H Q) : PTs X ifs t' := ⟨fun pins s σ H Q I q => h.run pins s σ H Q I (i σ H Q q)⟩
theorem ts_nil : PTs X [] (liftT X.K aYes) := pts_nil.imp fun σ H Q ⟨Γ, M, I, F, k, hs, hc, hf, hk⟩ => hk _ _ _ _ hf (Le.refl I) hc
theorem ts_one {c : Expr} {t : AT} (h : PT X c (liftT X.K t)) : PTs X [c] (liftT X.K t) := pts_one h
/-- a target's store, and what it leaves where its own names are forgotten -/
def OkW (K : PySem.W.Frag) (g0 : TG) (g : AG) (vs : List Nat) : Prop := ∀ d v Γ M I F σ H k (Q : L2.St → Hp → Prop), Rel K I d v → RelS K I Γ σ → Conc K H I M F → g d Γ M k → (∀ Γ' σ', k Γ' M → RelS K I Γ' σ' → wipe σ' vs = wipe σ vs → Q σ' H) → g0 v σ H Q
def OkWs (K : PySem.W.Frag) (g0 : TGs) (g : AGs) (vs : List Nat) : Prop := ∀ ds ws Γ M I F σ H k (Q : L2.St → Hp → Prop), Rels K I ds ws → RelS K I Γ σ → Conc K H I M F → g ds Γ M k → (∀ Γ' σ', k Γ' M → RelS K I Γ' σ' → wipe σ' vs = wipe σ vs → Q σ' H) → g0 ws σ H Q
theorem wipe_set {σ : L2.St} {i : Nat} {x : Option V} : ∀ {vs : List Nat}, i ∈ vs → wipe (σ.set i x) vs = wipe σ vs
  | v :: vs, h => by
    unfold wipe
    by_cases q : i = v
    · subst q
      by_cases q2 : i ∈ vs
      · rw [wipe_set q2]
      · clear h
        have : ∀ ws : List Nat, i ∉ ws → wipe (σ.set i x) ws = (wipe σ ws).set i x := by
          intro ws
          induction ws with
          | nil => intro _; rfl
          | cons w ws ih =>
            intro hn
            unfold wipe
            rw [ih fun z => hn (List.mem_cons_of_mem _ z)]
            rw [List.set_comm _ _ (show i ≠ w from fun z => hn (by rw [z]; exact List.mem_cons_self))]
        rw [this vs q2, List.set_set]
    · rw [wipe_set (vs := vs) ((List.mem_cons.mp h).resolve_left q)]
theorem okw_name {i : Nat} {vs : List Nat} (h : i ∈ vs) : OkW K (gName i) (gNm i) vs := fun d v Γ M I F σ H k Q r hs hc hf hQ => hQ _ _ hf (hs.set r) (wipe_set h)
theorem okws_nil {vs : List Nat} : OkWs K gNil gNi vs := fun ds ws Γ M I F σ H k Q r hs hc hf hQ => by
  unfold gNi at hf
  split at hf
  · exact ⟨r.nil_inv, hQ _ _ hf hs rfl⟩
  · exact hf.elim
theorem okws_cons {t0 : TG} {t : AG} {u0 : TGs} {u : AGs} {vs : List Nat} (h1 : OkW K t0 t vs) (h2 : OkWs K u0 u vs) : OkWs K (gCons t0 u0) (gCo t u) vs := fun ds ws Γ M I F σ H k Q r hs hc hf hQ => by
  unfold gCo at hf
  split at hf
  · obtain ⟨v, us, rfl, r1, r2⟩ := r.cons_inv
    exact ⟨v, us, rfl, h1 _ _ _ _ _ _ _ _ _ _ r1 hs hc hf fun Γ1 σ1 k1 s1 e1 => h2 _ _ _ _ _ _ _ _ _ _ r2 s1 hc k1 fun Γ2 σ2 k2 s2 e2 => hQ _ _ k2 s2 (e2.trans e1)⟩
  · exact hf.elim
theorem okw_tup {n : Nat} {t0 : TGs} {t : AGs} {vs : List Nat} (h : OkWs K t0 t vs) : OkW K (gTup K n t0) (gTu n t) vs := fun d v Γ M I F σ H k Q r hs hc hf hQ => by
  unfold gTu at hf
  split at hf
  · obtain ⟨a, us, rfl, g, rs⟩ := rel_tup hc r
    exact ⟨a, us, rfl, g, by rw [← rs.length]; exact hf.1, h _ _ _ _ _ _ _ _ _ _ rs hs hc hf.2 hQ⟩
  · exact hf.elim
theorem noF_upd {F : Hp} {a : Addr} {o : HO} (h : F a = none) : Le F (noF (upd F a o) a) := fun x u e => by
  have : x ≠ a := ne_of_none e h
  rw [noF_ne this, upd_ne this]; exact e
theorem lift_lc {m : Bool} {w : AI} {g0 : TG} {g : AG} {tt : AT} {te : AE} {vs : List Nat} (hw : OkW K g0 g vs) : ∀ σ H Q, lift K (aLc m w g tt te vs) σ H Q → tLc (liftI K w) g0 (liftT K tt) (lift K te) vs σ H Q := by
  rintro σ H Q ⟨Γ, M, I, F, k, hs, hc, hf, hk⟩
  refine ⟨Γ, M, I, F, _, hs, hc, hf, ?_⟩
  intro A M1 J H1 I1 h1 l1 c1 ok D hD
  have fD : F D = none := c1.notF hD
  have lF : ∀ o, Le F (upd F D o) := fun o => Le.new fD
  refine ⟨fun i mm H => ∃ M acc I' ws, Conc K H I' M (upd F D (.lst ws)) ∧ Le I1 I' ∧ Rels K I' acc ws ∧ i ≤ A.items.length ∧ mm = A.items.length - i ∧ lcGo m A.ok g tt te (wipeG Γ vs) (A.items.drop i) acc M fun ds M2 => nl m ds M2 k,
    ⟨_, M1, [], I1, [], c1.newFr hD, Le.refl _, .nil, Nat.zero_le _, rfl, h1⟩, ?_⟩
  rintro i mm H2 ⟨M2, acc, I2, ws, c2, l2, r2, hi, rfl, go⟩
  have fin : ∀ {i : Nat}, i < A.items.length → A.items.length - (i + 1) < A.items.length - i := fun h => by omega
  cases q : A.items[i]? with
  | none =>
    have e : A.items.drop i = [] := List.drop_eq_nil_iff.mpr (List.getElem?_eq_none_iff.mp q)
    rw [e] at go
    obtain ⟨aok, go⟩ := go
    refine .inl ⟨(ok i H2 I2 M2 l2 _ (lF _) c2 aok).1 q, ?_⟩
    have hF : upd F D (.lst ws) D = some (.lst ws) := upd_same
    cases m with
    | false => exact hk _ _ _ _ _ go ((l1.trans l2).trans (Le.new (c2.frm _ _ hF).2.1)) ((c2.iceF hF).unF (noF_upd fD)) (by rw [Rel]; exact ⟨D, ws, rfl, upd_same, Rels.le (Le.new (c2.frm _ _ hF).2.1) _ _ r2⟩)
    | true => exact hk _ _ _ _ _ (go D (c2.frm _ _ hF).2.2) (l1.trans l2) ((c2.meltF (b := .lst acc) hF ⟨ws, (c2.frm _ _ hF).1, r2⟩).unF (noF_upd fD)) (by rw [Rel])
  | some x =>
    have hlt : i < A.items.length := (List.getElem?_eq_some_iff.mp q).1
    have e : A.items.drop i = x :: A.items.drop (i + 1) := by
      rw [List.drop_eq_getElem_cons hlt]
      have := (List.getElem?_eq_some_iff.mp q).2
      rw [this]
    rw [e] at go
    obtain ⟨aok, go⟩ := go
    obtain ⟨g1, g2⟩ := (ok i H2 I2 M2 l2 _ (lF _) c2 aok).2 x q
    refine .inr ⟨g1, fun H' => ∃ m', m' < A.items.length - i ∧ ∃ M acc I' ws, Conc K H' I' M (upd F D (.lst ws)) ∧ Le I1 I' ∧ Rels K I' acc ws ∧ i + 1 ≤ A.items.length ∧ m' = A.items.length - (i + 1) ∧ lcGo m A.ok g tt te (wipeG Γ vs) (A.items.drop (i + 1)) acc M fun ds M2 => nl m ds M2 k, fun _ q => q, fun v H3 y => ?_⟩
    obtain ⟨I3, l3, c3, r3⟩ := g2 v H3 y
    refine hw x v (wipeG Γ vs) M2 I3 _ (wipe σ vs) H3 _ _ r3 ((hs.le ((l1.trans l2).trans l3)).wipe) c3 go fun Γ' σ' k' s' e' => ⟨?_, Γ', M2, I3, _, _, s', c3, k', fun b M4 H4 I4 h4 l4 c4 => ?_⟩
    · exact e'.trans (by
        have : ∀ us : List Nat, (∀ u ∈ us, u ∈ vs) → wipe (wipe σ us) vs = wipe σ vs := by
          intro us
          induction us with
          | nil => intro _; rfl
          | cons u us ih =>
            intro hu
            show wipe ((wipe σ us).set u none) vs = wipe σ vs
            rw [wipe_set (hu u List.mem_cons_self)]
            exact ih fun z hz => hu z (List.mem_cons_of_mem _ hz)
        exact this vs fun _ h => h)
    · cases b with
      | true =>
        rw [if_pos rfl] at h4 ⊢
        refine ⟨Γ', M4, I4, _, _, s'.le l4, c4, h4, fun d M5 u H5 I5 h5 l5 c5 r5 => ?_⟩
        have hF : upd F D (.lst ws) D = some (.lst ws) := upd_same
        have r2' := Rels.le ((l3.trans l4).trans l5) _ _ r2
        refine ⟨ws, (c5.frm _ _ hF).1, by rw [← r2.length]; exact h5.1, _, fin hlt, M5, acc ++ [d], I5, ws ++ [u], ?_, ((l2.trans l3).trans l4).trans l5, r2'.append (.one r5), hlt, rfl, h5.2⟩
        have c6 := c5.setF (o := .lst (ws ++ [u])) hF
        rw [upd_upd] at c6
        exact c6
      | false =>
        rw [if_neg Bool.false_ne_true] at h4 ⊢
        exact ⟨_, fin hlt, M4, acc, I4, ws, c4, (l2.trans l3).trans l4, Rels.le (l3.trans l4) _ _ r2, hlt, rfl, h4⟩
theorem e_lc (m : Bool) {elt tg iter : Expr} {ifs : List Expr} {scope : Scope} {own : List (Str × Nat)} {pos : Pos} {w : AI} {g0 : TG} {g : AG} {tt : AT} {te : AE} (hc : X.calm = true) (hN : X.N.Nodup) (ok : BlkOk X.N X.env.scope scope own) (hi : PI X tg iter (liftI X.K w))
    (hg : ∀ (s : Shared) (H : Hp) (C : Addr) (cl : List (Str × Addr)) (fp : List Addr), PG (X.blk s H scope (compEnvC scope cl C X.env) fp) tg g0) (hw : OkW X.K g0 g (own.map (·.2))) (ht : ∀ (s : Shared) (H : Hp) (C : Addr) (cl : List (Str × Addr)) (fp : List Addr), PTs (X.blk s H scope (compEnvC scope cl C X.env) fp) ifs (liftT X.K tt))
    (he : ∀ (s : Shared) (H : Hp) (C : Addr) (cl : List (Str × Addr)) (fp : List Addr), PE (X.blk s H scope (compEnvC scope cl C X.env) fp) elt (lift X.K te)) (hs : ∀ x, foldedSetIterable iter X.env x = pure x := by intro _; rfl) :
    PE X (.ListComp elt [⟨tg, iter, ifs, 0⟩] scope pos) (lift X.K (aLc m w g tt te (own.map (·.2)))) := (pe_lc hc hN hi ok hg ht he hs).imp (lift_lc hw)
theorem s_setLc (m : Bool) {i : Nat} {y : Str} {py : Pos} {elt tg iter : Expr} {ifs : List Expr} {scope : Scope} {own : List (Str × Nat)} {pos spos : Pos} {w : AI} {g0 : TG} {g : AG} {tt : AT} {te : AE} (hc : X.calm = true) (hN : X.N.Nodup) (hy : X.N[i]? = some y) (hyl : X.env.scope.names.lookup y = some .local)
    (hsw : swapsWith (.ListComp elt [⟨tg, iter, ifs, 0⟩] scope pos) (some (.Name y py)) spos.line X.env = pure true) (ok : BlkOk X.N X.env.scope scope own) (hi : PI X tg iter (liftI X.K w))
    (hg : ∀ (s : Shared) (H : Hp) (C : Addr) (cl : List (Str × Addr)) (fp : List Addr), PG (X.blk s H scope (compEnvC scope cl C X.env) fp) tg g0) (hw : OkW X.K g0 g (own.map (·.2))) (ht : ∀ (s : Shared) (H : Hp) (C : Addr) (cl : List (Str × Addr)) (fp : List Addr), PTs (X.blk s H scope (compEnvC scope cl C X.env) fp) ifs (liftT X.K tt))
    (he : ∀ (s : Shared) (H : Hp) (C : Addr) (cl : List (Str × Addr)) (fp : List Addr), PE (X.blk s H scope (compEnvC scope cl C X.env) fp) elt (lift X.K te)) (hs : ∀ x, foldedSetIterable iter X.env x = pure x := by intro _; rfl) :
    PS X (.Assign [.Name y py] (.ListComp elt [⟨tg, iter, ifs, 0⟩] scope pos) spos) (liftS X.K (aSet i (aLc m w g tt te (own.map (·.2))))) := (ps_setLc hc hN hy hyl hsw hi ok hg ht he hs).imp fun E σ H ⟨Γ, M, I, F, D, hs, hc, hf, hk⟩ =>
  lift_lc hw σ H _ ⟨Γ, M, I, F, _, hs, hc, hf, fun d M1 v H1 I1 h1 l1 c1 r1 => hk.nx _ _ _ _ _ h1 l1 c1 ((hs.le l1).set r1)⟩
end
end M
/-! MFn: defs and their calls; list methods; stores. -/
namespace M
open PySem L2
/-- what is wanted of an error: its class, what it tells -/
abbrev EK := Addr × D → MH → Prop
abbrev noX : EK := fun _ _ => False
/-- what a def is worth: arguments, the small heap, what is wanted of the value, of an error -/
abbrev AF := List D → MH → AK → EK → Prop
def kX (K : PySem.W.Frag) (I F : Hp) (x : EK) (E : XK) : Prop := ∀ C w M v H I' d, x (C, w) M → Le I I' → Conc K H I' M F → H d = some (.xd [(("what" : Str), v)]) → Rel K I' w v → E (.ref C) (some d) H
def liftF (K : PySem.W.Frag) (f : AF) : Sp := fun vs H Q E => ∃ ds M I F k x, Rels K I ds vs ∧ Conc K H I M F ∧ f ds M k x ∧ kE K I F k Q ∧ kX K I F x E
/-- M' tells no more than M -/
def Abs (M M' : MH) : Prop := ∀ K H I F, Conc K H I M F → Conc K H I M' F
theorem Abs.refl (M : MH) : Abs M M := fun _ _ _ _ c => c
theorem Abs.trans {M M' M'' : MH} (a : Abs M M') (b : Abs M' M'') : Abs M M'' := fun K H I F c => b K H I F (a K H I F c)
/-- an object is forgotten -/
theorem Abs.dl {M : MH} {a : Addr} (h : ∀ o, M a ≠ some (.part o)) : Abs M (dl M a) := fun K H I F c => by
  refine ⟨c.sub, fun x m => ?_, fun x o e => ?_, fun x o e => ?_⟩
  · by_cases q : x = a
    · rw [q, dl_same] at m; exact absurd rfl m
    · rw [dl_ne q] at m; exact c.fre x m
  · by_cases q : x = a
    · rw [q, dl_same] at e; cases e
    · rw [dl_ne q] at e
      have hx := c.rel x o e
      cases o with
      | obj b => exact hx
      | part _ => exact hx
      | box ps φ =>
        obtain ⟨h1, h2⟩ := hx
        exact ⟨fun p hp => by rw [dl_ne (fun z => by rw [z] at hp; exact h _ (h1 a hp))]; exact h1 p hp, h2⟩
  · obtain ⟨a1, a2, a3⟩ := c.frm x o e
    refine ⟨a1, a2, ?_⟩
    by_cases q : x = a
    · rw [q, dl_same]
    · rw [dl_ne q]; exact a3
/-- an end, up to what is forgotten -/
def fin (k : AK) : AK := fun d M => ∃ M', Abs M M' ∧ k d M'
theorem fin.of {k : AK} {d : D} {M : MH} (h : k d M) : fin k d M := ⟨M, Abs.refl M, h⟩
theorem fin.dl {k : AK} {d : D} {M : MH} {a : Addr} {b : BO} (h1 : M a = none) (h : k d M) : fin k d (up M a (.obj b)) := ⟨M, fun K H I F c => by
  have := Abs.dl (M := up M a (.obj b)) (a := a) (by intro o; rw [up_same]; simp) K H I F c
  rwa [dl_up h1] at this, h⟩
def startG (n : Nat) (ds : List D) : G := ds.map some ++ List.replicate (n - ds.length) none
section
variable {P : Program} {w : World} {K : PySem.W.Frag} {mg : Str → Option Value} {base : Heap}
theorem fn_ok {x qual : Str} {st : Stmt} {f : Addr} {fd : FuncData} {N ps : List Str} {k : Nat} {F : AF} {body : AS} (Fu : Fun K x qual st f fd) (S : FnScope N ps (defScope st)) (len : ∀ ds M k x, F ds M k x → ds.length = ps.length)
    (hb : ∀ (cdv : Value) (A : Around) (outer : List Env) (s : Shared) (H : Hp) (E : XK), Room k (A.deeper (PyProof.Rows.envOfC qual (defScope st) s.heap.objs.size f cdv)) → PSs (cxOf CX0 P w K mg base N qual (defScope st) f cdv A outer s H E).nox (defBody st) (liftS K body))
    (ok : ∀ ds M k x, F ds M k x → body { nx := fun _ M' => fin k .non M', rt := fin k } (startG N.length ds) M) : FnOk P w K mg base CX0 (k + 1) f fd ps (liftF K F) := by
  refine Fu.ok S (fun vs H Q E ⟨ds, M, I, Fr, k, x, r, c, h, _, _⟩ => by rw [← r.length]; exact len _ _ _ _ h) fun cdv A outer s H vs Q E hr ⟨ds, M, I, Fr, k, x, r, c, h, hk, hx⟩ => ⟨_, hb cdv A outer s H E hr, ?_⟩
  refine ⟨startG N.length ds, M, I, Fr, _, ?_, c, ok ds M k x h, ⟨?_, ?_, ?_, ?_⟩⟩
  · unfold startG L2.start
    rw [r.length]
    exact RelS.start r
  · rintro Γ M' σ H' I' ⟨M2, ab, q⟩ l c' s'
    exact hk _ _ _ _ _ q l (ab _ _ _ _ c') (by rw [Rel])
  · rintro d M' v H' I' ⟨M2, ab, q⟩ l c' r'
    exact hk _ _ _ _ _ q l (ab _ _ _ _ c') r'
  · intro Γ M' σ H' I' q; exact q.elim
  · intro Γ M' σ H' I' q; exact q.elim
end

section
variable {X : Cx} {e a b c o : Expr} {es : List Expr} {pos p p2 : Pos} {K : PySem.W.Frag}
/-! ### calls -/
def aCall (x : EK) (F : AF) (dds : List D) (g : AA) : AE := fun Γ M k => g Γ M fun ds M1 => F (ds ++ dds) M1 k x
/-- the defaults' values -/
structure Dfl (K : PySem.W.Frag) (dds : List D) (dvs : List V) (ds : List Value) : Prop where
  val : Vals dvs ds
  rel : ∀ I, Rels K I dds dvs
theorem Dfl.nil {K : PySem.W.Frag} : Dfl K [] [] [] := ⟨.nil, fun _ => .nil⟩
theorem lift_call {F : AF} {g : AA} {Q : VK} {σ : L2.St} {H : Hp} {dds : List D} {dvs : List V} (hd : ∀ I, Rels K I dds dvs) (h : lift K (aCall noX F dds g) σ H Q) : tCall (liftF K F) dvs E0 (liftA K g) σ H Q := by
  obtain ⟨Γ, M, I, Fr, k, hs, hc, hf, hk⟩ := h
  refine ⟨Γ, M, I, Fr, _, hs, hc, hf, fun ds M1 vs H1 I1 h1 l1 c1 r1 => ?_⟩
  exact ⟨ds ++ dds, M1, I1, Fr, k, noX, r1.append (hd I1), c1, h1, hk.le l1, fun C w M v H I' d z => z.elim⟩
section
variable {F : AF} {g gk : AA} {f : Addr} {fd : FuncData} {ps : List Str} {x : Str} {j k : Nat} {dds : List D} {dvs : List V} {ds : List Value}
theorem e_call (G : FnOk X.prog X.w X.K X.mg X.base CX0 j f fd ps (liftF X.K F)) (hr : Room k X.A) (hjk : j ≤ k) (hm : X.mg x = some (.ref f)) (hk : PySem.W.keepIn X.K (.ref f) = true) (hb : Binds X.K fd ps ds) (hd : Dfl X.K dds dvs ds) (ha : PA X (e :: es) (liftA X.K g)) (hg : Gl X x := by rfl)
    (hdb : (x == ("__debug__" : Str)) = false := by decide) (he : starEach (e :: es) X.env = (false, eval e X.env) :: starEach es X.env := by rfl) (hpl : (backTo pos (starEach es X.env)).any (·.1) = false := by rfl) :
    PE X (.Call (.Name x p) (e :: es) [] pos) (lift X.K (aCall noX F dds g)) := (pe_call (G.mono hjk) hr hg hm hk hb hd.val pass0 ha hdb he hpl).imp fun σ H Q h => lift_call hd.rel h
theorem e_call0 (G : FnOk X.prog X.w X.K X.mg X.base CX0 j f fd ps (liftF X.K F)) (hr : Room k X.A) (hjk : j ≤ k) (hm : X.mg x = some (.ref f)) (hk : PySem.W.keepIn X.K (.ref f) = true) (hb : Binds X.K fd ps ds) (hd : Dfl X.K dds dvs ds) (hg : Gl X x := by rfl)
    (hdb : (x == ("__debug__" : Str)) = false := by decide) : PE X (.Call (.Name x p) [] [] pos) (lift X.K (aCall noX F dds aNil)) := (pe_call0 (G.mono hjk) hr hg hm hk hb hd.val pass0 hdb).imp fun σ H Q h => by
  obtain ⟨Γ, M, I, Fr, k, hs, hc, hf, hk⟩ := h
  exact ⟨dds, M, I, Fr, k, noX, hd.rel I, hc, hf, hk, fun C w M v H I' d z => z.elim⟩
/-! keywords -/
def pick {α : Type} : List Nat → List α → List α
  | [], _ => []
  | i :: r, xs => match xs[i]? with
    | some x => x :: pick r xs
    | none => pick r xs
theorem pick_vals : ∀ {ix : List Nat} {vs : List V} {us : List Value}, Vals vs us → Vals (pick ix vs) (pick ix us)
  | [], _, _, _ => .nil
  | i :: r, vs, us, h => by
    unfold pick
    cases q : vs[i]? with
    | none => rw [h.none_of q]; exact pick_vals h
    | some v => obtain ⟨u, e, rv⟩ := h.get q; rw [e]; exact .cons rv (pick_vals h)
theorem pick_rels {I : Hp} : ∀ {ix : List Nat} {ds : List D} {vs : List V}, Rels K I ds vs → Rels K I (pick ix ds) (pick ix vs)
  | [], _, _, _ => .nil
  | i :: r, ds, vs, h => by
    unfold pick
    cases q : ds[i]? with
    | none => rw [List.getElem?_eq_none (h.get_none q)]; exact pick_rels h
    | some v => obtain ⟨u, e, rv⟩ := h.get q; rw [e]; exact .cons rv (pick_rels h)
/-- how a call with n values by their places, the keywords ks, and defaults binds -/
structure BK (K : PySem.W.Frag) (fd : FuncData) (ps : List Str) (n : Nat) (ks : List Str) (ix : List Nat) (ds : List Value) : Prop where
  to : ∀ (s : Shared) (us ws : List Value), K.In s.heap → us.length = n → ws.length = ks.length → BindsTo s fd ⟨us, ks.zip ws⟩ (ps.zip (pick ix (us ++ ws ++ ds)))
theorem BK.kbn {n : Nat} {ks : List Str} {ix : List Nat} (b : BK K fd ps n ks ix ds) (hd : Vals dvs ds) : KBn K fd ps n ks (fun us ws => pick ix (us ++ ws ++ ds)) (fun vs zs => pick ix (vs ++ zs ++ dvs)) :=
  ⟨b.to, fun r z => pick_vals ((r.append z).append hd)⟩
def aCallK (x : EK) (F : AF) (n m : Nat) (ix : List Nat) (dds : List D) (g gk : AA) : AE := fun Γ M k => g Γ M fun ds M1 => gk Γ M1 fun es M2 => ds.length = n ∧ es.length = m ∧ F (pick ix (ds ++ es ++ dds)) M2 k x
theorem lift_callK {n m : Nat} {ix : List Nat} {Q : VK} {σ : L2.St} {H : Hp} (hd : ∀ I, Rels K I dds dvs) (h : lift K (aCallK noX F n m ix dds g gk) σ H Q) : tCallN n m (liftF K F) (fun vs zs => pick ix (vs ++ zs ++ dvs)) E0 (liftA K g) (liftA K gk) σ H Q := by
  obtain ⟨Γ, M, I, Fr, k, hs, hc, hf, hk⟩ := h
  refine ⟨Γ, M, I, Fr, _, hs, hc, hf, fun ds M1 vs H1 I1 h1 l1 c1 r1 => ⟨Γ, M1, I1, Fr, _, hs.le l1, c1, h1, fun es M2 ws H2 I2 h2 l2 c2 r2 => ?_⟩⟩
  obtain ⟨a1, a2, a3⟩ := h2
  have r1' := Rels.le l2 _ _ r1
  exact ⟨by rw [← r1.length]; exact a1, by rw [← r2.length]; exact a2, _, M2, I2, Fr, k, noX, pick_rels ((r1'.append r2).append (hd I2)), c2, a3, hk.le (l1.trans l2), fun C w M v H I' d z => z.elim⟩
variable {kws : List Keyword} {n : Nat} {ks : List Str} {ix : List Nat}
theorem k_nil : PK X [] (liftA X.K aNil) := ⟨fun pos pins s σ H Q I h => by
  obtain ⟨Γ, M, I', Fr, k, hs, hc, hf, hk⟩ := h
  exact pk_nil.run pos pins s σ H Q I (hk _ _ _ _ _ hf (Le.refl _) hc .nil)⟩
theorem k_cons {nm : Option Str} {kpos : Pos} {f : AE} (ha : PE X e (lift X.K f)) (hr : PK X kws (liftA X.K g)) : PK X (⟨nm, e, kpos⟩ :: kws) (liftA X.K (aCons f g)) := ⟨fun pos pins s σ H Q I h =>
  (pk_cons ha hr).run pos pins s σ H Q I (lift_cons σ H Q h)⟩
theorem e_callK (G : FnOk X.prog X.w X.K X.mg X.base CX0 j f fd ps (liftF X.K F)) (hr : Room k X.A) (hjk : j ≤ k) (hm : X.mg x = some (.ref f)) (hk : PySem.W.keepIn X.K (.ref f) = true) (hb : BK X.K fd ps n ks ix ds) (hd : Dfl X.K dds dvs ds) (ha : PA X (e :: es) (liftA X.K g)) (hkw : PK X kws (liftA X.K gk)) (hg : Gl X x := by rfl)
    (hall : (backToKw pos (keywordEach kws X.env)).all (·.1.isSome) = true := by rfl) (hks : (backToKw pos (keywordEach kws X.env)).filterMap (·.1) = ks := by rfl)
    (hdb : (x == ("__debug__" : Str)) = false := by decide) (he : starEach (e :: es) X.env = (false, eval e X.env) :: starEach es X.env := by rfl)
    (hpl : ((backTo pos (starEach (e :: es) X.env)).any (·.1) || (backToKw pos (keywordEach kws X.env)).any (·.1.isNone)) = false := by rfl) :
    PE X (.Call (.Name x p) (e :: es) kws pos) (lift X.K (aCallK noX F n ks.length ix dds g gk)) :=
  (pe_callN (G.mono hjk) hr hg hm hk (hb.kbn hd.val) pass0 ha hkw hall hks hdb he hpl).imp fun σ H Q h => lift_callK hd.rel h
theorem e_callK0 (G : FnOk X.prog X.w X.K X.mg X.base CX0 j f fd ps (liftF X.K F)) (hr : Room k X.A) (hjk : j ≤ k) (hm : X.mg x = some (.ref f)) (hk : PySem.W.keepIn X.K (.ref f) = true) (hb : BK X.K fd ps 0 ks ix ds) (hd : Dfl X.K dds dvs ds) (hkw : PK X kws (liftA X.K gk)) (hg : Gl X x := by rfl)
    (hall : (backToKw pos (keywordEach kws X.env)).all (·.1.isSome) = true := by rfl) (hks : (backToKw pos (keywordEach kws X.env)).filterMap (·.1) = ks := by rfl)
    (hdb : (x == ("__debug__" : Str)) = false := by decide)
    (hpl : ((backTo pos (starEach [] X.env)).any (·.1) || (backToKw pos (keywordEach kws X.env)).any (·.1.isNone)) = false := by rfl) :
    PE X (.Call (.Name x p) [] kws pos) (lift X.K (aCallK noX F 0 ks.length ix dds aNil gk)) := by
  refine ⟨fun pins s σ H Q I h => ?_⟩
  refine PySem.wpAny_Call_Name_kw (ld_glob I hg hm ?_ hdb)
  have h := lift_callK hd.rel h
  obtain ⟨Γ, M, I', Fr, k', hs, hc, hf, hk'⟩ := h
  have h2 := hk' _ _ _ _ _ hf (Le.refl _) hc .nil
  refine PySem.W.callWith_KW0 (h₀ := X.base) I.ok.mod.kin hk hall (thn (hkw.run pos pins s σ H _ I h2) fun ws s2 ⟨zs, H2, I2, rz, l1, l2, q2⟩ => ⟨I2.kIn, ?_⟩) hpl
  rw [hks]
  exact run_fnN (G.mono hjk) hr (hb.kbn hd.val) pass0 I2 .nil rz l1 l2 q2
end

/-! ### list methods -/
section
variable {f : AE} {g : AA} {apos cpos : Pos}
theorem e_append (ho : PE X o (lift X.K f)) (ha : PA X (e :: es) (liftA X.K g)) (hbase : attributeBase o "append" X.env (eval o X.env) = eval o X.env := by rfl)
    (hfew : ((backTo cpos (starEach (e :: es) X.env)).all (fun x => !x.1) && (backToKw cpos (keywordEach [] X.env)).all (fun x => x.1.isSome)
      && decide ((e :: es).length + ([] : List Keyword).length + (if ([] : List Keyword).isEmpty then 0 else 1) < 30)) = true := by rfl)
    (hline : (apos.endLine == cpos.line) = true := by rfl) (hs : starEach (e :: es) X.env = (false, eval e X.env) :: starEach es X.env := by rfl) (hplain : (backTo cpos (starEach es X.env)).any (·.1) = false := by rfl) :
    PE X (.Call (.Attribute o "append" apos) (e :: es) [] cpos) (lift X.K (aMt mAppend f g)) := (pe_bm PySem.F.plainAttrs_list PySem.F.slot_list_append PySem.F.type_list_append mt_append ho ha hbase hfew hline hs hplain).imp (lift_Mt mAppend_ok)
theorem e_extend (ho : PE X o (lift X.K f)) (ha : PA X (e :: es) (liftA X.K g)) (hbase : attributeBase o "extend" X.env (eval o X.env) = eval o X.env := by rfl)
    (hfew : ((backTo cpos (starEach (e :: es) X.env)).all (fun x => !x.1) && (backToKw cpos (keywordEach [] X.env)).all (fun x => x.1.isSome)
      && decide ((e :: es).length + ([] : List Keyword).length + (if ([] : List Keyword).isEmpty then 0 else 1) < 30)) = true := by rfl)
    (hline : (apos.endLine == cpos.line) = true := by rfl) (hs : starEach (e :: es) X.env = (false, eval e X.env) :: starEach es X.env := by rfl) (hplain : (backTo cpos (starEach es X.env)).any (·.1) = false := by rfl) :
    PE X (.Call (.Attribute o "extend" apos) (e :: es) [] cpos) (lift X.K (aMt mExtend f g)) := (pe_bm PySem.F.plainAttrs_list PySem.F.slot_list_extend PySem.F.type_list_extend mt_extend ho ha hbase hfew hline hs hplain).imp (lift_Mt mExtend_ok)
theorem e_popI (ho : PE X o (lift X.K f)) (ha : PA X (e :: es) (liftA X.K g)) (hbase : attributeBase o "pop" X.env (eval o X.env) = eval o X.env := by rfl)
    (hfew : ((backTo cpos (starEach (e :: es) X.env)).all (fun x => !x.1) && (backToKw cpos (keywordEach [] X.env)).all (fun x => x.1.isSome)
      && decide ((e :: es).length + ([] : List Keyword).length + (if ([] : List Keyword).isEmpty then 0 else 1) < 30)) = true := by rfl)
    (hline : (apos.endLine == cpos.line) = true := by rfl) (hs : starEach (e :: es) X.env = (false, eval e X.env) :: starEach es X.env := by rfl) (hplain : (backTo cpos (starEach es X.env)).any (·.1) = false := by rfl) :
    PE X (.Call (.Attribute o "pop" apos) (e :: es) [] cpos) (lift X.K (aMt mPop f g)) := (pe_bm PySem.F.plainAttrs_list PySem.F.slot_list_pop PySem.F.type_list_pop (MtR.or mt_pop mt_popAt) ho ha hbase hfew hline hs hplain).imp (lift_Mt mPop_ok)
theorem e_pop (ho : PE X o (lift X.K f)) (hbase : attributeBase o "pop" X.env (eval o X.env) = eval o X.env := by rfl) (hline : (apos.endLine == cpos.line) = true := by rfl) :
    PE X (.Call (.Attribute o "pop" apos) [] [] cpos) (lift X.K (aMt0 mPop f)) := (pe_bm0 PySem.F.plainAttrs_list PySem.F.slot_list_pop PySem.F.type_list_pop (MtR.or mt_pop mt_popAt) ho hbase hline).imp (lift_Mt0 mPop_ok)
theorem e_reverse (ho : PE X o (lift X.K f)) (hbase : attributeBase o "reverse" X.env (eval o X.env) = eval o X.env := by rfl) (hline : (apos.endLine == cpos.line) = true := by rfl) :
    PE X (.Call (.Attribute o "reverse" apos) [] [] cpos) (lift X.K (aMt0 mReverse f)) := (pe_bm0 PySem.F.plainAttrs_list PySem.F.slot_list_reverse PySem.F.type_list_reverse mt_reverse ho hbase hline).imp (lift_Mt0 mReverse_ok)
theorem e_clear (ho : PE X o (lift X.K f)) (hbase : attributeBase o "clear" X.env (eval o X.env) = eval o X.env := by rfl) (hline : (apos.endLine == cpos.line) = true := by rfl) :
    PE X (.Call (.Attribute o "clear" apos) [] [] cpos) (lift X.K (aMt0 mClear f)) := (pe_bm0 PySem.F.plainAttrs_list PySem.F.slot_list_clear PySem.F.type_list_clear mt_clear ho hbase hline).imp (lift_Mt0 mClear_ok)
end
/-! ### o[i] = v -/
def stIx : D → D → D → MH → (MH → Prop) → Prop := fun o i v M k => match i with
  | .int j => wrL o M fun a ds => match ixN ds.length j with
    | some n => k (up M a (.obj (.lst (ds.set n v))))
    | none => False
  | _ => False
def gIx (fo fi : AE) : AG := fun d Γ M k => fo Γ M fun o M1 => fi Γ M1 fun i M2 => stIx o i d M2 fun M3 => k Γ M3
theorem g_ix {i : Expr} {fo fi : AE} (ho : PE X o (lift X.K fo)) (hi : PE X i (lift X.K fi))
    (ha : ∀ v, assign (.Subscript o i pos) X.env v = (do
      let ov ← holding [v] (eval o X.env)
      let iv ← holding [v, ov] (eval i X.env)
      standAt pos
      holding [v, ov, iv] (setItem ov iv v)
      release [v, ov, iv] []) := by intro _; rfl) : PG X (.Subscript o i pos) (liftG X.K (gIx fo fi)) :=
  (pg_sub ho hi set_list ha).imp fun v σ H Q ⟨d, Γ, M, I, F, k, r, hs, hc, hf, hk⟩ =>
  ⟨Γ, M, I, F, _, hs, hc, hf, fun od M1 ov H1 I1 h1 l1 c1 r1 => ⟨Γ, M1, I1, F, _, hs.le l1, c1, h1, fun id M2 iv H2 I2 h2 l2 c2 r2 => by
    unfold stIx at h2
    split at h2
    · rename_i j
      rw [Rel] at r2; subst r2
      obtain ⟨a, ds, ws, rfl, hM, hH, hr, q⟩ := wrL_ok h2 c2 (Rel.le l2 _ _ r1)
      split at q
      · rename_i n e0
        rw [hr.length] at e0
        exact ⟨a, ws, j, n, rfl, rfl, hH, e0, hk _ _ _ _ _ q (l1.trans l2) (c2.set hM ⟨_, upd_same, hr.set n (Rel.le (l1.trans l2) _ _ r)⟩) (hs.le (l1.trans l2))⟩
      · exact q.elim
    · exact h2.elim⟩⟩
/-- a list of the small heap is frozen -/
def aFrz (f : AE) : AE := fun Γ M k => f Γ M fun d M1 => match d with
  | .ref a => (match M1 a with
    | some (.obj (.lst ds)) => k (.lst ds) (dl M1 a)
    | _ => False)
  | .lst ds => k (.lst ds) M1
  | _ => False
theorem e_frz {f : AE} (h : PE X e (lift X.K f)) : PE X e (lift X.K (aFrz f)) := h.imp fun σ H Q ⟨Γ, M, I, F, k, hs, hc, hf, hk⟩ =>
  ⟨Γ, M, I, F, _, hs, hc, hf, fun d M1 v H1 I1 h1 l1 c1 r1 => by
    split at h1
    · rename_i a
      split at h1
      · rename_i ds e0
        obtain ⟨vs, h2, h3, c2, l2⟩ := c1.freeze e0
        rw [Rel] at r1
        exact hk _ _ _ _ _ h1 (l1.trans l2) c2 (by rw [Rel]; exact ⟨a, vs, r1, upd_same, Rels.le l2 _ _ h3⟩)
      · exact h1.elim
    · exact hk _ _ _ _ _ h1 l1 c1 r1
    · exact h1.elim⟩
end
end M
/-! MMore: isinstance, in, augmented stores. -/
namespace M
open PySem L2
section
variable {X : Cx} {e a b c o : Expr} {es : List Expr} {pos p p2 : Pos} {K : PySem.W.Frag}
/-! ### isinstance -/
def tyD (M : MH) : D → Option String
  | .non => some "NoneType"
  | .bl _ => some "bool"
  | .int _ => some "int"
  | .str _ => some "str"
  | .tup _ => some "tuple"
  | .lst _ => some "list"
  | .scr _ => some "list"
  | .ref a => match M a with
    | some (.obj (.lst _)) => some "list"
    | some (.obj (.dic _)) => some "dict"
    | _ => none
  | .ty _ => none
  | .exc _ _ => none
theorem tyD_ok {M : MH} {H I F : Hp} {d : D} {v : V} {t : String} (h : tyD M d = some t) (c : Conc K H I M F) (r : Rel K I d v) : TyX K H v (.type t) := by
  cases d with
  | non => cases h; rw [Rel] at r; subst r; exact .base .non
  | bl b => cases h; rw [Rel] at r; subst r; exact .base (.bl b)
  | int b => cases h; rw [Rel] at r; subst r; exact .base (.int b)
  | str b => cases h; rw [Rel] at r; subst r; exact .base (.str b)
  | tup ds =>
    cases h; rw [Rel] at r
    obtain ⟨q, vs, rfl, g, _⟩ := r
    rcases g with g | ⟨ob, its, n, g1, g2, _⟩
    · exact .base (.tup (c.sub _ _ g))
    · exact .kTuple g1 g2
  | lst ds =>
    cases h; rw [Rel] at r
    obtain ⟨q, vs, rfl, g, _⟩ := r
    exact .base (.lst (c.sub _ _ g))
  | scr ds =>
    cases h; rw [Rel] at r
    obtain ⟨q, rfl, g⟩ := r
    rcases g with (g | ⟨ob, g⟩) | ⟨ob, its, n, g1, g2, _⟩
    · exact .base (.lst (c.sub _ _ g))
    · exact .base (.frz (c.sub _ _ g))
    · exact .kList g1 g2
  | ref q =>
    rw [Rel] at r; subst r
    have h : (match M q with
      | some (.obj (.lst _)) => some "list"
      | some (.obj (.dic _)) => some "dict"
      | _ => none) = some t := h
    split at h
    · rename_i ds e0
      cases h
      obtain ⟨vs, h1, _⟩ := c.rel q _ e0
      exact .base (.lst h1)
    · rename_i ds e0
      cases h
      obtain ⟨vs, h1, _⟩ := c.rel q _ e0
      exact .base (.dK h1)
    · cases h
  | ty n => cases h
  | exc C w => cases h
def cIsi : AC := fun ds M k => match ds with
  | [d, .ty T] => (match tyD M d with
    | some t => (match kitB t T with
      | some b => k (.bl b) M
      | none => False)
    | none => False)
  | _ => False
theorem cIsi_ok : OkC K (rIsi K) cIsi := by
  intro ds M k vs H I F Q h c r hk
  unfold cIsi at h
  split at h
  · rename_i d T
    obtain ⟨v, u, rfl, r1, r2⟩ := rels2 r
    rw [Rel] at r2; subst r2
    split at h
    · rename_i t e0
      split at h
      · rename_i b e1
        exact ⟨v, _, _, _, b, rfl, .ty T, tyD_ok e0 c r1, kit_ty e1, hk _ _ _ _ _ h (Le.refl I) c (by rw [Rel])⟩
      · exact h.elim
    · exact h.elim
  · exact h.elim
/-- a built-in class as a value -/
theorem e_ty {x : Str} {n : String} {pos : Pos} (hm : X.mg x = none) (hv : bootBuiltins x = some (.type n)) (hg : Gl X x := by rfl) (hn : x ≠ "__name__" := by decide) (hd : (x == ("__debug__" : Str)) = false := by decide) : PE X (.Name x pos) (lift X.K (aC (.ty n))) :=
  (pe_bltn (v := .ty n) hg hm hv rfl hn hd).imp (lift_c fun _ => by rw [Rel])
theorem e_isi {g : AA} {p pos : Pos} (hm : X.mg "isinstance" = none) (ha : PA X (e :: es) (liftA X.K g)) (hg : Gl X "isinstance" := by rfl) (he : starEach (e :: es) X.env = (false, eval e X.env) :: starEach es X.env := by rfl) (hpl : (backTo pos (starEach es X.env)).any (·.1) = false := by rfl) :
    PE X (.Call (.Name "isinstance" p) (e :: es) [] pos) (lift X.K (aCB cIsi g)) := e_callB call_isi cIsi_ok hm (by decide +kernel) ha hg (by decide) (by decide) he hpl

/-! ### in, not in: ints in a list; a sign in a text -/
def bIn (neg : Bool) : AB := fun d e M k => match d with
  | .int i => (match (rdS M e).bind intsOf with
    | some ns => k (.bl (if neg then !decide (i ∈ ns) else decide (i ∈ ns))) M
    | none => False)
  | _ => False
theorem inV_ints {i : Int} : ∀ {ns : List Int}, inV (.int i) (ns.map V.int) = decide (i ∈ ns)
  | [] => by simp [inV]
  | n :: ns => by
    have ih := inV_ints (i := i) (ns := ns)
    unfold inV at ih ⊢
    rw [List.map_cons, List.any_cons, ih]
    have : eqV (.int n) (.int i) = decide (i = n) := by
      by_cases q : i = n
      · subst q; simp [eqV]
      · have : ¬ n = i := fun z => q z.symm
        simp [eqV, q, this]
    rw [this]
    by_cases q : i = n <;> by_cases q2 : i ∈ ns <;> simp [q, q2]
theorem flat_ints {ns : List Int} : (ns.map V.int).all flatV = true := by
  rw [List.all_eq_true]
  intro x hx
  obtain ⟨n, _, rfl⟩ := List.mem_map.mp hx
  rfl
theorem bIn_ok {neg : Bool} : OkB K (rIn K neg) (bIn neg) := by
  intro d e M k v u H I F Q h c r1 r2 hk
  unfold bIn at h
  split at h
  · rename_i i
    rw [Rel] at r1; subst r1
    split at h
    · rename_i ns e0
      obtain ⟨q, rfl, g⟩ := ints_ok e0 c r2
      refine ⟨q, _, rfl, .inl g, rfl, flat_ints, hk _ _ _ _ _ h (Le.refl I) c ?_⟩
      rw [Rel, inV_ints]
    · exact h.elim
  · exact h.elim
section
variable {fa fb : AE}
theorem e_in (ha : PE X a (lift X.K fa)) (hb : PE X b (lift X.K fb)) (hm : behindInMarks .In b = false := by with_unfolding_all rfl) : PE X (.Compare a [.In] [b] pos) (lift X.K (aOp (bIn false) fa fb)) := (pe_cmpR op_in_seq ha hb hm).imp (lift_op bIn_ok)
theorem e_notIn (ha : PE X a (lift X.K fa)) (hb : PE X b (lift X.K fb)) (hm : behindInMarks .NotIn b = false := by with_unfolding_all rfl) : PE X (.Compare a [.NotIn] [b] pos) (lift X.K (aOp (bIn true) fa fb)) := (pe_cmpR op_notIn_seq ha hb hm).imp (lift_op bIn_ok)
theorem t_in (ha : PE X a (lift X.K fa)) (hb : PE X b (lift X.K fb)) (hm : behindInMarks .In b = false := by with_unfolding_all rfl) : PT X (.Compare a [.In] [b] pos) (liftT X.K (aB (aOp (bIn false) fa fb))) := t_op op_in_seq bIn_ok ha hb hm
theorem t_notIn (ha : PE X a (lift X.K fa)) (hb : PE X b (lift X.K fb)) (hm : behindInMarks .NotIn b = false := by with_unfolding_all rfl) : PT X (.Compare a [.NotIn] [b] pos) (liftT X.K (aB (aOp (bIn true) fa fb))) := t_op op_notIn_seq bIn_ok ha hb hm
end
end
end M
/-! MathRat: fractions as data. -/
namespace M
open PySem L2
def frD (x : Rat) : D := .tup [.int x.num, .int (x.den : Int)]
@[irreducible] def b40 : Nat := 2 ^ 4000
@[irreducible] def b89 : Nat := 2 ^ 8990
theorem b40_eq : b40 = 2 ^ 4000 := by unfold b40; rfl
theorem b89_eq : b89 = 2 ^ 8990 := by unfold b89; rfl
/-- small: its parts are below 2 ^ 4000 -/
structure Sm (x : Rat) : Prop where
  num : x.num.natAbs < b40
  den : x.den < b40
theorem Sm.n {x : Rat} (h : Sm x) : x.num.natAbs < 2 ^ 4000 := by rw [← b40_eq]; exact h.num
theorem Sm.d {x : Rat} (h : Sm x) : (x.den : Int).natAbs < 2 ^ 4000 := by rw [← b40_eq]; exact h.den
theorem frD_inj {x y : Rat} (h : frD x = frD y) : x = y := by
  unfold frD at h
  injection h with h
  injection h with h1 h2
  injection h2 with h2 _
  injection h1 with h1
  injection h2 with h2
  exact Rat.ext h1 (by exact_mod_cast h2)
theorem mul_ok {i j : Int} {m n : Nat} (hi : i.natAbs < 2 ^ m) (hj : j.natAbs < 2 ^ n) (hm : 0 < m) (hn : 0 < n) (h : m + n ≤ 1000000) : IntMulOk i j := (wide_mul hi hj hm hn h).ok
theorem mul_okL {i j : Int} (h1 : -(2 ^ 64) < i) (h2 : i < 2 ^ 64) : IntMulOk i j := .of_left (intBits_le_64 h1 h2)
theorem mul_okR {i j : Int} (h1 : -(2 ^ 64) < j) (h2 : j < 2 ^ 64) : IntMulOk i j := .of_right (intBits_le_64 h1 h2)
/-- the greatest common divisor by remainders -/
theorem gcd_step {x y : Int} (hx : 0 < x) (hy : 0 ≤ y) : Nat.gcd (y % x).toNat x.toNat = Nat.gcd x.toNat y.toNat := by
  have h : (y % x).toNat = y.toNat % x.toNat := by
    rw [Int.toNat_emod hy (Int.le_of_lt hx)]
  rw [h]
  exact (Nat.gcd_rec x.toNat y.toNat).symm
theorem mkRat_num {a b : Int} (hb : 0 < b) : (mkRat a b.toNat).num = a / ((Nat.gcd a.natAbs b.toNat : Nat) : Int) := by
  rw [Rat.num_mkRat, if_neg (by omega), Nat.gcd_comm]
theorem mkRat_den {a b : Int} (hb : 0 < b) : ((mkRat a b.toNat).den : Int) = b / ((Nat.gcd a.natAbs b.toNat : Nat) : Int) := by
  rw [Rat.den_mkRat, if_neg (by omega), Nat.gcd_comm]
  have : ((b.toNat : Nat) : Int) = b := Int.toNat_of_nonneg (by omega)
  conv => rhs; rw [← this]
  exact Int.natCast_ediv _ _
theorem Sm.mnd {x y : Rat} (hx : Sm x) (hy : Sm y) : IntMulOk x.num (y.den : Int) := mul_ok hx.n hy.d (by decide) (by decide) (by decide)
theorem Sm.mdd {x y : Rat} (hx : Sm x) (hy : Sm y) : IntMulOk (x.den : Int) (y.den : Int) := mul_ok hx.d hy.d (by decide) (by decide) (by decide)
theorem Sm.mnn {x y : Rat} (hx : Sm x) (hy : Sm y) : IntMulOk x.num y.num := mul_ok hx.n hy.n (by decide) (by decide) (by decide)
theorem Sm.dd_pos {x y : Rat} : (0 : Int) < (x.den : Int) * (y.den : Int) := Int.mul_pos (by exact_mod_cast x.den_pos) (by exact_mod_cast y.den_pos)
theorem lt_b89 {n : Nat} {m : Nat} (h : n < 2 ^ m) (hm : m ≤ 8990) : n < b89 := by
  rw [b89_eq]; exact Nat.lt_of_lt_of_le h (Nat.pow_le_pow_right (by decide) hm)
theorem Sm.dd_lt {x y : Rat} (hx : Sm x) (hy : Sm y) : ((x.den : Int) * (y.den : Int)).natAbs < b89 := lt_b89 (wide_lt hx.d hy.d) (by decide)
theorem cdiv {i j : Int} (h : 0 < j) (hb : j.natAbs < b89) : CDivW i j := wide_div h (by rw [← b89_eq]; exact hb) (by decide) (by decide)
theorem dd_nat {x y : Rat} : ((x.den : Int) * (y.den : Int)).toNat = x.den * y.den := by
  rw [← Int.natCast_mul]; rfl
theorem add_rat (x y : Rat) : mkRat (x.num * (y.den : Int) + y.num * (x.den : Int)) ((x.den : Int) * (y.den : Int)).toNat = x + y := by
  rw [dd_nat]; exact (Rat.add_def' x y).symm
theorem sub_rat (x y : Rat) : mkRat (x.num * (y.den : Int) - y.num * (x.den : Int)) ((x.den : Int) * (y.den : Int)).toNat = x - y := by
  rw [dd_nat]; exact (Rat.sub_def' x y).symm
theorem mul_rat (x y : Rat) : mkRat (x.num * y.num) ((x.den : Int) * (y.den : Int)).toNat = x * y := by
  rw [dd_nat]; exact (Rat.mul_def' x y).symm
theorem lt_rat (x y : Rat) : decide (x.num * (y.den : Int) < y.num * (x.den : Int)) = decide (x < y) := by
  rw [decide_eq_decide]; exact (Rat.lt_iff x y).symm
theorem le_rat (x y : Rat) : decide (x.num * (y.den : Int) ≤ y.num * (x.den : Int)) = decide (x ≤ y) := by
  rw [decide_eq_decide]; exact (Rat.le_iff x y).symm
theorem den_pos' (x : Rat) : (0 : Int) < (x.den : Int) := by exact_mod_cast x.den_pos
/-! items by written places -/
section
variable {α : Type} {a b c d e f : α} {l : List α}
theorem atI_c0 : atI (a :: l) 0 = some a := atI_nat (xs := a :: l) (j := 0) rfl
theorem atI_c1 : atI (a :: b :: l) 1 = some b := atI_nat (xs := a :: b :: l) (j := 1) rfl
theorem atI_c2 : atI (a :: b :: c :: l) 2 = some c := atI_nat (xs := a :: b :: c :: l) (j := 2) rfl
theorem atI_c3 : atI (a :: b :: c :: d :: l) 3 = some d := atI_nat (xs := a :: b :: c :: d :: l) (j := 3) rfl
theorem atI_c4 : atI (a :: b :: c :: d :: e :: l) 4 = some e := atI_nat (xs := a :: b :: c :: d :: e :: l) (j := 4) rfl
end
/-- while over a state -/
def WNext {α : Type} (st : α → G) (sm : α → MH) (P : α → Prop) (μ : α → Nat) (a : α) : G → MH → Prop := fun Γ' M' => ∃ m', m' < μ a ∧ ∃ a', st a' = Γ' ∧ sm a' = M' ∧ P a' ∧ μ a' = m'
theorem WNext.of {α : Type} {st : α → G} {sm : α → MH} {P : α → Prop} {μ : α → Nat} {a : α} {Γ : G} {M : MH} (a' : α) (h1 : st a' = Γ) (h2 : sm a' = M) (h3 : P a') (h4 : μ a' < μ a) : WNext st sm P μ a Γ M := ⟨_, h4, a', h1, h2, h3, rfl⟩
theorem while_st {α : Type} {c : AT} {b : AS} {D : AD} {Γ : G} {M : MH} (st : α → G) (sm : α → MH) (P : α → Prop) (μ : α → Nat) (a0 : α) (h0 : P a0) (hΓ : st a0 = Γ) (hM : sm a0 = M)
    (step : ∀ a, P a → c (st a) (sm a) fun t M1 => if t = true then b { nx := WNext st sm P μ a, rt := D.rt, bk := D.nx, ct := WNext st sm P μ a, ex := D.ex } (st a) M1 else D.nx (st a) M1) : aWhile c b D Γ M := by
  refine ⟨fun m Γ' M' => ∃ a, st a = Γ' ∧ sm a = M' ∧ P a ∧ μ a = m, ⟨μ a0, a0, hΓ, hM, h0, rfl⟩, ?_⟩
  rintro m Γ' M' ⟨a, rfl, rfl, ha, rfl⟩
  exact step a ha
/-- for over a list of items: the state behind each -/
theorem for_st {w : AI} {g : AG} {b : AS} {D : AD} {Γ : G} {M : MH} {A : AIt} {k : AIt → MH → Prop} (W : Nat → G → MH → Prop) (h0 : W 0 Γ M)
    (step : ∀ i Γ M x, A.items[i]? = some x → W i Γ M → A.ok M ∧ g x Γ M fun Γ' M' => b { nx := W (i + 1), rt := D.rt, bk := D.nx, ct := W (i + 1), ex := D.ex } Γ' M')
    (hend : ∀ Γ M, W A.items.length Γ M → A.ok M ∧ D.nx Γ M) :
    ∃ W : Nat → G → MH → Prop, W 0 Γ M ∧ ∀ i Γ M, i ≤ A.items.length → W i Γ M → A.ok M ∧ match A.items[i]? with
      | none => D.nx Γ M
      | some x => g x Γ M fun Γ' M' => b { nx := W (i + 1), rt := D.rt, bk := D.nx, ct := W (i + 1), ex := D.ex } Γ' M' := by
  refine ⟨W, h0, fun i Γ M hi w => ?_⟩
  cases q : A.items[i]? with
  | none =>
    have := List.getElem?_eq_none_iff.mp q
    have e : i = A.items.length := Nat.le_antisymm hi this
    subst e
    exact hend Γ M w
  | some x => exact step i Γ M x q w
end M
/-! MEv: the transformers from behind, one step each. -/
namespace M
open PySem L2
theorem rdL_ref {M : MH} {a : Addr} {ds : List D} (h : M a = some (.obj (.lst ds))) : rdL M (.ref a) = some ds := by
  show (match M a with | some (.obj (.lst ds)) => some ds | _ => none) = some ds
  rw [h]
theorem rdS_ref {M : MH} {a : Addr} {ds : List D} (h : M a = some (.obj (.lst ds))) : rdS M (.ref a) = some ds := rdL_ref h
section
variable {Z : AD} {Γ : G} {M : MH} {k : AK} {kt : Bool → MH → Prop} {ka : List D → MH → Prop} {ko : Option Int → MH → Prop} {kg : G → MH → Prop} {s t : AS} {f g fa fb fc : AE} {c c' : AT} {ga gb : AA} {i j : Int} {n m : Nat} {d e : D} {ds es : List D} {b : Bool} {a : Addr} {op : AB} {x y : Str}
theorem iSeq (h : s { Z with nx := fun Γ M => t Z Γ M } Γ M) : aSeq s t Z Γ M := h
theorem iNext (h : Z.nx Γ M) : aNext Z Γ M := h
theorem iDrop (h : f Γ M fun _ M1 => Z.nx Γ M1) : aDrop f Z Γ M := h
theorem iRet (h : f Γ M Z.rt) : aRet f Z Γ M := h
theorem iRetN (h : Z.rt .non M) : aRetN Z Γ M := h
theorem iIfS (h : c Γ M fun b M1 => if b = true then s Z Γ M1 else t Z Γ M1) : aIfS c s t Z Γ M := h
theorem iSet (h : f Γ M fun d M1 => Z.nx (Γ.set n (some d)) M1) : aSet n f Z Γ M := h
theorem iPar (h : ga Γ M fun ds M1 => match ds with | [d, e] => Z.nx ((Γ.set n (some d)).set m (some e)) M1 | _ => False) : aPar n m ga Z Γ M := h
theorem iAsg {g : AG} (h : f Γ M fun d M1 => g d Γ M1 Z.nx) : aAsg f g Z Γ M := h
theorem iVar (h : k d M) (e : Γ[n]? = some (some d)) : aVar n Γ M k := by unfold aVar; rw [e]; exact h
theorem iC (h : k d M) : aC d Γ M k := h
theorem iOp (h : fa Γ M fun d M1 => fb Γ M1 fun e M2 => op d e M2 k) : aOp op fa fb Γ M k := h
theorem iAddI (h : k (.int (i + j)) M) : bAdd b (.int i) (.int j) M k := h
theorem iAddS (h : k (.str (x ++ y)) M) (l : x.length + y.length ≤ sizeLine) : bAdd b (.str x) (.str y) M k := ⟨l, h⟩
theorem iAddL (h : nl b (ds ++ es) M k) (l : ds.length + es.length ≤ sizeLine) : bAdd b (.lst ds) (.lst es) M k := ⟨l, h⟩
theorem iAddRL {a : Addr} (h : nl b (ds ++ es) M k) (h1 : M a = some (.obj (.lst ds))) (l : ds.length + es.length ≤ sizeLine) : bAdd b (.ref a) (.lst es) M k := by
  show match rdL M (.ref a), rdL M (.lst es) with | some ds, some es => ds.length + es.length ≤ sizeLine ∧ nl b (ds ++ es) M k | _, _ => False
  have : rdL M (.ref a) = some ds := rdL_ref h1
  rw [this]; exact ⟨l, h⟩
theorem iSub (h : k (.int (i - j)) M) : bSub (.int i) (.int j) M k := h
theorem iMul (h : k (.int (i * j)) M) (l : IntMulOk i j) : bMul (.int i) (.int j) M k := ⟨l, h⟩
theorem iFdiv (h : k (.int (i / j)) M) (l : CDivW i j) : bFdiv (.int i) (.int j) M k := ⟨l, h⟩
theorem iMod (h : k (.int (i % j)) M) (l : 0 < j) : bMod (.int i) (.int j) M k := ⟨l, h⟩
theorem iPow (h : k (.int (i ^ j.toNat)) M) (l : CPow i j) : bPow (.int i) (.int j) M k := ⟨l, h⟩
theorem iLt (h : k (.bl (decide (i < j))) M) : bLt (.int i) (.int j) M k := h
theorem iLe (h : k (.bl (decide (i ≤ j))) M) : bLe (.int i) (.int j) M k := h
theorem iGt (h : k (.bl (decide (j < i))) M) : bGt (.int i) (.int j) M k := h
theorem iGe (h : k (.bl (decide (j ≤ i))) M) : bGe (.int i) (.int j) M k := h
theorem iEqI (h : k (.bl (decide (i = j))) M) : bEq false (.int i) (.int j) M k := h
theorem iNeI (h : k (.bl (!decide (i = j))) M) : bEq true (.int i) (.int j) M k := h
theorem iEqS (h : k (.bl (decide (x = y))) M) : bEq false (.str x) (.str y) M k := h
theorem iNeS (h : k (.bl (!decide (x = y))) M) : bEq true (.str x) (.str y) M k := h
theorem iIsN (h : k (.bl d.isNon) M) : bIsN d .non M k := h
theorem iNotN (h : k (.bl !d.isNon) M) : bNotN d .non M k := h
theorem iNeg (h : f Γ M fun d M1 => match d with | .int i => k (.int (-i)) M1 | _ => False) : aNeg f Γ M k := h
theorem iB (h : f Γ M fun d M1 => match d with | .bl b => kt b M1 | _ => False) : aB f Γ M kt := h
theorem iAnd (h : c Γ M fun b M1 => if b = true then c' Γ M1 kt else kt false M1) : aAnd c c' Γ M kt := h
theorem iOr (h : c Γ M fun b M1 => if b = true then kt true M1 else c' Γ M1 kt) : aOr c c' Γ M kt := h
theorem iNot (h : c Γ M fun b M1 => kt (!b) M1) : aNot c Γ M kt := h
theorem iAndV (h : f Γ M fun d M1 => match d with | .bl b => if b = true then g Γ M1 k else k (.bl false) M1 | _ => False) : aAndV f g Γ M k := h
theorem iOrV (h : f Γ M fun d M1 => match d with | .bl b => if b = true then k (.bl true) M1 else g Γ M1 k | _ => False) : aOrV f g Γ M k := h
theorem iNotV (h : f Γ M fun d M1 => match d with | .bl b => k (.bl !b) M1 | _ => False) : aNotV f Γ M k := h
theorem iIf (h : c Γ M fun b M1 => if b = true then f Γ M1 k else g Γ M1 k) : aIf c f g Γ M k := h
theorem iNil (h : ka [] M) : aNil Γ M ka := h
theorem iCons (h : f Γ M fun d M1 => ga Γ M1 fun ds M2 => ka (d :: ds) M2) : aCons f ga Γ M ka := h
theorem iTup (h : ga Γ M fun ds M1 => ds.length ≤ sizeLine ∧ k (.tup ds) M1) : aTup ga Γ M k := h
theorem iLst (h : ga Γ M fun ds M1 => ds.length ≤ sizeLine ∧ nl b ds M1 k) : aLst b ga Γ M k := h
theorem iNlF (h : k (.lst ds) M) : nl false ds M k := h
theorem iNlT (h : ∀ p, M p = none → k (.ref p) (up M p (.obj (.lst ds)))) : nl true ds M k := h
theorem iCB {op : AC} (h : ga Γ M fun ds M1 => op ds M1 k) : aCB op ga Γ M k := h
theorem iCall {F : AF} {x : EK} (h : ga Γ M fun ds M1 => F (ds ++ es) M1 k x) : aCall x F es ga Γ M k := h
theorem iCallK {F : AF} {x : EK} {ix : List Nat} (h : ga Γ M fun ds M1 => gb Γ M1 fun us M2 => ds.length = n ∧ us.length = m ∧ F (pick ix (ds ++ us ++ es)) M2 k x) : aCallK x F n m ix es ga gb Γ M k := h
theorem iIxT (h : k e M) (q : atI ds i = some e) : bIx (.tup ds) (.int i) M k := by
  show match atI ds i with | some x => k x M | none => False
  rw [q]; exact h
theorem iIxL (h : k e M) (q : atI ds i = some e) : bIx (.lst ds) (.int i) M k := by
  show match atI ds i with | some x => k x M | none => False
  rw [q]; exact h
theorem iIxR (h : k e M) (q1 : M a = some (.obj (.lst ds))) (q : atI ds i = some e) : bIx (.ref a) (.int i) M k := by
  show match rdL M (.ref a) with | some ds => (match atI ds i with | some x => k x M | none => False) | none => False
  have : rdL M (.ref a) = some ds := rdL_ref q1
  rw [this]; show match atI ds i with | some x => k x M | none => False
  rw [q]; exact h
theorem iIxSc {ns : List Int} (h : k e M) (q : atI (ns.map D.int) i = some e) : bIx (.scr ns) (.int i) M k := by
  show match atI (ns.map D.int) i with | some x => k x M | none => False
  rw [q]; exact h
theorem iNoPart (h : ko none M) : aNoPart Γ M ko := h
theorem iPart (h : f Γ M fun d M1 => match d with | .int i => ko (some i) M1 | _ => False) : aPart f Γ M ko := h
theorem iCut {l u : AO} (h : f Γ M fun d M1 => l Γ M1 fun lo M2 => u Γ M2 fun hi M3 => sCut b d lo hi M3 k) : aCut b f l u Γ M k := h
theorem iCutL {lo hi : Option Int} (h : nl b (cutD ds lo hi) M k) : sCut b (.lst ds) lo hi M k := h
theorem iCutSc {ns : List Int} {lo hi : Option Int} (h : nl b (cutD (ns.map D.int) lo hi) M k) : sCut b (.scr ns) lo hi M k := h
theorem iCutS {lo hi : Option Int} (h : k (.str (cutS x lo hi)) M) (l : x.length ≤ sizeLine) : sCut b (.str x) lo hi M k := ⟨l, h⟩
theorem iCutR {lo hi : Option Int} (h : nl b (cutD ds lo hi) M k) (q : M a = some (.obj (.lst ds))) : sCut b (.ref a) lo hi M k := by
  show match rdL M (.ref a) with | some ds => nl b (cutD ds lo hi) M k | none => False
  have : rdL M (.ref a) = some ds := rdL_ref q
  rw [this]; exact h
theorem iLenT (h : k (.int ds.length) M) : cLen [.tup ds] M k := h
theorem iLenL (h : k (.int ds.length) M) : cLen [.lst ds] M k := h
theorem iLenSc {ns : List Int} (h : k (.int ns.length) M) : cLen [.scr ns] M k := by
  show k (.int ((ns.map D.int).length : Nat)) M
  rw [List.length_map]; exact h
theorem iLenS (h : k (.int x.length) M) (l : x.length ≤ sizeLine) : cLen [.str x] M k := ⟨l, h⟩
theorem iLenR (h : k (.int ds.length) M) (q : M a = some (.obj (.lst ds))) : cLen [.ref a] M k := by
  show match rdL M (.ref a) with | some xs => k (.int xs.length) M | none => False
  have : rdL M (.ref a) = some ds := rdL_ref q
  rw [this]; exact h
theorem iAbs (h : k (.int (if i < 0 then -i else i)) M) : cAbs [.int i] M k := h
theorem iMax2 (h : k (.int (if j > i then j else i)) M) : cMax2 [.int i, .int j] M k := h
theorem iMin2 (h : k (.int (if j < i then j else i)) M) : cMin2 [.int i, .int j] M k := h
theorem iSumL {ns : List Int} (h : k (.int ns.sum) M) : cSum [.lst (ns.map .int)] M k := by
  show match (some (ns.map D.int)).bind intsOf with | some ns => k (.int ns.sum) M | none => False
  rw [Option.bind_some, intsOf_map]; exact h
theorem iListL (h : nl b ds M k) : cList b [.lst ds] M k := h
theorem iListT (h : nl b ds M k) : cList b [.tup ds] M k := h
theorem iListR (h : nl b ds M k) (q : M a = some (.obj (.lst ds))) : cList b [.ref a] M k := by
  show match rdL M (.ref a) with | some xs => nl b xs M k | none => False
  have : rdL M (.ref a) = some ds := rdL_ref q
  rw [this]; exact h
theorem iIsi {t T : String} (h : k (.bl b) M) (q1 : tyD M d = some t) (q2 : kitB t T = some b) : cIsi [d, .ty T] M k := by
  show match tyD M d with | some t => (match kitB t T with | some b => k (.bl b) M | none => False) | none => False
  rw [q1]; show match kitB t T with | some b => k (.bl b) M | none => False
  rw [q2]; exact h
theorem iMt {op : AM} (h : f Γ M fun d M1 => match rdL M1 d with | some _ => ga Γ M1 fun ds M2 => op d ds M2 k | none => False) : aMt op f ga Γ M k := h
theorem iMt0 {op : AM} (h : f Γ M fun d M1 => match rdL M1 d with | some _ => op d [] M1 k | none => False) : aMt0 op f Γ M k := h
/-- a list of the small heap stands at a -/
theorem iRdR {p : Prop} (h : p) (q : M a = some (.obj (.lst ds))) : (match rdL M (.ref a) with | some _ => p | none => False) := by
  have : rdL M (.ref a) = some ds := rdL_ref q
  rw [this]; exact h
theorem iAppend (h : k .non (up M a (.obj (.lst (ds ++ [d]))))) (q : M a = some (.obj (.lst ds))) (l : ds.length < sizeLine) : mAppend (.ref a) [d] M k := by
  show match M a with | some (.obj (.lst ds)) => ds.length < sizeLine ∧ k .non (up M a (.obj (.lst (ds ++ [d])))) | _ => False
  rw [q]; exact ⟨l, h⟩
theorem iExtendL (h : k .non (up M a (.obj (.lst (ds ++ es))))) (q : M a = some (.obj (.lst ds))) (l : ds.length + es.length ≤ sizeLine) : mExtend (.ref a) [.lst es] M k := by
  show match M a with | some (.obj (.lst ds)) => ds.length + es.length ≤ sizeLine ∧ k .non (up M a (.obj (.lst (ds ++ es)))) | _ => False
  rw [q]; exact ⟨l, h⟩
theorem iPop (h : k e (up M a (.obj (.lst ds.dropLast)))) (q : M a = some (.obj (.lst ds))) (l : ds[ds.length - 1]? = some e) : mPop (.ref a) [] M k := by
  show match M a with | some (.obj (.lst ds)) => (match ds[ds.length - 1]? with | some x => k x (up M a (.obj (.lst ds.dropLast))) | none => False) | _ => False
  rw [q]; show match ds[ds.length - 1]? with | some x => k x (up M a (.obj (.lst ds.dropLast))) | none => False
  rw [l]; exact h
theorem iPopI (h : k e (up M a (.obj (.lst (ds.eraseIdx n))))) (q : M a = some (.obj (.lst ds))) (b1 : -(2 ^ 63) ≤ i ∧ i < 2 ^ 63) (l : seqIndex? i ds.length = some n) (l2 : ds[n]? = some e) : mPop (.ref a) [.int i] M k := by
  show match M a with | some (.obj (.lst ds)) => (-(2 ^ 63) ≤ i ∧ i < 2 ^ 63) ∧ (match seqIndex? i ds.length with | some j => (match ds[j]? with | some x => k x (up M a (.obj (.lst (ds.eraseIdx j)))) | none => False) | none => False) | _ => False
  rw [q]; refine ⟨b1, ?_⟩
  show match seqIndex? i ds.length with | some j => (match ds[j]? with | some x => k x (up M a (.obj (.lst (ds.eraseIdx j)))) | none => False) | none => False
  rw [l]; show match ds[n]? with | some x => k x (up M a (.obj (.lst (ds.eraseIdx n)))) | none => False
  rw [l2]; exact h
theorem iReverse (h : k .non (up M a (.obj (.lst ds.reverse)))) (q : M a = some (.obj (.lst ds))) : mReverse (.ref a) [] M k := by
  show match M a with | some (.obj (.lst ds)) => k .non (up M a (.obj (.lst ds.reverse))) | _ => False
  rw [q]; exact h
theorem iClear (h : k .non (up M a (.obj (.lst [])))) (q : M a = some (.obj (.lst ds))) : mClear (.ref a) [] M k := by
  show match M a with | some (.obj (.lst ds)) => k .non (up M a (.obj (.lst []))) | _ => False
  rw [q]; exact h
theorem iGNm (h : kg (Γ.set n (some d)) M) : gNm n d Γ M kg := h
theorem iGTu {t : AGs} (h : t ds Γ M kg) (l : ds.length = n) : gTu n t (.tup ds) Γ M kg := ⟨l, h⟩
theorem iGCo {t : AG} {u : AGs} (h : t d Γ M fun Γ1 M1 => u ds Γ1 M1 kg) : gCo t u (d :: ds) Γ M kg := h
theorem iGNi (h : kg Γ M) : gNi [] Γ M kg := h
theorem iGIx {fo fi : AE} (h : fo Γ M fun o M1 => fi Γ M1 fun i M2 => stIx o i d M2 fun M3 => kg Γ M3) : gIx fo fi d Γ M kg := h
theorem iStIx {km : MH → Prop} (h : km (up M a (.obj (.lst (ds.set n d))))) (q : M a = some (.obj (.lst ds))) (l : ixN ds.length i = some n) : stIx (.ref a) (.int i) d M km := by
  show match M a with | some (.obj (.lst ds)) => (match ixN ds.length i with | some n => km (up M a (.obj (.lst (ds.set n d)))) | none => False) | _ => False
  rw [q]; show match ixN ds.length i with | some n => km (up M a (.obj (.lst (ds.set n d)))) | none => False
  rw [l]; exact h
theorem iFrz (h : f Γ M fun d M1 => match d with | .ref a => (match M1 a with | some (.obj (.lst ds)) => k (.lst ds) (dl M1 a) | _ => False) | .lst ds => k (.lst ds) M1 | _ => False) : aFrz f Γ M k := h
theorem iFrzR (h : k (.lst ds) (dl M a)) (q : M a = some (.obj (.lst ds))) : (match M a with | some (.obj (.lst ds)) => k (.lst ds) (dl M a) | _ => False) := by
  rw [q]; exact h
theorem iChain {p q : Int → Int → Bool} (h : fa Γ M fun d M1 => fb Γ M1 fun e M2 => match d, e with
  | .int i, .int j => if p i j = true then fc Γ M2 fun g M3 => match g with
      | .int l => k (.bl (q j l)) M3
      | _ => False
    else k (.bl false) M2
  | _, _ => False) : aChain p q fa fb fc Γ M k := h
theorem iInL {ns : List Int} (h : k (.bl (decide (i ∈ ns))) M) : bIn false (.int i) (.lst (ns.map .int)) M k := by
  show match (some (ns.map D.int)).bind intsOf with | some ns => k (.bl (if false then !decide (i ∈ ns) else decide (i ∈ ns))) M | none => False
  rw [Option.bind_some, intsOf_map]; exact h
theorem iNotInL {ns : List Int} (h : k (.bl (!decide (i ∈ ns))) M) : bIn true (.int i) (.lst (ns.map .int)) M k := by
  show match (some (ns.map D.int)).bind intsOf with | some ns => k (.bl (if true then !decide (i ∈ ns) else decide (i ∈ ns))) M | none => False
  rw [Option.bind_some, intsOf_map]; exact h
/-! what is walked -/
variable {kI : AIt → MH → Prop} {w : AI}
theorem iFor {g : AG} (h : w Γ M fun A M1 => ∃ W : Nat → G → MH → Prop, W 0 Γ M1 ∧ ∀ i Γ M, i ≤ A.items.length → W i Γ M → A.ok M ∧ match A.items[i]? with
  | none => Z.nx Γ M
  | some x => g x Γ M fun Γ' M' => s { nx := W (i + 1), rt := Z.rt, bk := Z.nx, ct := W (i + 1), ex := Z.ex } Γ' M') : aFor w g s Z Γ M := h
theorem iWLst (h : f Γ M fun d M1 => match rdS M1 d with | some ds => kI ⟨ds, fun M => rdS M d = some ds⟩ M1 | none => False) : wLst f Γ M kI := h
theorem iRg1_ (h : ga Γ M fun ds M1 => match ds with | [.int j] => (-(2 ^ 62) ≤ j ∧ j < 2 ^ 62) ∧ kI ⟨(rng 0 j.toNat).map .int, fun _ => True⟩ M1 | _ => False) : wRg1 ga Γ M kI := h
theorem iRg2_ (h : ga Γ M fun ds M1 => match ds with | [.int i, .int j] => (-(2 ^ 62) ≤ i ∧ i < 2 ^ 62 ∧ -(2 ^ 62) ≤ j ∧ j < 2 ^ 62) ∧ kI ⟨(rng i (j - i).toNat).map .int, fun _ => True⟩ M1 | _ => False) : wRg2 ga Γ M kI := h
theorem iEn_ (h : ga Γ M fun ds M1 => match ds with | [d] => (match rdS M1 d with | some xs => kI ⟨enumD 0 xs, fun M => rdS M d = some xs⟩ M1 | none => False) | _ => False) : wEn ga Γ M kI := h
theorem iZp_ (h : ga Γ M fun ds M1 => match ds with | [d, e] => (match rdS M1 d, rdS M1 e with | some xs, some ys => kI ⟨zipD xs ys, fun M => rdS M d = some xs ∧ rdS M e = some ys⟩ M1 | _, _ => False) | _ => False) : wZp ga Γ M kI := h
theorem iLc {g : AG} {vs : List Nat} (h : w Γ M fun A M1 => lcGo b A.ok g c f (wipeG Γ vs) A.items [] M1 fun ds M2 => nl b ds M2 k) : aLc b w g c f vs Γ M k := h
theorem iYes (h : kt true M) : aYes Γ M kt := h
end
theorem iteD {c : Prop} [Decidable c] {A B : Prop} (h1 : c → A) (h2 : ¬ c → B) : if decide c = true then A else B := by
  by_cases h : c
  · rw [if_pos (decide_eq_true h)]; exact h1 h
  · rw [if_neg (by simpa using h)]; exact h2 h
theorem iteN {c : Prop} [Decidable c] {A B : Prop} (h1 : ¬ c → A) (h2 : c → B) : if (!decide c) = true then A else B := by
  by_cases h : c
  · rw [if_neg (by simpa using h)]; exact h2 h
  · rw [if_pos (by simpa using h)]; exact h1 h
theorem iteT {A B : Prop} (h : A) : if true = true then A else B := by rw [if_pos rfl]; exact h
theorem iteF {A B : Prop} (h : B) : if false = true then A else B := by rw [if_neg Bool.false_ne_true]; exact h
theorem iteNT {A B : Prop} (h : B) : if (!true) = true then A else B := by rw [if_neg (by decide)]; exact h
theorem iteNF {A B : Prop} (h : A) : if (!false) = true then A else B := by rw [if_pos (by decide)]; exact h
theorem iteDT {c : Prop} [Decidable c] {A B : Prop} (hc : c) (h : A) : if decide c = true then A else B := by rw [if_pos (decide_eq_true hc)]; exact h
theorem iteDF {c : Prop} [Decidable c] {A B : Prop} (hc : ¬ c) (h : B) : if decide c = true then A else B := by rw [if_neg (by simpa using hc)]; exact h
theorem iteNDT {c : Prop} [Decidable c] {A B : Prop} (hc : c) (h : B) : if (!decide c) = true then A else B := by rw [if_neg (by simpa using hc)]; exact h
theorem iteNDF {c : Prop} [Decidable c] {A B : Prop} (hc : ¬ c) (h : A) : if (!decide c) = true then A else B := by rw [if_pos (by simpa using hc)]; exact h
/-- a comprehension whose element is a value told by the item, the small heap as it is -/
theorem lc_map {α : Type} {m : Bool} {ok : MH → Prop} {g : AG} {te : AE} {Γ : G} {M : MH} {k : List D → MH → Prop} (ι : α → D) (fn : α → D) : ∀ (xs : List α) (acc : List D), acc.length + xs.length ≤ sizeLine → ok M →
    (∀ x ∈ xs, ∀ kd : AK, kd (fn x) M → g (ι x) Γ M fun Γ' M' => te Γ' M' kd) → k (acc ++ xs.map fn) M → lcGo m ok g aYes te Γ (xs.map ι) acc M k
  | [], acc, _, ho, _, h => ⟨ho, by simpa using h⟩
  | x :: xs, acc, hl, ho, hs, h => by
    refine ⟨ho, ?_⟩
    show g (ι x) Γ M fun Γ' M' => if true = true then te Γ' M' fun d M2 => acc.length < sizeLine ∧ lcGo m ok g aYes te Γ (xs.map ι) (acc ++ [d]) M2 k else lcGo m ok g aYes te Γ (xs.map ι) acc M' k
    simp only [if_true]
    refine hs x List.mem_cons_self _ ⟨by rw [List.length_cons] at hl; omega, ?_⟩
    refine lc_map ι fn xs (acc ++ [fn x]) (by rw [List.length_append, List.length_singleton]; rw [List.length_cons] at hl; omega) ho (fun y hy => hs y (List.mem_cons_of_mem _ hy)) ?_
    rw [List.append_assoc]; exact h
end M
/-! MEq: the transformers' steps as equations (none by rfl, so that the kernel goes step by step). -/
namespace M
open PySem L2
section
variable {Z : AD} {Γ : G} {M : MH} {k : AK} {kt : Bool → MH → Prop} {ka : List D → MH → Prop} {ko : Option Int → MH → Prop} {kg : G → MH → Prop} {s t : AS} {f g fa fb fc : AE} {c c' : AT} {ga gb : AA} {i j : Int} {n m : Nat} {d e : D} {ds es : List D} {b : Bool} {a : Addr} {op : AB} {x y : Str} {p q : Int → Int → Bool} {kI : AIt → MH → Prop} {w : AI}

def kPar (n m : Nat) (Z : AD) (Γ : G) : List D → MH → Prop := fun ds M1 => match ds with | [d, e] => Z.nx ((Γ.set n (some d)).set m (some e)) M1 | _ => False
def kB (kt : Bool → MH → Prop) : AK := fun d M => match d with | .bl b => kt b M | _ => False
def kNeg (k : AK) : AK := fun d M1 => match d with | .int i => k (.int (-i)) M1 | _ => False
def kAndV (g : AE) (Γ : G) (k : AK) : AK := fun d M1 => match d with | .bl b => if b = true then g Γ M1 k else k (.bl false) M1 | _ => False
def kOrV (g : AE) (Γ : G) (k : AK) : AK := fun d M1 => match d with | .bl b => if b = true then k (.bl true) M1 else g Γ M1 k | _ => False
def kNotV (k : AK) : AK := fun d M1 => match d with | .bl b => k (.bl !b) M1 | _ => False
def kPart (ko : Option Int → MH → Prop) : AK := fun d M1 => match d with | .int i => ko (some i) M1 | _ => False
def kMt (op : AM) (ga : AA) (Γ : G) (k : AK) : AK := fun d M1 => match rdL M1 d with | some _ => ga Γ M1 fun ds M2 => op d ds M2 k | none => False
def kMt0 (op : AM) (k : AK) : AK := fun d M1 => match rdL M1 d with | some _ => op d [] M1 k | none => False
def kFrz (k : AK) : AK := fun d M1 => match d with | .ref a => (match M1 a with | some (.obj (.lst ds)) => k (.lst ds) (dl M1 a) | _ => False) | .lst ds => k (.lst ds) M1 | _ => False
def kCh (p q : Int → Int → Bool) (fc : AE) (Γ : G) (k : AK) (d e : D) (M2 : MH) : Prop := match d, e with
  | .int i, .int j => if p i j = true then fc Γ M2 fun g M3 => match g with
      | .int l => k (.bl (q j l)) M3
      | _ => False
    else k (.bl false) M2
  | _, _ => False
def kCh2 (q : Int → Int → Bool) (j : Int) (k : AK) : AK := fun g M3 => match g with | .int l => k (.bl (q j l)) M3 | _ => False
def kWL (kI : AIt → MH → Prop) : AK := fun d M1 => match rdS M1 d with | some ds => kI ⟨ds, fun M => rdS M d = some ds⟩ M1 | none => False
def kR1 (kI : AIt → MH → Prop) : List D → MH → Prop := fun ds M1 => match ds with | [.int j] => (-(2 ^ 62) ≤ j ∧ j < 2 ^ 62) ∧ kI ⟨(rng 0 j.toNat).map .int, fun _ => True⟩ M1 | _ => False
def kR2 (kI : AIt → MH → Prop) : List D → MH → Prop := fun ds M1 => match ds with | [.int i, .int j] => (-(2 ^ 62) ≤ i ∧ i < 2 ^ 62 ∧ -(2 ^ 62) ≤ j ∧ j < 2 ^ 62) ∧ kI ⟨(rng i (j - i).toNat).map .int, fun _ => True⟩ M1 | _ => False
def kEn (kI : AIt → MH → Prop) : List D → MH → Prop := fun ds M1 => match ds with | [d] => (match rdS M1 d with | some xs => kI ⟨enumD 0 xs, fun M => rdS M d = some xs⟩ M1 | none => False) | _ => False
def kZp (kI : AIt → MH → Prop) : List D → MH → Prop := fun ds M1 => match ds with | [d, e] => (match rdS M1 d, rdS M1 e with | some xs, some ys => kI ⟨zipD xs ys, fun M => rdS M d = some xs ∧ rdS M e = some ys⟩ M1 | _, _ => False) | _ => False
def kIx (o : Option D) (k : AK) (M : MH) : Prop := match o with | some x => k x M | none => False
def kTpI (kI : AIt → MH → Prop) : AK := fun d M1 => match d with | .tup ds => kI ⟨ds, fun _ => True⟩ M1 | _ => False
def kStI (kI : AIt → MH → Prop) : AK := fun d M1 => match d with | .str z => kI ⟨signsD z, fun _ => True⟩ M1 | _ => False
theorem eSeq  : (aSeq s t Z Γ M) = (s { Z with nx := fun Γ M => t Z Γ M } Γ M) := propext Iff.rfl
theorem eNext  : (aNext Z Γ M) = (Z.nx Γ M) := propext Iff.rfl
theorem eDrop  : (aDrop f Z Γ M) = (f Γ M fun _ M1 => Z.nx Γ M1) := propext Iff.rfl
theorem eRet  : (aRet f Z Γ M) = (f Γ M Z.rt) := propext Iff.rfl
theorem eRetN  : (aRetN Z Γ M) = (Z.rt .non M) := propext Iff.rfl
theorem eIfS  : (aIfS c s t Z Γ M) = (c Γ M fun b M1 => if b = true then s Z Γ M1 else t Z Γ M1) := propext Iff.rfl
theorem eSet  : (aSet n f Z Γ M) = (f Γ M fun d M1 => Z.nx (Γ.set n (some d)) M1) := propext Iff.rfl
theorem ePar  : (aPar n m ga Z Γ M) = (ga Γ M (kPar n m Z Γ)) := propext Iff.rfl
theorem ePar2  : (kPar n m Z Γ [d, e] M) = (Z.nx ((Γ.set n (some d)).set m (some e)) M) := propext Iff.rfl
theorem eAsg {ag : AG} : (aAsg f ag Z Γ M) = (f Γ M fun d M1 => ag d Γ M1 Z.nx) := propext Iff.rfl
theorem eVar0  : (aVar 0 (some d :: Γ) M k) = (k d M) := propext Iff.rfl
theorem eVar1 {x0 : Option D} : (aVar 1 (x0 :: some d :: Γ) M k) = (k d M) := propext Iff.rfl
theorem eVar2 {x0 x1 : Option D} : (aVar 2 (x0 :: x1 :: some d :: Γ) M k) = (k d M) := propext Iff.rfl
theorem eVar3 {x0 x1 x2 : Option D} : (aVar 3 (x0 :: x1 :: x2 :: some d :: Γ) M k) = (k d M) := propext Iff.rfl
theorem eVar4 {x0 x1 x2 x3 : Option D} : (aVar 4 (x0 :: x1 :: x2 :: x3 :: some d :: Γ) M k) = (k d M) := propext Iff.rfl
theorem eVar5 {x0 x1 x2 x3 x4 : Option D} : (aVar 5 (x0 :: x1 :: x2 :: x3 :: x4 :: some d :: Γ) M k) = (k d M) := propext Iff.rfl
theorem eVar6 {x0 x1 x2 x3 x4 x5 : Option D} : (aVar 6 (x0 :: x1 :: x2 :: x3 :: x4 :: x5 :: some d :: Γ) M k) = (k d M) := propext Iff.rfl
theorem eVar7 {x0 x1 x2 x3 x4 x5 x6 : Option D} : (aVar 7 (x0 :: x1 :: x2 :: x3 :: x4 :: x5 :: x6 :: some d :: Γ) M k) = (k d M) := propext Iff.rfl
theorem eVar8 {x0 x1 x2 x3 x4 x5 x6 x7 : Option D} : (aVar 8 (x0 :: x1 :: x2 :: x3 :: x4 :: x5 :: x6 :: x7 :: some d :: Γ) M k) = (k d M) := propext Iff.rfl
theorem eVar9 {x0 x1 x2 x3 x4 x5 x6 x7 x8 : Option D} : (aVar 9 (x0 :: x1 :: x2 :: x3 :: x4 :: x5 :: x6 :: x7 :: x8 :: some d :: Γ) M k) = (k d M) := propext Iff.rfl
theorem eVar10 {x0 x1 x2 x3 x4 x5 x6 x7 x8 x9 : Option D} : (aVar 10 (x0 :: x1 :: x2 :: x3 :: x4 :: x5 :: x6 :: x7 :: x8 :: x9 :: some d :: Γ) M k) = (k d M) := propext Iff.rfl
theorem eVar11 {x0 x1 x2 x3 x4 x5 x6 x7 x8 x9 x10 : Option D} : (aVar 11 (x0 :: x1 :: x2 :: x3 :: x4 :: x5 :: x6 :: x7 :: x8 :: x9 :: x10 :: some d :: Γ) M k) = (k d M) := propext Iff.rfl
theorem eVar12 {x0 x1 x2 x3 x4 x5 x6 x7 x8 x9 x10 x11 : Option D} : (aVar 12 (x0 :: x1 :: x2 :: x3 :: x4 :: x5 :: x6 :: x7 :: x8 :: x9 :: x10 :: x11 :: some d :: Γ) M k) = (k d M) := propext Iff.rfl
theorem eVar13 {x0 x1 x2 x3 x4 x5 x6 x7 x8 x9 x10 x11 x12 : Option D} : (aVar 13 (x0 :: x1 :: x2 :: x3 :: x4 :: x5 :: x6 :: x7 :: x8 :: x9 :: x10 :: x11 :: x12 :: some d :: Γ) M k) = (k d M) := propext Iff.rfl
theorem eVar14 {x0 x1 x2 x3 x4 x5 x6 x7 x8 x9 x10 x11 x12 x13 : Option D} : (aVar 14 (x0 :: x1 :: x2 :: x3 :: x4 :: x5 :: x6 :: x7 :: x8 :: x9 :: x10 :: x11 :: x12 :: x13 :: some d :: Γ) M k) = (k d M) := propext Iff.rfl
theorem eVar15 {x0 x1 x2 x3 x4 x5 x6 x7 x8 x9 x10 x11 x12 x13 x14 : Option D} : (aVar 15 (x0 :: x1 :: x2 :: x3 :: x4 :: x5 :: x6 :: x7 :: x8 :: x9 :: x10 :: x11 :: x12 :: x13 :: x14 :: some d :: Γ) M k) = (k d M) := propext Iff.rfl
theorem eVar16 {x0 x1 x2 x3 x4 x5 x6 x7 x8 x9 x10 x11 x12 x13 x14 x15 : Option D} : (aVar 16 (x0 :: x1 :: x2 :: x3 :: x4 :: x5 :: x6 :: x7 :: x8 :: x9 :: x10 :: x11 :: x12 :: x13 :: x14 :: x15 :: some d :: Γ) M k) = (k d M) := propext Iff.rfl
theorem eVar17 {x0 x1 x2 x3 x4 x5 x6 x7 x8 x9 x10 x11 x12 x13 x14 x15 x16 : Option D} : (aVar 17 (x0 :: x1 :: x2 :: x3 :: x4 :: x5 :: x6 :: x7 :: x8 :: x9 :: x10 :: x11 :: x12 :: x13 :: x14 :: x15 :: x16 :: some d :: Γ) M k) = (k d M) := propext Iff.rfl
theorem eVar18 {x0 x1 x2 x3 x4 x5 x6 x7 x8 x9 x10 x11 x12 x13 x14 x15 x16 x17 : Option D} : (aVar 18 (x0 :: x1 :: x2 :: x3 :: x4 :: x5 :: x6 :: x7 :: x8 :: x9 :: x10 :: x11 :: x12 :: x13 :: x14 :: x15 :: x16 :: x17 :: some d :: Γ) M k) = (k d M) := propext Iff.rfl
theorem eVar19 {x0 x1 x2 x3 x4 x5 x6 x7 x8 x9 x10 x11 x12 x13 x14 x15 x16 x17 x18 : Option D} : (aVar 19 (x0 :: x1 :: x2 :: x3 :: x4 :: x5 :: x6 :: x7 :: x8 :: x9 :: x10 :: x11 :: x12 :: x13 :: x14 :: x15 :: x16 :: x17 :: x18 :: some d :: Γ) M k) = (k d M) := propext Iff.rfl
theorem eVar20 {x0 x1 x2 x3 x4 x5 x6 x7 x8 x9 x10 x11 x12 x13 x14 x15 x16 x17 x18 x19 : Option D} : (aVar 20 (x0 :: x1 :: x2 :: x3 :: x4 :: x5 :: x6 :: x7 :: x8 :: x9 :: x10 :: x11 :: x12 :: x13 :: x14 :: x15 :: x16 :: x17 :: x18 :: x19 :: some d :: Γ) M k) = (k d M) := propext Iff.rfl
theorem eVar21 {x0 x1 x2 x3 x4 x5 x6 x7 x8 x9 x10 x11 x12 x13 x14 x15 x16 x17 x18 x19 x20 : Option D} : (aVar 21 (x0 :: x1 :: x2 :: x3 :: x4 :: x5 :: x6 :: x7 :: x8 :: x9 :: x10 :: x11 :: x12 :: x13 :: x14 :: x15 :: x16 :: x17 :: x18 :: x19 :: x20 :: some d :: Γ) M k) = (k d M) := propext Iff.rfl
theorem eVar22 {x0 x1 x2 x3 x4 x5 x6 x7 x8 x9 x10 x11 x12 x13 x14 x15 x16 x17 x18 x19 x20 x21 : Option D} : (aVar 22 (x0 :: x1 :: x2 :: x3 :: x4 :: x5 :: x6 :: x7 :: x8 :: x9 :: x10 :: x11 :: x12 :: x13 :: x14 :: x15 :: x16 :: x17 :: x18 :: x19 :: x20 :: x21 :: some d :: Γ) M k) = (k d M) := propext Iff.rfl
theorem eVar23 {x0 x1 x2 x3 x4 x5 x6 x7 x8 x9 x10 x11 x12 x13 x14 x15 x16 x17 x18 x19 x20 x21 x22 : Option D} : (aVar 23 (x0 :: x1 :: x2 :: x3 :: x4 :: x5 :: x6 :: x7 :: x8 :: x9 :: x10 :: x11 :: x12 :: x13 :: x14 :: x15 :: x16 :: x17 :: x18 :: x19 :: x20 :: x21 :: x22 :: some d :: Γ) M k) = (k d M) := propext Iff.rfl
theorem eVar24 {x0 x1 x2 x3 x4 x5 x6 x7 x8 x9 x10 x11 x12 x13 x14 x15 x16 x17 x18 x19 x20 x21 x22 x23 : Option D} : (aVar 24 (x0 :: x1 :: x2 :: x3 :: x4 :: x5 :: x6 :: x7 :: x8 :: x9 :: x10 :: x11 :: x12 :: x13 :: x14 :: x15 :: x16 :: x17 :: x18 :: x19 :: x20 :: x21 :: x22 :: x23 :: some d :: Γ) M k) = (k d M) := propext Iff.rfl
theorem eVar25 {x0 x1 x2 x3 x4 x5 x6 x7 x8 x9 x10 x11 x12 x13 x14 x15 x16 x17 x18 x19 x20 x21 x22 x23 x24 : Option D} : (aVar 25 (x0 :: x1 :: x2 :: x3 :: x4 :: x5 :: x6 :: x7 :: x8 :: x9 :: x10 :: x11 :: x12 :: x13 :: x14 :: x15 :: x16 :: x17 :: x18 :: x19 :: x20 :: x21 :: x22 :: x23 :: x24 :: some d :: Γ) M k) = (k d M) := propext Iff.rfl
theorem eC  : (aC d Γ M k) = (k d M) := propext Iff.rfl
theorem eOp  : (aOp op fa fb Γ M k) = (fa Γ M fun d M1 => fb Γ M1 fun e M2 => op d e M2 k) := propext Iff.rfl
theorem eAddI  : (bAdd b (.int i) (.int j) M k) = (k (.int (i + j)) M) := propext Iff.rfl
theorem eSub  : (bSub (.int i) (.int j) M k) = (k (.int (i - j)) M) := propext Iff.rfl
theorem eLt  : (bLt (.int i) (.int j) M k) = (k (.bl (decide (i < j))) M) := propext Iff.rfl
theorem eLe  : (bLe (.int i) (.int j) M k) = (k (.bl (decide (i ≤ j))) M) := propext Iff.rfl
theorem eGt  : (bGt (.int i) (.int j) M k) = (k (.bl (decide (j < i))) M) := propext Iff.rfl
theorem eGe  : (bGe (.int i) (.int j) M k) = (k (.bl (decide (j ≤ i))) M) := propext Iff.rfl
theorem eEqI  : (bEq false (.int i) (.int j) M k) = (k (.bl (decide (i = j))) M) := propext Iff.rfl
theorem eNeI  : (bEq true (.int i) (.int j) M k) = (k (.bl (!decide (i = j))) M) := propext Iff.rfl
theorem eEqS  : (bEq false (.str x) (.str y) M k) = (k (.bl (decide (x = y))) M) := propext Iff.rfl
theorem eNeS  : (bEq true (.str x) (.str y) M k) = (k (.bl (!decide (x = y))) M) := propext Iff.rfl
theorem eIsN  : (bIsN d .non M k) = (k (.bl d.isNon) M) := propext Iff.rfl
theorem eNotN  : (bNotN d .non M k) = (k (.bl !d.isNon) M) := propext Iff.rfl
theorem eNeg  : (aNeg f Γ M k) = (f Γ M (kNeg k)) := propext Iff.rfl
theorem eNeg1  : (kNeg k (.int i) M) = (k (.int (-i)) M) := propext Iff.rfl
theorem eB  : (aB f Γ M kt) = (f Γ M (kB kt)) := propext Iff.rfl
theorem eB1  : (kB kt (.bl b) M) = (kt b M) := propext Iff.rfl
theorem eAnd  : (aAnd c c' Γ M kt) = (c Γ M fun b M1 => if b = true then c' Γ M1 kt else kt false M1) := propext Iff.rfl
theorem eOr  : (aOr c c' Γ M kt) = (c Γ M fun b M1 => if b = true then kt true M1 else c' Γ M1 kt) := propext Iff.rfl
theorem eNot  : (aNot c Γ M kt) = (c Γ M fun b M1 => kt (!b) M1) := propext Iff.rfl
theorem eAndV  : (aAndV f g Γ M k) = (f Γ M (kAndV g Γ k)) := propext Iff.rfl
theorem eAndV1  : (kAndV g Γ k (.bl b) M) = (if b = true then g Γ M k else k (.bl false) M) := propext Iff.rfl
theorem eOrV  : (aOrV f g Γ M k) = (f Γ M (kOrV g Γ k)) := propext Iff.rfl
theorem eOrV1  : (kOrV g Γ k (.bl b) M) = (if b = true then k (.bl true) M else g Γ M k) := propext Iff.rfl
theorem eNotV  : (aNotV f Γ M k) = (f Γ M (kNotV k)) := propext Iff.rfl
theorem eNotV1  : (kNotV k (.bl b) M) = (k (.bl !b) M) := propext Iff.rfl
theorem eIf  : (aIf c f g Γ M k) = (c Γ M fun b M1 => if b = true then f Γ M1 k else g Γ M1 k) := propext Iff.rfl
theorem eNil  : (aNil Γ M ka) = (ka [] M) := propext Iff.rfl
theorem eCons  : (aCons f ga Γ M ka) = (f Γ M fun d M1 => ga Γ M1 fun ds M2 => ka (d :: ds) M2) := propext Iff.rfl
theorem eTup  : (aTup ga Γ M k) = (ga Γ M fun ds M1 => ds.length ≤ sizeLine ∧ k (.tup ds) M1) := propext Iff.rfl
theorem eLst  : (aLst b ga Γ M k) = (ga Γ M fun ds M1 => ds.length ≤ sizeLine ∧ nl b ds M1 k) := propext Iff.rfl
theorem eNlF  : (nl false ds M k) = (k (.lst ds) M) := propext Iff.rfl
theorem eNlT  : (nl true ds M k) = (∀ p, M p = none → k (.ref p) (up M p (.obj (.lst ds)))) := propext Iff.rfl
theorem eCB {ac : AC} : (aCB ac ga Γ M k) = (ga Γ M fun ds M1 => ac ds M1 k) := propext Iff.rfl
theorem eCall {F : AF} {xk : EK} : (aCall xk F es ga Γ M k) = (ga Γ M fun ds M1 => F (ds ++ es) M1 k xk) := propext Iff.rfl
theorem eCallK {F : AF} {xk : EK} {ix : List Nat} : (aCallK xk F n m ix es ga gb Γ M k) = (ga Γ M fun ds M1 => gb Γ M1 fun us M2 => ds.length = n ∧ us.length = m ∧ F (pick ix (ds ++ us ++ es)) M2 k xk) := propext Iff.rfl
theorem eNoPart  : (aNoPart Γ M ko) = (ko none M) := propext Iff.rfl
theorem ePart  : (aPart f Γ M ko) = (f Γ M (kPart ko)) := propext Iff.rfl
theorem ePart1  : (kPart ko (.int i) M) = (ko (some i) M) := propext Iff.rfl
theorem eCut {l u : AO} : (aCut b f l u Γ M k) = (f Γ M fun d M1 => l Γ M1 fun lo M2 => u Γ M2 fun hi M3 => sCut b d lo hi M3 k) := propext Iff.rfl
theorem eCutL {lo hi : Option Int} : (sCut b (.lst ds) lo hi M k) = (nl b (cutD ds lo hi) M k) := propext Iff.rfl
theorem eCutSc {lo hi : Option Int} {ns : List Int} : (sCut b (.scr ns) lo hi M k) = (nl b (cutD (ns.map D.int) lo hi) M k) := propext Iff.rfl
theorem eLenT  : (cLen [.tup ds] M k) = (k (.int ds.length) M) := propext Iff.rfl
theorem eLenL  : (cLen [.lst ds] M k) = (k (.int ds.length) M) := propext Iff.rfl
theorem eLenSc {ns : List Int} : (cLen [.scr ns] M k) = (k (.int (ns.map D.int).length) M) := propext Iff.rfl
theorem eAbs  : (cAbs [.int i] M k) = (k (.int (if i < 0 then -i else i)) M) := propext Iff.rfl
theorem eMax2  : (cMax2 [.int i, .int j] M k) = (k (.int (if j > i then j else i)) M) := propext Iff.rfl
theorem eMin2  : (cMin2 [.int i, .int j] M k) = (k (.int (if j < i then j else i)) M) := propext Iff.rfl
theorem eSumL {ns : List Int} : (cSum [.lst (ns.map .int)] M k) = (k (.int ns.sum) M) := by
  show (match (some (ns.map D.int)).bind intsOf with | some ns => k (.int ns.sum) M | none => False) = _
  rw [Option.bind_some, intsOf_map]
theorem eListL  : (cList b [.lst ds] M k) = (nl b ds M k) := propext Iff.rfl
theorem eListT  : (cList b [.tup ds] M k) = (nl b ds M k) := propext Iff.rfl
theorem eMt {om : AM} : (aMt om f ga Γ M k) = (f Γ M (kMt om ga Γ k)) := propext Iff.rfl
theorem eMt0 {om : AM} : (aMt0 om f Γ M k) = (f Γ M (kMt0 om k)) := propext Iff.rfl
theorem eFrz  : (aFrz f Γ M k) = (f Γ M (kFrz k)) := propext Iff.rfl
theorem eFrzL  : (kFrz k (.lst ds) M) = (k (.lst ds) M) := propext Iff.rfl
theorem eGNm  : (gNm n d Γ M kg) = (kg (Γ.set n (some d)) M) := propext Iff.rfl
theorem eGTu {tt : AGs} : (gTu n tt (.tup ds) Γ M kg) = (ds.length = n ∧ tt ds Γ M kg) := propext Iff.rfl
theorem eGCo {t1 : AG} {u1 : AGs} : (gCo t1 u1 (d :: ds) Γ M kg) = (t1 d Γ M fun Γ1 M1 => u1 ds Γ1 M1 kg) := propext Iff.rfl
theorem eGNi  : (gNi [] Γ M kg) = (kg Γ M) := propext Iff.rfl
theorem eGIx  : (gIx fa fb d Γ M kg) = (fa Γ M fun o M1 => fb Γ M1 fun i M2 => stIx o i d M2 fun M3 => kg Γ M3) := propext Iff.rfl
theorem eChain  : (aChain p q fa fb fc Γ M k) = (fa Γ M fun d M1 => fb Γ M1 fun e M2 => kCh p q fc Γ k d e M2) := propext Iff.rfl
theorem eCh1  : (kCh p q fc Γ k (.int i) (.int j) M) = (if p i j = true then fc Γ M (kCh2 q j k) else k (.bl false) M) := propext Iff.rfl
theorem eCh2  : (kCh2 q j k (.int i) M) = (k (.bl (q j i)) M) := propext Iff.rfl
theorem eInL {ns : List Int} : (bIn false (.int i) (.lst (ns.map .int)) M k) = (k (.bl (decide (i ∈ ns))) M) := by
  show (match (some (ns.map D.int)).bind intsOf with | some ns => k (.bl (if false then !decide (i ∈ ns) else decide (i ∈ ns))) M | none => False) = _
  rw [Option.bind_some, intsOf_map]; exact propext Iff.rfl
theorem eNotInL {ns : List Int} : (bIn true (.int i) (.lst (ns.map .int)) M k) = (k (.bl (!decide (i ∈ ns))) M) := by
  show (match (some (ns.map D.int)).bind intsOf with | some ns => k (.bl (if true then !decide (i ∈ ns) else decide (i ∈ ns))) M | none => False) = _
  rw [Option.bind_some, intsOf_map]; exact propext Iff.rfl
theorem eFor {ag : AG} : (aFor w ag s Z Γ M) = (w Γ M fun A M1 => ∃ W : Nat → G → MH → Prop, W 0 Γ M1 ∧ ∀ i Γ M, i ≤ A.items.length → W i Γ M → A.ok M ∧ match A.items[i]? with
  | none => Z.nx Γ M
  | some x => ag x Γ M fun Γ' M' => s { nx := W (i + 1), rt := Z.rt, bk := Z.nx, ct := W (i + 1), ex := Z.ex } Γ' M') := propext Iff.rfl
theorem eWL  : (wLst f Γ M kI) = (f Γ M (kWL kI)) := propext Iff.rfl
theorem eWLL  : (kWL kI (.lst ds) M) = (kI ⟨ds, fun _ => some ds = some ds⟩ M) := propext Iff.rfl
theorem eWLS {ns : List Int} : (kWL kI (.scr ns) M) = (kI ⟨ns.map D.int, fun _ => some (ns.map D.int) = some (ns.map D.int)⟩ M) := propext Iff.rfl
theorem eR1  : (wRg1 ga Γ M kI) = (ga Γ M (kR1 kI)) := propext Iff.rfl
theorem eR1i  : (kR1 kI [.int j] M) = ((-(2 ^ 62) ≤ j ∧ j < 2 ^ 62) ∧ kI ⟨(rng 0 j.toNat).map .int, fun _ => True⟩ M) := propext Iff.rfl
theorem eR2  : (wRg2 ga Γ M kI) = (ga Γ M (kR2 kI)) := propext Iff.rfl
theorem eR2i  : (kR2 kI [.int i, .int j] M) = ((-(2 ^ 62) ≤ i ∧ i < 2 ^ 62 ∧ -(2 ^ 62) ≤ j ∧ j < 2 ^ 62) ∧ kI ⟨(rng i (j - i).toNat).map .int, fun _ => True⟩ M) := propext Iff.rfl
theorem eEn  : (wEn ga Γ M kI) = (ga Γ M (kEn kI)) := propext Iff.rfl
theorem eEnL  : (kEn kI [.lst ds] M) = (kI ⟨enumD 0 ds, fun _ => some ds = some ds⟩ M) := propext Iff.rfl
theorem eEnS {ns : List Int} : (kEn kI [.scr ns] M) = (kI ⟨enumD 0 (ns.map D.int), fun _ => some (ns.map D.int) = some (ns.map D.int)⟩ M) := propext Iff.rfl
theorem eZp  : (wZp ga Γ M kI) = (ga Γ M (kZp kI)) := propext Iff.rfl
theorem eZpL  : (kZp kI [.lst ds, .lst es] M) = (kI ⟨zipD ds es, fun _ => some ds = some ds ∧ some es = some es⟩ M) := propext Iff.rfl
theorem eWT  : (wTp f Γ M kI) = (f Γ M (kTpI kI)) := propext Iff.rfl
theorem eWT1  : (kTpI kI (.tup ds) M) = (kI ⟨ds, fun _ => True⟩ M) := propext Iff.rfl
theorem eWS  : (wSt f Γ M kI) = (f Γ M (kStI kI)) := propext Iff.rfl
theorem eWS1  : (kStI kI (.str x) M) = (kI ⟨signsD x, fun _ => True⟩ M) := propext Iff.rfl
theorem eLc {ag : AG} {vs : List Nat} : (aLc b w ag c f vs Γ M k) = (w Γ M fun A M1 => lcGo b A.ok ag c f (wipeG Γ vs) A.items [] M1 fun ds M2 => nl b ds M2 k) := propext Iff.rfl
theorem eYes  : (aYes Γ M kt) = (kt true M) := propext Iff.rfl
theorem eIxT  : (bIx (.tup ds) (.int i) M k) = (kIx (atI ds i) k M) := propext Iff.rfl
theorem eIxL  : (bIx (.lst ds) (.int i) M k) = (kIx (atI ds i) k M) := propext Iff.rfl
theorem eIxSc {ns : List Int} : (bIx (.scr ns) (.int i) M k) = (kIx (atI (ns.map D.int) i) k M) := propext Iff.rfl
theorem eIx1  : (kIx (some d) k M) = (k d M) := propext Iff.rfl
theorem eIteT {A B : Prop} : (if True then A else B) = (A) := if_pos True.intro
theorem eIteF {A B : Prop} : (if False then A else B) = (B) := if_neg not_false
theorem iKIx {o : Option D} (h : k d M) (q : o = some d) : kIx o k M := by rw [q]; exact h
theorem iKMt {om : AM} (h : ga Γ M fun es M2 => om (.ref a) es M2 k) (q : M a = some (.obj (.lst ds))) : kMt om ga Γ k (.ref a) M := iRdR h q
theorem iKMt0 {om : AM} (h : om (.ref a) [] M k) (q : M a = some (.obj (.lst ds))) : kMt0 om k (.ref a) M := iRdR h q
theorem iKFrz (h : k (.lst ds) (dl M a)) (q : M a = some (.obj (.lst ds))) : kFrz k (.ref a) M := iFrzR h q
end
end M
/-! MBox: boxes opened and closed. -/
namespace M
open PySem L2
def opn (M : MH) : List Addr → List BO → MH
  | [], _ => M
  | _ :: _, [] => M
  | a :: as, b :: bs => opn (up M a (.obj b)) as bs
section
variable {K : PySem.W.Frag} {H I F : Hp} {M M' : MH} {a : Addr} {ps : List Addr} {φ : List BO → Prop}
theorem RelBs.length : ∀ {as : List Addr} {bs : List BO}, RelBs K H I as bs → bs.length = as.length
  | [], bs, h => by rw [show bs = [] from h]; rfl
  | a :: as, bs, ⟨b, r, h1, h2, h3⟩ => by subst h1; rw [List.length_cons, List.length_cons, RelBs.length h3]
theorem opn_cases : ∀ {as : List Addr} {bs : List BO} {M : MH}, RelBs K H I as bs → ∀ x, (x ∉ as ∧ opn M as bs x = M x) ∨ (x ∈ as ∧ ∃ b, opn M as bs x = some (.obj b) ∧ RelB K H I x b)
  | [], bs, M, h, x => .inl ⟨by simp, rfl⟩
  | a :: as, bs, M, ⟨b, r, h1, h2, h3⟩, x => by
    subst h1
    rcases opn_cases (M := up M a (.obj b)) h3 x with ⟨q1, q2⟩ | ⟨q1, q2⟩
    · by_cases e : x = a
      · subst e
        exact .inr ⟨List.mem_cons_self, b, by show opn (up M x (.obj b)) as r x = _; rw [q2, up_same], h2⟩
      · refine .inl ⟨by simp [e, q1], ?_⟩
        show opn (up M a (.obj b)) as r x = _
        rw [q2, up_ne e]
    · exact .inr ⟨List.mem_cons_of_mem _ q1, q2⟩
theorem Conc.open_ (c : Conc K H I M F) (h : M a = some (.box ps φ)) : ∃ bs, φ bs ∧ bs.length = ps.length + 1 ∧ (∀ p ∈ ps, M p = some (.part a)) ∧ Conc K H I (opn M (a :: ps) bs) F := by
  obtain ⟨h1, bs, h2, h3⟩ := c.rel a _ h
  have hin : ∀ x, x ∈ a :: ps → M x ≠ none := fun x hx => by
    rcases List.mem_cons.mp hx with rfl | hx
    · rw [h]; simp
    · rw [h1 x hx]; simp
  refine ⟨bs, h3, by rw [h2.length]; rfl, h1, ⟨c.sub, fun x m => ?_, fun x o e => ?_, fun x o e => ?_⟩⟩
  · rcases opn_cases (M := M) h2 x with ⟨q1, q2⟩ | ⟨q1, q2⟩
    · rw [q2] at m; exact c.fre x m
    · exact c.fre x (hin x q1)
  · rcases opn_cases (M := M) h2 x with ⟨q1, q2⟩ | ⟨q1, b, q2, q3⟩
    · rw [q2] at e
      have hx := c.rel x o e
      cases o with
      | obj b => exact hx
      | part _ => exact hx
      | box ps' φ' =>
        obtain ⟨g1, g2⟩ := hx
        have xa : x ≠ a := fun z => q1 (by rw [z]; exact List.mem_cons_self)
        refine ⟨fun p hp => ?_, g2⟩
        rcases opn_cases (M := M) h2 p with ⟨r1, r2⟩ | ⟨r1, _⟩
        · rw [r2]; exact g1 p hp
        · have := g1 p hp
          rcases List.mem_cons.mp r1 with e' | r1
          · rw [e', h] at this; cases this
          · rw [h1 p r1] at this
            cases this
            exact absurd rfl xa
    · rw [q2] at e; cases e; exact q3
  · obtain ⟨a1, a2, a3⟩ := c.frm x o e
    refine ⟨a1, a2, ?_⟩
    rcases opn_cases (M := M) h2 x with ⟨q1, q2⟩ | ⟨q1, _⟩
    · rw [q2]; exact a3
    · exact absurd a3 (hin x q1)
theorem relBs_of : ∀ {as : List Addr} {bs : List BO}, bs.length = as.length → (∀ (i : Nat) x b, as[i]? = some x → bs[i]? = some b → RelB K H I x b) → RelBs K H I as bs
  | [], bs, l, _ => List.eq_nil_of_length_eq_zero l
  | a :: as, [], l, _ => by simp at l
  | a :: as, b :: bs, l, h => ⟨b, bs, rfl, h 0 a b rfl rfl, relBs_of (by simpa using l) fun i x c e1 e2 => h (i + 1) x c (by simpa using e1) (by simpa using e2)⟩
theorem Abs.close {bs : List BO} (h0 : φ bs) (len : bs.length = ps.length + 1) (hM : ∀ (i : Nat) x b, (a :: ps)[i]? = some x → bs[i]? = some b → M x = some (.obj b)) (hM' : M' a = some (.box ps φ)) (hp : ∀ p ∈ ps, M' p = some (.part a)) (ho : ∀ x, x ∉ a :: ps → M' x = M x) : Abs M M' := fun K H I F c => by
  have hin : ∀ x, x ∈ a :: ps → ∃ b, M x = some (.obj b) := fun x hx => by
    obtain ⟨i, hi⟩ := List.getElem?_of_mem hx
    have hl : i < bs.length := by rw [len]; exact (List.getElem?_eq_some_iff.mp hi).1
    exact ⟨bs[i], hM i x _ hi (List.getElem?_eq_getElem hl)⟩
  refine ⟨c.sub, fun x m => ?_, fun x o e => ?_, fun x o e => ?_⟩
  · by_cases q : x ∈ a :: ps
    · obtain ⟨b, hb⟩ := hin x q
      exact c.fre x (by rw [hb]; simp)
    · rw [ho x q] at m; exact c.fre x m
  · by_cases q : x ∈ a :: ps
    · obtain ⟨b, hb⟩ := hin x q
      by_cases qa : x = a
      · subst qa
        rw [hM'] at e; cases e
        refine ⟨hp, bs, relBs_of (by rw [len]; rfl) fun i y b e1 e2 => ?_, h0⟩
        exact c.rel y _ (hM i y b e1 e2)
      · have : x ∈ ps := (List.mem_cons.mp q).resolve_left qa
        rw [hp x this] at e; cases e
        exact (c.rel x _ hb).ne0
    · rw [ho x q] at e
      have hx := c.rel x o e
      cases o with
      | obj b => exact hx
      | part _ => exact hx
      | box ps' φ' =>
        obtain ⟨g1, g2⟩ := hx
        refine ⟨fun p hp' => ?_, g2⟩
        have : p ∉ a :: ps := fun z => by
          obtain ⟨b, hb⟩ := hin p z
          rw [g1 p hp'] at hb; cases hb
        rw [ho p this]; exact g1 p hp'
  · obtain ⟨a1, a2, a3⟩ := c.frm x o e
    refine ⟨a1, a2, ?_⟩
    have : x ∉ a :: ps := fun z => by
      obtain ⟨b, hb⟩ := hin x z
      rw [a3] at hb; cases hb
    rw [ho x this]; exact a3
end
/-- the box in slot i is opened ahead of a block -/
def gOpen (i : Nat) (s : AS) : AS := fun D Γ M => ∃ a ps φ, Γ[i]? = some (some (.ref a)) ∧ M a = some (.box ps φ) ∧ ∀ bs, φ bs → bs.length = ps.length + 1 → (∀ p ∈ ps, M p = some (.part a)) → s D Γ (opn M (a :: ps) bs)
theorem ss_open (i : Nat) {X : Cx} {sts : List Stmt} {s : AS} (h : PSs X sts (liftS X.K s)) : PSs X sts (liftS X.K (gOpen i s)) := h.imp fun E σ H ⟨Γ, M, I, F, D, hs, hc, hf, hk⟩ => by
  obtain ⟨a, ps, φ, _, h2, h3⟩ := hf
  obtain ⟨bs, b1, b2, b3, c2⟩ := hc.open_ h2
  exact ⟨Γ, _, I, F, D, hs, c2, h3 bs b1 b2 b3, hk⟩
end M
/-! MGen: steps on data of which only is known what it holds. -/
namespace M
open PySem L2
section
variable {Γ : G} {M : MH} {k : AK} {kI : AIt → MH → Prop} {d e x : D} {ds es : List D} {i : Int} {b : Bool} {lo hi : Option Int}
theorem iLenG (h : k (.int ds.length) M) (q : rdS M d = some ds) : cLen [d] M k := by
  cases d with
  | lst l => cases q; exact h
  | scr l => cases q; exact h
  | ref a =>
    show match rdS M (.ref a) with | some xs => k (.int xs.length) M | none => False
    rw [q]; exact h
  | _ => cases q
theorem iWLG (h : kI ⟨ds, fun M => rdS M d = some ds⟩ M) (q : rdS M d = some ds) : kWL kI d M := by
  unfold kWL; rw [q]; exact h
theorem iEnG (h : kI ⟨enumD 0 ds, fun M => rdS M d = some ds⟩ M) (q : rdS M d = some ds) : kEn kI [d] M := by
  show match rdS M d with | some xs => kI ⟨enumD 0 xs, fun M => rdS M d = some xs⟩ M | none => False
  rw [q]; exact h
theorem iZpG (h : kI ⟨zipD ds es, fun M => rdS M d = some ds ∧ rdS M e = some es⟩ M) (q : rdS M d = some ds) (q2 : rdS M e = some es) : kZp kI [d, e] M := by
  show match rdS M d, rdS M e with | some xs, some ys => kI ⟨zipD xs ys, fun M => rdS M d = some xs ∧ rdS M e = some ys⟩ M | _, _ => False
  rw [q, q2]; exact h
theorem iIxG (h : k x M) (q : rdS M d = some ds) (q2 : atI ds i = some x) : bIx d (.int i) M k := by
  have g : (match rdS M d with | some ds => (match atI ds i with | some x => k x M | none => False) | none => False) := by
    rw [q]; show match atI ds i with | some x => k x M | none => False
    rw [q2]; exact h
  cases d with
  | lst l => exact g
  | scr l => exact g
  | ref a => exact g
  | _ => cases q
theorem iCutG (h : nl b (cutD ds lo hi) M k) (q : rdS M d = some ds) : sCut b d lo hi M k := by
  have g : (match rdS M d with | some ds => nl b (cutD ds lo hi) M k | none => False) := by rw [q]; exact h
  cases d with
  | lst l => exact g
  | scr l => exact g
  | ref a => exact g
  | _ => cases q
theorem iListG (h : nl b ds M k) (q : rdS M d = some ds) : cList b [d] M k := by
  have g : (match rdS M d with | some ds => nl b ds M k | none => False) := by rw [q]; exact h
  cases d with
  | lst l => exact g
  | scr l => exact g
  | ref a => exact g
  | _ => cases q
theorem iSumG {ns : List Int} (h : k (.int ns.sum) M) (q : rdS M d = some (ns.map .int)) : cSum [d] M k := by
  show match (rdS M d).bind intsOf with | some ns => k (.int ns.sum) M | none => False
  rw [q, Option.bind_some, intsOf_map]; exact h
end
/-- a list that is known stays readable while the small heap changes elsewhere -/
theorem rdS_up {M : MH} {d : D} {ds : List D} {a : Addr} {o : MO} (h : rdS M d = some ds) (n : M a = none ∨ (∀ es, M a ≠ some (.obj (.lst es)))) : rdS (up M a o) d = some ds := by
  cases d with
  | lst l => exact h
  | scr l => exact h
  | ref b =>
    have hb : b ≠ a := fun z => by
      subst z
      have h : (match M b with | some (.obj (.lst ds)) => some ds | _ => none) = some ds := h
      rcases n with n | n
      · rw [n] at h; cases h
      · split at h
        · rename_i es e; exact n _ e
        · cases h
    show (match up M a o b with | some (.obj (.lst ds)) => some ds | _ => none) = some ds
    rw [up_ne hb]; exact h
  | _ => cases h
theorem rdS_new {M : MH} {d : D} {ds : List D} {a : Addr} {o : MO} (h : rdS M d = some ds) (n : M a = none) : rdS (up M a o) d = some ds := rdS_up h (.inl n)
theorem at_int (ns : List Int) {i : Nat} {n : Int} (h : ns[i]? = some n) : (ns.map D.int)[i]? = some (.int n) := by rw [List.getElem?_map, h]; rfl
/-- the items of a mapped list -/
theorem map_get {α : Type} {ι : α → D} {xs : List α} {i : Nat} {d : D} (h : (xs.map ι)[i]? = some d) : ∃ x, xs[i]? = some x ∧ d = ι x := by
  rw [List.getElem?_map] at h
  cases q : xs[i]? with
  | none => rw [q] at h; cases h
  | some x => rw [q] at h; cases h; exact ⟨x, rfl, rfl⟩
theorem enum_get {α : Type} {ι : α → D} {xs : List α} {i n : Nat} {d : D} (h : (enumD n (xs.map ι))[i]? = some d) : ∃ x, xs[i]? = some x ∧ d = .tup [.int ((n + i : Nat) : Int), ι x] := by
  rw [enumD_get] at h
  cases q : (xs.map ι)[i]? with
  | none => rw [q] at h; cases h
  | some y =>
    rw [q] at h; cases h
    obtain ⟨x, h1, rfl⟩ := map_get q
    exact ⟨x, h1, rfl⟩
theorem enumD_length : ∀ {ds : List D} {n : Nat}, (enumD n ds).length = ds.length
  | [], _ => rfl
  | d :: ds, n => by show (enumD (n + 1) ds).length + 1 = _; rw [enumD_length]; rfl
theorem zip_get {α β : Type} {ι : α → D} {κ : β → D} {xs : List α} {ys : List β} {i : Nat} {d : D} (h : (zipD (xs.map ι) (ys.map κ))[i]? = some d) : ∃ x y, xs[i]? = some x ∧ ys[i]? = some y ∧ d = .tup [ι x, κ y] := by
  rw [zipD_get] at h
  cases q : (xs.map ι)[i]? with
  | none => rw [q] at h; cases h
  | some a =>
    cases q2 : (ys.map κ)[i]? with
    | none => rw [q, q2] at h; cases h
    | some c =>
      rw [q, q2] at h; cases h
      obtain ⟨x, h1, rfl⟩ := map_get q
      obtain ⟨y, h2, rfl⟩ := map_get q2
      exact ⟨x, y, h1, h2, rfl⟩
theorem take_succ {α : Type} {l : List α} {i : Nat} {x : α} (h : l[i]? = some x) : l.take (i + 1) = l.take i ++ [x] := by
  rw [List.take_succ, h]; rfl
theorem sum_snoc : ∀ (l : List Rat) (x : Rat), (l ++ [x]).sum = l.sum + x
  | [], x => by rw [List.nil_append, List.sum_cons, List.sum_nil, Rat.add_zero, Rat.zero_add]
  | a :: l, x => by rw [List.cons_append, List.sum_cons, List.sum_cons, sum_snoc l x, Rat.add_assoc]
theorem sum_snocI : ∀ (l : List Int) (x : Int), (l ++ [x]).sum = l.sum + x
  | [], x => by rw [List.nil_append, List.sum_cons, List.sum_nil, Int.add_zero, Int.zero_add]
  | a :: l, x => by rw [List.cons_append, List.sum_cons, List.sum_cons, sum_snocI l x, Int.add_assoc]
theorem Sm.zero : Sm 0 := ⟨by show (0 : Nat) < b40; rw [b40_eq]; exact Nat.two_pow_pos _, by show (1 : Nat) < b40; rw [b40_eq]; exact Nat.one_lt_two_pow (by decide)⟩
/-- for over a list of items, the state told by the turn -/
theorem for_go {xs : List D} {ok : MH → Prop} {E : G → MH → Prop} {B : (Nat → G → MH → Prop) → Nat → D → G → MH → Prop} {Γ : G} {M : MH} (W : Nat → G → MH → Prop) (h0 : W 0 Γ M) (step : ∀ i Γ M x, xs[i]? = some x → W i Γ M → ok M ∧ B W i x Γ M) (hend : ∀ Γ M, W xs.length Γ M → ok M ∧ E Γ M) :
    ∃ W : Nat → G → MH → Prop, W 0 Γ M ∧ ∀ i Γ M, i ≤ xs.length → W i Γ M → ok M ∧ match xs[i]? with
      | none => E Γ M
      | some x => B W i x Γ M := by
  refine ⟨W, h0, fun i Γ M hi w => ?_⟩
  cases q : xs[i]? with
  | none =>
    have := List.getElem?_eq_none_iff.mp q
    have e : i = xs.length := Nat.le_antisymm hi this
    subst e
    exact hend Γ M w
  | some x => exact step i Γ M x q w
end M
/-! MTray: comprehensions by states, boxes made weaker, the tray of draws, likeness, bounds of fractions. -/
namespace M
open PySem L2
theorem lc_st {m : Bool} {ok : MH → Prop} {g : AG} {te : AE} {Γ : G} {k : List D → MH → Prop} {xs : List D} (W : Nat → List D → MH → Prop) (hl : xs.length ≤ 1000000)
    (step : ∀ i x acc M, xs[i]? = some x → acc.length = i → W i acc M → ok M ∧ ∀ kd : AK, (∀ d M2, W (i + 1) (acc ++ [d]) M2 → kd d M2) → g x Γ M fun Γ' M' => te Γ' M' kd)
    (hend : ∀ acc M, acc.length = xs.length → W xs.length acc M → ok M ∧ k acc M) : ∀ {M : MH}, W 0 [] M → lcGo m ok g aYes te Γ xs [] M k := by
  have go : ∀ (n i : Nat) (acc : List D) (M : MH), n = xs.length - i → i ≤ xs.length → acc.length = i → W i acc M → lcGo m ok g aYes te Γ (xs.drop i) acc M k := by
    intro n
    induction n with
    | zero =>
      intro i acc M hn hi ha w
      have : i = xs.length := by omega
      subst this
      rw [List.drop_length]
      exact hend acc M ha w
    | succ n ih =>
      intro i acc M hn hi ha w
      have hlt : i < xs.length := by omega
      rw [List.drop_eq_getElem_cons hlt]
      obtain ⟨h1, h2⟩ := step i xs[i] acc M (List.getElem?_eq_getElem hlt) ha w
      refine ⟨h1, ?_⟩
      show g xs[i] Γ M fun Γ' M' => if true = true then te Γ' M' fun d M2 => acc.length < sizeLine ∧ lcGo m ok g aYes te Γ (xs.drop (i + 1)) (acc ++ [d]) M2 k else lcGo m ok g aYes te Γ (xs.drop (i + 1)) acc M' k
      simp only [if_true]
      exact h2 _ fun d M2 w2 => ⟨by rw [sizeLine_eq]; omega, ih (i + 1) _ M2 (by omega) hlt (by rw [List.length_append, ha]; rfl) w2⟩
  intro M w
  exact go xs.length 0 [] M rfl (Nat.zero_le _) rfl w
theorem Abs.mono_box {M : MH} {a : Addr} {ps : List Addr} {φ ψ : List BO → Prop} (h : M a = some (.box ps φ)) (i : ∀ bs, φ bs → ψ bs) : Abs M (up M a (.box ps ψ)) := fun K H I F c => by
  have e : ∀ x, up M a (.box ps ψ) x = none → M x = none := fun x q => by
    by_cases z : x = a
    · subst z; rw [up_same] at q; cases q
    · rwa [up_ne z] at q
  have pt : ∀ x o, M x = some (.part o) → up M a (.box ps ψ) x = some (.part o) := fun x o q => by
    rw [up_ne (fun z => by subst z; rw [h] at q; cases q)]; exact q
  refine ⟨c.sub, fun x m => c.fre x fun q => m ?_, fun x o q => ?_, fun x o q => ?_⟩
  · rw [up_ne (fun z => by subst z; rw [h] at q; cases q)]; exact q
  · by_cases z : x = a
    · subst z
      rw [up_same] at q; cases q
      obtain ⟨h1, bs, h2, h3⟩ := c.rel x _ h
      exact ⟨fun p hp => pt _ _ (h1 p hp), bs, h2, i bs h3⟩
    · rw [up_ne z] at q
      have hx := c.rel x o q
      cases o with
      | obj b => exact hx
      | part _ => exact hx
      | box ps' φ' =>
        obtain ⟨g1, g2⟩ := hx
        exact ⟨fun p hp => pt _ _ (g1 p hp), g2⟩
  · obtain ⟨a1, a2, a3⟩ := c.frm x o q
    refine ⟨a1, a2, ?_⟩
    rw [up_ne (fun z => by subst z; rw [h] at a3; cases a3)]; exact a3
/-! ### the tray -/
def TrayA (g : Addr) (b : Nat) : List BO → Prop := fun bs => ∃ (gs : List Int) (t f c : Int), bs = [.lst [.ref g, .int t, .int f, .int c], .lst (gs.map .int)] ∧ (∀ x ∈ gs, 0 ≤ x) ∧ 0 ≤ t ∧ 0 ≤ f ∧ f < 2305843009213693952 ∧ 0 ≤ c ∧ c + b ≤ 1152921504606846976
def tray (g : Addr) (b : Nat) : MO := .box [g] (TrayA g b)
theorem TrayA.mono {g : Addr} {b b' : Nat} (h : b' ≤ b) : ∀ bs, TrayA g b bs → TrayA g b' bs := by
  rintro bs ⟨gs, t, f, c, rfl, h1, h2, h3, h4, h5, h6⟩
  exact ⟨gs, t, f, c, rfl, h1, h2, h3, h4, h5, by omega⟩
theorem Abs.tray_le {M : MH} {t g : Addr} {b b' : Nat} (h : b' ≤ b) : Abs (up M t (tray g b)) (up M t (tray g b')) := by
  have := Abs.mono_box (M := up M t (tray g b)) (a := t) up_same (TrayA.mono (g := g) h)
  rwa [up_up] at this
theorem fin.tray_le {k : AK} {d : D} {M : MH} {t g : Addr} {b b' : Nat} (h : b' ≤ b) (hk : k d (up M t (tray g b'))) : fin k d (up M t (tray g b)) := ⟨_, Abs.tray_le h, hk⟩
/-! ### likeness -/
/-- both are alike, at most n deep -/
def Alk (M : MH) : Nat → D → D → Prop
  | 0, _, _ => False
  | n + 1, d, e => (d = .non ∧ e = .non) ∨ (∃ b, d = .bl b ∧ e = .bl b) ∨ (∃ i, d = .int i ∧ e = .int i) ∨ (∃ x, d = .str x ∧ e = .str x) ∨
    (∃ ds es : List D, ((d = .tup ds ∧ e = .tup es) ∨ (rdL M d = some ds ∧ rdL M e = some es)) ∧ ds.length = es.length ∧ ds.length ≤ 1000000 ∧ ∀ (i : Nat) (x y : D), ds[i]? = some x → es[i]? = some y → Alk M n x y)
theorem Alk.int {M : MH} {n : Nat} {i : Int} : Alk M (n + 1) (.int i) (.int i) := .inr (.inr (.inl ⟨i, rfl, rfl⟩))
theorem Alk.str {M : MH} {n : Nat} {i : Str} : Alk M (n + 1) (.str i) (.str i) := .inr (.inr (.inr (.inl ⟨i, rfl, rfl⟩)))
theorem Alk.fr {M : MH} {n : Nat} {x : Rat} : Alk M (n + 2) (frD x) (frD x) := by
  refine .inr (.inr (.inr (.inr ⟨_, _, .inl ⟨rfl, rfl⟩, rfl, by simp, fun i x y h1 h2 => ?_⟩)))
  have : i = 0 ∨ i = 1 := by
    have := (List.getElem?_eq_some_iff.mp h1).1
    simp only [List.length_cons, List.length_nil] at this
    omega
  rcases this with rfl | rfl
  · cases h1; cases h2; exact .int
  · cases h1; cases h2; exact .int
theorem Alk.same {M : MH} {n : Nat} {d e : D} {ds : List D} (h1 : rdL M d = some ds) (h2 : rdL M e = some ds) (hl : ds.length ≤ 1000000) (h : ∀ x ∈ ds, Alk M n x x) : Alk M (n + 1) d e :=
  .inr (.inr (.inr (.inr ⟨ds, ds, .inr ⟨h1, h2⟩, rfl, hl, fun i x y q1 q2 => by rw [q1] at q2; cases q2; exact h x (List.mem_of_getElem? q1)⟩)))
theorem Alk.two {M : MH} {n : Nat} {a b c d : D} (h1 : Alk M n a c) (h2 : Alk M n b d) : Alk M (n + 1) (.lst [a, b]) (.lst [c, d]) := by
  refine .inr (.inr (.inr (.inr ⟨_, _, .inr ⟨rfl, rfl⟩, rfl, by simp, fun i x y q1 q2 => ?_⟩)))
  have : i = 0 ∨ i = 1 := by
    have := (List.getElem?_eq_some_iff.mp q1).1
    simp only [List.length_cons, List.length_nil] at this
    omega
  rcases this with rfl | rfl
  · cases q1; cases q2; exact h1
  · cases q1; cases q2; exact h2
theorem rdS_of {M : MH} {d : D} {ds : List D} (h : rdL M d = some ds) : rdS M d = some ds := by
  cases d with
  | scr n => cases h
  | _ => exact h
/-! ### bounds of fractions -/
/-- no farther from nought than V, with a bottom that divides D -/
structure Bnd (V D : Nat) (x : Rat) : Prop where
  den : ∃ a : Int, x * (D : Rat) = (a : Rat)
  lo : -(V : Rat) ≤ x
  hi : x ≤ (V : Rat)
theorem Bnd.add {V W D : Nat} {x y : Rat} (h : Bnd V D x) (g : Bnd W D y) : Bnd (V + W) D (x + y) := by
  obtain ⟨a, ha⟩ := h.den
  obtain ⟨b, hb⟩ := g.den
  have e : ((V + W : Nat) : Rat) = (V : Rat) + (W : Rat) := by exact_mod_cast Rat.natCast_add V W
  have h1 := h.lo
  have h2 := h.hi
  have h3 := g.lo
  have h4 := g.hi
  refine ⟨⟨a + b, by rw [Rat.add_mul, ha, hb, Rat.intCast_add]⟩, ?_, ?_⟩
  · rw [e]; grind
  · rw [e]; grind
theorem Bnd.mono {V W D : Nat} {x : Rat} (h : Bnd V D x) (l : V ≤ W) : Bnd W D x := by
  have : (V : Rat) ≤ (W : Rat) := Rat.natCast_le_natCast.mpr l
  exact ⟨h.den, Rat.le_trans (Rat.neg_le_neg this) h.lo, Rat.le_trans h.hi this⟩
theorem Bnd.zero {V D : Nat} : Bnd V D 0 := by
  have h0 : (0 : Rat) ≤ (V : Rat) := Rat.natCast_nonneg
  refine ⟨⟨0, by rw [Rat.zero_mul]; rfl⟩, ?_, h0⟩
  have := Rat.neg_le_neg h0
  rwa [Rat.neg_zero] at this
theorem Bnd.den_dvd {V D : Nat} {x : Rat} (h : Bnd V D x) : x.den ∣ D := by
  obtain ⟨a, ha⟩ := h.den
  have h1 : x.num * (D : Int) = a * (x.den : Int) := by
    rw [Rat.mul_def', Rat.num_natCast, Rat.den_natCast, Nat.mul_one, show ((a : Int) : Rat) = mkRat a 1 from (Rat.mkRat_one a).symm] at ha
    have := (Rat.mkRat_eq_iff x.den_nz (by decide)).mp ha
    rwa [Int.natCast_one, Int.mul_one] at this
  have h2 : x.den ∣ x.num.natAbs * D := by
    have := congrArg Int.natAbs h1
    rw [Int.natAbs_mul, Int.natAbs_mul, Int.natAbs_natCast, Int.natAbs_natCast] at this
    exact ⟨a.natAbs, by rw [this, Nat.mul_comm]⟩
  exact Nat.Coprime.dvd_of_dvd_mul_left x.reduced.symm h2
theorem Bnd.num_le {V D : Nat} {x : Rat} (h : Bnd V D x) : x.num.natAbs ≤ V * x.den := by
  have h1 := (Rat.le_iff _ _).mp h.hi
  have h2 := (Rat.le_iff _ _).mp h.lo
  simp only [Rat.num_natCast, Rat.den_natCast, Rat.neg_num, Rat.neg_den] at h1 h2
  have e1 : x.num ≤ (V : Int) * (x.den : Int) := by simpa using h1
  have e2 : -((V : Int) * (x.den : Int)) ≤ x.num := by
    have : -(V : Int) * (x.den : Int) ≤ x.num := by simpa using h2
    rwa [Int.neg_mul] at this
  have e3 : ((V * x.den : Nat) : Int) = (V : Int) * (x.den : Int) := by exact_mod_cast rfl
  omega
theorem Bnd.sm {V D : Nat} {x : Rat} (h : Bnd V D x) (hD : 0 < D) (hD' : D < b40) (hV : V * D < b40) : Sm x := by
  have l := Nat.le_of_dvd hD h.den_dvd
  refine ⟨?_, Nat.lt_of_le_of_lt l hD'⟩
  exact Nat.lt_of_le_of_lt (Nat.le_trans h.num_le (Nat.mul_le_mul_left V l)) hV
theorem Bnd.sum {V D : Nat} : ∀ {xs : List Rat}, (∀ x ∈ xs, Bnd V D x) → Bnd (V * xs.length) D xs.sum
  | [], _ => by rw [List.sum_nil]; exact Bnd.zero
  | x :: xs, h => by
    rw [List.sum_cons, List.length_cons, Nat.mul_succ, Nat.add_comm]
    exact (h x List.mem_cons_self).add (Bnd.sum fun y hy => h y (List.mem_cons_of_mem _ hy))
theorem iPow3 {i j c : Int} {k : AK} {M : MH} (h : k (.int c) M) (e : i ^ j.toNat = c) (l : CPow i j) : bPow (.int i) (.int j) M k := by subst e; exact ⟨l, h⟩
theorem iIxRk {a : Addr} {ds : List D} {i : Int} {k : AK} {M : MH} (h : kIx (atI ds i) k M) (q : M a = some (.obj (.lst ds))) : bIx (.ref a) (.int i) M k := by
  show match rdL M (.ref a) with | some ds => kIx (atI ds i) k M | none => False
  have : rdL M (.ref a) = some ds := rdL_ref q
  rw [this]; exact h
theorem iStIxk {a : Addr} {ds : List D} {i : Int} {n : Nat} {d : D} {M : MH} {km : MH → Prop} (h : km (up M a (.obj (.lst (ds.set n d))))) (q : M a = some (.obj (.lst ds))) (l : ixN ds.length i = some n) : stIx (.ref a) (.int i) d M km := iStIx h q l
end M
/-! MEqT: == over data of numbers, None, tuples and lists. -/
namespace M
open PySem L2
inductive T where
  | non | int (i : Int) | tup (ts : List T) | lst (ts : List T)
mutual
def T.d : T → D
  | .non => .non
  | .int i => .int i
  | .tup ts => .tup (T.ds ts)
  | .lst ts => .lst (T.ds ts)
def T.ds : List T → List D
  | [] => []
  | t :: ts => t.d :: T.ds ts
end
mutual
def T.py : T → PyData
  | .non => .none
  | .int i => .int i
  | .tup ts => .tuple (T.pys ts)
  | .lst ts => .list (T.pys ts)
def T.pys : List T → List PyData
  | [] => []
  | t :: ts => t.py :: T.pys ts
end
mutual
/-- how deep -/
def T.dep : T → Nat
  | .non => 0
  | .int _ => 0
  | .tup ts => T.deps ts + 1
  | .lst ts => T.deps ts + 1
def T.deps : List T → Nat
  | [] => 0
  | t :: ts => max t.dep (T.deps ts)
end
mutual
theorem eqv_T : ∀ (t u : T), PyData.eqv t.py u.py = true ↔ t = u
  | .non, u => by cases u <;> simp [T.py, PyData.eqv]
  | .int i, u => by cases u <;> simp [T.py, PyData.eqv]
  | .tup ts, u => by
    cases u with
    | tup us =>
      rw [T.py, T.py, PyData.eqv, eqv_Ts ts us]
      exact ⟨fun h => by rw [h], fun h => by injection h⟩
    | _ => simp [T.py, PyData.eqv]
  | .lst ts, u => by
    cases u with
    | lst us =>
      rw [T.py, T.py, PyData.eqv, eqv_Ts ts us]
      exact ⟨fun h => by rw [h], fun h => by injection h⟩
    | _ => simp [T.py, PyData.eqv]
theorem eqv_Ts : ∀ (ts us : List T), PyData.eqvAll (T.pys ts) (T.pys us) = true ↔ ts = us
  | [], us => by cases us <;> simp [T.pys, PyData.eqvAll]
  | t :: ts, us => by
    cases us with
    | nil => simp [T.pys, PyData.eqvAll]
    | cons u us =>
      rw [T.pys, T.pys, PyData.eqvAll, Bool.and_eq_true, eqv_T t u, eqv_Ts ts us]
      exact ⟨fun h => by rw [h.1, h.2], fun h => by injection h with h1 h2; exact ⟨h1, h2⟩⟩
end
mutual
theorem T.d_py : ∀ t : T, t.d.py = some t.py
  | .non => by rw [T.d, T.py, D.py]
  | .int i => by rw [T.d, T.py, D.py]
  | .tup ts => by rw [T.d, T.py, D.py, T.ds_pys ts]; rfl
  | .lst ts => by rw [T.d, T.py, D.py, T.ds_pys ts]; rfl
theorem T.ds_pys : ∀ ts : List T, D.pys (T.ds ts) = some (T.pys ts)
  | [] => by rw [T.ds, T.pys, D.pys]
  | t :: ts => by rw [T.ds, T.pys, D.pys, T.d_py t, T.ds_pys ts]
end
mutual
theorem T.rd_d (M : MH) : ∀ (n : Nat) (t : T), rdD M n t.d = t.d
  | 0, t => by rfl
  | n + 1, .non => by rfl
  | n + 1, .int i => by rfl
  | n + 1, .tup ts => by
    rw [T.d]
    show D.tup _ = _
    rw [T.rd_ds M n ts]
  | n + 1, .lst ts => by
    rw [T.d]
    show D.lst _ = _
    rw [T.rd_ds M n ts]
theorem T.rd_ds (M : MH) : ∀ (n : Nat) (ts : List T), (T.ds ts).map (rdD M n) = T.ds ts
  | n, [] => rfl
  | n, t :: ts => by rw [T.ds, List.map_cons, T.rd_d M n t, T.rd_ds M n ts]
end
mutual
theorem T.lay : ∀ t : T, t.py.canLay0 = true ∧ t.py.depth = t.dep
  | .non => by simp [T.py, PyData.canLay0, PyData.depth, T.dep]
  | .int i => by simp [T.py, PyData.canLay0, PyData.depth, T.dep]
  | .tup ts => by
    have := T.lays ts
    rw [T.py, PyData.canLay0, PyData.depth, T.dep, this.2]; exact ⟨this.1, rfl⟩
  | .lst ts => by
    have := T.lays ts
    rw [T.py, PyData.canLay0, PyData.depth, T.dep, this.2]; exact ⟨this.1, rfl⟩
theorem T.lays : ∀ ts : List T, PyData.canLayAll0 (T.pys ts) = true ∧ PyData.depthAll (T.pys ts) = T.deps ts
  | [] => by simp [T.pys, PyData.canLayAll0, PyData.depthAll, T.deps]
  | t :: ts => by
    have h1 := T.lay t
    have h2 := T.lays ts
    rw [T.pys, PyData.canLayAll0, PyData.depthAll, T.deps, h1.1, h1.2, h2.1, h2.2]; exact ⟨rfl, rfl⟩
end
theorem T.shaped {t : T} (h : t.dep ≤ 64) : SeqAt.shaped t.py = true := by
  unfold SeqAt.shaped
  rw [t.lay.1, t.lay.2, Bool.true_and]; exact decide_eq_true h
/-- what a datum holds -/
def RdT (M : MH) (d : D) (t : T) : Prop := (rdD M 4 d).py = some t.py ∧ t.dep ≤ 64
theorem RdT.of (M : MH) {t : T} (h : t.dep ≤ 64) : RdT M t.d t := ⟨by
  have := T.rd_d M 4 t
  rw [show rdD M 4 t.d = rdD M 4 t.d from rfl] at this
  rw [this]; exact t.d_py, h⟩
theorem RdT.ref {M : MH} {a : Addr} {ts : List T} (h : M a = some (.obj (.lst (T.ds ts)))) (hd : T.deps ts < 64) : RdT M (.ref a) (.lst ts) := ⟨by
  have e : rdD M 4 (.ref a) = .lst ((T.ds ts).map (rdD M 3)) := by
    show (match M a with | some (.obj (.lst ds)) => D.lst (ds.map (rdD M 3)) | _ => .ref a) = _
    rw [h]
  have := T.rd_ds M 3 ts
  rw [show (T.ds ts).map (rdD M 3) = (T.ds ts).map (rdD M 3) from rfl] at this
  rw [e, this, D.py, T.ds_pys]; rfl, hd⟩
open Classical in
theorem iEqT {neg : Bool} {d e : D} {t u : T} {M : MH} {k : AK} (h : k (.bl (if neg then !decide (t = u) else decide (t = u))) M) (h1 : RdT M d t) (h2 : RdT M e u) : bEq neg d e M k := by
  have q : PyData.eqv t.py u.py = decide (t = u) := by
    by_cases z : t = u
    · rw [decide_eq_true z]; exact (eqv_T t u).mpr z
    · rw [decide_eq_false z]
      cases w : PyData.eqv t.py u.py with
      | false => rfl
      | true => exact absurd ((eqv_T t u).mp w) z
  have gen : ∃ x y, (rdD M 4 d).py = some x ∧ (rdD M 4 e).py = some y ∧ SeqAt.shaped x = true ∧ SeqAt.shaped y = true ∧ k (.bl (if neg then !PyData.eqv x y else PyData.eqv x y)) M :=
    ⟨_, _, h1.1, h2.1, T.shaped h1.2, T.shaped h2.2, by rw [q]; exact h⟩
  unfold bEq
  split
  · rename_i i j
    have e1 := h1.1
    have e2 := h2.1
    have e1 : some (PyData.int i) = some t.py := e1
    have e2 : some (PyData.int j) = some u.py := e2
    have e1 := Option.some.inj e1
    have e2 := Option.some.inj e2
    have : decide (t = u) = decide (i = j) := by
      rw [← q, ← e1, ← e2, PyData.eqv]
      by_cases z : i = j <;> simp [z]
    rw [this] at h; exact h
  · rename_i x y
    have e1 := h1.1
    have e1 : some (PyData.str x) = some t.py := e1
    have e1 := Option.some.inj e1
    cases t <;> (rw [T.py] at e1; cases e1)
  · exact gen
def tI (ns : List Int) : T := .lst (ns.map .int)
def tF (x : Rat) : T := .tup [.int x.num, .int (x.den : Int)]
def tFs (xs : List Rat) : T := .lst (xs.map tF)
theorem tF_d (x : Rat) : (tF x).d = frD x := rfl
theorem ds_map {α : Type} (f : α → T) : ∀ xs : List α, T.ds (xs.map f) = xs.map fun x => (f x).d
  | [] => rfl
  | x :: xs => by rw [List.map_cons, T.ds, ds_map f xs]; rfl
theorem tI_d (ns : List Int) : (tI ns).d = .lst (ns.map .int) := by unfold tI; rw [T.d, ds_map]; rfl
theorem tFs_d (xs : List Rat) : (tFs xs).d = .lst (xs.map frD) := by unfold tFs; rw [T.d, ds_map]; rfl
theorem deps_le {α : Type} {f : α → T} {n : Nat} : ∀ {xs : List α}, (∀ x ∈ xs, (f x).dep ≤ n) → T.deps (xs.map f) ≤ n
  | [], _ => Nat.zero_le _
  | x :: xs, h => by
    rw [List.map_cons, T.deps]
    exact Nat.max_le.mpr ⟨h x List.mem_cons_self, deps_le fun y hy => h y (List.mem_cons_of_mem _ hy)⟩
theorem tI_dep (ns : List Int) : (tI ns).dep ≤ 1 := by
  unfold tI; rw [T.dep]
  have : T.deps (ns.map T.int) ≤ 0 := deps_le fun x _ => Nat.le_refl 0
  omega
theorem tF_dep (x : Rat) : (tF x).dep = 1 := rfl
theorem tFs_dep (xs : List Rat) : (tFs xs).dep ≤ 2 := by
  unfold tFs; rw [T.dep]
  have : T.deps (xs.map tF) ≤ 1 := deps_le fun x _ => by rw [tF_dep]; exact Nat.le_refl 1
  omega
theorem RdT.ints {M : MH} {ns : List Int} : RdT M (.lst (ns.map .int)) (tI ns) := by
  have := RdT.of M (t := tI ns) (by have := tI_dep ns; omega)
  rwa [tI_d] at this
theorem RdT.frs {M : MH} {xs : List Rat} : RdT M (.lst (xs.map frD)) (tFs xs) := by
  have := RdT.of M (t := tFs xs) (by have := tFs_dep xs; omega)
  rwa [tFs_d] at this
theorem RdT.refI {M : MH} {a : Addr} {ns : List Int} (h : M a = some (.obj (.lst (ns.map .int)))) : RdT M (.ref a) (tI ns) := by
  refine RdT.ref (ts := ns.map .int) ?_ ?_
  · rw [ds_map]; exact h
  · have := tI_dep ns; unfold tI at this; rw [T.dep] at this; omega
theorem iEqTt {neg : Bool} {d : D} {t : T} {M : MH} {k : AK} (h : k (.bl !neg) M) (h1 : RdT M d t) : bEq neg d d M k := by
  refine iEqT ?_ h1 h1
  simp only [decide_true]
  cases neg <;> exact h
open Classical in
theorem iEqE {neg : Bool} {d e : D} {t u : T} {M : MH} {k : AK} (h : k (.bl !neg) M) (z : t = u) (h1 : RdT M d t) (h2 : RdT M e u) : bEq neg d e M k := by
  refine iEqT ?_ h1 h2
  rw [decide_eq_true z]
  cases neg <;> exact h
open Classical in
theorem iEqN {neg : Bool} {d e : D} {t u : T} {M : MH} {k : AK} (h : k (.bl neg) M) (z : t ≠ u) (h1 : RdT M d t) (h2 : RdT M e u) : bEq neg d e M k := by
  refine iEqT ?_ h1 h2
  rw [decide_eq_false z]
  cases neg <;> exact h
theorem tI_ne {x : Int} {xs : List Int} : tI (x :: xs) ≠ tI [] := by
  unfold tI; intro h; injection h with h; cases h
section
variable {α : Type} {a b c d e : α} {l : List α}
theorem ix_nat {n j : Nat} (h : j < n) : ixN n (j : Int) = some j := by
  unfold ixN
  rw [if_pos (by omega), if_pos (by omega)]; rfl
theorem ix_c0 : ixN (a :: l).length 0 = some 0 := ix_nat (j := 0) (by simp)
theorem ix_c1 : ixN (a :: b :: l).length 1 = some 1 := ix_nat (j := 1) (by simp)
theorem ix_c2 : ixN (a :: b :: c :: l).length 2 = some 2 := ix_nat (j := 2) (by simp)
theorem ix_c3 : ixN (a :: b :: c :: d :: l).length 3 = some 3 := ix_nat (j := 3) (by simp)
end
theorem cdivS {i j : Int} (h : 0 < j) (h2 : j < 18446744073709551616) : CDivW i j := cdiv h (lt_b89 (m := 64) (by omega) (by decide))
theorem isNon_non : D.non.isNon = true := Eq.trans rfl rfl
theorem isNon_bl {b : Bool} : (D.bl b).isNon = false := Eq.trans rfl rfl
theorem isNon_int {b : Int} : (D.int b).isNon = false := Eq.trans rfl rfl
theorem isNon_str {b : Str} : (D.str b).isNon = false := Eq.trans rfl rfl
theorem isNon_tup {b : List D} : (D.tup b).isNon = false := Eq.trans rfl rfl
theorem isNon_lst {b : List D} : (D.lst b).isNon = false := Eq.trans rfl rfl
theorem isNon_ref {b : Addr} : (D.ref b).isNon = false := Eq.trans rfl rfl
theorem isNon_rd {M : MH} {d : D} {ds : List D} (h : rdL M d = some ds) : d.isNon = false := by
  cases d with
  | non => cases h
  | _ => rfl
theorem ty_rd {M : MH} {d : D} {ds : List D} (h : rdL M d = some ds) : tyD M d = some "list" := by
  cases d with
  | lst l => rfl
  | ref a =>
    have h : (match M a with | some (.obj (.lst ds)) => some ds | _ => none) = some ds := h
    show (match M a with | some (.obj (.lst _)) => some "list" | some (.obj (.dic _)) => some "dict" | _ => none) = _
    split at h
    · rename_i e; rw [e]
    · cases h
  | _ => cases h
theorem iEqB {neg a b : Bool} {M : MH} {k : AK} (h : k (.bl (if neg then !(a == b) else (a == b))) M) : bEq neg (.bl a) (.bl b) M k :=
  ⟨.bool a, .bool b, rfl, rfl, rfl, rfl, by rw [PyData.eqv]; exact h⟩
theorem iEqBs {neg a : Bool} {M : MH} {k : AK} (h : k (.bl !neg) M) : bEq neg (.bl a) (.bl a) M k := iEqB (by rw [beq_self_eq_true]; cases neg <;> exact h)
theorem not_t : (!true) = false := Eq.trans rfl rfl
theorem not_f : (!false) = true := Eq.trans rfl rfl
section
variable {M : MH} {b : Bool} {i : Int} {x : Str} {ds : List D}
theorem ty_non : tyD M .non = some "NoneType" := rfl
theorem ty_bl : tyD M (.bl b) = some "bool" := rfl
theorem ty_int : tyD M (.int i) = some "int" := rfl
theorem ty_str : tyD M (.str x) = some "str" := rfl
theorem ty_tup : tyD M (.tup ds) = some "tuple" := rfl
theorem ty_lst : tyD M (.lst ds) = some "list" := rfl
end
theorem dec_t {h : Decidable True} : @decide True h = true := by cases h with | isTrue _ => rfl | isFalse n => exact absurd trivial n
theorem dec_f {h : Decidable False} : @decide False h = false := by cases h with | isTrue n => exact n.elim | isFalse n => rfl
theorem rng_it {lo : Int} {n i : Nat} {d : D} (h : ((rng lo n).map D.int)[i]? = some d) : i < n ∧ d = .int (lo + (i : Int)) := by
  obtain ⟨v, h1, rfl⟩ := map_get h
  rw [rng_get] at h1
  by_cases q : i < n
  · rw [if_pos q] at h1; cases h1; exact ⟨q, rfl⟩
  · rw [if_neg q] at h1; cases h1
theorem rng_len {lo : Int} {n : Nat} : ((rng lo n).map D.int).length = n := by unfold rng; rw [List.length_map, List.length_map, List.length_range]
theorem atI_of {α : Type} {xs : List α} {j : Nat} {x : α} (h : xs[j]? = some x) : atI xs (0 + (j : Int)) = some x := by rw [Int.zero_add]; exact atI_nat h
end M
/-! MIsi: isinstance, datum by datum. -/
namespace M
open PySem L2
theorem cIsi_eq {M : MH} {k : AK} {d : D} {t U : String} {b : Bool} (q1 : tyD M d = some t) (q2 : kitB t U = some b) : (cIsi [d, .ty U] M k) = (k (.bl b) M) := by
  show (match tyD M d with | some t => (match kitB t U with | some b => k (.bl b) M | none => False) | none => False) = _
  rw [q1]; show (match kitB t U with | some b => k (.bl b) M | none => False) = _
  rw [q2]
theorem kb_NoneType_bool : kitB "NoneType" "bool" = some false := by decide +kernel
theorem kb_NoneType_int : kitB "NoneType" "int" = some false := by decide +kernel
theorem kb_NoneType_str : kitB "NoneType" "str" = some false := by decide +kernel
theorem kb_NoneType_list : kitB "NoneType" "list" = some false := by decide +kernel
theorem kb_NoneType_tuple : kitB "NoneType" "tuple" = some false := by decide +kernel
theorem kb_NoneType_dict : kitB "NoneType" "dict" = some false := by decide +kernel
theorem kb_bool_bool : kitB "bool" "bool" = some true := by decide +kernel
theorem kb_bool_int : kitB "bool" "int" = some true := by decide +kernel
theorem kb_bool_str : kitB "bool" "str" = some false := by decide +kernel
theorem kb_bool_list : kitB "bool" "list" = some false := by decide +kernel
theorem kb_bool_tuple : kitB "bool" "tuple" = some false := by decide +kernel
theorem kb_bool_dict : kitB "bool" "dict" = some false := by decide +kernel
theorem kb_int_bool : kitB "int" "bool" = some false := by decide +kernel
theorem kb_int_int : kitB "int" "int" = some true := by decide +kernel
theorem kb_int_str : kitB "int" "str" = some false := by decide +kernel
theorem kb_int_list : kitB "int" "list" = some false := by decide +kernel
theorem kb_int_tuple : kitB "int" "tuple" = some false := by decide +kernel
theorem kb_int_dict : kitB "int" "dict" = some false := by decide +kernel
theorem kb_str_bool : kitB "str" "bool" = some false := by decide +kernel
theorem kb_str_int : kitB "str" "int" = some false := by decide +kernel
theorem kb_str_str : kitB "str" "str" = some true := by decide +kernel
theorem kb_str_list : kitB "str" "list" = some false := by decide +kernel
theorem kb_str_tuple : kitB "str" "tuple" = some false := by decide +kernel
theorem kb_str_dict : kitB "str" "dict" = some false := by decide +kernel
theorem kb_tuple_bool : kitB "tuple" "bool" = some false := by decide +kernel
theorem kb_tuple_int : kitB "tuple" "int" = some false := by decide +kernel
theorem kb_tuple_str : kitB "tuple" "str" = some false := by decide +kernel
theorem kb_tuple_list : kitB "tuple" "list" = some false := by decide +kernel
theorem kb_tuple_tuple : kitB "tuple" "tuple" = some true := by decide +kernel
theorem kb_tuple_dict : kitB "tuple" "dict" = some false := by decide +kernel
theorem kb_list_bool : kitB "list" "bool" = some false := by decide +kernel
theorem kb_list_int : kitB "list" "int" = some false := by decide +kernel
theorem kb_list_str : kitB "list" "str" = some false := by decide +kernel
theorem kb_list_list : kitB "list" "list" = some true := by decide +kernel
theorem kb_list_tuple : kitB "list" "tuple" = some false := by decide +kernel
theorem kb_list_dict : kitB "list" "dict" = some false := by decide +kernel
theorem eIsi_non_bool {M : MH} {k : AK}  : (cIsi [.non, .ty "bool"] M k) = (k (.bl false) M) := cIsi_eq rfl kb_NoneType_bool
theorem eIsi_non_int {M : MH} {k : AK}  : (cIsi [.non, .ty "int"] M k) = (k (.bl false) M) := cIsi_eq rfl kb_NoneType_int
theorem eIsi_non_str {M : MH} {k : AK}  : (cIsi [.non, .ty "str"] M k) = (k (.bl false) M) := cIsi_eq rfl kb_NoneType_str
theorem eIsi_non_list {M : MH} {k : AK}  : (cIsi [.non, .ty "list"] M k) = (k (.bl false) M) := cIsi_eq rfl kb_NoneType_list
theorem eIsi_non_tuple {M : MH} {k : AK}  : (cIsi [.non, .ty "tuple"] M k) = (k (.bl false) M) := cIsi_eq rfl kb_NoneType_tuple
theorem eIsi_non_dict {M : MH} {k : AK}  : (cIsi [.non, .ty "dict"] M k) = (k (.bl false) M) := cIsi_eq rfl kb_NoneType_dict
theorem eIsi_bl_bool {M : MH} {k : AK} {b : Bool} : (cIsi [(.bl b), .ty "bool"] M k) = (k (.bl true) M) := cIsi_eq rfl kb_bool_bool
theorem eIsi_bl_int {M : MH} {k : AK} {b : Bool} : (cIsi [(.bl b), .ty "int"] M k) = (k (.bl true) M) := cIsi_eq rfl kb_bool_int
theorem eIsi_bl_str {M : MH} {k : AK} {b : Bool} : (cIsi [(.bl b), .ty "str"] M k) = (k (.bl false) M) := cIsi_eq rfl kb_bool_str
theorem eIsi_bl_list {M : MH} {k : AK} {b : Bool} : (cIsi [(.bl b), .ty "list"] M k) = (k (.bl false) M) := cIsi_eq rfl kb_bool_list
theorem eIsi_bl_tuple {M : MH} {k : AK} {b : Bool} : (cIsi [(.bl b), .ty "tuple"] M k) = (k (.bl false) M) := cIsi_eq rfl kb_bool_tuple
theorem eIsi_bl_dict {M : MH} {k : AK} {b : Bool} : (cIsi [(.bl b), .ty "dict"] M k) = (k (.bl false) M) := cIsi_eq rfl kb_bool_dict
theorem eIsi_int_bool {M : MH} {k : AK} {i : Int} : (cIsi [(.int i), .ty "bool"] M k) = (k (.bl false) M) := cIsi_eq rfl kb_int_bool
theorem eIsi_int_int {M : MH} {k : AK} {i : Int} : (cIsi [(.int i), .ty "int"] M k) = (k (.bl true) M) := cIsi_eq rfl kb_int_int
theorem eIsi_int_str {M : MH} {k : AK} {i : Int} : (cIsi [(.int i), .ty "str"] M k) = (k (.bl false) M) := cIsi_eq rfl kb_int_str
theorem eIsi_int_list {M : MH} {k : AK} {i : Int} : (cIsi [(.int i), .ty "list"] M k) = (k (.bl false) M) := cIsi_eq rfl kb_int_list
theorem eIsi_int_tuple {M : MH} {k : AK} {i : Int} : (cIsi [(.int i), .ty "tuple"] M k) = (k (.bl false) M) := cIsi_eq rfl kb_int_tuple
theorem eIsi_int_dict {M : MH} {k : AK} {i : Int} : (cIsi [(.int i), .ty "dict"] M k) = (k (.bl false) M) := cIsi_eq rfl kb_int_dict
theorem eIsi_str_bool {M : MH} {k : AK} {x : Str} : (cIsi [(.str x), .ty "bool"] M k) = (k (.bl false) M) := cIsi_eq rfl kb_str_bool
theorem eIsi_str_int {M : MH} {k : AK} {x : Str} : (cIsi [(.str x), .ty "int"] M k) = (k (.bl false) M) := cIsi_eq rfl kb_str_int
theorem eIsi_str_str {M : MH} {k : AK} {x : Str} : (cIsi [(.str x), .ty "str"] M k) = (k (.bl true) M) := cIsi_eq rfl kb_str_str
theorem eIsi_str_list {M : MH} {k : AK} {x : Str} : (cIsi [(.str x), .ty "list"] M k) = (k (.bl false) M) := cIsi_eq rfl kb_str_list
theorem eIsi_str_tuple {M : MH} {k : AK} {x : Str} : (cIsi [(.str x), .ty "tuple"] M k) = (k (.bl false) M) := cIsi_eq rfl kb_str_tuple
theorem eIsi_str_dict {M : MH} {k : AK} {x : Str} : (cIsi [(.str x), .ty "dict"] M k) = (k (.bl false) M) := cIsi_eq rfl kb_str_dict
theorem eIsi_tup_bool {M : MH} {k : AK} {ds : List D} : (cIsi [(.tup ds), .ty "bool"] M k) = (k (.bl false) M) := cIsi_eq rfl kb_tuple_bool
theorem eIsi_tup_int {M : MH} {k : AK} {ds : List D} : (cIsi [(.tup ds), .ty "int"] M k) = (k (.bl false) M) := cIsi_eq rfl kb_tuple_int
theorem eIsi_tup_str {M : MH} {k : AK} {ds : List D} : (cIsi [(.tup ds), .ty "str"] M k) = (k (.bl false) M) := cIsi_eq rfl kb_tuple_str
theorem eIsi_tup_list {M : MH} {k : AK} {ds : List D} : (cIsi [(.tup ds), .ty "list"] M k) = (k (.bl false) M) := cIsi_eq rfl kb_tuple_list
theorem eIsi_tup_tuple {M : MH} {k : AK} {ds : List D} : (cIsi [(.tup ds), .ty "tuple"] M k) = (k (.bl true) M) := cIsi_eq rfl kb_tuple_tuple
theorem eIsi_tup_dict {M : MH} {k : AK} {ds : List D} : (cIsi [(.tup ds), .ty "dict"] M k) = (k (.bl false) M) := cIsi_eq rfl kb_tuple_dict
theorem eIsi_lst_bool {M : MH} {k : AK} {ds : List D} : (cIsi [(.lst ds), .ty "bool"] M k) = (k (.bl false) M) := cIsi_eq rfl kb_list_bool
theorem eIsi_lst_int {M : MH} {k : AK} {ds : List D} : (cIsi [(.lst ds), .ty "int"] M k) = (k (.bl false) M) := cIsi_eq rfl kb_list_int
theorem eIsi_lst_str {M : MH} {k : AK} {ds : List D} : (cIsi [(.lst ds), .ty "str"] M k) = (k (.bl false) M) := cIsi_eq rfl kb_list_str
theorem eIsi_lst_list {M : MH} {k : AK} {ds : List D} : (cIsi [(.lst ds), .ty "list"] M k) = (k (.bl true) M) := cIsi_eq rfl kb_list_list
theorem eIsi_lst_tuple {M : MH} {k : AK} {ds : List D} : (cIsi [(.lst ds), .ty "tuple"] M k) = (k (.bl false) M) := cIsi_eq rfl kb_list_tuple
theorem eIsi_lst_dict {M : MH} {k : AK} {ds : List D} : (cIsi [(.lst ds), .ty "dict"] M k) = (k (.bl false) M) := cIsi_eq rfl kb_list_dict
end M
/-! MFrac: slices by written ends; amounts by bottoms to sixty. -/
namespace M
open PySem L2
theorem cut_to {α : Type} {xs : List α} {j : Nat} : cutD xs none (some (j : Int)) = xs.take j := by
  unfold cutD
  rw [HT.sIx_none, HT.sIx_nat, List.drop_zero, Nat.sub_zero]
  by_cases h : j ≤ xs.length
  · rw [Nat.min_eq_left h]
  · rw [Nat.min_eq_right (by omega), List.take_of_length_le (Nat.le_refl _), List.take_of_length_le (by omega)]
theorem cut_from {α : Type} {xs : List α} {j : Nat} : cutD xs (some (j : Int)) none = xs.drop j := by
  unfold cutD
  rw [HT.sIx_none, HT.sIx_nat]
  by_cases h : j ≤ xs.length
  · rw [Nat.min_eq_left h, List.take_of_length_le (by rw [List.length_drop]; omega)]
  · rw [Nat.min_eq_right (by omega), List.drop_of_length_le (Nat.le_refl _), List.drop_of_length_le (by omega), List.take_nil]
theorem cut_fromto {α : Type} {xs : List α} {i j : Nat} (hj : j ≤ xs.length) (hi : i ≤ j) : cutD xs (some (i : Int)) (some (j : Int)) = (xs.drop i).take (j - i) := by
  unfold cutD
  rw [HT.sIx_nat, HT.sIx_nat, Nat.min_eq_left hj, Nat.min_eq_left (by omega)]
/-! fractions over a bottom -/
theorem mkRat_den_dvd {a c : Int} (hc : 0 < c) : (mkRat a c.toNat).den ∣ c.toNat := by
  rw [Rat.den_mkRat, if_neg (by omega)]
  exact Nat.div_dvd_of_dvd (Nat.gcd_dvd_left _ _)
theorem mul_den {x : Rat} {D : Nat} (h : x.den ∣ D) : ∃ a : Int, x * (D : Rat) = (a : Rat) := by
  obtain ⟨e, rfl⟩ := h
  refine ⟨x.num * e, ?_⟩
  rw [Rat.mul_def', Rat.num_natCast, Rat.den_natCast, Nat.mul_one, show ((x.num * (e : Int) : Int) : Rat) = mkRat (x.num * e) 1 from (Rat.mkRat_one _).symm]
  refine (Rat.mkRat_eq_iff x.den_nz (by decide)).mpr ?_
  rw [Int.natCast_one, Int.mul_one, Int.natCast_mul, Int.mul_assoc, Int.mul_comm (e : Int)]
theorem mkRat_nonneg {a c : Int} (ha : 0 ≤ a) (hc : 0 < c) : 0 ≤ mkRat a c.toNat := by
  rw [Rat.le_iff, mkRat_num hc]
  rw [show (0 : Rat).num = 0 from rfl, show (0 : Rat).den = 1 from rfl, Int.zero_mul, Int.natCast_one, Int.mul_one]
  exact Int.ediv_nonneg ha (by omega)
theorem mkRat_le {a c : Int} {V : Nat} (ha : 0 ≤ a) (hc : 0 < c) (h : a ≤ V) : mkRat a c.toNat ≤ (V : Rat) := by
  rw [Rat.le_iff, mkRat_num hc, Rat.num_natCast, Rat.den_natCast, Int.natCast_one, Int.mul_one]
  have h1 : a / ((Nat.gcd a.natAbs c.toNat : Nat) : Int) ≤ a := Int.ediv_le_self _ ha
  have h2 : (1 : Int) ≤ ((mkRat a c.toNat).den : Int) := by exact_mod_cast (mkRat a c.toNat).den_pos
  have h3 : (V : Int) * 1 ≤ (V : Int) * ((mkRat a c.toNat).den : Int) := Int.mul_le_mul_of_nonneg_left h2 (by omega)
  omega
/-- an amount: by a bottom to 60 -/
def Amt (x : Rat) : Prop := ∃ (a c : Int), 0 ≤ a ∧ a < 1000000000001 ∧ 1 ≤ c ∧ c ≤ 60 ∧ x = mkRat a c.toNat
def L60 : Nat := 9690712164777231700912800
theorem L60_dvd {c : Nat} (h1 : 1 ≤ c) (h2 : c ≤ 60) : c ∣ L60 := by
  have : ∀ c : Fin 61, c.val = 0 ∨ c.val ∣ L60 := by decide +kernel
  rcases this ⟨c, by omega⟩ with h | h
  · have h : c = 0 := h
    omega
  · exact h
theorem Amt.zero : Amt 0 := ⟨0, 1, by decide, by decide, by decide, by decide, rfl⟩
theorem Amt.nonneg {x : Rat} (h : Amt x) : 0 ≤ x := by
  obtain ⟨a, c, h1, h2, h3, h4, rfl⟩ := h
  exact mkRat_nonneg h1 (by omega)
theorem Amt.bnd {x : Rat} (h : Amt x) : Bnd 1000000000001 L60 x := by
  have h0 := h.nonneg
  obtain ⟨a, c, h1, h2, h3, h4, rfl⟩ := h
  refine ⟨mul_den (Nat.dvd_trans (mkRat_den_dvd (by omega)) (L60_dvd (by omega) (by omega))), ?_, mkRat_le h1 (by omega) (by omega)⟩
  have : (0 : Rat) ≤ ((1000000000001 : Nat) : Rat) := Rat.natCast_nonneg
  grind
theorem Bnd.sm1000 {V D : Nat} {x : Rat} (h : Bnd V D x) (hV : V < 2 ^ 3000) (hD : 0 < D) (hD' : D < 2 ^ 1000) : Sm x := by
  refine h.sm hD ?_ ?_
  · rw [b40_eq]; exact Nat.lt_of_lt_of_le hD' (Nat.pow_le_pow_right (by decide) (by decide))
  · rw [b40_eq, show (4000 : Nat) = 3000 + 1000 from rfl, Nat.pow_add]
    exact Nat.mul_lt_mul'' hV hD'
theorem lt_pow {n a b : Nat} (h : n < 2 ^ a) (hab : a ≤ b) : n < 2 ^ b := Nat.lt_of_lt_of_le h (Nat.pow_le_pow_right (by decide) hab)
theorem L60_lt : L60 < 2 ^ 1000 := lt_pow (a := 100) (by decide +kernel) (by decide)
/-- all heaps are small -/
def SmS (xs : List Rat) : Prop := (∀ x ∈ xs, Sm x) ∧ ∀ i, Sm (xs.take i).sum
theorem Amt.smS {xs : List Rat} (h : ∀ x ∈ xs, Amt x) (hl : xs.length ≤ 1000) : SmS xs := by
  refine ⟨fun x hx => (h x hx).bnd.sm1000 (lt_pow (a := 64) (by decide) (by decide)) (by decide) L60_lt, fun i => ?_⟩
  have b : Bnd (1000000000001 * (xs.take i).length) L60 (xs.take i).sum := Bnd.sum fun x hx => (h x (List.mem_of_mem_take hx)).bnd
  refine b.sm1000 (lt_pow (a := 64) ?_ (by decide)) (by decide) L60_lt
  have : (xs.take i).length ≤ xs.length := by rw [List.length_take]; omega
  have := Nat.mul_le_mul_left 1000000000001 (Nat.le_trans this hl)
  omega
end M
/-! MEnd: what the top has written, the start of a law. -/
namespace M
open PySem L2
theorem FnOk.none {P : Program} {w : World} {K : PySem.W.Frag} {mg : Str → Option Value} {base : Heap} {k : Nat} {f : Addr} {fd : FuncData} {ps : List Str} {F : AF} (h : ∀ ds M k x, F ds M k x → False) : L2.FnOk P w K mg base CX0 k f fd ps (liftF K F) :=
  ⟨fun vs H Q E ⟨ds, M, I, Fr, k, x, r, c, q, _, _⟩ => (h _ _ _ _ q).elim, fun A outer s H args us vs Q E hr he hb hv ⟨ds, M, I, Fr, k, x, r, c, q, _, _⟩ => (h _ _ _ _ q).elim⟩
theorem law_start {K : PySem.W.Frag} {F : AF} {ns : List Int} {H : Hp} {a : Addr} (h : ∀ (k : AK) (M : MH), (∀ M', k (.bl true) M') → F [.scr ns] M k noX) (hS : SqL K H a (ns.map V.int)) : liftF K F [.ref a] H (fun v _ => v = .bl true) fun _ _ _ => False := by
  refine ⟨[.scr ns], fun _ => Option.none, H, fun _ => Option.none, fun d _ => d = .bl true, noX, .cons (by rw [Rel]; exact ⟨a, rfl, hS⟩) .nil, ⟨Le.refl H, fun x m => absurd rfl m, fun x o e => (by cases e), fun x o e => (by cases e)⟩, h _ _ fun _ => rfl, ?_, ?_⟩
  · rintro d M v H' I' rfl l c r
    rwa [Rel] at r
  · intro C w M v H I' d z
    exact z.elim
theorem GlC.pair {K : PySem.W.Frag} {mg : Str → Option Value} {x : Str} {a : Addr} {od : Option Addr} {n : Nat} {sl : Array (Option Value)} {i j : Int} {t u : Tok} (m : mg x = some (.ref a)) (h : K.lookup a = some ⟨.type "tuple", od, (.seq #[.int i t, .int j u] n), sl⟩) : GlC K mg x (.tup [.int i, .int j]) :=
  ⟨.ref a, .ref a, m, rfl, fun I => by
    rw [Rel]
    exact ⟨a, [.int i, .int j], rfl, .inr ⟨_, _, n, h, rfl, rfl, by rw [sizeLine_eq]; show 2 ≤ 16777216; decide, Paired.cons ⟨t, rfl⟩ (Paired.cons ⟨u, rfl⟩ Paired.nil)⟩, .cons (by rw [Rel]) (.cons (by rw [Rel]) .nil)⟩⟩
theorem GlC.int {K : PySem.W.Frag} {mg : Str → Option Value} {x : Str} {i : Int} {t : Tok} (m : mg x = some (.int i t)) : GlC K mg x (.int i) := ⟨_, .int i, m, ⟨t, rfl⟩, fun I => by rw [Rel]⟩
theorem GlC.str {K : PySem.W.Frag} {mg : Str → Option Value} {x z : Str} {t : Tok} (m : mg x = some (.str z t)) : GlC K mg x (.str z) := ⟨_, .str z, m, ⟨t, rfl⟩, fun I => by rw [Rel]⟩
end M
/-! MStr: texts. -/
namespace M
open PySem L2
section
variable {K : PySem.W.Frag} {I : Hp}
theorem Rel.str_ {x : Str} : Rel K I (.str x) (.str x) := by rw [Rel]
theorem Rels.strs : ∀ {ns : List Str} {vs : List V}, Rels K I (ns.map D.str) vs → vs = ns.map V.str
  | [], vs, h => h.nil_inv
  | n :: ns, vs, h => by
    obtain ⟨w, ws, rfl, h2, h3⟩ := Rels.cons_inv (d := .str n) (ds := ns.map D.str) h
    rw [Rel] at h2
    rw [h2, Rels.strs h3]; rfl
theorem Rels.of_strs : ∀ {ns : List Str}, Rels K I (ns.map D.str) (ns.map V.str)
  | [] => .nil
  | n :: ns => .cons (by rw [Rel]) Rels.of_strs
theorem Rels.bls : ∀ {ns : List Bool} {vs : List V}, Rels K I (ns.map D.bl) vs → vs = ns.map V.bl
  | [], vs, h => h.nil_inv
  | n :: ns, vs, h => by
    obtain ⟨w, ws, rfl, h2, h3⟩ := Rels.cons_inv (d := .bl n) (ds := ns.map D.bl) h
    rw [Rel] at h2
    rw [h2, Rels.bls h3]; rfl
end
section
variable {X : Cx} {e a b c o : Expr} {es : List Expr} {pos p apos cpos : Pos} {K : PySem.W.Frag} {f g : AE}
def cStr : AC := fun ds M k => match ds with
  | [.int i] => i.natAbs.log2 < 1920 ∧ k (.str (toString i)) M
  | _ => False
theorem cStr_ok : OkC K (fun xs H Q => ∃ i, xs = [.int i] ∧ i.natAbs.log2 < 1920 ∧ Q (.str (toString i)) H) cStr := by
  intro ds M k vs H I F Q h c r hk
  unfold cStr at h
  split at h
  · obtain ⟨v, rfl, r9⟩ := rels1 r
    rw [Rel] at r9; subst r9
    exact ⟨_, rfl, h.1, hk _ _ _ _ _ h.2 (Le.refl I) c (by rw [Rel])⟩
  · exact h.elim
def cInt : AC := fun ds M k => match ds with
  | [.str x] => ∃ n, PySem.intText? x = some n ∧ x.length ≤ 640 ∧ k (.int n) M
  | _ => False
theorem cInt_ok : OkC K (fun xs H Q => ∃ a n, xs = [.str a] ∧ PySem.intText? a = some n ∧ a.length ≤ 640 ∧ Q (.int n) H) cInt := by
  intro ds M k vs H I F Q h c r hk
  unfold cInt at h
  split at h
  · obtain ⟨v, rfl, r9⟩ := rels1 r
    rw [Rel] at r9; subst r9
    obtain ⟨n, h1, h2, h3⟩ := h
    exact ⟨_, n, rfl, h1, h2, hk _ _ _ _ _ h3 (Le.refl I) c (by rw [Rel])⟩
  · exact h.elim
def cAll : AC := fun ds M k => match ds with
  | [d] => ∃ bs : List Bool, rdS M d = some (bs.map .bl) ∧ k (.bl (bs.all id)) M
  | _ => False
def cAny : AC := fun ds M k => match ds with
  | [d] => ∃ bs : List Bool, rdS M d = some (bs.map .bl) ∧ k (.bl (bs.any id)) M
  | _ => False
theorem cAll_ok : OkC K (rAll K) cAll := by
  intro ds M k vs H I F Q h c r hk
  unfold cAll at h
  split at h
  · obtain ⟨v, rfl, r9⟩ := rels1 r
    obtain ⟨bs, h1, h2⟩ := h
    obtain ⟨q, ws, rfl, g, s⟩ := rdS_ok h1 c r9
    rw [s.bls] at g
    exact ⟨q, bs, rfl, g, hk _ _ _ _ _ h2 (Le.refl I) c (by rw [Rel])⟩
  · exact h.elim
theorem cAny_ok : OkC K (rAny K) cAny := by
  intro ds M k vs H I F Q h c r hk
  unfold cAny at h
  split at h
  · obtain ⟨v, rfl, r9⟩ := rels1 r
    obtain ⟨bs, h1, h2⟩ := h
    obtain ⟨q, ws, rfl, g, s⟩ := rdS_ok h1 c r9
    rw [s.bls] at g
    exact ⟨q, bs, rfl, g, hk _ _ _ _ _ h2 (Le.refl I) c (by rw [Rel])⟩
  · exact h.elim
section
variable {ga : AA}
theorem e_str (hm : X.mg "str" = none) (ha : PA X (e :: es) (liftA X.K ga)) (hg : Gl X "str" := by rfl) (he : starEach (e :: es) X.env = (false, eval e X.env) :: starEach es X.env := by rfl) (hpl : (backTo pos (starEach es X.env)).any (·.1) = false := by rfl) :
    PE X (.Call (.Name "str" p) (e :: es) [] pos) (lift X.K (aCB cStr ga)) := e_callTy call_str_int cStr_ok hm (by decide +kernel) ha hg (by decide) (by decide) he hpl
theorem e_int (hm : X.mg "int" = none) (ha : PA X (e :: es) (liftA X.K ga)) (hg : Gl X "int" := by rfl) (he : starEach (e :: es) X.env = (false, eval e X.env) :: starEach es X.env := by rfl) (hpl : (backTo pos (starEach es X.env)).any (·.1) = false := by rfl) :
    PE X (.Call (.Name "int" p) (e :: es) [] pos) (lift X.K (aCB cInt ga)) := e_callTy call_int_str cInt_ok hm (by decide +kernel) ha hg (by decide) (by decide) he hpl
theorem e_all (hc : X.calm = true) (hm : X.mg "all" = none) (ha : PA X (e :: es) (liftA X.K ga)) (hg : Gl X "all" := by rfl) (he : starEach (e :: es) X.env = (false, eval e X.env) :: starEach es X.env := by rfl) (hpl : (backTo pos (starEach es X.env)).any (·.1) = false := by rfl) :
    PE X (.Call (.Name "all" p) (e :: es) [] pos) (lift X.K (aCB cAll ga)) := e_callB (cr_all hc) cAll_ok hm (by decide +kernel) ha hg (by decide) (by decide) he hpl
theorem e_any (hc : X.calm = true) (hm : X.mg "any" = none) (ha : PA X (e :: es) (liftA X.K ga)) (hg : Gl X "any" := by rfl) (he : starEach (e :: es) X.env = (false, eval e X.env) :: starEach es X.env := by rfl) (hpl : (backTo pos (starEach es X.env)).any (·.1) = false := by rfl) :
    PE X (.Call (.Name "any" p) (e :: es) [] pos) (lift X.K (aCB cAny ga)) := e_callB (cr_any hc) cAny_ok hm (by decide +kernel) ha hg (by decide) (by decide) he hpl
end
/-- one sign in a text -/
def bInS (neg : Bool) : AB := fun d e M k => match d, e with
  | .str x, .str y => ∃ c : Nat, x = ⟨#[c]⟩ ∧ neg = false ∧ k (.bl (decide (c ∈ y.cps.toList))) M
  | _, _ => False
theorem bInS_ok {neg : Bool} : OkB K (fun x y H Q => ∃ (c : Nat) (z : Str), x = .str ⟨#[c]⟩ ∧ y = .str z ∧ Q (.bl (decide (c ∈ z.cps.toList))) H) (bInS neg) := by
  intro d e M k v u H I F Q h c r1 r2 hk
  unfold bInS at h
  split at h
  · rw [Rel] at r1 r2
    subst r1 r2
    obtain ⟨c', rfl, _, h⟩ := h
    exact ⟨_, _, rfl, rfl, hk _ M _ H I h (Le.refl I) c (by rw [Rel])⟩
  · exact h.elim
theorem e_inS {fa fb : AE} (ha : PE X a (lift X.K fa)) (hb : PE X b (lift X.K fb)) (hm : behindInMarks .In b = false := by with_unfolding_all rfl) : PE X (.Compare a [.In] [b] pos) (lift X.K (aOp (bInS false) fa fb)) := (pe_cmpR op_in_sign ha hb hm).imp (lift_op bInS_ok)
theorem t_inS {fa fb : AE} (ha : PE X a (lift X.K fa)) (hb : PE X b (lift X.K fb)) (hm : behindInMarks .In b = false := by with_unfolding_all rfl) : PT X (.Compare a [.In] [b] pos) (liftT X.K (aB (aOp (bInS false) fa fb))) := t_op op_in_sign bInS_ok ha hb hm
/-- a text so many times -/
def repS (x : Str) (n : Nat) : Str := ⟨(List.replicate n x.cps).foldl (· ++ ·) #[]⟩
def bRepS : AB := fun d e M k => match d, e with
  | .str x, .int n => (2 ≤ n ∧ n < 1000000 ∧ 1 ≤ x.length ∧ x.length * n.toNat ≤ sizeLine) ∧ k (.str (repS x n.toNat)) M
  | _, _ => False
theorem op_repSt : OpR X (binaryOp .Mult) (fun x y H Q => ∃ z n, x = .str z ∧ y = .int n ∧ 2 ≤ n ∧ n < 1000000 ∧ 1 ≤ z.length ∧ z.length * n.toNat ≤ sizeLine ∧ Q (.str (repS z n.toNat)) H) := by
  intro pins s σ H x y v u Q I rx ry h
  obtain ⟨z, n, rfl, rfl, h1, h2, h3, h4, q⟩ := h
  obtain ⟨t, rfl⟩ := rx
  obtain ⟨t', rfl⟩ := ry
  have n1 : ¬ n < 1 := by omega
  have e1 : (n == 1 || z.length == 0) = false := by
    have a1 : (n == 1) = false := by simp; omega
    have a2 : (z.length == 0) = false := by simp; omega
    rw [a1, a2]; rfl
  refine P.mul_str ?_ (fun _ _ => ?_) (fun _ _ => ?_) ?_
  · rw [decide_eq_false (by omega), decide_eq_false (by omega)]; rfl
  · have : (z.length : Int) ≤ 16777216 := by
      rw [sizeLine_eq] at h4
      have h5 : z.length * 1 ≤ z.length * n.toNat := Nat.mul_le_mul_left _ (by omega)
      omega
    have h6 : (2 : Int) ^ 63 - 1 ≥ 16777216 * n := by omega
    have h7 : 16777216 ≤ ((2 : Int) ^ 63 - 1) / n := Int.le_ediv_of_mul_le (by omega) h6
    omega
  · unfold Builtin.Str.tooLong
    exact decide_eq_false (by omega)
  · rw [if_neg n1, if_neg (by rw [e1]; decide)]
    exact ⟨PySem.fits_reps (by unfold Builtin.Str.tooLong; exact decide_eq_false (by omega)), ⟨.str _, H, I.tok _, ⟨_, rfl⟩, q⟩⟩
theorem bRepS_ok : OkB K (fun x y H Q => ∃ z n, x = .str z ∧ y = .int n ∧ 2 ≤ n ∧ n < 1000000 ∧ 1 ≤ z.length ∧ z.length * n.toNat ≤ sizeLine ∧ Q (.str (repS z n.toNat)) H) bRepS := by
  intro d e M k v u H I F Q h c r1 r2 hk
  unfold bRepS at h
  split at h
  · rw [Rel] at r1
    rw [Rel] at r2
    subst r1 r2
    obtain ⟨⟨h1, h2, h3, h4⟩, h⟩ := h
    exact ⟨_, _, rfl, rfl, h1, h2, h3, h4, hk _ M _ H I h (Le.refl I) c (by rw [Rel])⟩
  · exact h.elim
theorem e_repS {fa fb : AE} (ha : PE X a (lift X.K fa)) (hb : PE X b (lift X.K fb)) : PE X (.BinOp a .Mult b pos) (lift X.K (aOp bRepS fa fb)) := (pe_op op_repSt ha hb).imp (lift_op bRepS_ok)
/-! methods of texts, with one argument -/
abbrev AM1 := D → D → MH → AK → Prop
def OkM1 (K : PySem.W.Frag) (r : V → List V → Hp → VK → Prop) (op : AM1) : Prop := ∀ d e M k v u H I F Q, op d e M k → Conc K H I M F → Rel K I d v → Rel K I e u → kE K I F k Q → r v [u] H Q
def aM1 (op : AM1) (f g : AE) : AE := fun Γ M k => f Γ M fun d M1 => match d with
  | .str x => g Γ M1 fun e M2 => op (.str x) e M2 k
  | _ => False
theorem lift_M1 {r : V → List V → Hp → VK → Prop} {op : AM1} (h : OkM1 K r op) : ∀ σ H Q, lift K (aM1 op f g) σ H Q → tM1 r (lift K f) (lift K g) σ H Q := fun σ H Q ⟨Γ, M, I, F, k, hs, hc, hf, hk⟩ =>
  ⟨Γ, M, I, F, _, hs, hc, hf, fun d M1 v H1 I1 h1 l1 c1 r1 => by
    split at h1
    · rename_i x
      have r1' := r1
      rw [Rel] at r1'
      exact ⟨⟨x, r1'⟩, Γ, M1, I1, F, _, hs.le l1, c1, h1, fun e M2 u H2 I2 h2 l2 c2 r2 => h _ _ _ _ _ _ _ _ _ _ h2 c2 (Rel.le l2 _ _ r1) r2 (hk.le (l1.trans l2))⟩
    · exact h1.elim⟩
def sPart : AM1 := fun d e M k => match d, e with
  | .str a, .str b => ((b.length == 0) = false ∧ a.length ≤ sizeLine) ∧ k (.tup [.str (Txt.partition a b).1, .str (Txt.partition a b).2.1, .str (Txt.partition a b).2.2]) M
  | _, _ => False
theorem sPart_ok : OkM1 K (fun x xs H Q => ∃ a b, x = .str a ∧ xs = [.str b] ∧ (b.length == 0) = false ∧ a.length ≤ sizeLine ∧
    ∀ p, H p = none → Q (.ref p) (upd H p (.tup [.str (Txt.partition a b).1, .str (Txt.partition a b).2.1, .str (Txt.partition a b).2.2]))) sPart := by
  intro d e M k v u H I F Q h c r1 r2 hk
  unfold sPart at h
  split at h
  · rw [Rel] at r1 r2
    subst r1 r2
    exact ⟨_, _, rfl, rfl, h.1.1, h.1.2, fun p hp => nt_ok h.2 c (.cons Rel.str_ (.cons Rel.str_ (.one Rel.str_))) hk hp⟩
  · exact h.elim
def sSplit (m : Bool) : AM1 := fun d e M k => match d, e with
  | .str a, .str b => ((b.length == 0) = false ∧ a.length + 2 ≤ sizeLine) ∧ nl m ((Txt.split a b).map .str) M k
  | _, _ => False
theorem sSplit_ok {m : Bool} : OkM1 K (fun x xs H Q => ∃ a b, x = .str a ∧ xs = [.str b] ∧ (b.length == 0) = false ∧ a.length + 2 ≤ sizeLine ∧ rNewStrs (Txt.split a b) H Q) (sSplit m) := by
  intro d e M k v u H I F Q h c r1 r2 hk
  unfold sSplit at h
  split at h
  · rw [Rel] at r1 r2
    subst r1 r2
    exact ⟨_, _, rfl, rfl, h.1.1, h.1.2, fun p hp => nl_ok h.2 c Rels.of_strs hk hp⟩
  · exact h.elim
def sJoin : AM1 := fun d e M k => match d with
  | .str a => ∃ ys : List Str, rdS M e = some (ys.map .str) ∧ (ys.map (·.length)).sum + ys.length * a.length ≤ 16777216 ∧ k (.str (Txt.join a ys)) M
  | _ => False
theorem sJoin_ok : OkM1 K (fun x xs H Q => ∃ a p, ∃ ys : List Str, x = .str a ∧ xs = [.ref p] ∧ (SqL K H p (ys.map V.str) ∨ SqT K H p (ys.map V.str)) ∧
    (ys.map (·.length)).sum + ys.length * a.length ≤ 16777216 ∧ Q (.str (Txt.join a ys)) H) sJoin := by
  intro d e M k v u H I F Q h c r1 r2 hk
  unfold sJoin at h
  split at h
  · rw [Rel] at r1
    subst r1
    obtain ⟨ys, h1, h2, h3⟩ := h
    obtain ⟨q, ws, rfl, g, s⟩ := rdS_ok h1 c r2
    rw [s.strs] at g
    exact ⟨_, q, ys, rfl, rfl, .inl g, h2, hk _ _ _ _ _ h3 (Le.refl I) c (by rw [Rel])⟩
  · exact h.elim
theorem e_spartition (ho : PE X o (lift X.K f)) (he : PE X e (lift X.K g)) (hs : starEach [e] X.env = [(false, eval e X.env)] := by rfl) (hbase : attributeBase o "partition" X.env (eval o X.env) = eval o X.env := by rfl) (hline : (apos.endLine == pos.line) = true := by rfl) :
    PE X (.Call (.Attribute o "partition" apos) [e] [] pos) (lift X.K (aM1 sPart f g)) := (pe_partition ho he hs hbase hline).imp (lift_M1 sPart_ok)
theorem e_ssplit (m : Bool) (ho : PE X o (lift X.K f)) (he : PE X e (lift X.K g)) (hs : starEach [e] X.env = [(false, eval e X.env)] := by rfl) (hbase : attributeBase o "split" X.env (eval o X.env) = eval o X.env := by rfl) (hline : (apos.endLine == pos.line) = true := by rfl) :
    PE X (.Call (.Attribute o "split" apos) [e] [] pos) (lift X.K (aM1 (sSplit m) f g)) := (pe_split ho he hs hbase hline).imp (lift_M1 sSplit_ok)
theorem e_sjoin (ho : PE X o (lift X.K f)) (he : PE X e (lift X.K g)) (hs : starEach [e] X.env = [(false, eval e X.env)] := by rfl) (hbase : attributeBase o "join" X.env (eval o X.env) = eval o X.env := by rfl) (hline : (apos.endLine == pos.line) = true := by rfl) :
    PE X (.Call (.Attribute o "join" apos) [e] [] pos) (lift X.K (aM1 sJoin f g)) := (pe_join ho he hs hbase hline).imp (lift_M1 sJoin_ok)
/-! texts put together of parts -/
def aFmt (f : AE) : AE := fun Γ M k => f Γ M fun d M1 => match d with
  | .str y => y.length ≤ sizeLine ∧ k (.str y) M1
  | .int i => i.natAbs.log2 < 1920 ∧ k (.str (toString i)) M1
  | _ => False
theorem e_fmt (he : PE X e (lift X.K f)) : PE X (.FormattedValue e (-1) none pos) (lift X.K (aFmt f)) := (pe_fmt he).imp fun σ H Q ⟨Γ, M, I, F, k, hs, hc, hf, hk⟩ =>
  ⟨Γ, M, I, F, _, hs, hc, hf, fun d M1 v H1 I1 h1 l1 c1 r1 => by
    split at h1
    · rename_i y
      rw [Rel] at r1
      exact .inl ⟨y, r1, h1.1, hk _ _ _ _ _ h1.2 l1 c1 (by rw [Rel])⟩
    · rename_i i
      rw [Rel] at r1
      exact .inr ⟨i, r1, h1.1, hk _ _ _ _ _ h1.2 l1 c1 (by rw [Rel])⟩
    · exact h1.elim⟩
def aJs : List AE → Str → AE
  | [], acc => fun _ M k => k (.str acc) M
  | f :: fs, acc => fun Γ M k => f Γ M fun d M1 => match d with
    | .str y => (acc ++ y).length ≤ sizeLine ∧ aJs fs (acc ++ y) Γ M1 k
    | _ => False
theorem lift_js : ∀ (fs : List AE) (acc : Str) (σ : L2.St) (H : Hp) (Q : VK), lift K (aJs fs acc) σ H Q → tJs (fs.map (lift K)) acc σ H fun out H1 => Q (.str out) H1
  | [], acc, σ, H, Q, ⟨Γ, M, I, F, k, hs, hc, hf, hk⟩ => hk _ _ _ _ _ hf (Le.refl I) hc (by rw [Rel])
  | f :: fs, acc, σ, H, Q, ⟨Γ, M, I, F, k, hs, hc, hf, hk⟩ => ⟨Γ, M, I, F, _, hs, hc, hf, fun d M1 v H1 I1 h1 l1 c1 r1 => by
    split at h1
    · rename_i y
      rw [Rel] at r1
      exact ⟨y, r1, h1.1, lift_js fs _ σ H1 Q ⟨Γ, M1, I1, F, k, hs.le l1, c1, h1.2, hk.le l1⟩⟩
    · exact h1.elim⟩
inductive PJ2 (X : Cx) : List Expr → List AE → Prop where
  | nil : PJ2 X [] []
  | cons {e : Expr} {t : AE} {es : List Expr} {ts : List AE} (h : PE X e (lift X.K t)) (r : PJ2 X es ts) : PJ2 X (e :: es) (t :: ts)
theorem PJ2.pj {es : List Expr} {ts : List AE} (h : PJ2 X es ts) : PJ X es (ts.map (lift X.K)) := by
  induction h with
  | nil => exact .nil
  | cons h _ ih => exact .cons h ih
theorem e_joined {v1 v2 : Expr} {rest : List Expr} {fs : List AE} (h : PJ2 X (v1 :: v2 :: rest) fs) : PE X (.JoinedStr (v1 :: v2 :: rest) pos) (lift X.K (aJs fs Str.empty)) := (pe_joined h.pj).imp fun σ H Q q => lift_js fs _ σ H Q q
theorem e_joined1 (he : PE X e (lift X.K f)) : PE X (.JoinedStr [e] pos) (lift X.K f) := pe_joined1 he
/-! steps -/
variable {Γ : G} {M : MH} {k : AK} {x y z : Str} {i n : Int} {bs : List Bool} {d : D}
theorem iStr (h : k (.str (toString i)) M) (l : i.natAbs.log2 < 1920) : cStr [.int i] M k := ⟨l, h⟩
theorem iInt (h : k (.int n) M) (q : PySem.intText? x = some n) (l : x.length ≤ 640) : cInt [.str x] M k := ⟨n, q, l, h⟩
theorem iAll (h : k (.bl (bs.all id)) M) (q : rdS M d = some (bs.map .bl)) : cAll [d] M k := ⟨bs, q, h⟩
theorem iAny (h : k (.bl (bs.any id)) M) (q : rdS M d = some (bs.map .bl)) : cAny [d] M k := ⟨bs, q, h⟩
def kM1 (op : AM1) (g : AE) (Γ : G) (k : AK) : AK := fun d M1 => match d with
  | .str x => g Γ M1 fun e M2 => op (.str x) e M2 k
  | _ => False
theorem eM1 {op : AM1} : (aM1 op f g Γ M k) = (f Γ M (kM1 op g Γ k)) := propext Iff.rfl
theorem eM1s {op : AM1} : (kM1 op g Γ k (.str x) M) = (g Γ M fun e M2 => op (.str x) e M2 k) := propext Iff.rfl
theorem iPart' (h : k (.tup [.str (Txt.partition x y).1, .str (Txt.partition x y).2.1, .str (Txt.partition x y).2.2]) M) (l1 : (y.length == 0) = false) (l2 : x.length ≤ sizeLine) : sPart (.str x) (.str y) M k := ⟨⟨l1, l2⟩, h⟩
def kFm (k : AK) : AK := fun d M1 => match d with
  | .str y => y.length ≤ sizeLine ∧ k (.str y) M1
  | .int i => i.natAbs.log2 < 1920 ∧ k (.str (toString i)) M1
  | _ => False
theorem eFmt : (aFmt f Γ M k) = (f Γ M (kFm k)) := propext Iff.rfl
theorem eFmtS : (kFm k (.str x) M) = (x.length ≤ sizeLine ∧ k (.str x) M) := propext Iff.rfl
theorem eFmtI : (kFm k (.int i) M) = (i.natAbs.log2 < 1920 ∧ k (.str (toString i)) M) := propext Iff.rfl
def kJs (fs : List AE) (acc : Str) (Γ : G) (k : AK) : AK := fun d M1 => match d with
  | .str y => (acc ++ y).length ≤ sizeLine ∧ aJs fs (acc ++ y) Γ M1 k
  | _ => False
theorem eJs0 : (aJs [] x Γ M k) = (k (.str x) M) := propext Iff.rfl
theorem eJs {fs : List AE} : (aJs (f :: fs) x Γ M k) = (f Γ M (kJs fs x Γ k)) := propext Iff.rfl
theorem eJs1 {fs : List AE} : (kJs fs x Γ k (.str y) M) = ((x ++ y).length ≤ sizeLine ∧ aJs fs (x ++ y) Γ M k) := propext Iff.rfl
theorem eRepS : (bRepS (.str x) (.int n) M k) = ((2 ≤ n ∧ n < 1000000 ∧ 1 ≤ x.length ∧ x.length * n.toNat ≤ sizeLine) ∧ k (.str (repS x n.toNat)) M) := propext Iff.rfl
theorem iInS {c : Nat} (h : k (.bl (decide (c ∈ y.cps.toList))) M) (q : x = ⟨#[c]⟩) : bInS false (.str x) (.str y) M k := ⟨c, q, rfl, h⟩
end
end M
/-! MText: texts by their signs; how numbers and fractions are written and read. -/
namespace M
open PySem L2
def S (l : List Nat) : Str := ⟨l.toArray⟩
theorem tl_S (l : List Nat) : TL.tl (S l) = l := by unfold TL.tl S; simp
theorem S_tl (x : Str) : S (TL.tl x) = x := TL.ext_tl (tl_S _)
theorem S_app (a b : List Nat) : S a ++ S b = S (a ++ b) := TL.ext_tl (by rw [TL.tl_append, tl_S, tl_S, tl_S])
theorem S_len (l : List Nat) : (S l).length = l.length := by rw [TL.len_tl, tl_S]
theorem S_inj {a b : List Nat} (h : S a = S b) : a = b := by rw [← tl_S a, ← tl_S b, h]
theorem S_nil : Str.empty = S [] := rfl
theorem signs_S (l : List Nat) : signsD (S l) = l.map fun c => D.str (S [c]) := by
  unfold signsD
  have : (S l).cps.toList = l := tl_S l
  rw [this]; rfl
/-- a whole number's signs -/
def intTx (i : Int) : List Nat := if i < 0 then 45 :: TL.numL i.natAbs else TL.numL i.natAbs
theorem nat_S (n : Nat) : Str.ofString (toString ((n : Nat) : Int)) = S (TL.numL n) := TL.ext_tl (by rw [TL.tl_num, tl_S])
theorem ofS_app (a b : String) : Str.ofString (a ++ b) = Str.ofString a ++ Str.ofString b := by
  apply TL.ext_tl
  rw [TL.tl_append]
  show (Str.ofString (a ++ b)).cps.toList = (Str.ofString a).cps.toList ++ (Str.ofString b).cps.toList
  rw [PyProof.Rows.signs_ofString, PyProof.Rows.signs_ofString, PyProof.Rows.signs_ofString, String.toList_append, List.map_append]
theorem int_S (i : Int) : Str.ofString (toString i) = S (intTx i) := by
  unfold intTx
  by_cases h : i < 0
  · rw [if_pos h, PyProof.Rows.toString_neg h, ofS_app]
    have : (0 : Int) - i = ((i.natAbs : Nat) : Int) := by omega
    rw [this, nat_S, show Str.ofString "-" = S [45] from rfl, S_app]; rfl
  · rw [if_neg h]
    have : i = ((i.natAbs : Nat) : Int) := by omega
    conv => lhs; rw [this]
    exact nat_S _
/-- a fraction's signs -/
def frTx (x : Rat) : List Nat := if x.den = 1 then intTx x.num else intTx x.num ++ 47 :: TL.numL x.den
def isDig (c : Nat) : Bool := decide (48 ≤ c ∧ c ≤ 57)
def numIn (l : List Nat) : Option Int := if 0 < l.length ∧ l.length ≤ 400 ∧ l.all isDig = true then (if l.head? ≠ some 48 ∨ l = [48] then some ((NumText.digitsVal l : Nat) : Int) else none) else none
def topIn (l : List Nat) : Option Int := if l.take 1 ≠ [45] then numIn l else match numIn (l.drop 1) with
  | some n => if n = 0 then none else some (0 - n)
  | none => none
/-- up to the first c, and behind it -/
def cutAt (c : Nat) : List Nat → Option (List Nat × List Nat)
  | [] => none
  | d :: l => if d = c then some ([], l) else match cutAt c l with
    | some (a, b) => some (d :: a, b)
    | none => none
theorem cutAt_some {c : Nat} : ∀ {l a b : List Nat}, cutAt c l = some (a, b) → l = a ++ c :: b ∧ c ∉ a
  | [], _, _, h => by cases h
  | d :: l, a, b, h => by
    unfold cutAt at h
    by_cases q : d = c
    · rw [if_pos q] at h; cases h; subst q; exact ⟨rfl, by simp⟩
    · rw [if_neg q] at h
      cases e : cutAt c l with
      | none => rw [e] at h; cases h
      | some p =>
        obtain ⟨a', b'⟩ := p
        rw [e] at h; cases h
        obtain ⟨h1, h2⟩ := cutAt_some e
        refine ⟨by rw [h1]; rfl, ?_⟩
        rw [List.mem_cons, not_or]
        exact ⟨fun z => q z.symm, h2⟩
theorem cutAt_cons {c d : Nat} {l : List Nat} : cutAt c (d :: l) = if d = c then some ([], l) else match cutAt c l with
    | some (a, b) => some (d :: a, b)
    | none => none := by rw [cutAt]
theorem cutAt_no {c : Nat} : ∀ {l : List Nat}, c ∉ l → cutAt c l = none
  | [], _ => by rw [cutAt]
  | d :: l, h => by
    rw [List.mem_cons, not_or] at h
    rw [cutAt_cons, if_neg (fun z => h.1 z.symm), cutAt_no h.2]
theorem cutAt_app {c : Nat} {b : List Nat} : ∀ {a : List Nat}, c ∉ a → cutAt c (a ++ c :: b) = some (a, b)
  | [], _ => by rw [List.nil_append, cutAt_cons, if_pos rfl]
  | d :: a, h => by
    rw [List.mem_cons, not_or] at h
    rw [List.cons_append, cutAt_cons, if_neg (fun z => h.1 z.symm), cutAt_app h.2]
theorem cutAt_none {c : Nat} : ∀ {l : List Nat}, cutAt c l = none → c ∉ l
  | [], _ => by simp
  | d :: l, h => by
    rw [cutAt_cons] at h
    by_cases q : d = c
    · rw [if_pos q] at h; cases h
    · rw [if_neg q] at h
      cases e : cutAt c l with
      | none => rw [List.mem_cons, not_or]; exact ⟨fun z => q z.symm, cutAt_none e⟩
      | some p => rw [e] at h; cases h
theorem part_S {c : Nat} {l : List Nat} : Txt.partition (S l) (S [c]) = match cutAt c l with
    | some (a, b) => (S a, S [c], S b)
    | none => (S l, S [], S []) := by
  cases e : cutAt c l with
  | none => exact TL.partition_none (y := S [c]) (s := c) (S := []) (tl_S _) (by rw [tl_S]; exact cutAt_none e)
  | some p =>
    obtain ⟨a, b⟩ := p
    obtain ⟨h1, h2⟩ := cutAt_some e
    have := TL.partition_app (y := S [c]) (s := c) (S := []) (tl_S _) (a := S a) (b := S b) (by rw [tl_S]; exact h2)
    rw [S_app, S_app, List.append_assoc] at this
    rw [h1]; exact this
def frIn (l : List Nat) : Option (Int × Int) := match cutAt 47 l with
  | some (a, b) => match topIn a, numIn b with
    | some t, some d => if d < 2 then none else if mkRat t d.toNat = mkRat t d.toNat ∧ (mkRat t d.toNat).num = t ∧ ((mkRat t d.toNat).den : Int) = d then some (t, d) else none
    | _, _ => none
  | none => match topIn l with
    | some t => some (t, 1)
    | none => none
theorem dig_all {l : List Nat} : l.all isDig = true ↔ NumText.AllDigits l := by
  rw [List.all_eq_true]
  exact ⟨fun h c hc => by simpa [isDig] using h c hc, fun h c hc => by simpa [isDig] using h c hc⟩
theorem numL_head : ∀ n : Nat, 0 < n → (TL.numL n).head? ≠ some 48 := by
  intro n
  induction n using Nat.strongRecOn with
  | _ n ih =>
    intro hn
    by_cases h : n < 10
    · rw [TL.numL_lt h]; simp; omega
    · rw [TL.numL_step (by omega)]
      have := ih (n / 10) (by omega) (by omega)
      have ne := TL.numL_ne (n / 10)
      cases q : TL.numL (n / 10) with
      | nil => exact absurd q ne
      | cons x r => rw [q] at this; exact this
theorem numIn_num {n : Nat} (h : (TL.numL n).length ≤ 400) : numIn (TL.numL n) = some (n : Int) := by
  unfold numIn
  rw [if_pos ⟨List.length_pos_iff.mpr (TL.numL_ne n), h, dig_all.mpr (TL.numL_digits n)⟩, TL.numL_val, if_pos]
  by_cases q : n = 0
  · subst q; exact .inr (TL.numL_lt (by decide))
  · exact .inl (numL_head n (by omega))
theorem numL_take {n : Nat} : (TL.numL n).take 1 ≠ [45] := by
  cases q : TL.numL n with
  | nil => exact absurd q (TL.numL_ne n)
  | cons x r =>
    have := TL.numL_digits n x (by rw [q]; exact List.mem_cons_self)
    simp
    omega
theorem topIn_int {i : Int} (h : (TL.numL i.natAbs).length ≤ 400) : topIn (intTx i) = some i := by
  unfold topIn intTx
  by_cases q : i < 0
  · rw [if_pos q]
    rw [if_neg (by simp)]
    show (match numIn (TL.numL i.natAbs) with | some n => if n = 0 then none else some (0 - n) | none => none) = some i
    rw [numIn_num h]
    show (if ((i.natAbs : Nat) : Int) = 0 then none else some (0 - ((i.natAbs : Nat) : Int))) = some i
    rw [if_neg (by omega)]
    congr 1; omega
  · rw [if_neg q, if_pos numL_take, numIn_num h]
    congr 1; omega
theorem intTx_47 (i : Int) : 47 ∉ intTx i := by
  unfold intTx
  split
  · rw [List.mem_cons, not_or]; exact ⟨by decide, TL.numL_free (.inl (by decide))⟩
  · exact TL.numL_free (.inl (by decide))
theorem frIn_fr {x : Rat} (h1 : (TL.numL x.num.natAbs).length ≤ 400) (h2 : (TL.numL x.den).length ≤ 400) : frIn (frTx x) = some (x.num, (x.den : Int)) := by
  unfold frIn frTx
  by_cases q : x.den = 1
  · rw [if_pos q, cutAt_no (intTx_47 _)]
    dsimp only
    rw [topIn_int h1, q]; rfl
  · rw [if_neg q, cutAt_app (intTx_47 _)]
    dsimp only
    rw [topIn_int h1, numIn_num h2]
    dsimp only
    have := x.den_pos
    rw [if_neg (by omega), Int.toNat_natCast, Rat.mkRat_self, if_pos ⟨rfl, rfl, rfl⟩]
/-- figures by size -/
theorem log_lt {n k : Nat} (h : n < 2 ^ k) (hk : 0 < k) : n.log2 < k := by
  by_cases q : n = 0
  · subst q; simpa using hk
  · exact (Nat.log2_lt q).mpr h
theorem ten400 : 10 ^ 400 ≤ 2 ^ 1400 := by decide +kernel
theorem int_log {i : Int} (h : i.natAbs < 10 ^ 400) : i.natAbs.log2 < 1920 := Nat.lt_trans (log_lt (Nat.lt_of_lt_of_le h ten400) (by decide)) (by decide)
theorem numL_400 {n : Nat} (h : n < 10 ^ 400) : (TL.numL n).length ≤ 400 := TL.numL_len (by decide) h
theorem numL_some {n : Nat} (h : n.log2 < 1920) : (TL.numL n).length ≤ 1000 := by
  have h1 : n < 2 ^ 1920 := by
    by_cases q : n = 0
    · subst q; exact Nat.two_pow_pos _
    · exact (Nat.log2_lt q).mp h
  exact TL.numL_len (by decide) (Nat.lt_of_lt_of_le h1 (by decide +kernel))
theorem intTx_len {i : Int} (h : i.natAbs.log2 < 1920) : (intTx i).length ≤ 1001 := by
  have := numL_some h
  unfold intTx
  split
  · rw [List.length_cons]; omega
  · omega
end M
/-! MIn: a datum among the items of a list; texts split at blanks; fractions read. -/
namespace M
open PySem L2
section
variable {X : Cx} {a b : Expr} {pos : Pos} {K : PySem.W.Frag} {fa fb : AE} {k : Nat}
def bInD (neg : Bool) : AB := fun d e M k => ∃ (t : T) (us : List T), RdT M d t ∧ RdT M e (.lst us) ∧ k (.bl (if neg then !(us.any fun u => PyData.eqv u.py t.py) else us.any fun u => PyData.eqv u.py t.py)) M
theorem pys_any (t : T) : ∀ us : List T, ((T.pys us).any fun z => PyData.eqv z t.py) = us.any fun u => PyData.eqv u.py t.py
  | [] => rfl
  | u :: us => by rw [T.pys, List.any_cons, List.any_cons, pys_any t us]
theorem bInD_ok : OkB K (rInD K) (bInD false) := by
  rintro d e M k v u H I F Q ⟨t, us, h1, h2, h⟩ c r1 r2 hk
  refine ⟨t.py, T.pys us, rdD_ok c _ _ _ _ h1.1 r1, ?_, T.shaped h1.2, ?_, hk _ M _ H I h (Le.refl I) c (by rw [Rel, pys_any]; rfl)⟩
  · have := rdD_ok c _ _ _ _ h2.1 r2
    rwa [T.py] at this
  · have := T.shaped h2.2
    rwa [T.py] at this
theorem bNotInD_ok : OkB K (rNotInD K) (bInD true) := by
  rintro d e M k v u H I F Q ⟨t, us, h1, h2, h⟩ c r1 r2 hk
  refine ⟨t.py, T.pys us, rdD_ok c _ _ _ _ h1.1 r1, ?_, T.shaped h1.2, ?_, hk _ M _ H I h (Le.refl I) c (by rw [Rel, pys_any]; rfl)⟩
  · have := rdD_ok c _ _ _ _ h2.1 r2
    rwa [T.py] at this
  · have := T.shaped h2.2
    rwa [T.py] at this
theorem u65 (hr : Room k X.A) : X.A.units + 65 < cLine := by have := hr.un; omega
theorem e_inD (hr : Room k X.A) (ha : PE X a (lift X.K fa)) (hb : PE X b (lift X.K fb)) (hm : behindInMarks .In b = false := by with_unfolding_all rfl) : PE X (.Compare a [.In] [b] pos) (lift X.K (aOp (bInD false) fa fb)) := (pe_cmpR (op_inD (u65 hr)) ha hb hm).imp (lift_op bInD_ok)
theorem e_notInD (hr : Room k X.A) (ha : PE X a (lift X.K fa)) (hb : PE X b (lift X.K fb)) (hm : behindInMarks .NotIn b = false := by with_unfolding_all rfl) : PE X (.Compare a [.NotIn] [b] pos) (lift X.K (aOp (bInD true) fa fb)) := (pe_cmpR (op_notInD (u65 hr)) ha hb hm).imp (lift_op bNotInD_ok)
theorem t_inD (hr : Room k X.A) (ha : PE X a (lift X.K fa)) (hb : PE X b (lift X.K fb)) (hm : behindInMarks .In b = false := by with_unfolding_all rfl) : PT X (.Compare a [.In] [b] pos) (liftT X.K (aB (aOp (bInD false) fa fb))) := t_op (op_inD (u65 hr)) bInD_ok ha hb hm
theorem t_notInD (hr : Room k X.A) (ha : PE X a (lift X.K fa)) (hb : PE X b (lift X.K fb)) (hm : behindInMarks .NotIn b = false := by with_unfolding_all rfl) : PT X (.Compare a [.NotIn] [b] pos) (liftT X.K (aB (aOp (bInD true) fa fb))) := t_op (op_notInD (u65 hr)) bNotInD_ok ha hb hm
end
theorem any_T (t : T) (us : List T) : (us.any fun u => PyData.eqv u.py t.py) = true ↔ t ∈ us := by
  rw [List.any_eq_true]
  exact ⟨fun ⟨u, h1, h2⟩ => by rw [(eqv_T u t).mp h2] at h1; exact h1, fun h => ⟨t, h, (eqv_T t t).mpr rfl⟩⟩
theorem iInD {neg : Bool} {d e : D} {t : T} {us : List T} {M : MH} {k : AK} {b : Bool} (h : k (.bl (if neg then !b else b)) M) (q : b = true ↔ t ∈ us) (h1 : RdT M d t) (h2 : RdT M e (.lst us)) : bInD neg d e M k :=
  ⟨t, us, h1, h2, by
    have : (us.any fun u => PyData.eqv u.py t.py) = b := by
      rw [Bool.eq_iff_iff, any_T, q]
    rw [this]; exact h⟩
theorem iInDf {d e : D} {t : T} {us : List T} {M : MH} {k : AK} {b : Bool} (h : k (.bl b) M) (q : b = true ↔ t ∈ us) (h1 : RdT M d t) (h2 : RdT M e (.lst us)) : bInD false d e M k := iInD (neg := false) h q h1 h2
theorem joinL_len {s B : Nat} : ∀ {ps : List (List Nat)}, (∀ p ∈ ps, p.length ≤ B) → (TL.joinL [s] ps).length ≤ ps.length * (B + 1)
  | [], _ => Nat.zero_le _
  | [p], h => by
    show p.length ≤ 1 * (B + 1)
    have := h p List.mem_cons_self
    omega
  | p :: q :: r, h => by
    show (p ++ ([s] ++ TL.joinL [s] (q :: r))).length ≤ (q :: r).length.succ * (B + 1)
    have h1 := joinL_len (s := s) (B := B) (ps := q :: r) fun z hz => h z (List.mem_cons_of_mem _ hz)
    have h2 := h p List.mem_cons_self
    rw [List.length_append, List.length_append, List.length_singleton, Nat.succ_mul]
    omega
theorem RdT.non {M : MH} : RdT M .non .non := RdT.of M (t := .non) (Nat.zero_le _)
theorem RdT.int {M : MH} {i : Int} : RdT M (.int i) (.int i) := RdT.of M (t := .int i) (Nat.zero_le _)
/-! texts split at a sign -/
def wordsS (c : Nat) (l : List Nat) : List (List Nat) := (Txt.split (S l) (S [c])).map TL.tl
theorem split_S (c : Nat) (l : List Nat) : Txt.split (S l) (S [c]) = (wordsS c l).map S := by
  unfold wordsS
  rw [List.map_map]
  conv => lhs; rw [← List.map_id (Txt.split (S l) (S [c]))]
  exact List.map_congr_left fun x _ => (S_tl x).symm
theorem spl_len {s : Nat} : ∀ (l acc : List Nat) (w : List Nat), w ∈ TL.spl [s] 0 acc l → w.length ≤ acc.length + l.length
  | [], acc, w, h => by
    rw [TL.spl_nil] at h
    rw [List.mem_singleton.mp h]; omega
  | c :: r, acc, w, h => by
    by_cases q : TL.pre [s] (c :: r) = true
    · rw [TL.spl_hit q] at h
      rcases List.mem_cons.mp h with rfl | h
      · omega
      · have := spl_len r [] w h
        rw [List.length_cons]; rw [List.length_nil] at this; omega
    · have e : TL.spl [s] 0 acc (c :: r) = TL.spl [s] 0 (acc ++ [c]) r := by
        rw [TL.spl, if_neg q]
      rw [e] at h
      have := spl_len r (acc ++ [c]) w h
      rw [List.length_append, List.length_singleton] at this
      rw [List.length_cons]; omega
theorem spl_num {s : Nat} : ∀ (l acc : List Nat), (TL.spl [s] 0 acc l).length ≤ l.length + 1
  | [], acc => by rw [TL.spl_nil]; simp
  | c :: r, acc => by
    by_cases q : TL.pre [s] (c :: r) = true
    · rw [TL.spl_hit q]
      have := spl_num (s := s) r []
      show (TL.spl [s] 0 [] r).length + 1 ≤ r.length + 1 + 1
      omega
    · have e : TL.spl [s] 0 acc (c :: r) = TL.spl [s] 0 (acc ++ [c]) r := by
        rw [TL.spl, if_neg q]
      rw [e, List.length_cons]
      have := spl_num (s := s) r (acc ++ [c])
      omega
theorem wordsS_spl {c : Nat} (hc : c < 256) (l : List Nat) : wordsS c l = TL.spl [c] 0 [] l := by
  unfold wordsS
  have := TL.split_spl (S l) (S [c]) (by rw [tl_S]; simp) (TL.kind_ok (by show (S [c]).cps.all (· < 256) = true; unfold S; simp; exact hc))
  rw [this, tl_S, tl_S]
theorem wordsS_len {c : Nat} (hc : c < 256) {l w : List Nat} (h : w ∈ wordsS c l) : w.length ≤ l.length := by
  rw [wordsS_spl hc] at h
  have := spl_len l [] w h
  rw [List.length_nil] at this; omega
theorem wordsS_num {c : Nat} (hc : c < 256) (l : List Nat) : (wordsS c l).length ≤ l.length + 1 := by
  rw [wordsS_spl hc]; exact spl_num l []
theorem wordsS_join {c : Nat} (hc : c < 256) {ps : List (List Nat)} (hne : ps ≠ []) (h : ∀ p ∈ ps, c ∉ p) : wordsS c (TL.tl (Txt.join (S [c]) (ps.map S))) = ps := by
  unfold wordsS
  rw [S_tl, TL.split_join (y := S [c]) (s := c) (S := []) (tl_S _) (by unfold S; simp; exact hc) (by simpa using hne) (fun p hp => by
    obtain ⟨q, hq, rfl⟩ := List.mem_map.mp hp
    rw [tl_S]; exact h q hq), List.map_map]
  conv => rhs; rw [← List.map_id ps]
  exact List.map_congr_left fun x _ => tl_S x
end M
/-! MCls: own classes: fields, methods, instances made. -/
namespace M
open PySem L2
section
variable {K : PySem.W.Frag} {H I F : Hp} {M : MH}
theorem RelF.get : ∀ {ds : List (Str × D)} {vs : List (Str × V)} {f : Str} {d : D}, RelF K I ds vs → ds.lookup f = some d → ∃ v, vs.lookup f = some v ∧ Rel K I d v
  | [], vs, f, d, h, e => by cases e
  | (g, x) :: ds, vs, f, d, ⟨w, ws, h1, h2, h3⟩, e => by
    subst h1
    rw [List.lookup_cons] at e ⊢
    cases q : f == g with
    | true => rw [q] at e; cases e; exact ⟨w, rfl, h2⟩
    | false => rw [q] at e; exact RelF.get h3 e
theorem RelF.no : ∀ {ds : List (Str × D)} {vs : List (Str × V)} {f : Str}, RelF K I ds vs → ds.lookup f = none → vs.lookup f = none
  | [], vs, f, h, e => by rw [show vs = [] from h]; rfl
  | (g, x) :: ds, vs, f, ⟨w, ws, h1, h2, h3⟩, e => by
    subst h1
    rw [List.lookup_cons] at e ⊢
    cases q : f == g with
    | true => rw [q] at e; cases e
    | false => rw [q] at e; exact RelF.no h3 e
theorem RelF.len : ∀ {ds : List (Str × D)} {vs : List (Str × V)}, RelF K I ds vs → ds.length = vs.length
  | [], vs, h => by rw [show vs = [] from h]; rfl
  | (g, x) :: ds, vs, ⟨w, ws, h1, h2, h3⟩ => by subst h1; rw [List.length_cons, List.length_cons, RelF.len h3]
def putD (f : Str) (d : D) : List (Str × D) → List (Str × D)
  | [] => [(f, d)]
  | (g, x) :: r => if g = f then (g, d) :: r else (g, x) :: putD f d r
theorem RelF.put : ∀ {ds : List (Str × D)} {vs : List (Str × V)} {f : Str} {d : D} {v : V}, RelF K I ds vs → Rel K I d v → RelF K I (putD f d ds) (putF f v vs)
  | [], vs, f, d, v, h, r => by rw [show vs = [] from h]; exact ⟨v, [], rfl, r, rfl⟩
  | (g, x) :: ds, vs, f, d, v, ⟨w, ws, h1, h2, h3⟩, r => by
    subst h1
    show RelF K I (if g = f then (g, d) :: ds else (g, x) :: putD f d ds) (if g = f then (g, v) :: ws else (g, w) :: putF f v ws)
    by_cases q : g = f
    · rw [if_pos q, if_pos q]; exact ⟨v, ws, rfl, r, h3⟩
    · rw [if_neg q, if_neg q]; exact ⟨w, _, rfl, h2, RelF.put h3 r⟩
/-- an instance of C without an attribute m, open or boxed -/
def InsO (C : Addr) (m : Str) : MO → Prop
  | .obj (.ins C' fs) => C' = C ∧ fs.lookup m = none
  | .box _ φ => ∀ bs, φ bs → ∃ fs r, bs = .ins C fs :: r ∧ fs.lookup m = none
  | _ => False
def IsI (M : MH) (C : Addr) (m : Str) (a : Addr) : Prop := ∃ o, M a = some o ∧ InsO C m o
theorem IsI.ok {C : Addr} {m : Str} {a : Addr} (h : IsI M C m a) (c : Conc K H I M F) : ∃ dx fs, H a = some (.ins C dx fs) ∧ fs.lookup m = none := by
  obtain ⟨o, e, q⟩ := h
  have r := c.rel a o e
  cases o with
  | obj b =>
    cases b with
    | ins C' fs =>
      obtain ⟨rfl, q⟩ := q
      obtain ⟨dx, vs, h1, h2⟩ := r
      exact ⟨dx, vs, h1, h2.no q⟩
    | lst l => exact q.elim
    | dic l => exact q.elim
    | tbl l => exact q.elim
  | part p => exact q.elim
  | box ps φ =>
    obtain ⟨_, bs, ⟨b, r', e1, e2, e3⟩, h3⟩ := r
    obtain ⟨fs, r2, e4, e5⟩ := q bs h3
    rw [e1] at e4
    cases e4
    obtain ⟨dx, vs, h1, h2⟩ := e2
    exact ⟨dx, vs, h1, h2.no e5⟩
end
section
variable {X : Cx} {e o value : Expr} {es : List Expr} {pos p apos pos' : Pos} {kws : List Keyword}
/-! ### fields -/
def aFld (C : Addr) (f : Str) (fo : AE) : AE := fun Γ M k => fo Γ M fun d M1 => match d with
  | .ref a => (match M1 a with
    | some (.obj (.ins C' fs)) => C' = C ∧ (match fs.lookup f with
      | some v => k v M1
      | none => False)
    | _ => False)
  | _ => False
theorem e_fld {C : Addr} {f : Str} {fo : AE} (c : Cls X.K C) (n : NoAttr X.K C f) (he : PE X e (lift X.K fo)) (hb : attributeBase e f X.env (eval e X.env) = eval e X.env := by rfl) : PE X (.Attribute e f pos) (lift X.K (aFld C f fo)) :=
  (pe_fld he hb).imp fun σ H Q ⟨Γ, M, I, F, k, hs, hc, hf, hk⟩ => ⟨Γ, M, I, F, _, hs, hc, hf, fun d M1 v H1 I1 h1 l1 c1 r1 => by
    split at h1
    · rename_i a
      split at h1
      · rename_i C' fs e0
        obtain ⟨rfl, h1⟩ := h1
        split at h1
        · rename_i d e1
          rw [Rel] at r1
          obtain ⟨dx, vs, h2, h3⟩ := c1.rel a _ e0
          obtain ⟨u, e2, r2⟩ := h3.get e1
          exact ⟨a, _, dx, vs, u, r1, h2, c, n, e2, hk _ _ _ _ _ h1 l1 c1 r2⟩
        · exact h1.elim
      · exact h1.elim
    · exact h1.elim⟩
def kFld (C : Addr) (f : Str) (k : AK) : AK := fun d M1 => match d with
  | .ref a => (match M1 a with
    | some (.obj (.ins C' fs)) => C' = C ∧ (match fs.lookup f with
      | some v => k v M1
      | none => False)
    | _ => False)
  | _ => False
theorem eFld {C : Addr} {f : Str} {fo : AE} {Γ : G} {M : MH} {k : AK} : (aFld C f fo Γ M k) = (fo Γ M (kFld C f k)) := propext Iff.rfl
theorem iKFld {C : Addr} {f : Str} {M : MH} {k : AK} {a : Addr} {fs : List (Str × D)} {v : D} (h : k v M) (q : M a = some (.obj (.ins C fs))) (l : fs.lookup f = some v) : kFld C f k (.ref a) M := by
  show (match M a with
    | some (.obj (.ins C' fs)) => C' = C ∧ (match fs.lookup f with
      | some v => k v M
      | none => False)
    | _ => False)
  rw [q]
  refine ⟨rfl, ?_⟩
  show (match fs.lookup f with
      | some v => k v M
      | none => False)
  rw [l]; exact h
/-- o.f = e -/
def aSFld (C : Addr) (f : Str) (fo fe : AE) : AS := fun Z Γ M => fe Γ M fun d M1 => fo Γ M1 fun b M2 => match b with
  | .ref a => (match M2 a with
    | some (.obj (.ins C' fs)) => C' = C ∧ fs.length < 1000 ∧ Z.nx Γ (up M2 a (.obj (.ins C (putD f d fs))))
    | _ => False)
  | _ => False
theorem s_fld {C : Addr} {f : Str} {fo fe : AE} (c : Cls X.K C) (n : NoAttr X.K C f) (ho : PE X o (lift X.K fo)) (hv : PE X value (lift X.K fe)) (hs : swapsWith value (some (.Attribute o f pos')) pos.line X.env = pure false := by rfl) :
    PS X (.Assign [.Attribute o f pos'] value pos) (liftS X.K (aSFld C f fo fe)) :=
  (ps_fld ho hv hs).imp fun E σ H ⟨Γ, M, I, F, Z, hs, hc, hf, hk⟩ => ⟨Γ, M, I, F, _, hs, hc, hf, fun d M1 y H1 I1 h1 l1 c1 r1 => ⟨Γ, M1, I1, F, _, hs.le l1, c1, h1, fun b M2 x H2 I2 h2 l2 c2 r2 => by
    split at h2
    · rename_i a
      split at h2
      · rename_i C' fs e0
        obtain ⟨rfl, h3, h4⟩ := h2
        rw [Rel] at r2
        obtain ⟨dx, vs, h5, h6⟩ := c2.rel a _ e0
        refine ⟨a, _, dx, vs, r2, h5, c, n, by rw [← h6.len]; exact h3, ?_⟩
        have c3 := c2.set (o := .ins C' dx (putF f y vs)) (b := .ins C' (putD f d fs)) e0 ⟨dx, _, upd_same, h6.put (Rel.le l2 _ _ r1)⟩
        exact hk.nx _ _ _ _ _ h4 (l1.trans l2) c3 (hs.le (l1.trans l2))
      · exact h2.elim
    · exact h2.elim⟩⟩
def kSFld (C : Addr) (f : Str) (Z : AD) (Γ : G) (d : D) : AK := fun b M2 => match b with
  | .ref a => (match M2 a with
    | some (.obj (.ins C' fs)) => C' = C ∧ fs.length < 1000 ∧ Z.nx Γ (up M2 a (.obj (.ins C (putD f d fs))))
    | _ => False)
  | _ => False
theorem eSFld {C : Addr} {f : Str} {fo fe : AE} {Γ : G} {M : MH} {Z : AD} : (aSFld C f fo fe Z Γ M) = (fe Γ M fun d M1 => fo Γ M1 (kSFld C f Z Γ d)) := propext Iff.rfl
theorem iKSFld {C : Addr} {f : Str} {Z : AD} {Γ : G} {d : D} {M : MH} {a : Addr} {fs : List (Str × D)} (h : Z.nx Γ (up M a (.obj (.ins C (putD f d fs))))) (q : M a = some (.obj (.ins C fs))) (l : fs.length < 1000) : kSFld C f Z Γ d (.ref a) M := by
  show (match M a with
    | some (.obj (.ins C' fs)) => C' = C ∧ fs.length < 1000 ∧ Z.nx Γ (up M a (.obj (.ins C (putD f d fs))))
    | _ => False)
  rw [q]
  exact ⟨rfl, l, h⟩
/-! ### methods -/
def aMeth (x : EK) (C : Addr) (m : Str) (F : AF) (dds : List D) (fo : AE) (g : AA) : AE := fun Γ M k => fo Γ M fun d M1 => match d with
  | .ref a => IsI M1 C m a ∧ g Γ M1 fun ds M2 => F (.ref a :: (ds ++ dds)) M2 k x
  | _ => False
section
variable {j k : Nat} {f C : Addr} {fd : FuncData} {ps : List Str} {F : AF} {m x : Str} {dds : List D} {dvs : List V} {ds : List Value} {fo : AE} {g gk : AA} {pl : Sem Bool}
theorem lift_meth {σ : L2.St} {H : Hp} {Q : VK} {K : PySem.W.Frag} (hd : ∀ I, Rels K I dds dvs) (h : lift K (aMeth noX C m F dds fo g) σ H Q) : tMeth C m (liftF K F) dvs E0 (lift K fo) (liftA K g) σ H Q := by
  obtain ⟨Γ, M, I, Fr, k, hs, hc, hf, hk⟩ := h
  refine ⟨Γ, M, I, Fr, _, hs, hc, hf, fun d M1 v H1 I1 h1 l1 c1 r1 => ?_⟩
  split at h1
  · rename_i a
    obtain ⟨h1, h2⟩ := h1
    obtain ⟨dx, fs, e1, e2⟩ := h1.ok c1
    rw [Rel] at r1
    refine ⟨a, dx, fs, r1, e1, e2, Γ, M1, I1, Fr, _, hs.le l1, c1, h2, fun ds M2 vs H2 I2 h3 l2 c2 r2 => ?_⟩
    rw [r1]
    exact ⟨_, M2, I2, Fr, k, noX, .cons (by rw [Rel]) (r2.append (hd I2)), c2, h3, hk.le (l1.trans l2), fun C w M v H I' d z => z.elim⟩
  · exact h1.elim
theorem e_meth (ho : PE X o (lift X.K fo)) (c : Cls X.K C) (hm : Meth X.K C m f) (G : FnOk X.prog X.w X.K X.mg X.base CX0 j f fd ps (liftF X.K F)) (hr : Room k X.A) (hjk : j ≤ k) (hb : Binds X.K fd ps ds) (hd : Dfl X.K dds dvs ds) (ha : PA X (e :: es) (liftA X.K g))
    (hst : starEach (e :: es) X.env = (false, eval e X.env) :: starEach es X.env := by rfl) (hpl : (backTo pos (starEach es X.env)).any (·.1) = false := by rfl)
    (ht : eval (.Call (.Attribute o m apos) (e :: es) [] pos) X.env = (do let ov ← eval o X.env; standAt apos.atName; let (f, first) ← holding [ov] (getMethod ov m pl); callWith pos f first (backTo pos (starEach (e :: es) X.env)) (backToKw pos (keywordEach [] X.env))) := by rfl) :
    PE X (.Call (.Attribute o m apos) (e :: es) [] pos) (lift X.K (aMeth noX C m F dds fo g)) := (pe_meth ho c hm (G.mono hjk) hr hb hd.val pass0 ha hst hpl ht).imp fun σ H Q h => lift_meth hd.rel h
theorem e_meth0 (ho : PE X o (lift X.K fo)) (c : Cls X.K C) (hm : Meth X.K C m f) (G : FnOk X.prog X.w X.K X.mg X.base CX0 j f fd ps (liftF X.K F)) (hr : Room k X.A) (hjk : j ≤ k) (hb : Binds X.K fd ps ds) (hd : Dfl X.K dds dvs ds)
    (ht : eval (.Call (.Attribute o m apos) [] [] pos) X.env = (do let ov ← eval o X.env; standAt apos.atName; let (f, first) ← holding [ov] (getMethod ov m pl); callWith pos f first (backTo pos (starEach [] X.env)) (backToKw pos (keywordEach [] X.env))) := by rfl) :
    PE X (.Call (.Attribute o m apos) [] [] pos) (lift X.K (aMeth noX C m F dds fo aNil)) := (pe_meth0 ho c hm (G.mono hjk) hr hb hd.val pass0 ht).imp fun σ H Q h => by
  obtain ⟨Γ, M, I, Fr, k, hs, hc, hf, hk⟩ := h
  refine ⟨Γ, M, I, Fr, _, hs, hc, hf, fun d M1 v H1 I1 h1 l1 c1 r1 => ?_⟩
  split at h1
  · rename_i a
    obtain ⟨h1, h2⟩ := h1
    obtain ⟨dx, fs, e1, e2⟩ := h1.ok c1
    rw [Rel] at r1
    refine ⟨a, dx, fs, r1, e1, e2, ?_⟩
    rw [r1]
    exact ⟨_, M1, I1, Fr, k, noX, .cons (by rw [Rel]) (Rels.append .nil (hd.rel I1)), c1, h2, hk.le l1, fun C w M v H I' d z => z.elim⟩
  · exact h1.elim
/-! ### instances made -/
def aMake (x : EK) (C : Addr) (F : AF) (dds : List D) (g : AA) : AE := fun Γ M k => g Γ M fun ds M1 => ∀ p, M1 p = none → F (.ref p :: (ds ++ dds)) (up M1 p (.obj (.ins C []))) (fun d M2 => d = .non ∧ k (.ref p) M2) x
theorem Conc.made {K : PySem.W.Frag} {H I F : Hp} {M : MH} {x dx : Addr} (c : Conc K H I M F) (hx : H x = none) (hdx : H dx = none) (ne : dx ≠ x) : Conc K (upd (upd H dx (.own x)) x (.ins C dx [])) I (up M x (.obj (.ins C []))) F := by
  have hx2 : upd H dx (.own x) x = none := by rw [upd_ne (fun z => ne z.symm)]; exact hx
  exact (c.new0 (o := .own x) hdx).newM hx2 ⟨dx, [], upd_same, rfl⟩
theorem lift_make {K : PySem.W.Frag} {H I Fr : Hp} {M : MH} {k : AK} {Q : VK} {x dx : Addr} {ds : List D} {vs : List V} (hk : kE K I Fr k Q) (c : Conc K H I M Fr) (hx : H x = none) (hdx : H dx = none) (ne : dx ≠ x) (r : Rels K I ds vs)
    (h : F ds (up M x (.obj (.ins C []))) (fun d M2 => d = .non ∧ k (.ref x) M2) noX) : liftF K F vs (upd (upd H dx (.own x)) x (.ins C dx [])) (fun v H2 => v = .non ∧ Q (.ref x) H2) E0 := by
  refine ⟨_, _, I, Fr, _, noX, r, c.made hx hdx ne, h, ?_, fun C w M v H I' d z => z.elim⟩
  rintro d M2 v H2 I2 ⟨rfl, h2⟩ l2 c2 r2
  rw [Rel] at r2
  exact ⟨r2, hk _ _ _ _ _ h2 l2 c2 (by rw [Rel])⟩
theorem e_make (Mk_ : Mk X.K C f) (G : FnOk X.prog X.w X.K X.mg X.base CX0 j f fd ps (liftF X.K F)) (hr : Room k X.A) (hjk : j + 1 ≤ k) (hm : X.mg x = some (.ref C)) (hb : Binds X.K fd ps ds) (hd : Dfl X.K dds dvs ds) (ha : PA X (e :: es) (liftA X.K g)) (hg : Gl X x := by rfl)
    (hdb : (x == ("__debug__" : Str)) = false := by decide) (he : starEach (e :: es) X.env = (false, eval e X.env) :: starEach es X.env := by rfl) (hpl : (backTo pos (starEach es X.env)).any (·.1) = false := by rfl) :
    PE X (.Call (.Name x p) (e :: es) [] pos) (lift X.K (aMake noX C F dds g)) := (pe_make Mk_ G (hr.mono hjk) hg hm hb hd.val pass0 ha hdb he hpl).imp fun σ H Q ⟨Γ, M, I, Fr, k, hs, hc, hf, hk⟩ =>
  ⟨Γ, M, I, Fr, _, hs, hc, hf, fun ds M1 vs H1 I1 h1 l1 c1 r1 => fun y dx hy hdx ne => lift_make (hk.le l1) c1 hy hdx ne (.cons (by rw [Rel]) (r1.append (hd.rel I1))) (h1 y (c1.fresh hy).2)⟩
def aMakeK (x : EK) (C : Addr) (F : AF) (n : Nat) (ix : List Nat) (dds : List D) (gk : AA) : AE := fun Γ M k => gk Γ M fun es M1 => es.length = n ∧ ∀ p, M1 p = none → F (pick ix (.ref p :: (es ++ dds))) (up M1 p (.obj (.ins C []))) (fun d M2 => d = .non ∧ k (.ref p) M2) x
variable {ks : List Str} {ix : List Nat}
theorem e_makeK0 (Mk_ : Mk X.K C f) (G : FnOk X.prog X.w X.K X.mg X.base CX0 j f fd ps (liftF X.K F)) (hr : Room k X.A) (hjk : j + 1 ≤ k) (hm : X.mg x = some (.ref C)) (hb : BK X.K fd ps 1 ks ix ds) (hd : Dfl X.K dds dvs ds) (hkw : PK X kws (liftA X.K gk)) (hg : Gl X x := by rfl)
    (hall : (backToKw pos (keywordEach kws X.env)).all (·.1.isSome) = true := by rfl) (hks : (backToKw pos (keywordEach kws X.env)).filterMap (·.1) = ks := by rfl)
    (hdb : (x == ("__debug__" : Str)) = false := by decide) (hpl : ((backTo pos (starEach [] X.env)).any (·.1) || (backToKw pos (keywordEach kws X.env)).any (·.1.isNone)) = false := by rfl) :
    PE X (.Call (.Name x p) [] kws pos) (lift X.K (aMakeK noX C F ks.length ix dds gk)) := (pe_makeK0 Mk_ G (hr.mono hjk) hg hm (hb.kbn hd.val) pass0 hkw hall hks hdb hpl).imp fun σ H Q ⟨Γ, M, I, Fr, k, hs, hc, hf, hk⟩ => by
  show liftA X.K gk σ H fun zs H2 => ([] : List V).length = 0 ∧ zs.length = ks.length ∧ ∀ x dx, H2 x = none → H2 dx = none → dx ≠ x → liftF X.K F (pick ix ([.ref x] ++ zs ++ dvs)) (upd (upd H2 dx (.own x)) x (.ins C dx [])) (fun v H3 => v = .non ∧ Q (.ref x) H3) E0
  refine ⟨Γ, M, I, Fr, _, hs, hc, hf, fun es M1 zs H1 I1 h1 l1 c1 r1 => ⟨rfl, by rw [← r1.length]; exact h1.1, fun y dx hy hdx ne => ?_⟩⟩
  exact lift_make (hk.le l1) c1 hy hdx ne (pick_rels (Rels.append (.cons (by rw [Rel]) r1) (hd.rel I1))) (h1.2 y (c1.fresh hy).2)
def kMeth (C : Addr) (m : Str) (F : AF) (dds : List D) (g : AA) (Γ : G) (k : AK) (x : EK) : AK := fun d M1 => match d with
  | .ref a => IsI M1 C m a ∧ g Γ M1 fun ds M2 => F (.ref a :: (ds ++ dds)) M2 k x
  | _ => False
theorem eMeth {x : EK} {Γ : G} {M : MH} {k : AK} : (aMeth x C m F dds fo g Γ M k) = (fo Γ M (kMeth C m F dds g Γ k x)) := propext Iff.rfl
theorem iKMeth {x : EK} {Γ : G} {M : MH} {k : AK} {a : Addr} {o : MO} (h : g Γ M fun ds M2 => F (.ref a :: (ds ++ dds)) M2 k x) (q : M a = some o) (i : InsO C m o) : kMeth C m F dds g Γ k x (.ref a) M := ⟨⟨o, q, i⟩, h⟩
theorem eMake {x : EK} {Γ : G} {M : MH} {k : AK} : (aMake x C F dds g Γ M k) = (g Γ M fun ds M1 => ∀ p, M1 p = none → F (.ref p :: (ds ++ dds)) (up M1 p (.obj (.ins C []))) (fun d M2 => d = .non ∧ k (.ref p) M2) x) := propext Iff.rfl
theorem eMakeK {x : EK} {n : Nat} {ix : List Nat} {Γ : G} {M : MH} {k : AK} : (aMakeK x C F n ix dds gk Γ M k) = (gk Γ M fun es M1 => es.length = n ∧ ∀ p, M1 p = none → F (pick ix (.ref p :: (es ++ dds))) (up M1 p (.obj (.ins C []))) (fun d M2 => d = .non ∧ k (.ref p) M2) x) := propext Iff.rfl
end
end
/-! ### a History -/
/-- floors, waters (at first and behind each step), steps -/
structure HD where
  ns : List Int
  ws : List (List Rat)
  st : List (List Int × List Rat)
def hF (a b c : Addr) : List (Str × D) := [("floors_held", .ref a), ("waters_held", .ref b), ("steps_held", .ref c)]
def watD (w : List Rat) : D := .lst (w.map frD)
def stepD (s : List Int × List Rat) : D := .tup [.lst (s.1.map .int), .lst (s.2.map frD)]
def hBs (C a b c : Addr) (h : HD) : List BO := [.ins C (hF a b c), .lst (h.ns.map .int), .lst (h.ws.map watD), .lst (h.st.map stepD)]
def hBox (C a b c : Addr) (h : HD) : MO := .box [a, b, c] (fun bs => bs = hBs C a b c h ∧ a ≠ b ∧ a ≠ c ∧ b ≠ c)
section
variable {C a b c : Addr} {h : HD}
theorem hF_a : (hF a b c).lookup ("floors_held" : Str) = some (.ref a) := by
  unfold hF
  rw [List.lookup_cons, show (("floors_held" : Str) == ("floors_held" : Str)) = true by decide +kernel]
theorem hF_b : (hF a b c).lookup ("waters_held" : Str) = some (.ref b) := by
  unfold hF
  rw [List.lookup_cons, show (("waters_held" : Str) == ("floors_held" : Str)) = false by decide +kernel]
  show List.lookup ("waters_held" : Str) _ = _
  rw [List.lookup_cons, show (("waters_held" : Str) == ("waters_held" : Str)) = true by decide +kernel]
theorem hF_c : (hF a b c).lookup ("steps_held" : Str) = some (.ref c) := by
  unfold hF
  rw [List.lookup_cons, show (("steps_held" : Str) == ("floors_held" : Str)) = false by decide +kernel]
  show List.lookup ("steps_held" : Str) _ = _
  rw [List.lookup_cons, show (("steps_held" : Str) == ("waters_held" : Str)) = false by decide +kernel]
  show List.lookup ("steps_held" : Str) _ = _
  rw [List.lookup_cons, show (("steps_held" : Str) == ("steps_held" : Str)) = true by decide +kernel]
theorem hF_no {m : Str} (h1 : (m == ("floors_held" : Str)) = false) (h2 : (m == ("waters_held" : Str)) = false) (h3 : (m == ("steps_held" : Str)) = false) : (hF a b c).lookup m = none := by
  unfold hF
  rw [List.lookup_cons, h1]
  show List.lookup m _ = _
  rw [List.lookup_cons, h2]
  show List.lookup m _ = _
  rw [List.lookup_cons, h3]
  rfl
theorem hF_put (C : Addr) : putD "steps_held" (.ref c) (putD "waters_held" (.ref b) (putD "floors_held" (.ref a) [])) = hF a b c := by
  unfold hF
  have e1 : ¬ (("floors_held" : Str) = ("waters_held" : Str)) := by decide +kernel
  have e2 : ¬ (("floors_held" : Str) = ("steps_held" : Str)) := by decide +kernel
  have e3 : ¬ (("waters_held" : Str) = ("steps_held" : Str)) := by decide +kernel
  show putD "steps_held" (.ref c) (if ("floors_held" : Str) = ("waters_held" : Str) then _ else (("floors_held" : Str), D.ref a) :: putD "waters_held" (.ref b) []) = _
  rw [if_neg e1]
  show (if ("floors_held" : Str) = ("steps_held" : Str) then _ else (("floors_held" : Str), D.ref a) :: (if ("waters_held" : Str) = ("steps_held" : Str) then _ else (("waters_held" : Str), D.ref b) :: putD "steps_held" (.ref c) [])) = _
  rw [if_neg e2, if_neg e3]
  rfl
theorem hBox_ins {m : Str} (h1 : (m == ("floors_held" : Str)) = false := by decide +kernel) (h2 : (m == ("waters_held" : Str)) = false := by decide +kernel) (h3 : (m == ("steps_held" : Str)) = false := by decide +kernel) : InsO C m (hBox C a b c h) := fun bs e => ⟨_, _, e.1, hF_no h1 h2 h3⟩
end
end M
/-! MZip: list(zip(xs, ys)). -/
namespace PySem
open Sem (wp)
theorem lz_no_len : typeLookup (.type "zip") "__len__" = pure none := by rw [typeLookup_type, builtinLookup_eq_fast]; kernel_rfl
theorem lz_no_hint : typeLookup (.type "zip") "__length_hint__" = pure none := by rw [typeLookup_type, builtinLookup_eq_fast]; kernel_rfl
/-- the tuples laid so far -/
structure LzAcc (b0 : Nat) (xs ys : Array Value) (h : Heap) (acc : Array Value) (i : Nat) : Prop where
  size : acc.size = i
  its : ∀ j, j < i → ∃ (T : Addr) (x y : Value), acc[j]? = some (.ref T) ∧ xs[j]? = some x ∧ ys[j]? = some y ∧ IsPair h T x y ∧ b0 ≤ T
  rise : ∀ (j k : Nat) (T U : Addr), j < k → acc[j]? = some (.ref T) → acc[k]? = some (.ref U) → T < U
structure LzSt (b0 : Nat) (z TI TO i1 i2 l1 l2 : Addr) (xs ys : Array Value) (S : Addr) (h : Heap) (acc : Array Value) (i : Nat) : Prop where
  zip : (i = 0 ∧ IsZip h z TI TO .none ∧ ∃ a b, IsPair h TO a b) ∨ (∃ (T : Addr) (f : Bool) (oT : Obj), IsZipHeld h z TI TO T f ∧ h.get? T = some oT ∧ b0 ≤ T)
  ti : IsPair h TI (.ref i1) (.ref i2)
  it1 : h.IsListIter i1 l1 i
  it2 : h.IsListIter i2 l2 i
  ls1 : h.IsList l1 xs
  ls2 : h.IsList l2 ys
  sl : ∃ c, h.get? S = some { cls := .type "list", dict := none, data := .seq acc c, slots := #[] }
  ac : LzAcc b0 xs ys h acc i
  hb : b0 ≤ h.objs.size
section
variable {prog : Program} {w : World} {A : Around} {R : Result → Shared → Prop} {b0 : Nat} {z TI TO i1 i2 l1 l2 S : Addr} {xs ys : Array Value} {n : Nat}
def LzKept (z TO i1 i2 S : Addr) (h h' : Heap) : Prop := ∀ c o, c ≠ S → c ≠ z → c ≠ TO → c ≠ i1 → c ≠ i2 → h.get? c = some o → h'.get? c = some o
theorem lz_ne {a T c : Nat} (h : a < c) (g : c ≤ T) : T ≠ a := Nat.ne_of_gt (Nat.lt_of_lt_of_le h g)
theorem LzAcc.at_ {h h' : Heap} {acc : Array Value} {i : Nat} (a : LzAcc b0 xs ys h acc i) (k : ∀ T o, b0 ≤ T → h.get? T = some o → h'.get? T = some o) : LzAcc b0 xs ys h' acc i :=
  ⟨a.size, fun j hj => let ⟨T, x, y, e1, e2, e3, e4, e5⟩ := a.its j hj; ⟨T, x, y, e1, e2, e3, k T _ e5 e4, e5⟩, a.rise⟩
theorem lz_loop (hh : A.handled = none) (D : ZipApart z TI TO i1 i2 l1 l2) (hn : n ≤ sizeLine) (h1 : n ≤ xs.size) (h2 : n ≤ ys.size) (h3 : xs.size = n ∨ ys.size = n)
    (nS : S ≠ z ∧ S ≠ TI ∧ S ≠ TO ∧ S ≠ i1 ∧ S ≠ i2 ∧ S ≠ l1 ∧ S ≠ l2) (lb : z < b0 ∧ TO < b0 ∧ i1 < b0 ∧ i2 < b0 ∧ S < b0) (res : Value) :
    ∀ (k i : Nat) (s : Shared) (acc : Array Value), n - i = k → i ≤ n → LzSt b0 z TI TO i1 i2 l1 l2 xs ys S s.heap acc i →
    (∀ h' acc' c', LzKept z TO i1 i2 S s.heap h' → h'.get? S = some { cls := .type "list", dict := none, data := .seq acc' c', slots := #[] } → LzAcc b0 xs ys h' acc' n → R (.ok (.ret res)) { s with heap := h' }) →
    codeAny (model prog w) A (.builtin "list.extend.loop" ⟨[.ref S, .ref z, res], []⟩) R s := by
  obtain ⟨n1, n2, n3, n4, n5, n6, n7⟩ := nS
  obtain ⟨b1, b2, b3, b4, b5⟩ := lb
  intro k
  induction k with
  | zero =>
    intro i s acc hk hi st hR
    have hin : i = n := by omega
    subst hin
    refine codeAny_builtin F.entry_extend_loop ?_
    rw [Around.under_plainId F.plain_extend_loop _]
    show wpAny _ A.in1 (pyNext (.ref z) >>= _) _ _ s
    have hend : xs[i]? = none ∨ ys[i]? = none := by
      rcases h3 with h | h
      · exact .inl (by simp; omega)
      · exact .inr (by simp; omega)
    obtain ⟨c, hS⟩ := st.sl
    have fini : ∀ h', (∀ c o, c ≠ z → c ≠ TO → c ≠ i1 → c ≠ i2 → s.heap.get? c = some o → h'.get? c = some o) → R (.ok (.ret res)) { s with heap := h' } := fun h' hk' =>
      hR h' acc c (fun b o _ a1 a2 a3 a4 e => hk' b o a1 a2 a3 a4 e) (hk' S _ n1 n3 n4 n5 hS) (st.ac.at_ fun T o hT e => hk' T o (lz_ne b1 hT) (lz_ne b2 hT) (lz_ne b3 hT) (lz_ne b4 hT) e)
    refine wpAny_bind ?_
    rcases st.zip with ⟨_, hz, a, b, hTO⟩ | ⟨T, f, oT, hz, hT, _⟩
    · exact wpAny_pyNext_zip_end (A := A.in1) hh D hz st.ti hTO st.it1 st.it2 st.ls1 st.ls2 hend fun h' hk' => wpAny_pure (fini h' hk')
    · exact wpAny_pyNext_zip_end_held (A := A.in1) hh D hz hT st.ti st.it1 st.it2 st.ls1 st.ls2 hend fun h' hk' => wpAny_pure (fini h' fun c o a1 _ a3 a4 e => hk' c o a1 a3 a4 e)
  | succ k ih =>
    intro i s acc hk hi st hR
    have hlt : i < n := by omega
    refine codeAny_builtin F.entry_extend_loop ?_
    rw [Around.under_plainId F.plain_extend_loop _]
    show wpAny _ A.in1 (pyNext (.ref z) >>= _) _ _ s
    obtain ⟨x, hx⟩ : ∃ x, xs[i]? = some x := ⟨xs[i], by rw [Array.getElem?_eq_getElem (by omega)]⟩
    obtain ⟨y, hy⟩ : ∃ y, ys[i]? = some y := ⟨ys[i], by rw [Array.getElem?_eq_getElem (by omega)]⟩
    obtain ⟨c, hS⟩ := st.sl
    refine wpAny_bind ?_
    have go : ∀ h', (∃ (T : Addr) (f : Bool) (oT : Obj), IsZipHeld h' z TI TO T f ∧ h'.get? T = some oT ∧ b0 ≤ T) → h'.IsListIter i1 l1 (i + 1) → h'.IsListIter i2 l2 (i + 1) → IsPair h' s.heap.objs.size x y → h'.objs.size = s.heap.objs.size + 1 →
        (∀ c o, c ≠ z → c ≠ TO → c ≠ i1 → c ≠ i2 → s.heap.get? c = some o → h'.get? c = some o) →
        wpAny (model prog w) A.in1 (updateSeq S (·.push (.ref s.heap.objs.size)) >>= fun _ => again (.builtin "list.extend.loop" ⟨[.ref S, .ref z, res], []⟩))
          (fun fin s' => match fin with | .done f => R (.ok f) s' | .again c' => c'.quiet = true ∧ codeAny (model prog w) A c' R s') (fun e s' => R (.error e) s') { s with heap := h' } := by
      intro h' hz' it1' it2' hP hsz hk'
      have hS' := hk' S _ n1 n3 n4 n5 hS
      have hasz := st.ac.size
      refine wpAny_bind ?_
      have sb : Heap.SameBut S h' (h'.update S (Obj.mapSeq (·.push (.ref s.heap.objs.size)))) := Heap.SameBut.update ..
      have up : ∀ c o, c ≠ S → h'.get? c = some o → (h'.update S (Obj.mapSeq (·.push (.ref s.heap.objs.size)))).get? c = some o := fun c o hc e => (sb.2 c hc).trans e
      have hb0 := st.hb
      refine wpAny_updateSeq hS' rfl (wpAny_pure ⟨plainId_quiet F.plain_extend_loop _, ih (i + 1) _ (acc.push (.ref s.heap.objs.size)) (by omega) hlt ?_ fun h'' acc' c' hm hS'' hacc => ?_⟩) (by rw [hasz]; omega) (by show (acc.push _).size ≤ sizeLine + 1; rw [Array.size_push, hasz]; omega)
      · obtain ⟨T, f, oT, q1, q2, q3⟩ := hz'
        refine ⟨.inr ⟨T, f, oT, up _ _ (fun e => n1 e.symm) q1, up _ _ (lz_ne b5 q3) q2, q3⟩, ?_, it1'.at fun o e => up _ _ (fun e => n4 e.symm) e, it2'.at fun o e => up _ _ (fun e => n5 e.symm) e, ?_, ?_, ⟨_, Heap.get?_update_self _ hS' rfl⟩, ?_, ?_⟩
        · exact up _ _ (fun e => n2 e.symm) (hk' _ _ D.TIz D.TITO D.TIi1 D.TIi2 st.ti)
        · obtain ⟨o, e1, e2⟩ := st.ls1
          exact ⟨o, up _ _ (fun e => n6 e.symm) (hk' _ _ D.l1z D.l1TO D.l1i1 D.l1i2 e1), e2⟩
        · obtain ⟨o, e1, e2⟩ := st.ls2
          exact ⟨o, up _ _ (fun e => n7 e.symm) (hk' _ _ D.l2z D.l2TO D.l2i1 D.l2i2 e1), e2⟩
        · have old : ∀ j, j < acc.size → (acc.push (.ref s.heap.objs.size))[j]? = acc[j]? := fun j hj => by rw [Array.getElem?_push, if_neg (by omega)]
          have new : (acc.push (.ref s.heap.objs.size))[acc.size]? = some (.ref s.heap.objs.size) := by rw [Array.getElem?_push, if_pos rfl]
          refine ⟨by rw [Array.size_push, hasz], fun j hj => ?_, fun j k T U hjk e1 e2 => ?_⟩
          · by_cases q : j < i
            · obtain ⟨T, x', y', e1, e2, e3, e4, e5⟩ := st.ac.its j q
              exact ⟨T, x', y', by rw [old j (by omega)]; exact e1, e2, e3, up _ _ (lz_ne b5 e5) (hk' _ _ (lz_ne b1 e5) (lz_ne b2 e5) (lz_ne b3 e5) (lz_ne b4 e5) e4), e5⟩
            · have : j = i := by omega
              subst this
              exact ⟨_, x, y, by rw [← hasz]; exact new, hx, hy, up _ _ (lz_ne b5 hb0) hP, hb0⟩
          · have hkl : k < (acc.push (.ref s.heap.objs.size)).size := by
              have := Array.getElem?_eq_some_iff.mp e2
              exact this.1
            rw [Array.size_push] at hkl
            by_cases q : k < acc.size
            · rw [old j (by omega)] at e1
              rw [old k q] at e2
              exact st.ac.rise j k T U hjk e1 e2
            · have : k = acc.size := by omega
              subst this
              rw [new] at e2
              cases e2
              rw [old j hjk] at e1
              obtain ⟨T', x', y', e1', _, _, e4, _⟩ := st.ac.its j (by omega)
              rw [e1'] at e1
              cases e1
              exact Heap.lt_size e4
        · show b0 ≤ (h'.update S (Obj.mapSeq (·.push (.ref s.heap.objs.size)))).objs.size
          rw [sb.1, hsz]; omega
      · refine hR h'' acc' c' (fun b o a0 a1 a2 a3 a4 e => hm b o a0 a1 a2 a3 a4 (up b o a0 (hk' b o a1 a2 a3 a4 e))) hS'' hacc
    rcases st.zip with ⟨e0, hz, a, b, hTO⟩ | ⟨T, f, oT, hz, hT, hTb⟩
    · exact wpAny_pyNext_zip_item D hz st.ti hTO st.it1 st.it2 st.ls1 st.ls2 hx hy fun h' z' TO' h1' h2' hP hsz hk' => go h' ⟨s.heap.objs.size, false, _, z', hP, st.hb⟩ h1' h2' hP hsz hk'
    · exact wpAny_pyNext_zip_item_held D hz hT st.ti st.it1 st.it2 st.ls1 st.ls2 hx hy fun h' z' h1' h2' hP hsz hk' =>
        go h' ⟨T, true, oT, z', hk' T oT (lz_ne b1 hTb) (lz_ne b3 hTb) (lz_ne b4 hTb) hT, hTb⟩ h1' h2' hP hsz fun c o a1 _ a3 a4 e => hk' c o a1 a3 a4 e
/-- list(z) of a zip that nobody has drawn from -/
theorem call_list_zip {E : Value → Shared → Prop} {s : Shared} {Q : Value → Shared → Prop} {a b : Value} (hh : A.handled = none) (D : ZipApart z TI TO i1 i2 l1 l2) (hn : n ≤ sizeLine) (h1 : n ≤ xs.size) (h2 : n ≤ ys.size) (h3 : xs.size = n ∨ ys.size = n)
    (hz : IsZip s.heap z TI TO .none) (hTI : IsPair s.heap TI (.ref i1) (.ref i2)) (hTO : IsPair s.heap TO a b) (hi1 : s.heap.IsListIter i1 l1 0) (hi2 : s.heap.IsListIter i2 l2 0) (hl1 : s.heap.IsList l1 xs) (hl2 : s.heap.IsList l2 ys)
    (hQ : ∀ h' tk acc c, (∀ c o, c ≠ z → c ≠ TO → c ≠ i1 → c ≠ i2 → s.heap.get? c = some o → h'.get? c = some o) → h'.get? s.heap.objs.size = some { cls := .type "list", dict := none, data := .seq acc c, slots := #[] } →
      LzAcc (s.heap.objs.size + 1) xs ys h' acc n → Q (.ref s.heap.objs.size) { s with heap := h', toks := tk }) :
    wpAny (model prog w) A (call (.type "list") [.ref z]) Q E s := by
  have lt : ∀ {c o}, s.heap.get? c = some o → c < s.heap.objs.size := fun e => Heap.lt_size e
  have lz := lt hz
  have lTI := lt hTI
  have lTO := lt hTO
  have li1 : i1 < s.heap.objs.size := by obtain ⟨o, e, _⟩ := hi1; exact lt e
  have li2 : i2 < s.heap.objs.size := by obtain ⟨o, e, _⟩ := hi2; exact lt e
  have ll1 : l1 < s.heap.objs.size := by obtain ⟨o, e, _⟩ := hl1; exact lt e
  have ll2 : l2 < s.heap.objs.size := by obtain ⟨o, e, _⟩ := hl2; exact lt e
  refine callType_codes (Q₁ := fun obj s₁ => obj = .ref s.heap.objs.size ∧ s₁ = { s with heap := s.heap.push { cls := .type "list", data := .seq #[] } }) F.called_list (F.typeCall_list_1 _) F.entry_list_init
    (code_list_new _ ⟨rfl, rfl⟩) fun obj s₁ h₁ => ?_
  obtain ⟨rfl, rfl⟩ := h₁
  have hS : (s.heap.push { cls := .type "list", data := .seq #[] }).get? s.heap.objs.size = some { cls := .type "list", data := .seq #[] } := Heap.get?_push_size _ rfl
  refine ⟨⟨_, hS, rfl⟩, F.args_list_init_2 _ _, ?_⟩
  show wpAny _ A.in1.in1 (do let old ← Builtin.List.listItems (.ref s.heap.objs.size); Builtin.List.listUpdate (.ref s.heap.objs.size) (fun _ => #[]); letGo old.toList.reverse; Builtin.List.listExtendWith (.ref s.heap.objs.size) (.ref z) .none) _ _ _
  refine wpAny_bind ?_
  unfold Builtin.List.listItems
  refine wpAny_bind (wpAny_seqItems hS rfl (wpAny_pure ?_))
  show wpAny _ A.in1.in1 (updateSeq s.heap.objs.size (fun _ => #[]) >>= fun _ => letGo (#[] : Array Value).toList.reverse >>= fun _ => Builtin.List.listExtendWith (.ref s.heap.objs.size) (.ref z) .none) _ _ _
  refine wpAny_bind (wpAny_updateSeq hS rfl ?_)
  have hS2 := Heap.get?_update_self (Obj.mapSeq (fun _ => (#[] : Array Value))) hS rfl
  refine wpAny_bind (wpAny_letGo ?_)
  unfold Builtin.List.listExtendWith
  have k1 : ∀ b o, s.heap.get? b = some o → (s.heap.push { cls := .type "list", data := .seq #[] }).get? b = some o := fun b o e => Heap.get?_push_of_some _ e
  have up : ∀ (h : Heap) (f : Obj → Obj), (∀ b o, s.heap.get? b = some o → h.get? b = some o) → ∀ b o, s.heap.get? b = some o → (h.update s.heap.objs.size f).get? b = some o := fun h f q b o e =>
    (Heap.get?_update_other _ _ (Ne.symm (Nat.ne_of_lt (Heap.lt_size e)))).trans (q b o e)
  have k2 := up _ (Obj.mapSeq (fun _ => (#[] : Array Value))) k1
  have nSz : s.heap.objs.size ≠ z := Nat.ne_of_gt lz
  have ty : ∀ {h : Heap} {tk : Nat}, (∀ b o, s.heap.get? b = some o → h.get? b = some o) → ({ s with heap := h, toks := tk } : Shared).TypeIs (.ref z) "zip" := fun {h} {tk} q => ⟨_, q _ _ hz, rfl⟩
  refine wpAny_bind (wpAny_typeOf (ty (tk := s.toks) k2) ?_)
  have e1 : Builtin.List.listSameRef (.ref s.heap.objs.size) (.ref z) = false := by simp [Builtin.List.listSameRef, nSz]
  have e2 : (Value.type "zip" == Value.type "list") = false := by decide
  have e3 : (Value.type "zip" == Value.type "tuple") = false := by decide
  simp only [e1, e2, e3, Bool.or_false, Bool.false_eq_true, if_false]
  refine wpAny_bind (wpAny_pyIter_zip (s := { s with heap := _ }) (k2 _ _ hz) ?_)
  refine wpAny_bind (wpAny_holding ?_)
  unfold Builtin.List.listLengthHint
  refine wpAny_bind (wpAny_specialOf (ty (tk := s.toks) k2) lz_no_len ?_)
  show wpAny _ A.in1.in1 (specialOf (Value.ref z) (Str.ofString "__length_hint__") >>= _) _ _ _
  refine wpAny_bind (wpAny_specialOf (ty (tk := s.toks) k2) lz_no_hint ?_)
  refine wpAny_pure ?_
  rw [Bool.true_or, if_pos rfl]
  refine wpAny_bind (wpAny_rule ?_)
  refine wpAny_bind ?_
  show wpAny _ A.in1.in1 (updateSeq s.heap.objs.size (·.push .none) >>= fun _ => updateSeq s.heap.objs.size (·.pop)) _ _ _
  refine wpAny_bind (wpAny_updateSeq hS2 rfl ?_)
  have hS3 := Heap.get?_update_self (Obj.mapSeq (·.push Value.none)) hS2 rfl
  refine wpAny_updateSeq (hz := by seq_fits) hS3 rfl ?_
  have hS4 := Heap.get?_update_self (Obj.mapSeq (·.pop)) hS3 rfl
  have k4 := up _ (Obj.mapSeq (·.pop)) (up _ (Obj.mapSeq (·.push Value.none)) k2)
  generalize hh4 : ((((s.heap.push { cls := .type "list", data := .seq #[] }).update s.heap.objs.size (Obj.mapSeq (fun _ => (#[] : Array Value)))).update s.heap.objs.size (Obj.mapSeq (·.push Value.none))).update s.heap.objs.size (Obj.mapSeq (·.pop))) = h4 at hS4 k4 ⊢
  have hsz : s.heap.objs.size < h4.objs.size := Heap.lt_size hS4
  refine wpAny_pure ⟨plainId_quiet F.plain_extend_loop _, lz_loop (A := A.in1) (b0 := s.heap.objs.size + 1) hh D hn h1 h2 h3 ⟨nSz, Nat.ne_of_gt lTI, Nat.ne_of_gt lTO, Nat.ne_of_gt li1, Nat.ne_of_gt li2, Nat.ne_of_gt ll1, Nat.ne_of_gt ll2⟩
    ⟨Nat.lt_succ_of_lt lz, Nat.lt_succ_of_lt lTO, Nat.lt_succ_of_lt li1, Nat.lt_succ_of_lt li2, Nat.lt_succ_self _⟩ .none n 0 _ #[] rfl (Nat.zero_le _)
    ⟨.inl ⟨rfl, k4 _ _ hz, a, b, k4 _ _ hTO⟩, k4 _ _ hTI, hi1.at fun o e => k4 _ _ e, hi2.at fun o e => k4 _ _ e, ?_, ?_, ⟨_, hS4⟩, ⟨rfl, fun j hj => absurd hj (Nat.not_lt_zero _), fun j k T U _ e => by simp at e⟩, hsz⟩ fun h' acc' c' hm hS' hacc => ?_⟩
  · obtain ⟨o, q1, q2⟩ := hl1
    exact ⟨o, k4 _ _ q1, q2⟩
  · obtain ⟨o, q1, q2⟩ := hl2
    exact ⟨o, k4 _ _ q1, q2⟩
  · exact ⟨rfl, hQ h' s.toks acc' c' (fun c o a1 a2 a3 a4 e => hm c o (Nat.ne_of_lt (Heap.lt_size e)) a1 a2 a3 a4 (k4 _ _ e)) hS' hacc⟩
end
end PySem
/-! MZipL: list(zip(xs, ys)), list(range(..)) as rules. -/
namespace M
open PySem L2 PySem.Spec PyProof.Rows
section
variable {X : Cx} {e a b : Expr} {p p2 pos pos2 : Pos} {K : PySem.W.Frag}
def adr : Value → Addr
  | .ref T => T
  | _ => 0
/-- what a list of pairs is worth -/
def tLz (K : PySem.W.Frag) (ta : TA) : TE := fun σ H Q => ta σ H fun vs H1 => ∃ (a b : Addr) (xs ys : List V), vs = [.ref a, .ref b] ∧ SqL K H1 a xs ∧ SqL K H1 b ys ∧
  ∀ (H2 : Hp) (q : Addr) (Ts : List Addr), H1 q = none → (∀ c o, upd H1 q (.lst (Ts.map V.ref)) c = some o → H2 c = some o) → Ts.length = min xs.length ys.length → Ts.Nodup → (∀ T ∈ Ts, H1 T = none ∧ T ≠ q) →
    (∀ (i : Nat) (T : Addr) (x y : V), Ts[i]? = some T → xs[i]? = some x → ys[i]? = some y → H2 T = some (.tup [x, y])) → Q (.ref q) H2
theorem pe_lzip {ta : TA} (hc : X.calm = true) (hg1 : Gl X "list") (hm1 : X.mg "list" = none) (hg2 : Gl X "zip") (hm2 : X.mg "zip" = none) (ha : PA X [a, b] ta)
    (na : starEach [Expr.Call (.Name "zip" p2) [a, b] [] pos2] X.env = (false, eval (.Call (.Name "zip" p2) [a, b] [] pos2) X.env) :: starEach [] X.env := by rfl)
    (hs : starEach [a, b] X.env = (false, eval a X.env) :: starEach [b] X.env := by rfl) (hpl : (backTo pos2 (starEach [b] X.env)).any (·.1) = false := by rfl) :
    PE X (.Call (.Name "list" p) [.Call (.Name "zip" p2) [a, b] [] pos2] [] pos) (tLz X.K ta) := by
  refine ⟨fun pins s σ H Q I h => ?_⟩
  refine Call_ (ld_blt I hg1 hm1 boot_list (PyProof.Rows.callWith_type1 (args_cons ?_ na) na))
  refine Call_ (ld_blt I hg2 hm2 PyProof.Rows.boot_zip (PyProof.Rows.callWith_type1 (thn (ha.run pos2 pins s σ H _ I h) fun us s1 ⟨vs, H1, I1, r1, q1⟩ => ?_) hs hpl))
  obtain ⟨l1, l2, xs, ys, ex, hqx, hqy, q⟩ := q1
  subst ex
  cases r1 with
  | cons r rr =>
    cases rr with
    | cons r' rr =>
      cases rr
      cases r
      cases r'
      obtain ⟨its, rv, p1, z1⟩ := I1.list hqx
      obtain ⟨its2, rv2, p2, z2⟩ := I1.list hqy
      have la : l1 < s1.heap.objs.size := p1.lt
      have lb : l2 < s1.heap.objs.size := p2.lt
      refine call_zip_2 p1.isList p2.isList fun hz zz hTI hTO h1 h2 hsz hk => args_nil ?_
      have e1 : its.toArray.size = xs.length := by rw [List.size_toArray, rv.length]
      have e2 : its2.toArray.size = ys.length := by rw [List.size_toArray, rv2.length]
      have kl : ∀ {c : Addr} {as : Array Value}, s1.heap.IsList c as → hz.IsList c as := fun ⟨o, q1, q2⟩ => ⟨o, hk _ _ q1, q2⟩
      refine call_list_zip (n := min xs.length ys.length) (s := { s1 with heap := hz }) (I1.ok.hd hc) (PySem.W.ktu_apart s1.heap.objs.size l1 l2 la lb) (Nat.le_trans (Nat.min_le_left _ _) z1) (by rw [e1]; omega) (by rw [e2]; omega) (by rw [e1, e2]; omega) zz hTI hTO h1 h2 (kl p1.isList) (kl p2.isList) fun h' tk acc c hm hS hacc => ?_
      have hn := hacc.size
      have gT : ∀ (i : Nat) (T : Addr), (acc.toList.map adr)[i]? = some T → acc[i]? = some (.ref T) := fun i T e => by
        have hi : i < acc.size := by
          have := (List.getElem?_eq_some_iff.mp e).1
          rwa [List.length_map, Array.length_toList] at this
        obtain ⟨T', x, y, q1, _⟩ := hacc.its i (by omega)
        rw [List.getElem?_map, Array.getElem?_toList, q1] at e
        cases e
        exact q1
      have hTs : (acc.toList.map adr).map Value.ref = acc.toList := by
        refine List.ext_getElem? fun i => ?_
        rw [List.getElem?_map]
        cases e : (acc.toList.map adr)[i]? with
        | none =>
          have := List.getElem?_eq_none_iff.mp e
          rw [List.length_map] at this
          exact (List.getElem?_eq_none_iff.mpr this).symm
        | some T => rw [Array.getElem?_toList, gT i T e]; rfl
      have kk : ∀ b u, s1.heap.get? b = some u → h'.get? b = some u := fun b u e => by
        have hb : b < s1.heap.objs.size := Heap.lt_size e
        exact hm b u (Nat.ne_of_lt (Nat.lt_of_lt_of_le hb (Nat.le_add_right _ _))) (Nat.ne_of_lt (Nat.lt_of_lt_of_le hb (Nat.le_add_right _ _))) (Nat.ne_of_lt hb) (Nat.ne_of_lt (Nat.lt_of_lt_of_le hb (Nat.le_add_right _ _))) (hk b u e)
      have hlen : (acc.toList.map adr).length = min xs.length ys.length := by rw [List.length_map, Array.length_toList, hn]
      have hp : s1.heap.objs.size ≤ hz.objs.size := by omega
      have new : ObjOk X.prog X.w (upd H1 hz.objs.size (.lst ((acc.toList.map adr).map V.ref))) h' hz.objs.size (.lst ((acc.toList.map adr).map V.ref)) :=
        ⟨by rw [List.length_map, hlen]; exact Nat.le_trans (Nat.min_le_left _ _) z1, acc.toList, c, by
          have := vals_refs (acc.toList.map adr)
          rwa [hTs] at this, by rw [Array.toArray_toList]; exact hS⟩
      have I3 := I1.laid (t' := tk) kk hp new
      have hq : H1 hz.objs.size = none := I1.hok.fresh hp
      have big : ∀ T ∈ acc.toList.map adr, ∃ (i : Nat) (x y : Value), (acc.toList.map adr)[i]? = some T ∧ its.toArray[i]? = some x ∧ its2.toArray[i]? = some y ∧ IsPair h' T x y ∧ hz.objs.size + 1 ≤ T := fun T hT => by
        obtain ⟨i, hi⟩ := List.getElem?_of_mem hT
        have hi' : i < acc.size := by
          have := (List.getElem?_eq_some_iff.mp hi).1
          rwa [List.length_map, Array.length_toList] at this
        obtain ⟨T', x, y, q1, q2, q3, q4, q5⟩ := hacc.its i (by omega)
        rw [gT i T hi] at q1
        cases q1
        exact ⟨i, x, y, hi, q2, q3, q4, q5⟩
      have nd : (acc.toList.map adr).Nodup := by
        refine List.pairwise_iff_getElem.mpr fun i j hi hj hij => Nat.ne_of_lt (hacc.rise i j _ _ hij (gT i _ (List.getElem?_eq_getElem hi)) (gT j _ (List.getElem?_eq_getElem hj)))
      have fr : ∀ T ∈ acc.toList.map adr, H1 T = none ∧ T ≠ hz.objs.size := fun T hT => by
        obtain ⟨_, _, _, _, _, _, _, q5⟩ := big T hT
        exact ⟨I1.hok.fresh (by omega), Nat.ne_of_gt (by omega)⟩
      obtain ⟨H2, I4, k4, t4⟩ := L2.DX.takeT (P := fun T vs => ∃ (i : Nat) (x y : V), (acc.toList.map adr)[i]? = some T ∧ xs[i]? = some x ∧ ys[i]? = some y ∧ vs = [x, y]) I1 (acc.toList.map adr) _ I3 nd fun T hT => by
        obtain ⟨i, u, u2, q1, q2, q3, q4, q5⟩ := big T hT
        have hi : i < xs.length ∧ i < ys.length := by
          have := (List.getElem?_eq_some_iff.mp q1).1
          rw [hlen] at this
          omega
        obtain ⟨u', g1, r1⟩ := rv.get (List.getElem?_eq_getElem hi.1)
        obtain ⟨u2', g2, r2⟩ := rv2.get (List.getElem?_eq_getElem hi.2)
        have g1' : its[i]? = some u := by simpa using q2
        have g2' : its2[i]? = some u2 := by simpa using q3
        rw [g1'] at g1; cases g1
        rw [g2'] at g2; cases g2
        refine ⟨by omega, by rw [upd_ne (fr T hT).2]; exact (fr T hT).1, [xs[i], ys[i]], ⟨i, _, _, q1, List.getElem?_eq_getElem hi.1, List.getElem?_eq_getElem hi.2, rfl⟩, fun H2 => ⟨by show 2 ≤ sizeLine; decide, [u, u2], .cons r1 (.cons r2 .nil), ⟨_, q4, rfl, _, rfl⟩⟩⟩
      refine ⟨.ref hz.objs.size, H2, I4, rfl, q H2 hz.objs.size (acc.toList.map adr) hq k4 hlen nd fr fun i T x y e1 e2 e3 => ?_⟩
      obtain ⟨vs, ⟨j, x', y', f1, f2, f3, rfl⟩, hH⟩ := t4 T (List.mem_of_getElem? e1)
      have : i = j := by
        have hi := (List.getElem?_eq_some_iff.mp e1).1
        exact (List.getElem?_inj hi nd).mp (e1.trans f1.symm)
      subst this
      rw [e2] at f2; cases f2
      rw [e3] at f3; cases f3
      exact hH
/-- list(zip(xs, ys)) -/
def aLZip (m : Bool) (g : AA) : AE := fun Γ M k => g Γ M fun ds M1 => match ds with
  | [d, e] => (match rdS M1 d, rdS M1 e with
    | some xs, some ys => nl m (zipD xs ys) M1 k
    | _, _ => False)
  | _ => False
theorem zip_rels {I : Hp} {xs ys : List D} {vs ws : List V} (r1 : Rels K I xs vs) (r2 : Rels K I ys ws) : ∀ {Ts : List Addr}, Ts.length = min vs.length ws.length → (∀ (i : Nat) (T : Addr) (x y : V), Ts[i]? = some T → vs[i]? = some x → ws[i]? = some y → I T = some (.tup [x, y])) → Rels K I (zipD xs ys) (Ts.map V.ref) := by
  induction xs generalizing ys vs ws with
  | nil =>
    intro Ts hl _
    rw [r1.nil_inv] at hl
    have : Ts = [] := List.eq_nil_of_length_eq_zero (by simpa using hl)
    subst this
    exact .nil
  | cons x xs ih =>
    intro Ts hl h
    obtain ⟨v, vs, rfl, a1, a2⟩ := r1.cons_inv
    cases ys with
    | nil =>
      rw [r2.nil_inv] at hl
      have : Ts = [] := List.eq_nil_of_length_eq_zero (by simpa using hl)
      subst this
      exact .nil
    | cons y ys =>
      obtain ⟨w, ws, rfl, b1, b2⟩ := r2.cons_inv
      cases Ts with
      | nil => simp at hl
      | cons T Ts =>
        refine .cons ?_ (ih a2 b2 (by simp at hl; omega) fun i T' x' y' e1 e2 e3 => h (i + 1) T' x' y' e1 e2 e3)
        rw [Rel]
        exact ⟨T, [v, w], rfl, .inl (h 0 T v w rfl rfl rfl), .cons a1 (.one b1)⟩
theorem lift_lzip {m : Bool} {g : AA} : ∀ σ H Q, lift K (aLZip m g) σ H Q → tLz K (liftA K g) σ H Q := by
  rintro σ H Q ⟨Γ, M, I, F, k, hs, hc, hf, hk⟩
  refine ⟨Γ, M, I, F, _, hs, hc, hf, fun ds M1 vs H1 I1 h1 l1 c1 r1 => ?_⟩
  split at h1
  · rename_i d e
    obtain ⟨v, u, rfl, r2, r3⟩ := rels2 r1
    split at h1
    · rename_i xs ys e0 e1
      obtain ⟨q, ws, rfl, g0, s0⟩ := rdS_ok e0 c1 r2
      obtain ⟨q', ws', rfl, g0', s0'⟩ := rdS_ok e1 c1 r3
      refine ⟨q, q', ws, ws', rfl, g0, g0', fun H2 p Ts hp hk2 hl nd fr tt => ?_⟩
      let I2 : Hp := fun c => if c ∈ Ts then H2 c else I1 c
      let H3 : Hp := fun c => if c = p then none else H2 c
      have hT : ∀ T ∈ Ts, ∃ x y, H2 T = some (.tup [x, y]) := fun T hT => by
        obtain ⟨i, hi⟩ := List.getElem?_of_mem hT
        have hb : i < ws.length ∧ i < ws'.length := by
          have := (List.getElem?_eq_some_iff.mp hi).1
          omega
        exact ⟨_, _, tt i T _ _ hi (List.getElem?_eq_getElem hb.1) (List.getElem?_eq_getElem hb.2)⟩
      have lI : Le I1 I2 := fun c o e => by
        show (if c ∈ Ts then H2 c else I1 c) = some o
        by_cases z : c ∈ Ts
        · have := (c1.fresh (fr c z).1).1
          rw [this] at e; cases e
        · rw [if_neg z]; exact e
      have kH : ∀ c o, H1 c = some o → H3 c = some o := fun c o e => by
        have n : c ≠ p := ne_of_none e hp
        show (if c = p then none else H2 c) = some o
        rw [if_neg n]
        exact hk2 c o (by rw [upd_ne n]; exact e)
      have c3 : Conc K H3 I2 M1 F := by
        refine c1.grow lI (fun c o e => ?_) (fun c o _ e => kH c o e) (fun c hm => ?_) fun c o e => ?_
        · have e : (if c ∈ Ts then H2 c else I1 c) = some o := e
          by_cases z : c ∈ Ts
          · rw [if_pos z] at e
            show (if c = p then none else H2 c) = some o
            rw [if_neg (fr c z).2]; exact e
          · rw [if_neg z] at e
            exact kH c o (c1.sub c o e)
        · show (if c ∈ Ts then H2 c else I1 c) = none
          by_cases z : c ∈ Ts
          · exact absurd (c1.fresh (fr c z).1).2 hm
          · rw [if_neg z]; exact c1.fre c hm
        · obtain ⟨b1, b2, b3⟩ := c1.frm c o e
          refine ⟨kH c o b1, ?_⟩
          show (if c ∈ Ts then H2 c else I1 c) = none
          by_cases z : c ∈ Ts
          · rw [(fr c z).1] at b1; cases b1
          · rw [if_neg z]; exact b2
      have hH : upd H3 p (.lst (Ts.map V.ref)) = H2 := by
        funext c
        by_cases z : c = p
        · subst z
          rw [upd_same]
          exact (hk2 _ _ upd_same).symm
        · rw [upd_ne z]
          show (if c = p then none else H2 c) = H2 c
          rw [if_neg z]
      rw [← hH]
      refine nl_ok h1 c3 (zip_rels (Rels.le lI _ _ s0) (Rels.le lI _ _ s0') hl fun i T x y f1 f2 f3 => ?_) ((hk.le l1).le lI) (if_pos rfl)
      show (if T ∈ Ts then H2 T else I1 T) = _
      rw [if_pos (List.mem_of_getElem? f1)]
      exact tt i T x y f1 f2 f3
    · exact h1.elim
  · exact h1.elim
theorem e_lzip (m : Bool) {g : AA} (hc : X.calm = true) (hm1 : X.mg "list" = none) (hm2 : X.mg "zip" = none) (ha : PA X [a, b] (liftA X.K g)) (hg1 : Gl X "list" := by rfl) (hg2 : Gl X "zip" := by rfl)
    (na : starEach [Expr.Call (.Name "zip" p2) [a, b] [] pos2] X.env = (false, eval (.Call (.Name "zip" p2) [a, b] [] pos2) X.env) :: starEach [] X.env := by rfl)
    (hs : starEach [a, b] X.env = (false, eval a X.env) :: starEach [b] X.env := by rfl) (hpl : (backTo pos2 (starEach [b] X.env)).any (·.1) = false := by rfl) :
    PE X (.Call (.Name "list" p) [.Call (.Name "zip" p2) [a, b] [] pos2] [] pos) (lift X.K (aLZip m g)) := (pe_lzip hc hg1 hm1 hg2 hm2 ha na hs hpl).imp lift_lzip
/-- sorted(xs), ints -/
def cSorted (m : Bool) : AC := fun ds M k => match ds with
  | [d] => ∃ ns : List Int, rdS M d = some (ns.map .int) ∧ ∀ ns' : List Int, ns'.Perm ns → ns'.Pairwise (· ≤ ·) → nl m (ns'.map .int) M k
  | _ => False
theorem cSorted_ok {m : Bool} : OkC K (rSortedI K) (cSorted m) := by
  intro ds M k vs H I F Q h c r hk
  unfold cSorted at h
  split at h
  · obtain ⟨v, rfl, r9⟩ := rels1 r
    obtain ⟨ns, h1, h2⟩ := h
    obtain ⟨q, ws, rfl, g, s⟩ := rdS_ok h1 c r9
    rw [s.ints] at g
    exact ⟨q, ns, rfl, g, fun ns' p e1 e2 e3 => nl_ok (h2 ns' e1 e2) c Rels.of_ints hk e3⟩
  · exact h.elim
def cMaxL : AC := fun ds M k => match ds with
  | [d] => ∃ ns : List Int, rdS M d = some (ns.map .int) ∧ 0 < ns.length ∧ ∀ m, m ∈ ns → (∀ y, y ∈ ns → y ≤ m) → k (.int m) M
  | _ => False
def cMinL : AC := fun ds M k => match ds with
  | [d] => ∃ ns : List Int, rdS M d = some (ns.map .int) ∧ 0 < ns.length ∧ ∀ m, m ∈ ns → (∀ y, y ∈ ns → m ≤ y) → k (.int m) M
  | _ => False
theorem cMaxL_ok : OkC K (rMax K) cMaxL := by
  intro ds M k vs H I F Q h c r hk
  unfold cMaxL at h
  split at h
  · obtain ⟨v, rfl, r9⟩ := rels1 r
    obtain ⟨ns, h1, h2, h3⟩ := h
    obtain ⟨q, ws, rfl, g, s⟩ := rdS_ok h1 c r9
    rw [s.ints] at g
    exact ⟨q, ns, rfl, g, h2, fun m e1 e2 => hk _ _ _ _ _ (h3 m e1 e2) (Le.refl I) c (by rw [Rel])⟩
  · exact h.elim
theorem cMinL_ok : OkC K (rMin K) cMinL := by
  intro ds M k vs H I F Q h c r hk
  unfold cMinL at h
  split at h
  · obtain ⟨v, rfl, r9⟩ := rels1 r
    obtain ⟨ns, h1, h2, h3⟩ := h
    obtain ⟨q, ws, rfl, g, s⟩ := rdS_ok h1 c r9
    rw [s.ints] at g
    exact ⟨q, ns, rfl, g, h2, fun m e1 e2 => hk _ _ _ _ _ (h3 m e1 e2) (Le.refl I) c (by rw [Rel])⟩
  · exact h.elim
section
variable {ga : AA} {es : List Expr}
theorem e_sorted (m : Bool) (hm : X.mg "sorted" = none) (ha : PA X (e :: es) (liftA X.K ga)) (hg : Gl X "sorted" := by rfl) (he : starEach (e :: es) X.env = (false, eval e X.env) :: starEach es X.env := by rfl) (hpl : (backTo pos (starEach es X.env)).any (·.1) = false := by rfl) :
    PE X (.Call (.Name "sorted" p) (e :: es) [] pos) (lift X.K (aCB (cSorted m) ga)) := e_callB cr_sortedI cSorted_ok hm (by decide +kernel) ha hg (by decide) (by decide) he hpl
theorem e_maxL (hc : X.calm = true) (hm : X.mg "max" = none) (ha : PA X (e :: es) (liftA X.K ga)) (hg : Gl X "max" := by rfl) (he : starEach (e :: es) X.env = (false, eval e X.env) :: starEach es X.env := by rfl) (hpl : (backTo pos (starEach es X.env)).any (·.1) = false := by rfl) :
    PE X (.Call (.Name "max" p) (e :: es) [] pos) (lift X.K (aCB cMaxL ga)) := e_callB (cr_max hc) cMaxL_ok hm (by decide +kernel) ha hg (by decide) (by decide) he hpl
theorem e_minL (hc : X.calm = true) (hm : X.mg "min" = none) (ha : PA X (e :: es) (liftA X.K ga)) (hg : Gl X "min" := by rfl) (he : starEach (e :: es) X.env = (false, eval e X.env) :: starEach es X.env := by rfl) (hpl : (backTo pos (starEach es X.env)).any (·.1) = false := by rfl) :
    PE X (.Call (.Name "min" p) (e :: es) [] pos) (lift X.K (aCB cMinL ga)) := e_callB (cr_min hc) cMinL_ok hm (by decide +kernel) ha hg (by decide) (by decide) he hpl
end
/-- list(range(..)) -/
def rgOk (i j : Int) : Prop := -(2 ^ 62) ≤ i ∧ i < 2 ^ 62 ∧ -(2 ^ 62) ≤ j ∧ j < 2 ^ 62 ∧ (j - i).toNat ≤ 2 ^ 24
def aLRange1 (m : Bool) (f : AE) : AE := fun Γ M k => f Γ M fun d M1 => match d with
  | .int j => rgOk 0 j ∧ nl m ((rng 0 j.toNat).map .int) M1 k
  | _ => False
def aLRange2 (m : Bool) (f g : AE) : AE := fun Γ M k => f Γ M fun d M1 => g Γ M1 fun e M2 => match d, e with
  | .int i, .int j => rgOk i j ∧ nl m ((rng i (j - i).toNat).map .int) M2 k
  | _, _ => False
theorem rng_rels {I : Hp} {i j : Int} : Rels K I ((rng i (j - i).toNat).map D.int) (rgV i j) := by
  have := Rels.of_ints (K := K) (I := I) (ns := rng i (j - i).toNat)
  unfold rng at this ⊢
  unfold rgV
  rwa [List.map_map (g := V.int)] at this
theorem e_lrange1 (m : Bool) {f : AE} (hc : X.calm = true) (hm1 : X.mg "list" = none) (hm2 : X.mg "range" = none) (ha : PE X a (lift X.K f)) (hg1 : Gl X "list" := by rfl) (hg2 : Gl X "range" := by rfl)
    (n1 : starEach [a] X.env = (false, eval a X.env) :: starEach [] X.env := by rfl) (na : starEach [Expr.Call (.Name "range" p2) [a] [] pos2] X.env = (false, eval (.Call (.Name "range" p2) [a] [] pos2) X.env) :: starEach [] X.env := by rfl) :
    PE X (.Call (.Name "list" p) [.Call (.Name "range" p2) [a] [] pos2] [] pos) (lift X.K (aLRange1 m f)) := (pe_listRg hc hg1 hm1 (prg_1 hg2 hm2 ha n1) na).imp fun σ H Q ⟨Γ, M, I, F, k, hs, hc, hf, hk⟩ =>
  ⟨Γ, M, I, F, _, hs, hc, hf, fun d M1 v H1 I1 h1 l1 c1 r1 => by
    split at h1
    · rename_i j
      rw [Rel] at r1
      refine ⟨j, r1, h1.1, fun q hq => nl_ok h1.2 c1 ?_ (hk.le l1) hq⟩
      have := rng_rels (K := X.K) (I := I1) (i := 0) (j := j)
      rwa [Int.sub_zero] at this
    · exact h1.elim⟩
theorem e_lrange2 (m : Bool) {f g : AE} (hc : X.calm = true) (hm1 : X.mg "list" = none) (hm2 : X.mg "range" = none) (ha : PE X a (lift X.K f)) (hb : PE X b (lift X.K g)) (hg1 : Gl X "list" := by rfl) (hg2 : Gl X "range" := by rfl)
    (n1 : starEach [a, b] X.env = (false, eval a X.env) :: starEach [b] X.env := by rfl) (n2 : starEach [b] X.env = (false, eval b X.env) :: starEach [] X.env := by rfl) (hp : (backTo pos2 (starEach [b] X.env)).any (·.1) = false := by rfl)
    (na : starEach [Expr.Call (.Name "range" p2) [a, b] [] pos2] X.env = (false, eval (.Call (.Name "range" p2) [a, b] [] pos2) X.env) :: starEach [] X.env := by rfl) :
    PE X (.Call (.Name "list" p) [.Call (.Name "range" p2) [a, b] [] pos2] [] pos) (lift X.K (aLRange2 m f g)) := (pe_listRg hc hg1 hm1 (prg_2 hg2 hm2 ha hb n1 n2 hp) na).imp fun σ H Q ⟨Γ, M, I, F, k, hs, hc, hf, hk⟩ =>
  ⟨Γ, M, I, F, _, hs, hc, hf, fun d M1 v H1 I1 h1 l1 c1 r1 => ⟨Γ, M1, I1, F, _, hs.le l1, c1, h1, fun e M2 u H2 I2 h2 l2 c2 r2 => by
    split at h2
    · rename_i i j
      rw [Rel] at r1
      rw [Rel] at r2
      exact ⟨i, j, r1, r2, h2.1, fun q hq => nl_ok h2.2 c2 rng_rels (hk.le (l1.trans l2)) hq⟩
    · exact h2.elim⟩⟩
/-! x += e -/
def ipAdd : AB := fun d e M k => match d with
  | .int i => (match e with
    | .int j => k (.int (i + j)) M
    | _ => False)
  | d => wrL d M fun a xs => match rdL M e with
    | some ys => xs.length + ys.length ≤ sizeLine ∧ k (.ref a) (up M a (.obj (.lst (xs ++ ys))))
    | none => False
def tIp : TIp := fun x y H Q => ipI (fun i j => i + j) x y H Q ∨ rExt2 x y H Q
theorem pip_add : PIp X .Add tIp := fun pins s σ H x y v u Q I r1 r2 h => h.elim (ip_add pins s σ H x y v u Q I r1 r2) (iop_ext pins s σ H x y v u Q I r1 r2)
theorem ipAdd_ok {d e : D} {M : MH} {k : AK} {v u : V} {H I F : Hp} {Q : VK} (h : ipAdd d e M k) (c : Conc K H I M F) (r1 : Rel K I d v) (r2 : Rel K I e u) (hk : kE K I F k Q) : tIp v u H Q := by
  unfold ipAdd at h
  split at h
  · split at h
    · rw [Rel] at r1 r2
      exact .inl ⟨_, _, r1, r2, hk _ _ _ _ _ h (Le.refl I) c (by rw [Rel])⟩
    · exact h.elim
  · obtain ⟨a, xs, vs, rfl, hM, hH, hr, q⟩ := wrL_ok h c r1
    split at q
    · rename_i ys e0
      obtain ⟨b, ws, rfl, g2, s2⟩ := rdL_ok e0 c r2
      refine .inr ⟨a, b, vs, ws, rfl, rfl, hH, g2, by rw [← hr.length, ← s2.length]; exact q.1, hk _ _ _ _ _ q.2 (Le.refl I) (c.set hM ⟨_, upd_same, hr.append s2⟩) (by rw [Rel])⟩
    · exact q.elim
def aAug (i : Nat) (f : AE) : AS := fun D Γ M => match Γ[i]? with
  | some (some d) => f Γ M fun e M1 => ipAdd d e M1 fun z M2 => D.nx (Γ.set i (some z)) M2
  | _ => False
theorem s_aug {i : Nat} {x : Str} {f : AE} (he : PE X e (lift X.K f)) (hN : X.N.Nodup) (hi : X.N[i]? = some x := by rfl) (hx : Loc X.env.scope x := by first | exact Or.inl rfl | exact Or.inr rfl) (hf : X.fn x = true ∨ X.env.scope.names.lookup x = some .local := by first | exact .inl rfl | exact .inr rfl) :
    PS X (.AugAssign (.Name x p) .Add e pos) (liftS X.K (aAug i f)) := (ps_aug hN hi hx he pip_add hf).imp fun E σ H ⟨Γ, M, I, F, D, hs, hc, hf, hk⟩ => by
  unfold aAug at hf
  split at hf
  · rename_i d ed
    obtain ⟨v, e1, r⟩ := hs.get ed
    exact ⟨v, e1, Γ, M, I, F, _, hs, hc, hf, fun e M1 u H1 I1 h1 l1 c1 r1 => ipAdd_ok h1 c1 (Rel.le l1 _ _ r) r1 fun z M2 w H2 I2 h2 l2 c2 r2 => hk.nx _ _ _ _ _ h2 (l1.trans l2) c2 ((hs.le (l1.trans l2)).set r2)⟩
  · exact hf.elim
/-! steps -/
variable {Z : AD} {Γ : G} {M : MH} {k : AK} {f : AE} {d : D} {i j : Int} {n : Nat} {xs ys : List D} {m : Bool}
theorem iSorted {ns : List Int} (h : ∀ ns' : List Int, ns'.Perm ns → ns'.Pairwise (· ≤ ·) → nl m (ns'.map .int) M k) (q : rdS M d = some (ns.map .int)) : cSorted m [d] M k := ⟨ns, q, h⟩
theorem iLZip {g : AA} (h : g Γ M fun ds M1 => match ds with | [d, e] => (match rdS M1 d, rdS M1 e with | some xs, some ys => nl m (zipD xs ys) M1 k | _, _ => False) | _ => False) : aLZip m g Γ M k := h
def kLz (m : Bool) (k : AK) : List D → MH → Prop := fun ds M1 => match ds with
  | [d, e] => (match rdS M1 d, rdS M1 e with
    | some xs, some ys => nl m (zipD xs ys) M1 k
    | _, _ => False)
  | _ => False
theorem eLZ {g : AA} : (aLZip m g Γ M k) = (g Γ M (kLz m k)) := propext Iff.rfl
theorem iLzG {d e : D} (h : nl m (zipD xs ys) M k) (q1 : rdS M d = some xs) (q2 : rdS M e = some ys) : kLz m k [d, e] M := by
  show (match rdS M d, rdS M e with | some xs, some ys => nl m (zipD xs ys) M k | _, _ => False)
  rw [q1, q2]; exact h
def kAg (n : Nat) (Γ : G) (Z : AD) (d : D) : AK := fun e M1 => ipAdd d e M1 fun z M2 => Z.nx (Γ.set n (some z)) M2
theorem iAug (h : f Γ M (kAg n Γ Z d)) (e : Γ[n]? = some (some d)) : aAug n f Z Γ M := by
  unfold aAug; rw [e]; exact h
theorem iAgI (h : Z.nx (Γ.set n (some (.int (i + j)))) M) : kAg n Γ Z (.int i) (.int j) M := h
theorem iAgL {a : Addr} {e : D} (h : Z.nx (Γ.set n (some (.ref a))) (up M a (.obj (.lst (xs ++ ys))))) (q1 : M a = some (.obj (.lst xs))) (q2 : rdL M e = some ys) (l : xs.length + ys.length ≤ sizeLine) : kAg n Γ Z (.ref a) e M := by
  show (match M a with | some (.obj (.lst xs)) => (match rdL M e with | some ys => xs.length + ys.length ≤ sizeLine ∧ Z.nx (Γ.set n (some (.ref a))) (up M a (.obj (.lst (xs ++ ys)))) | none => False) | _ => False)
  rw [q1]
  show (match rdL M e with | some ys => xs.length + ys.length ≤ sizeLine ∧ Z.nx (Γ.set n (some (.ref a))) (up M a (.obj (.lst (xs ++ ys)))) | none => False)
  rw [q2]; exact ⟨l, h⟩
def kRg2 (m : Bool) (k : AK) (d : D) : AK := fun e M2 => match d, e with
  | .int i, .int j => rgOk i j ∧ nl m ((rng i (j - i).toNat).map .int) M2 k
  | _, _ => False
theorem eLRg2 {g : AE} : (aLRange2 m f g Γ M k) = (f Γ M fun d M1 => g Γ M1 (kRg2 m k d)) := propext Iff.rfl
theorem eLRg2i : (kRg2 m k (.int i) (.int j) M) = (rgOk i j ∧ nl m ((rng i (j - i).toNat).map .int) M k) := propext Iff.rfl
def kRg1 (m : Bool) (k : AK) : AK := fun e M2 => match e with
  | .int j => rgOk 0 j ∧ nl m ((rng 0 j.toNat).map .int) M2 k
  | _ => False
theorem eLRg1 : (aLRange1 m f Γ M k) = (f Γ M (kRg1 m k)) := propext Iff.rfl
theorem eLRg1i : (kRg1 m k (.int j) M) = (rgOk 0 j ∧ nl m ((rng 0 j.toNat).map .int) M k) := propext Iff.rfl
end
end M
/-! MTup0: enumerate and sorted of the empty tuple. -/
namespace M
open PySem L2 PySem.Spec PyProof.Rows
open AutoSeq1 (wpAny_loadPart')
section
variable {prog : Program} {w : World} {A : Around} {E : Value → Shared → Prop} {s : Shared}
/-- no item is left of an empty tuple -/
theorem t0_next {I T : Addr} {Q : Value → Shared → Prop} (nh : A.handled = none) (hI : s.heap.IsTupleIter I T 0) (hT : s.heap.IsTuple T #[])
    (k : ∀ g e, Heap.ExtBut I s.heap g → (∃ o, g.get? e = some o ∧ o.cls = .type "StopIteration") → E (.ref e) { s with heap := g }) : wpAny (model prog w) A (Builtin.SmallTypes.nextOf (.ref I)) Q E s := by
  obtain ⟨o, o1, o2, o3⟩ := id hI
  obtain ⟨u, u1, _, un, u3⟩ := hT
  unfold Builtin.SmallTypes.nextOf
  refine wpAny_bind (wpAny_callSpecial?_slot (name := Str.ofString "__next__") hI.typeIs F.slot_tuple_iterator_next (wpAny_call_entry F.slot_tuple_iterator_next hI.typeIs F.entry_tuple_iterator_next ?_ (F.args_tuple_iterator_next_1 _)))
  show wpAny _ _ (field (.ref I) 0 >>= _) _ _ s
  refine wpAny_bind (wpAny_field o1 o3 (x := .ref T) rfl ?_)
  show wpAny _ _ (if (Value.ref T == Value.none) = true then _ else _) _ _ s
  rw [if_neg (show ¬ ((Value.ref T == Value.none) = true) from Bool.false_ne_true)]
  show wpAny _ _ (field (.ref I) 1 >>= _) _ _ s
  refine wpAny_bind (wpAny_field o1 o3 (x := .int 0 0) rfl ?_)
  show wpAny _ _ (seqItems? (.ref T) >>= _) _ _ s
  refine wpAny_bind (wpAny_seqItems u1 u3 ?_)
  have nx : (#[] : Array Value)[(0 : Int).toNat]? = none := rfl
  simp only [nx]
  refine wpAny_bind (wpAny_rule (wpAny_bind (wpAny_setField o1 o3 (by simp) ?_)))
  show wpAny _ _ (newExc (.type "StopIteration") [] >>= _) _ _ _
  refine wpAny_bind ?_
  simp only [newExc, newTuple]
  refine wpAny_bind (wpAny_newObj_type ?_ (by size_fits))
  refine wpAny_bind (m := firstArgMember _ _) (wpAny_of_eq (a := Value.none) (by first | rfl | (simp only [firstArgMember]; rfl)) ?_)
  refine wpAny_newObj_type ?_ (by size_fits)
  simp only [raiseNew]
  refine wpAny_bind (wpAny_handled ?_)
  first | rw [show A.in1.handled = none from nh] | rw [nh]
  refine wpAny_bind (wpAny_pure (wpAny_throw (k _ _ (((Heap.SameBut.update ..).extBut.push _).push _) ⟨_, Heap.get?_push_size _ rfl, rfl⟩)))
end
theorem draws0 {prog : Program} {w : World} {A : Around} (nh : A.handled = none) (I T : Addr) (ne : T ≠ I) : Draws prog w A I [I, T] 0 (fun _ _ => False) (fun i h => h.IsTupleIter I T 0 ∧ h.IsTuple T #[]) where
  live := fun _ _ st => let ⟨o, q, _⟩ := st.1; ⟨o, q⟩
  frame := fun _ _ _ st hk => by
    obtain ⟨⟨o, q1, q2⟩, ⟨u, r1, r2⟩⟩ := st
    exact ⟨⟨o, hk I (by simp) _ q1, q2⟩, ⟨u, hk T (by simp) _ r1, r2⟩⟩
  item := fun i s Q E hi _ _ => absurd hi (Nat.not_lt_zero i)
  done := fun s Q E st hE => t0_next nh st.1 st.2 hE
/-- nothing is walked -/
def It0 (K : PySem.W.Frag) (T : Addr) : It := ⟨fun _ _ => False, fun _ _ _ _ => False, fun _ H => SqT K H T []⟩
section
variable {P : Program} {w : World} {K : PySem.W.Frag} {tg : Expr}
theorem turn0 (T e I : Addr) : Turn P w K tg (It0 K T) [e, I] e (fun i h => (∃ old, IsEnum h e I 0 old) ∧ h.IsTupleIter I T 0) where
  mem := by simp
  obj := fun i h st b hb => by
    obtain ⟨⟨old, he⟩, ⟨o, ho, hc, hd⟩⟩ := st
    have e' : b = e ∨ b = I := by simpa using hb
    rcases e' with z | z
    · rw [z]; exact ⟨_, he, fun v q => nomatch q⟩
    · rw [z]; exact ⟨o, ho, fun v q => by rw [hd] at q; cases q⟩
  keep := fun i h h' st k => by
    obtain ⟨⟨old, he⟩, ⟨o, ho, hc⟩⟩ := st
    exact ⟨⟨old, k e (by simp) _ he⟩, ⟨o, k I (by simp) _ ho, hc⟩⟩
  item := fun X hP hw hK hc i pins s σ H E I' hf st hg => hg.elim
  done := by
    intro X hP hw hK hc i pins s σ H E I' hf st hg
    subst hP hw hK
    obtain ⟨⟨old, he⟩, hit⟩ := st
    obtain ⟨f0, f1, f2, f3, f4, f5⟩ := hf I (by simp)
    obtain ⟨its, rv, p, _⟩ := I'.tuple hg
    have e0 : its = [] := by
      have := rv.length
      exact List.eq_nil_of_length_eq_zero this.symm
    subst e0
    have hT : s.heap.IsTuple T #[] := p
    have ne : T ≠ I := fun z => by
      subst z
      obtain ⟨o, q1, q2, _⟩ := hit
      obtain ⟨u, r1, r2, _⟩ := hT
      rw [q1] at r1
      cases r1
      rw [q2] at r2
      injection r2 with r2
      exact absurd r2 (by decide)
    exact wpAny_pyNext_enum_endD (draws0 (A := X.A.in1) (I'.ok.hd hc) I T ne) he ⟨hit, hT⟩ fun h' eb => ⟨rfl, I'.turned (t' := s.toks) (fun b o hb q => eb b o hb q) f0 f1 f3 f4 f5⟩
  self := fun A i s Q E st h => let ⟨⟨_, he⟩, _⟩ := st; wpAny_pyIter_enum he h
end
section
variable {prog : Program} {w : World} {A : Around} {E : Value → Shared → Prop} {s : Shared}
theorem t0_new (T : Addr) (o : Obj) (n : Nat) (hc : o.cls = .type "tuple") (hd : o.data = .seq #[] n) :
    Meets (Builtin.«enumerate.__new__» ⟨[.type "enumerate", .ref T], []⟩) (fun _ R s => s.heap.get? T = some o ∧
      R (.ok (.ret (.ref (s.heap.push { cls := .type "tuple_iterator", data := .fields #[.ref T, .int 0 0] }).objs.size)))
        { s with heap := (s.heap.push { cls := .type "tuple_iterator", data := .fields #[.ref T, .int 0 0] }).push { cls := .type "enumerate", data := .fields #[.none, .bool false, .ref s.heap.objs.size, rawInt 0, .none, .none] } }) :=
  .of_wp fun prog w A R s h => by
    obtain ⟨hp, g, d, tk, os⟩ := s
    obtain ⟨hl, h⟩ := h
    have hsub := sub_enumerate
    have hL : Heap.IsTuple (Shared.heap ⟨hp, g, d, tk, os⟩) T #[] := ⟨_, hl, hc, n, hd⟩
    wp_walk using wpAny_loadPart' hl
    refine wpAny_stack_any fun st => wpAny_pure ?_
    split
    · rename_i c _ _ _ _ _
      cases (c == Value.type "enumerate")
      · wp_walk using wpAny_loadPart' hl, wpAny_pyIter_tuple hL
        exact ⟨_, rfl, h⟩
      · wp_walk using wpAny_loadPart' hl, wpAny_pyIter_tuple hL
        exact ⟨_, rfl, h⟩
    · wp_walk using wpAny_loadPart' hl, wpAny_pyIter_tuple hL
      exact ⟨_, rfl, h⟩
theorem t0_call {T : Addr} {Q : Value → Shared → Prop} (hT : s.heap.IsTuple T #[])
    (h : ∀ h', IsEnum h' (s.heap.objs.size + 1) s.heap.objs.size 0 .none → h'.IsTupleIter s.heap.objs.size T 0 → (∀ b o, s.heap.get? b = some o → h'.get? b = some o) → Q (.ref (s.heap.objs.size + 1)) { s with heap := h' }) :
    wpAny (model prog w) A (call (.type "enumerate") [.ref T]) Q E s := by
  obtain ⟨o, ho, hc, n, hd⟩ := hT
  refine callType_new F.called_enumerate (by decide) (F.typeCall_enumerate_1 _) (F.newCall_enumerate_1 _) (fun obj => F.args_object_init_2 obj _) F.entry_enumerate_new (t0_new T o n hc hd) ⟨ho, ?_⟩
  generalize hI : ({ cls := .type "tuple_iterator", data := .fields #[.ref T, .int 0 0] } : Obj) = oI
  have hz : (s.heap.push oI).objs.size = s.heap.objs.size + 1 := Heap.size_push ..
  show _ ∧ _
  rw [hz]
  have he := Heap.get?_push_size (s.heap.push oI) (o := { cls := .type "enumerate", data := .fields #[.none, .bool false, .ref s.heap.objs.size, rawInt 0, .none, .none] }) rfl
  rw [hz] at he
  refine ⟨⟨_, he, rfl⟩, h _ he ⟨oI, Heap.get?_push_of_some _ (Heap.get?_push_size _ (by rw [← hI]; rfl)), by rw [← hI], by rw [← hI]; rfl⟩ fun b o x => Heap.get?_push_of_some _ (Heap.get?_push_of_some _ x)⟩
end

section
variable {X : Cx} {tg e a b : Expr} {p pos tpos : Pos} {elts : List Expr} {kk : Nat} {K : PySem.W.Frag}
/-- a list, or the empty tuple -/
def iEnT (K : PySem.W.Frag) (ta : TA) : TI := fun σ H R => ta σ H fun vs H1 => ∃ l, vs = [.ref l] ∧ ((∃ xs, SqL K H1 l xs ∧ R (Ite K l) H1) ∨ (SqT K H1 l [] ∧ R (It0 K l) H1))
theorem pi_enT {ta : TA} (hg : Gl X "enumerate") (hm : X.mg "enumerate" = none) (ha : PA X [e] ta) (hs : starEach [e] X.env = [(false, eval e X.env)] := by rfl) :
    PI X (.Tuple elts kk tpos) (.Call (.Name "enumerate" p) [e] [] pos) (iEnT X.K ta) := by
  constructor
  intro pins s0 σ H R I0 h
  refine Call_ (ld_blt I0 hg hm boot_enumerate (PyProof.Rows.callWith_type1 (thn (ha.run pos pins s0 σ H _ I0 h) fun us s1 ⟨vs, H1, I1, r1, l, ex, q⟩ => ?_) hs rfl))
  subst ex
  cases r1 with
  | cons r rr =>
    cases rr
    cases r
    have fps : ∀ b ∈ [s1.heap.objs.size + 1, s1.heap.objs.size], FpOk X pins H1 b := fun b hb => by
      have hle : s1.heap.objs.size ≤ b := by
        rcases List.mem_cons.mp hb with z | z
        · rw [z]; exact Nat.le_succ _
        · rw [List.mem_singleton.mp z]; exact Nat.le_refl _
      exact I1.fpOk hle (I1.hok.fresh hle)
    rcases q with ⟨xs, hq, q⟩ | ⟨hq, q⟩
    · obtain ⟨its, rv, pl, hz⟩ := I1.list hq
      exact call_enumerate_list pl.isList fun h' he hit hsz hk => wpAny_pyIter_enum he ⟨_, [s1.heap.objs.size + 1, s1.heap.objs.size], _, _, H1, rfl, I1.kept (t' := s1.toks) hk, turn_enum l _ _, ⟨⟨.none, he⟩, hit, Nat.succ_ne_self _⟩, fps, q⟩
    · obtain ⟨its, rv, pl, hz⟩ := I1.tuple hq
      have e0 : its = [] := List.eq_nil_of_length_eq_zero rv.length.symm
      subst e0
      exact t0_call pl fun h' he hit hk => wpAny_pyIter_enum he ⟨_, [s1.heap.objs.size + 1, s1.heap.objs.size], _, _, H1, rfl, I1.kept (t' := s1.toks) hk, turn0 l _ _, ⟨⟨.none, he⟩, hit⟩, fps, q⟩
/-- a list, or the empty tuple, read -/
def rdT (M : MH) : D → Option (List D)
  | .tup [] => some []
  | d => rdS M d
theorem rdT_of {M : MH} {d : D} {ds : List D} (h : rdS M d = some ds) : rdT M d = some ds := by
  cases d with
  | tup l => cases h
  | _ => exact h
theorem rdT_cases {M : MH} {d : D} {ds : List D} (h : rdT M d = some ds) : (d = .tup [] ∧ ds = []) ∨ rdS M d = some ds := by
  cases d with
  | tup l =>
    cases l with
    | nil => exact .inl ⟨rfl, (Option.some.inj h).symm⟩
    | cons x l => cases h
  | _ => exact .inr h
def wEnT (g : AA) : AI := fun Γ M k => g Γ M fun ds M1 => match ds with
  | [d] => (match d with
    | .tup [] => k ⟨[], fun _ => True⟩ M1
    | d => match rdS M1 d with
      | some xs => k ⟨enumD 0 xs, fun M => rdS M d = some xs⟩ M1
      | none => False)
  | _ => False
theorem ite_ok {M : MH} {H I F : Hp} {d : D} {l : Addr} {xs : List D} (r : Rel K I d (.ref l)) : ItOk K F I (Ite K l) ⟨enumD 0 xs, fun M => rdS M d = some xs⟩ := by
  intro i H2 J M2 l2 F2 lf c2 ok
  obtain ⟨q', us, e1, g2, s2⟩ := rdS_ok ok c2 (Rel.le l2 _ _ r)
  cases e1
  constructor
  · intro h
    refine ⟨us, g2, s2.get_none ?_⟩
    have h : (enumD 0 xs)[i]? = none := h
    rw [enumD_get] at h
    cases q : xs[i]? with
    | none => rfl
    | some y => rw [q] at h; cases h
  · intro x h
    have h : (enumD 0 xs)[i]? = some x := h
    rw [enumD_get] at h
    cases q : xs[i]? with
    | none => rw [q] at h; cases h
    | some y =>
      rw [q] at h
      cases h
      obtain ⟨v, hv, rv⟩ := s2.get q
      refine ⟨⟨us, v, g2, hv⟩, fun z H' q2 => ?_⟩
      obtain ⟨T, u, rfl, hT, rfl, q3⟩ := q2
      have := q3 us g2
      rw [hv] at this
      cases this
      have le : Le J (upd J T (.tup [.int (i : Nat), v])) := Le.new (c2.fresh hT).1
      refine ⟨_, le, c2.newF hT, ?_⟩
      rw [Rel]
      exact ⟨T, _, rfl, .inl upd_same, .cons (by rw [Rel, Nat.zero_add]) (.one (Rel.le le _ _ rv))⟩
theorem it0_ok {F I : Hp} {l : Addr} (r : Rel K I (.tup []) (.ref l)) : ItOk K F I (It0 K l) ⟨[], fun _ => True⟩ := by
  intro i H2 J M2 l2 F2 lf c2 _
  constructor
  · intro _
    obtain ⟨l', vs, e, g, s⟩ := rel_tup c2 (Rel.le l2 _ _ r)
    cases e
    rw [s.nil_inv] at g
    exact g
  · intro x h
    cases h
theorem i_enumT {g : AA} (hm : X.mg "enumerate" = none) (ha : PA X [a] (liftA X.K g)) (hg : Gl X "enumerate" := by rfl) (hs : starEach [a] X.env = [(false, eval a X.env)] := by rfl) :
    PI X (.Tuple elts kk tpos) (.Call (.Name "enumerate" p) [a] [] pos) (liftI X.K (wEnT g)) :=
  (pi_enT hg hm ha hs).imp fun σ H R ⟨Γ, M, I, F, k, hs, hc, hf, hk⟩ => ⟨Γ, M, I, F, _, hs, hc, hf, fun ds M1 vs H1 I1 h1 l1 c1 r1 => by
    split at h1
    · rename_i d
      obtain ⟨v, rfl, r2⟩ := rels1 r1
      split at h1
      · obtain ⟨l, ws, rfl, g0, s0⟩ := rel_tup c1 r2
        rw [s0.nil_inv] at g0
        exact ⟨l, rfl, .inr ⟨g0, hk _ _ _ _ _ h1 l1 c1 (it0_ok r2)⟩⟩
      · split at h1
        · rename_i xs e0
          obtain ⟨q, ws, rfl, g0, s0⟩ := rdS_ok e0 c1 r2
          exact ⟨q, rfl, .inl ⟨ws, g0, hk _ _ _ _ _ h1 l1 c1 (ite_ok (M := M1) (H := H1) r2)⟩⟩
        · exact h1.elim
    · exact h1.elim⟩
theorem iEnT0 {g : AA} {Γ : G} {M : MH} {k : AIt → MH → Prop} (h : g Γ M fun ds M1 => match ds with
  | [d] => (match d with
    | .tup [] => k ⟨[], fun _ => True⟩ M1
    | d => match rdS M1 d with
      | some xs => k ⟨enumD 0 xs, fun M => rdS M d = some xs⟩ M1
      | none => False)
  | _ => False) : wEnT g Γ M k := h
def kEnT (k : AIt → MH → Prop) : List D → MH → Prop := fun ds M1 => match ds with
  | [d] => (match d with
    | .tup [] => k ⟨[], fun _ => True⟩ M1
    | d => match rdS M1 d with
      | some xs => k ⟨enumD 0 xs, fun M => rdS M d = some xs⟩ M1
      | none => False)
  | _ => False
theorem eEnT {g : AA} {Γ : G} {M : MH} {k : AIt → MH → Prop} : (wEnT g Γ M k) = (g Γ M (kEnT k)) := propext Iff.rfl
theorem kEnT_l {k : AIt → MH → Prop} {d : D} {xs : List D} {M : MH} (h : k ⟨enumD 0 xs, fun M => rdS M d = some xs⟩ M) (q : rdS M d = some xs) : kEnT k [d] M := by
  have g : (match rdS M d with
      | some xs => k ⟨enumD 0 xs, fun M => rdS M d = some xs⟩ M
      | none => False) := by rw [q]; exact h
  cases d with
  | tup l => cases q
  | _ => exact g
theorem kEnT_0 {k : AIt → MH → Prop} {M : MH} (h : k ⟨[], fun _ => True⟩ M) : kEnT k [.tup []] M := h
/-! sorted -/
def rSorted0 (K : PySem.W.Frag) : List V → Hp → VK → Prop := fun vs H Q => ∃ l : Addr, vs = [V.ref l] ∧ SqT K H l [] ∧ ∀ q : Addr, H q = none → Q (.ref q) (upd H q (.lst []))
theorem t0_collect {prog : Program} {w : World} {A : Around} {E : Value → Shared → Prop} {s : Shared} {l : Addr} {Q : List Value → Shared → Prop} (hT : s.heap.IsTuple l #[])
    (hQ : ∀ h' : Heap, h'.objs.size = s.heap.objs.size + 1 → (∀ b u, s.heap.get? b = some u → h'.get? b = some u) → Q [] { s with heap := h' }) : wpAny (model prog w) A (collect (.ref l)) Q E s := by
  obtain ⟨o, ho, hc, n, hd⟩ := hT
  generalize ha : s.heap.objs.size = a
  have p1 : (s.heap.push { cls := .type "list", data := .seq ([] : List Value).toArray }).get? a = some { cls := .type "list", data := .seq #[] 0 } := by rw [← ha]; exact Heap.get?_push_size _ rfl
  have p2 := Heap.get?_update_self (Obj.mapSeq (· ++ #[])) p1 rfl
  unfold collect
  refine wpAny_bind (wpAny_runValue (codeAny_builtin F.entry_proto_collect ?_))
  rw [Around.under_plainId F.plain_proto_collect _]
  show wpAny _ A.in1 (newList [] >>= fun l' => again (.builtin "list.__iadd__" ⟨[l', .ref l], []⟩)) _ _ s
  refine wpAny_bind (wpAny_newObj_type (wpAny_pure ⟨plainId_quiet F.plain_list_iadd _, codeAny_builtin F.entry_list_iadd ?_⟩))
  rw [Around.under_plainId F.plain_list_iadd _, ha]
  have last : wpAny (model prog w) A (match Value.ref a with
      | Value.ref a => do
        match (← load a).data with
          | Data.seq xs _ => pure xs.toList
          | _ => unsupported "internal:collect"
      | _ => unsupported "internal:collect") Q E { s with heap := (s.heap.push { cls := .type "list", data := .seq ([] : List Value).toArray }).update a (Obj.mapSeq (· ++ #[])) } := by
    show wpAny _ A (load a >>= _) _ _ _
    refine wpAny_bind (wpAny_load p2 (wpAny_pure (hQ _ (by rw [Heap.size_update, Heap.size_push]) fun b u hb => ?_)))
    exact (Heap.get?_update_other _ _ (by rw [← ha]; exact Nat.ne_of_gt (Heap.lt_size hb))).trans (Heap.get?_push_of_some _ hb)
  show wpAny _ A.in1 (Builtin.List.listExtendWith (.ref a) (.ref l) (.ref a)) _ _ _
  refine wpAny_mono (wpAny_extend_seq (hsz := Nat.zero_le _) (A := A) (R := fun r s' => r = .ok (.ret (.ref a)) ∧ s' = { s with heap := (s.heap.push { cls := .type "list", data := .seq ([] : List Value).toArray }).update a (Obj.mapSeq (· ++ #[])) }) (s := { s with heap := s.heap.push { cls := .type "list", data := .seq ([] : List Value).toArray } }) _ l _ 0 (.inr rfl) p1 (Heap.get?_push_of_some _ ho) hc hd ⟨rfl, rfl⟩) (fun fin s' h => ?_) (fun e s' h => absurd h.1 (by simp))
  cases fin with
  | done f =>
    obtain ⟨e, rfl⟩ := h
    cases e
    exact last
  | again c' => exact ⟨h.1, codeAny_mono h.2 fun r s'' hr => by obtain ⟨rfl, rfl⟩ := hr; exact last⟩
theorem cr_sorted0 : CallR X (.builtin "sorted") (rSorted0 X.K) := by
  intro pins s σ H vs us Q I r h
  obtain ⟨l, rfl, hs, q⟩ := h
  obtain ⟨its, rv, hl, hz⟩ := I.tuple hs
  rw [Vals.ref1 r]
  have e0 : its = [] := List.eq_nil_of_length_eq_zero rv.length.symm
  subst e0
  refine Calls.call_function_entry kind_sorted plain_sorted entry_sorted (args_sorted1 _) ?_
  unfold Builtin.«sorted»
  refine wpAny_bind (m := checkCount "sorted" 1 1 _) (wpAny_pure ?_)
  refine wpAny_bind (t0_collect hl fun h1 z1 k1 => ?_)
  refine wpAny_bind (wpAny_newList ?_ (Nat.zero_le _))
  have hL : (h1.push (seqObj "list" ([] : List Value).toArray 0)).get? h1.objs.size = some (seqObj "list" ([] : List Value).toArray 0) := Heap.get?_push_size _ rfl
  refine wpAny_bind (wpAny_holding (wpAny_call_entry slot_list_sort ⟨_, hL, rfl⟩ entry_list_sort (SrtO.list_sort_ord SrtO.swo_int hL (Nat.zero_le _) (fun h2 => absurd h2 (by decide)) fun out hs hb => ⟨_, rfl, ?_⟩) (args_list_sort _)))
  refine wpAny_pure ⟨_, rfl, ?_⟩
  have e1 : out = [] := List.Perm.eq_nil hb.perm
  subst e1
  obtain ⟨ep, he⟩ := PyProof.Rows.sortedHeap_at (vs := []) (out := ([] : List Value).toArray) hL
  have hf : H h1.objs.size = none := I.hok.fresh (by omega)
  refine ⟨.ref _, upd H h1.objs.size (.lst []), I.laid (t' := s.toks) (fun b u hb => ?_) (by omega) ⟨Nat.zero_le _, [], ep, .nil, he⟩, rfl, q _ hf⟩
  have hlt := Heap.lt_size hb
  have hl2 : b < h1.objs.size := Nat.lt_of_lt_of_le hlt (by rw [z1]; exact Nat.le_succ _)
  rw [PyProof.Rows.sortedHeap_old (Nat.ne_of_lt hl2) (by rw [Heap.size_push]; exact Nat.lt_succ_of_lt hl2)]
  exact Heap.get?_push_of_some _ (k1 b u hb)
/-- sorted(xs), ints, of a list or the empty tuple -/
def cSortedT (m : Bool) : AC := fun ds M k => match ds with
  | [d] => ∃ ns : List Int, rdT M d = some (ns.map .int) ∧ ∀ ns' : List Int, ns'.Perm ns → ns'.Pairwise (· ≤ ·) → nl m (ns'.map .int) M k
  | _ => False
def rSortedT (K : PySem.W.Frag) : List V → Hp → VK → Prop := fun vs H Q => rSortedI K vs H Q ∨ rSorted0 K vs H Q
theorem cr_sortedT : CallR X (.builtin "sorted") (rSortedT X.K) := fun pins s σ H vs us Q I r h => h.elim (cr_sortedI pins s σ H vs us Q I r) (cr_sorted0 pins s σ H vs us Q I r)
theorem cSortedT_ok {m : Bool} : OkC K (rSortedT K) (cSortedT m) := by
  intro ds M k vs H I F Q h c r hk
  unfold cSortedT at h
  split at h
  · rename_i d
    obtain ⟨ns, h1, h2⟩ := h
    by_cases z : d = .tup []
    · subst z
      obtain ⟨v, rfl, r9⟩ := rels1 r
      obtain ⟨l, ws, rfl, g0, s0⟩ := rel_tup c r9
      rw [s0.nil_inv] at g0
      have e0 : ns = [] := by
        have : ns.map D.int = [] := (Option.some.inj h1).symm
        exact List.map_eq_nil_iff.mp this
      subst e0
      exact .inr ⟨l, rfl, g0, fun q hq => nl_ok (h2 [] (List.Perm.refl _) List.Pairwise.nil) c .nil hk hq⟩
    · have h1' : rdS M d = some (ns.map .int) := by
        cases d with
        | tup l =>
          cases l with
          | nil => exact absurd rfl z
          | cons x l => cases h1
        | _ => exact h1
      exact .inl (cSorted_ok (m := m) [d] M k vs H I F Q ⟨ns, h1', h2⟩ c r hk)
  · exact h.elim
theorem e_sortedT (m : Bool) {es : List Expr} {ga : AA} (hm : X.mg "sorted" = none) (ha : PA X (e :: es) (liftA X.K ga)) (hg : Gl X "sorted" := by rfl) (he : starEach (e :: es) X.env = (false, eval e X.env) :: starEach es X.env := by rfl) (hpl : (backTo pos (starEach es X.env)).any (·.1) = false := by rfl) :
    PE X (.Call (.Name "sorted" p) (e :: es) [] pos) (lift X.K (aCB (cSortedT m) ga)) := e_callB cr_sortedT cSortedT_ok hm (by decide +kernel) ha hg (by decide) (by decide) he hpl
theorem iSortedT {m : Bool} {d : D} {M : MH} {k : AK} {ns : List Int} (h : ∀ ns' : List Int, ns'.Perm ns → ns'.Pairwise (· ≤ ·) → nl m (ns'.map .int) M k) (q : rdT M d = some (ns.map .int)) : cSortedT m [d] M k := ⟨ns, q, h⟩
end
end M
/-! MFlt: comprehensions with a test. -/
namespace M
open PySem L2
theorem lc_sf {m : Bool} {ok : MH → Prop} {g : AG} {tt : AT} {te : AE} {Γ : G} {k : List D → MH → Prop} {xs : List D} (W : Nat → List D → MH → Prop) (hl : xs.length ≤ 1000000)
    (step : ∀ i x acc M, xs[i]? = some x → acc.length ≤ i → W i acc M → ok M ∧ ∀ (k1 : AK) (k2 : MH → Prop), (∀ d M2, W (i + 1) (acc ++ [d]) M2 → k1 d M2) → (∀ M2, W (i + 1) acc M2 → k2 M2) → g x Γ M fun Γ' M' => tt Γ' M' fun b M1 => if b = true then te Γ' M1 k1 else k2 M1)
    (hend : ∀ acc M, acc.length ≤ xs.length → W xs.length acc M → ok M ∧ k acc M) : ∀ {M : MH}, W 0 [] M → lcGo m ok g tt te Γ xs [] M k := by
  have go : ∀ (n i : Nat) (acc : List D) (M : MH), n = xs.length - i → i ≤ xs.length → acc.length ≤ i → W i acc M → lcGo m ok g tt te Γ (xs.drop i) acc M k := by
    intro n
    induction n with
    | zero =>
      intro i acc M hn hi ha w
      have : i = xs.length := by omega
      subst this
      rw [List.drop_length]
      exact hend acc M ha w
    | succ n ih =>
      intro i acc M hn hi ha w
      have hlt : i < xs.length := by omega
      rw [List.drop_eq_getElem_cons hlt]
      obtain ⟨h1, h2⟩ := step i xs[i] acc M (List.getElem?_eq_getElem hlt) ha w
      refine ⟨h1, ?_⟩
      exact h2 _ _ (fun d M2 w2 => ⟨by rw [sizeLine_eq]; omega, ih (i + 1) _ M2 (by omega) hlt (by rw [List.length_append, List.length_singleton]; omega) w2⟩) fun M2 w2 => ih (i + 1) _ M2 (by omega) hlt (by omega) w2
  intro M w
  exact go xs.length 0 [] M rfl (Nat.zero_le _) (Nat.zero_le _) w
/-- items kept by a test of their own, the small heap as it is -/
theorem lc_flt {α : Type} {m : Bool} {ok : MH → Prop} {g : AG} {tt : AT} {te : AE} {Γ : G} {M : MH} {k : List D → MH → Prop} {xs : List α} {ι fn : α → D} (q : α → Bool) (hl : xs.length ≤ 1000000) (ho : ok M)
    (step : ∀ x ∈ xs, ∀ (k1 : AK) (k2 : MH → Prop), (q x = true → k1 (fn x) M) → (q x = false → k2 M) → g (ι x) Γ M fun Γ' M' => tt Γ' M' fun b M1 => if b = true then te Γ' M1 k1 else k2 M1) (h : k ((xs.filter q).map fn) M) : lcGo m ok g tt te Γ (xs.map ι) [] M k := by
  refine lc_sf (fun i acc M' => M' = M ∧ acc = ((xs.take i).filter q).map fn) (by rw [List.length_map]; exact hl) ?_ ?_ ⟨rfl, rfl⟩
  · rintro i x acc M' hx ha ⟨rfl, rfl⟩
    obtain ⟨y, hy, rfl⟩ := map_get hx
    refine ⟨ho, fun k1 k2 h1 h2 => step y (List.mem_of_getElem? hy) k1 k2 (fun hq => h1 _ _ ⟨rfl, ?_⟩) fun hq => h2 _ ⟨rfl, ?_⟩⟩
    · rw [take_succ hy, List.filter_append, List.filter_cons_of_pos hq, List.map_append]; rfl
    · rw [take_succ hy, List.filter_append, List.filter_cons_of_neg (by rw [hq]; exact Bool.false_ne_true), List.filter_nil, List.append_nil]
  · rintro acc M' ha ⟨rfl, rfl⟩
    refine ⟨ho, ?_⟩
    rw [List.length_map, List.take_length]
    exact h
theorem seq_ix {n r : Nat} {i : Int} (h : i = (r : Int)) (l : r < n) : seqIndex? i n = some r := by
  subst h
  unfold seqIndex?
  simp
  omega
theorem erase_perm {α : Type} : ∀ {l : List α} {i : Nat} (h : i < l.length), (l[i] :: l.eraseIdx i).Perm l
  | [], i, h => absurd h (Nat.not_lt_zero i)
  | a :: l, 0, h => List.Perm.refl _
  | a :: l, i + 1, h => by
    rw [List.eraseIdx_cons_succ, List.getElem_cons_succ]
    exact (List.Perm.swap _ _ _).trans ((erase_perm (by simpa using h)).cons a)
theorem erase_map {α β : Type} (f : α → β) : ∀ {l : List α} {i : Nat}, (l.map f).eraseIdx i = (l.eraseIdx i).map f
  | [], i => rfl
  | a :: l, 0 => rfl
  | a :: l, i + 1 => by
    rw [List.map_cons, List.eraseIdx_cons_succ, List.eraseIdx_cons_succ, List.map_cons, erase_map f]
/-- int(x) of a truth or a number -/
def cIntB : AC := fun ds M k => match ds with
  | [.bl b] => k (.int (if b then 1 else 0)) M
  | [.int i] => k (.int i) M
  | _ => False
section
variable {X : Cx} {K : PySem.W.Frag} {e : Expr} {es : List Expr} {p pos : Pos} {ga : AA}
theorem cIntB_ok : OkC K (fun xs H Q => (∃ i, xs = [.int i] ∧ Q (.int i) H) ∨ ∃ k, xs = [.bl k] ∧ Q (.int (if k then 1 else 0)) H) cIntB := by
  intro ds M k vs H I F Q h c r hk
  unfold cIntB at h
  split at h
  · rename_i b
    obtain ⟨v, rfl, r2⟩ := rels1 r
    rw [Rel] at r2; subst r2
    exact .inr ⟨_, rfl, hk _ _ _ _ _ h (Le.refl I) c (by rw [Rel])⟩
  · rename_i i
    obtain ⟨v, rfl, r2⟩ := rels1 r
    rw [Rel] at r2; subst r2
    exact .inl ⟨_, rfl, hk _ _ _ _ _ h (Le.refl I) c (by rw [Rel])⟩
  · exact h.elim
theorem e_intB (hm : X.mg "int" = none) (ha : PA X (e :: es) (liftA X.K ga)) (hg : Gl X "int" := by rfl) (he : starEach (e :: es) X.env = (false, eval e X.env) :: starEach es X.env := by rfl) (hpl : (backTo pos (starEach es X.env)).any (·.1) = false := by rfl) :
    PE X (.Call (.Name "int" p) (e :: es) [] pos) (lift X.K (aCB cIntB ga)) := e_callTy call_int1 cIntB_ok hm (by decide +kernel) ha hg (by decide) (by decide) he hpl
theorem eIntB {b : Bool} {M : MH} {k : AK} : (cIntB [.bl b] M k) = (k (.int (if b then 1 else 0)) M) := propext Iff.rfl
end
end M
/-! MDef: defs with defaults. -/
namespace M
open PySem L2 PySem.Spec PyProof.Rows
/-- a def with a tuple of defaults, as it stands behind the top -/
structure FunT (K : PySem.W.Frag) (x qual : Str) (st : Stmt) (f : Addr) (fd : FuncData) (its : List Value) : Prop where
  ex : ∃ (T : Addr) (oT : Obj) (n : Nat) (oc : Value) (od : Option Addr) (kV doc pm : Value) (an : Option Addr) (cdv ct : Value) (osl : Array (Option Value)),
    fd = PySem.W.fnOf x qual (defArgs st) (defBody st) (defScope st) (.ref T) kV doc pm an cdv ct ∧ K.lookup f = some ⟨oc, od, .func fd, osl⟩ ∧ PySem.W.codeIn K cdv qual = true ∧ K.lookup T = some oT ∧ oT.data = .seq its.toArray n
  kp : PySem.W.keepIn K (.ref f) = true
theorem funT_mk {K : PySem.W.Frag} {x qual : Str} {st : Stmt} {f T : Addr} {its : List Value} {its' : Array Value} {n : Nat} {oc oc2 : Value} {od od2 an : Option Addr} {osl osl2 : Array (Option Value)} {kV doc pm cdv ct : Value}
    (l : K.lookup f = some ⟨oc, od, .func (PySem.W.fnOf x qual (defArgs st) (defBody st) (defScope st) (.ref T) kV doc pm an cdv ct), osl⟩) (c : PySem.W.codeIn K cdv qual = true) (k : PySem.W.keepIn K (.ref f) = true) (lT : K.lookup T = some ⟨oc2, od2, .seq its' n, osl2⟩) (e : its' = its.toArray) :
    FunT K x qual st f (PySem.W.fnOf x qual (defArgs st) (defBody st) (defScope st) (.ref T) kV doc pm an cdv ct) its := ⟨⟨T, _, n, oc, od, kV, doc, pm, an, cdv, ct, osl, rfl, l, c, lT, by rw [e]⟩, k⟩
section
variable {K : PySem.W.Frag} {x qual : Str} {st : Stmt} {f : Addr} {fd : FuncData} {its : List Value} {ps : List Str}
theorem FunT.to (F : FunT K x qual st f fd its) {args : Args} {binds : List (Str × Value)}
    (h : ∀ (T : Addr) (kV doc pm : Value) (an : Option Addr) (cdv ct : Value), ∃ k, bindArgs (PySem.W.fnOf x qual (defArgs st) (defBody st) (defScope st) (.ref T) kV doc pm an cdv ct) args = seqItems? (.ref T) >>= k ∧ k (some its.toArray) = pure binds) (s : Shared) (X : K.In s.heap) : BindsTo s fd args binds := by
  obtain ⟨T, oT, n, oc, od, kV, doc, pm, an, cdv, ct, osl, rfl, lk, hcd, lT, dT⟩ := F.ex
  obtain ⟨k, e1, e2⟩ := h T kV doc pm an cdv ct
  refine BindsTo.of_looks fun M => ?_
  rw [e1]
  exact looks_items X lT dT (.of_pure e2)
theorem FunT.binds {ds : List Value} (n : Nat) (hn : n + ds.length = ps.length) (F : FunT K x qual st f fd its)
    (h : ∀ (T : Addr) (kV doc pm : Value) (an : Option Addr) (cdv ct : Value) (us : List Value), us.length = n → ∃ k, bindArgs (PySem.W.fnOf x qual (defArgs st) (defBody st) (defScope st) (.ref T) kV doc pm an cdv ct) ⟨us, []⟩ = seqItems? (.ref T) >>= k ∧ k (some its.toArray) = pure (ps.zip (us ++ ds))) : Binds K fd ps ds := fun s us X hl => F.to (fun T kV doc pm an cdv ct => h T kV doc pm an cdv ct us (by rw [List.length_append] at hl; omega)) s X
theorem FunT.bk {ds : List Value} {n : Nat} {ks : List Str} {ix : List Nat} (F : FunT K x qual st f fd its)
    (h : ∀ (T : Addr) (kV doc pm : Value) (an : Option Addr) (cdv ct : Value) (us ws : List Value), us.length = n → ws.length = ks.length → ∃ k, bindArgs (PySem.W.fnOf x qual (defArgs st) (defBody st) (defScope st) (.ref T) kV doc pm an cdv ct) ⟨us, ks.zip ws⟩ = seqItems? (.ref T) >>= k ∧ k (some its.toArray) = pure (ps.zip (pick ix (us ++ ws ++ ds)))) : BK K fd ps n ks ix ds :=
  ⟨fun s us ws X h1 h2 => F.to (fun T kV doc pm an cdv ct => h T kV doc pm an cdv ct us ws h1 h2) s X⟩
end
section
variable {P : Program} {w : World} {K : PySem.W.Frag} {mg : Str → Option Value} {base : Heap}
theorem fn_okT {x qual : Str} {st : Stmt} {f : Addr} {fd : FuncData} {its : List Value} {N ps : List Str} {k : Nat} {F : AF} {body : AS} (Fu : FunT K x qual st f fd its) (S : FnScope N ps (defScope st)) (len : ∀ ds M k x, F ds M k x → ds.length = ps.length)
    (hb : ∀ (cdv : Value) (A : Around) (outer : List Env) (s : Shared) (H : Hp) (E : XK), Room k (A.deeper (PyProof.Rows.envOfC qual (defScope st) s.heap.objs.size f cdv)) → PSs (cxOf CX0 P w K mg base N qual (defScope st) f cdv A outer s H E).nox (defBody st) (liftS K body))
    (ok : ∀ ds M k x, F ds M k x → body { nx := fun _ M' => fin k .non M', rt := fin k } (startG N.length ds) M) : FnOk P w K mg base CX0 (k + 1) f fd ps (liftF K F) := by
  obtain ⟨T, oT, n, oc, od, kV, doc, pm, an, cdv, ct, osl, rfl, lk, hcd, lT, dT⟩ := Fu.ex
  refine fn_of lk hcd S (fun vs H Q E ⟨ds, M, I, Fr, k, x, r, c, h, _, _⟩ => by rw [← r.length]; exact len _ _ _ _ h) fun A outer s H vs Q E hr ⟨ds, M, I, Fr, k, x, r, c, h, hk, hx⟩ => ⟨_, (hb cdv A outer s H E hr).nox, ?_⟩
  refine ⟨startG N.length ds, M, I, Fr, _, ?_, c, ok ds M k x h, ⟨?_, ?_, ?_, ?_⟩⟩
  · unfold startG L2.start
    rw [r.length]
    exact RelS.start r
  · rintro Γ M' σ H' I' ⟨M2, ab, q⟩ l c' s'
    exact hk _ _ _ _ _ q l (ab _ _ _ _ c') (by rw [Rel])
  · rintro d M' v H' I' ⟨M2, ab, q⟩ l c' r'
    exact hk _ _ _ _ _ q l (ab _ _ _ _ c') r'
  · intro Γ M' σ H' I' q; exact q.elim
  · intro Γ M' σ H' I' q; exact q.elim
end
/-- the empty tuple as a default -/
theorem Dfl.tup0 {K : PySem.W.Frag} {e : Addr} {od : Option Addr} {n : Nat} {sl : Array (Option Value)} (h : K.lookup e = some ⟨.type "tuple", od, .seq #[] n, sl⟩) : Dfl K [.tup []] [.ref e] [.ref e] :=
  ⟨.cons rfl .nil, fun I => .cons (by
    rw [Rel]
    exact ⟨e, [], rfl, .inr ⟨_, #[], n, h, rfl, rfl, Nat.zero_le _, .nil⟩, .nil⟩) .nil⟩
theorem Dfl.non {K : PySem.W.Frag} : Dfl K [.non] [.non] [.none] := ⟨.cons rfl .nil, fun I => .cons (by rw [Rel]) .nil⟩
end M
/-! MNe: != by an own __eq__. -/
namespace NeK
open PySem PySem.W PySem.Calls PyProof.Rows Builtin
section
variable {prog : Program} {w : World} {A : Around} {E : Value → Shared → Prop} {s : Shared} {K : Frag} {x C L f : Addr} {h₀ : Heap} {m : Str → Option Value} {ox : Obj} {od : Option Obj} {b tb : Value}
theorem ifBound_ne {M : Model} {args : List Value} {Q : Option Value → Shared → Prop} (X : K.In s.heap) (I : InstAt s.heap x ox C od) (hs : findIn K (.ref C) "__ne__" = some (some (.builtin "object.__ne__")))
    (h : wpAny M A (call (.builtin "object.__ne__") (.ref x :: args)) (fun v => Q (some v)) E s) : wpAny M A (callSpecialIfBound? (.ref x) "__ne__" args) Q E s := by
  simp only [callSpecialIfBound?, bindSpecialIfBound?]
  refine wpAny_holding (wpAny_bind (wpAny_bind (wpAny_bind (I.type.here ((looks_findIn X hs).here ?_)))))
  refine wpAny_bind (wpAny_askSetting (wpAny_ite ?_))
  have fin : wpAny M A (call (.builtin "object.__ne__") ([.ref x] ++ args) >>= fun v => pure (some v)) Q E s := wpAny_bind (wpAny_mono h (fun v s' h' => wpAny_pure h') fun _ _ h' => h')
  simp only [F.cmp_object.ne.bind]
  split
  · exact wpAny_bind (wpAny_pure (wpAny_pure fin))
  · exact wpAny_tryCatch (wpAny_bind (wpAny_pure (wpAny_pure fin)))
theorem ne_entry {A : Around} {y : Addr} {Q : Fin → Shared → Prop} (hu : A.units < cLine) (X : K.In s.heap) (I : InstAt s.heap x ox C od) (hs : findIn K (.ref C) "__eq__" = some (some (.ref f))) (hf : isFn K (.ref f) = true)
    (h : wpAny (model prog w) A (call (.ref f) [.ref x, .ref y]) (fun v s' => ∃ b, v = .bool b ∧ Q (.done (.ret (.bool (!b)))) s') E s) :
    wpAny (model prog w) A (Builtin.«object.__ne__» ⟨[.ref x, .ref y], []⟩) Q E s := by
  unfold Builtin.«object.__ne__»
  repeat (first
    | with_reducible refine wpAny_cRoomFor hu ?_
    | (refine wpAny_bind (m := callSpecialIfBound? (.ref x) (Str.ofString "__eq__") [.ref y])
        (ifBound_K X I hs hf (wpAny_mono h (fun r s' hr => by
          obtain ⟨b, rfl, hq⟩ := hr
          repeat (first | exact hq | exact wpAny_pure hq | exact wpAny_truthy_bool hq | (refine wpAny_bind (m := truthy (.bool _)) (wpAny_truthy_bool ?_)) | wp_step)) fun _ _ e => e)))
    | wp_step)
theorem ne_K {y : Addr} {Q : Value → Shared → Prop} (hu : A.units + 1 < cLine) (Fm : Fr h₀ L s.heap m) (X₀ : K.In h₀) (I : InstAt s.heap x ox C od) (hb : Looks (model prog w) s.heap (typeOf (.ref y)) tb) (hn : notFirst K C tb = true)
    (hne : findIn K (.ref C) "__ne__" = some (some (.builtin "object.__ne__"))) (ho : subIn K (.ref C) (.type "object") = some true) (hs : findIn K (.ref C) "__eq__" = some (some (.ref f))) (hf : isFn K (.ref f) = true)
    (h : wpAny (model prog w) A.in1 (call (.ref f) [.ref x, .ref y]) (fun v s' => ∃ b, v = .bool b ∧ Q (.bool (!b)) s') E s) : wpAny (model prog w) A (richCompare .NotEq (.ref x) (.ref y)) Q E s := by
  have X := X₀.keeps Fm.keep
  have ck : Looks (model prog w) s.heap (isInstance (.ref x) (.type "object")) true := I.type.andThen (looks_subIn X ho)
  have one : wpAny (model prog w) A (tryCompare (.ref x) "__ne__" (.ref y)) (fun r s' => ∃ v, r = some v ∧ Q v s') E s := by
    unfold tryCompare
    refine wpAny_bind (ifBound_ne X I hne (wpAny_call (codeAny_call_builtin F.cmp_object.ne.plain F.cmpEntry_ne (check_slot F.cmpKind_ne F.cmpSplit_ne ck (F.cmpArgs_ne _ _)
      (ne_entry (A := A.in1) hu X I hs hf (wpAny_mono h (fun v s' hv => ?_) fun _ _ e => e))))))
    obtain ⟨b, rfl, hq⟩ := hv
    exact ⟨b, rfl, wpAny_pure ⟨_, rfl, hq⟩⟩
  unfold richCompare
  simp only [oneThing_ref]
  refine wpAny_holding (wpAny_bind (wpAny_cRoomFor (Nat.lt_of_succ_lt hu) ?_))
  refine wpAny_bind (I.type.here (wpAny_bind (hb.here ?_)))
  split
  · rename_i q
    have e : subIn K tb (.ref C) = some false := by
      rcases Bool.or_eq_true_iff.mp hn with e | e
      · rw [beq_iff_eq.mp e] at q; simp at q
      · exact beq_iff_eq.mp e
    refine wpAny_bind ((looks_subIn X e).here ?_)
    simp only [Bool.false_eq_true, if_false]
    refine wpAny_bind (wpAny_mono one (fun r s' z => ?_) fun _ _ e => e)
    obtain ⟨v, rfl, hq⟩ := z
    exact wpAny_pure hq
  · refine wpAny_bind (wpAny_pure ?_)
    simp only [Bool.false_eq_true, if_false]
    refine wpAny_bind (wpAny_mono one (fun r s' z => ?_) fun _ _ e => e)
    obtain ⟨v, rfl, hq⟩ := z
    exact wpAny_pure hq
end
end NeK
/-! MOwn: == and != by an own __eq__, as rules. -/
namespace M
open PySem L2
/-- the class's own == -/
structure EqC (K : PySem.W.Frag) (C f : Addr) : Prop where
  at_ : PySem.W.findIn K (.ref C) "__eq__" = some (some (.ref f))
  fn : PySem.W.isFn K (.ref f) = true
  ne : PySem.W.findIn K (.ref C) "__ne__" = some (some (.builtin "object.__ne__"))
  ob : PySem.W.subIn K (.ref C) (.type "object") = some true
def rOwn (neg : Bool) (C : Addr) (sp : Sp) (E : XK) : R2 := fun x y H Q => ∃ a b dx dy fs gs, x = .ref a ∧ y = .ref b ∧ H a = some (.ins C dx fs) ∧ H b = some (.ins C dy gs) ∧
  sp [.ref a, .ref b] H (fun v H' => ∃ r, v = .bl r ∧ Q (.bl (if neg then !r else r)) H') E
section
variable {X : Cx} {n : Nat}
theorem op_ownEq {CX : CXT} {C f : Addr} {fd : FuncData} {ps : List Str} {sp : Sp} {E : XK} (F : FnOk X.prog X.w X.K X.mg X.base CX n f fd ps sp)
    (c : EqC X.K C f) (hb : Binds X.K fd ps []) (hx : Passes CX X E) (hr : Room n X.A) : OpR X (compareOp .Eq) (rOwn false C sp E) := by
  intro pins s σ H x y u v Q I rx ry d
  obtain ⟨a, b, dx, dy, fs, gs, rfl, rfl, ha, hb', hsp⟩ := d
  cases rx
  cases ry
  obtain ⟨mA, J, _⟩ := ins_get I.hok ha
  obtain ⟨mB, J', _⟩ := ins_get I.hok hb'
  obtain ⟨od, J, _⟩ := J.look
  obtain ⟨od', J', _⟩ := J'.look
  obtain ⟨m, hF⟩ := I.fr
  show wpAny (model X.prog X.w) X.A (richCompare .Eq (.ref a) (.ref b)) _ X.xe s
  refine PySem.W.cmp_K (op := .Eq) (tb := .ref C) hr.units0 hF I.ok.mod.kin J J'.type (by simp [PySem.W.notFirst]) c.at_ c.fn ?_
  have hl := F.len _ _ _ _ hsp
  have r2 : Vals [V.ref a, V.ref b] [Value.ref a, Value.ref b] := .cons rfl (.cons rfl .nil)
  refine wpAny_call (codeAny_mono (F.run X.A X.stack s H ⟨[.ref a, .ref b], []⟩ [.ref a, .ref b] [.ref a, .ref b] _ E hr I.env0 (by
    have := hb s [.ref a, .ref b] I.kIn (by simpa using hl)
    simpa using this) r2 hsp) fun r s' hq => ?_)
  cases r with
  | error e => exact hx pins σ H s e s' I hq
  | ok fl =>
    cases fl with
    | ret w =>
      obtain ⟨z, H', I', rz, r, ez, hQ⟩ := I.after hq
      subst ez
      cases rz
      exact ⟨.bl r, H', I', rfl, hQ⟩
    | next => exact False.elim hq
    | brk => exact False.elim hq
    | cont => exact False.elim hq
theorem op_ownNe {CX : CXT} {C f : Addr} {fd : FuncData} {ps : List Str} {sp : Sp} {E : XK} (F : FnOk X.prog X.w X.K X.mg X.base CX n f fd ps sp)
    (c : EqC X.K C f) (hb : Binds X.K fd ps []) (hx : Passes CX X E) (hr : Room (n + 1) X.A) : OpR X (compareOp .NotEq) (rOwn true C sp E) := by
  intro pins s σ H x y u v Q I rx ry d
  obtain ⟨a, b, dx, dy, fs, gs, rfl, rfl, ha, hb', hsp⟩ := d
  cases rx
  cases ry
  obtain ⟨mA, J, _⟩ := ins_get I.hok ha
  obtain ⟨mB, J', _⟩ := ins_get I.hok hb'
  obtain ⟨od, J, _⟩ := J.look
  obtain ⟨od', J', _⟩ := J'.look
  obtain ⟨m, hF⟩ := I.fr
  show wpAny (model X.prog X.w) X.A (richCompare .NotEq (.ref a) (.ref b)) _ X.xe s
  refine NeK.ne_K (tb := .ref C) hr.in1.units0 hF I.ok.mod.kin J J'.type (by simp [PySem.W.notFirst]) c.ne c.ob c.at_ c.fn ?_
  have hl := F.len _ _ _ _ hsp
  have r2 : Vals [V.ref a, V.ref b] [Value.ref a, Value.ref b] := .cons rfl (.cons rfl .nil)
  have e0 : Env0 X.prog X.w X.K X.mg X.base X.A.in1 X.stack s H := by
    have e := I.env0
    exact ⟨e.frames, e.mod, e.bs, e.bsz, e.funs, e.frf, e.hok, e.bare⟩
  refine wpAny_call (codeAny_mono (F.run X.A.in1 X.stack s H ⟨[.ref a, .ref b], []⟩ [.ref a, .ref b] [.ref a, .ref b] _ E hr.in1 e0 (by
    have := hb s [.ref a, .ref b] I.kIn (by simpa using hl)
    simpa using this) r2 hsp) fun r s' hq => ?_)
  cases r with
  | error e => exact hx pins σ H s e s' I hq
  | ok fl =>
    cases fl with
    | ret w =>
      obtain ⟨z, H', I', rz, r, ez, hQ⟩ := I.after hq
      subst ez
      cases rz
      exact ⟨r, rfl, .bl (!r), H', I', rfl, hQ⟩
    | next => exact False.elim hq
    | brk => exact False.elim hq
    | cont => exact False.elim hq
end
/-! the data layer -/
def bOwn (neg : Bool) (C : Addr) (F : AF) : AB := fun d e M k => match d, e with
  | .ref a, .ref b => IsI M C "__eq__" a ∧ IsI M C "__eq__" b ∧ F [.ref a, .ref b] M (fun v M' => ∃ r : Bool, v = .bl r ∧ k (.bl (if neg then !r else r)) M') noX
  | _, _ => False
theorem bOwn_ok {K : PySem.W.Frag} {neg : Bool} {C : Addr} {F : AF} : OkB K (rOwn neg C (liftF K F) E0) (bOwn neg C F) := by
  intro d e M k v u H I Fr Q h c r1 r2 hk
  unfold bOwn at h
  split at h
  · rename_i a b
    obtain ⟨h1, h2, h3⟩ := h
    obtain ⟨dx, fs, e1, _⟩ := h1.ok c
    obtain ⟨dy, gs, e2, _⟩ := h2.ok c
    rw [Rel] at r1 r2
    subst r1
    subst r2
    refine ⟨a, b, dx, dy, fs, gs, rfl, rfl, e1, e2, _, M, I, Fr, _, noX, .cons (by rw [Rel]) (.one (by rw [Rel])), c, h3, ?_, fun C w M v H I' d z => z.elim⟩
    rintro d M1 v H1 I1 ⟨r, rfl, hq⟩ l1 c1 rv
    rw [Rel] at rv
    exact ⟨r, rv, hk _ _ _ _ _ hq l1 c1 (by rw [Rel])⟩
  · exact h.elim
section
variable {X : Cx} {j k : Nat} {C f : Addr} {fd : FuncData} {ps : List Str} {F : AF} {a b : Expr} {fa fb : AE} {pos : Pos}
theorem e_ownEq (c : EqC X.K C f) (G : FnOk X.prog X.w X.K X.mg X.base CX0 j f fd ps (liftF X.K F)) (hr : Room k X.A) (hjk : j + 1 ≤ k) (hb : Binds X.K fd ps []) (h1 : PE X a (lift X.K fa)) (h2 : PE X b (lift X.K fb)) :
    PE X (.Compare a [.Eq] [b] pos) (lift X.K (aOp (bOwn false C F) fa fb)) := (pe_cmpR (op_ownEq G c hb pass0 (hr.mono (by omega))) h1 h2 (nomark _)).imp (lift_op bOwn_ok)
theorem e_ownNe (c : EqC X.K C f) (G : FnOk X.prog X.w X.K X.mg X.base CX0 j f fd ps (liftF X.K F)) (hr : Room k X.A) (hjk : j + 1 ≤ k) (hb : Binds X.K fd ps []) (h1 : PE X a (lift X.K fa)) (h2 : PE X b (lift X.K fb)) :
    PE X (.Compare a [.NotEq] [b] pos) (lift X.K (aOp (bOwn true C F) fa fb)) := (pe_cmpR (op_ownNe G c hb pass0 (hr.mono hjk)) h1 h2 (nomark _)).imp (lift_op bOwn_ok)
theorem t_ownEq (c : EqC X.K C f) (G : FnOk X.prog X.w X.K X.mg X.base CX0 j f fd ps (liftF X.K F)) (hr : Room k X.A) (hjk : j + 1 ≤ k) (hb : Binds X.K fd ps []) (h1 : PE X a (lift X.K fa)) (h2 : PE X b (lift X.K fb)) :
    PT X (.Compare a [.Eq] [b] pos) (liftT X.K (aB (aOp (bOwn false C F) fa fb))) := t_op (op_ownEq G c hb pass0 (hr.mono (by omega))) bOwn_ok h1 h2 (nomark _)
theorem t_ownNe (c : EqC X.K C f) (G : FnOk X.prog X.w X.K X.mg X.base CX0 j f fd ps (liftF X.K F)) (hr : Room k X.A) (hjk : j + 1 ≤ k) (hb : Binds X.K fd ps []) (h1 : PE X a (lift X.K fa)) (h2 : PE X b (lift X.K fb)) :
    PT X (.Compare a [.NotEq] [b] pos) (liftT X.K (aB (aOp (bOwn true C F) fa fb))) := t_op (op_ownNe G c hb pass0 (hr.mono hjk)) bOwn_ok h1 h2 (nomark _)
end
theorem iOwn {neg : Bool} {C : Addr} {F : AF} {a b : Addr} {M : MH} {k : AK} (h : F [.ref a, .ref b] M (fun v M' => ∃ r : Bool, v = .bl r ∧ k (.bl (if neg then !r else r)) M') noX) (h1 : IsI M C "__eq__" a) (h2 : IsI M C "__eq__" b) : bOwn neg C F (.ref a) (.ref b) M k := ⟨h1, h2, h⟩
/-! isinstance(x, C) of the own class -/
def cIsC (C : Addr) : AC := fun ds M k => match ds with
  | [.ref a, .ref C'] => C' = C ∧ IsI M C "__eq__" a ∧ k (.bl true) M
  | _ => False
abbrev rIsC (C : Addr) : List V → Hp → VK → Prop := fun xs H Q => ∃ a dx fs, xs = [.ref a, .ref C] ∧ H a = some (.ins C dx fs) ∧ Q (.bl true) H
theorem cIsC_ok {K : PySem.W.Frag} {C : Addr} : OkC K (rIsC C) (cIsC C) := by
  intro ds M k vs H I F Q h c rs hk
  unfold cIsC at h
  split at h
  · rename_i a C'
    obtain ⟨rfl, h1, h2⟩ := h
    obtain ⟨dx, fs, e1, _⟩ := h1.ok c
    obtain ⟨w, w', rfl, r1, r2⟩ := rels2 rs
    rw [Rel] at r1 r2
    subst r1
    subst r2
    exact ⟨a, dx, fs, rfl, e1, hk _ _ _ _ _ h2 (Le.refl I) c (by rw [Rel])⟩
  · exact h.elim
theorem iIsC {C : Addr} {a : Addr} {M : MH} {k : AK} (h : k (.bl true) M) (h1 : IsI M C "__eq__" a) : cIsC C [.ref a, .ref C] M k := ⟨rfl, h1, h⟩
section
variable {X : Cx} {C : Addr} {e : Expr} {es : List Expr} {g : AA} {p pos : Pos} {x : Str}
/-- the class as a value -/
theorem e_cls (hm : X.mg x = some (.ref C)) (hg : Gl X x := by rfl) (hd : (x == ("__debug__" : Str)) = false := by decide) : PE X (.Name x pos) (lift X.K (aC (.ref C))) :=
  (pe_glob (v := .ref C) hg hm rfl hd).imp (lift_c fun _ => by rw [Rel])
theorem e_isC (c : C8.InsC X.K C) (hm : X.mg "isinstance" = none) (ha : PA X (e :: es) (liftA X.K g)) (hg : Gl X "isinstance" := by rfl) (he : starEach (e :: es) X.env = (false, eval e X.env) :: starEach es X.env := by rfl) (hpl : (backTo pos (starEach es X.env)).any (·.1) = false := by rfl) :
    PE X (.Call (.Name "isinstance" p) (e :: es) [] pos) (lift X.K (aCB (cIsC C) g)) := e_callB (C8.call_isC c) cIsC_ok hm (by decide +kernel) ha hg (by decide) (by decide) he hpl
end
end M
/-! MIsiT: isinstance of a tuple of built-in types. -/
namespace M
open PySem L2
def anyB (t : String) : List D → Option Bool
  | [] => some false
  | d :: cs => match d with
    | .ty U => (match kitB t U with
      | some x => (match anyB t cs with
        | some y => some (x || y)
        | none => none)
      | none => none)
    | _ => none
def cIsiT : AC := fun ds M k => match ds with
  | [d, .tup cs] => (match tyD M d with
    | some t => (match anyB t cs with
      | some b => k (.bl b) M
      | none => False)
    | none => False)
  | _ => False
theorem anyB_ok {K : PySem.W.Frag} {I : Hp} {t : String} : ∀ {cs : List D} {vs : List V} {b : Bool}, anyB t cs = some b → Rels K I cs vs → ∃ us : List Value, Paired ClsV vs us ∧ PySem.W.kitAny K (.type t) us = some b
  | [], vs, b, h, r => by
    rw [r.nil_inv]
    cases h
    exact ⟨[], .nil, kitAny_nil⟩
  | d :: cs, vs, b, h, r => by
    obtain ⟨w, ws, rfl, r1, r2⟩ := r.cons_inv
    cases d with
    | ty U =>
      rw [Rel] at r1
      subst r1
      have h : (match kitB t U with | some x => (match anyB t cs with | some y => some (x || y) | none => none) | none => none) = some b := h
      cases e : kitB t U with
      | none => rw [e] at h; cases h
      | some x =>
        cases e2 : anyB t cs with
        | none => rw [e, e2] at h; cases h
        | some y =>
          rw [e, e2] at h
          cases h
          obtain ⟨us, p, q⟩ := anyB_ok e2 r2
          refine ⟨.type U :: us, .cons (.ty U) p, kitAny_cons (kit_ty e) (fun z => ?_) fun z => ?_⟩
          · rw [z, Bool.false_or]; exact q
          · rw [z, Bool.true_or]
    | _ => cases h
theorem cIsiT_ok {K : PySem.W.Frag} : OkC K (fun xs H Q => rIsiT K xs H Q ∨ rIsiK K xs H Q) cIsiT := by
  intro ds M k vs H I F Q h c r hk
  unfold cIsiT at h
  split at h
  · rename_i d cs
    obtain ⟨v, u, rfl, r1, r2⟩ := rels2 r
    rw [Rel] at r2
    obtain ⟨a, ws, rfl, et, r3⟩ := r2
    split at h
    · rename_i t e0
      split at h
      · rename_i b e1
        obtain ⟨us, p, q⟩ := anyB_ok e1 r3
        have fin := hk _ M _ H I h (Le.refl I) c (by rw [Rel])
        rcases et with et | ⟨o, its, n, e1, e2, e3, e4, e5⟩
        · exact .inl ⟨v, a, ws, _, us, b, rfl, c.sub _ _ et, p, tyD_ok e0 c r1, q, fin⟩
        · obtain ⟨oc, od, dt, sl⟩ := o
          simp only at e2 e3
          subst e2 e3
          have e6 := ClsV.all p e5
          refine .inr ⟨v, a, od, us, n, sl, _, b, rfl, ?_, tyD_ok e0 c r1, q, fin⟩
          rw [e1, ← e6]
      · exact h.elim
    · exact h.elim
  · exact h.elim
section
variable {X : Cx} {e : Expr} {es : List Expr}
theorem call_or2 {f : Value} {r r' : List V → Hp → VK → Prop} (h : CallR X f r) (h' : CallR X f r') : CallR X f (fun xs H Q => r xs H Q ∨ r' xs H Q) := fun pins s σ H xs us Q I rv q => q.elim (h pins s σ H xs us Q I rv) (h' pins s σ H xs us Q I rv)
theorem e_isiT {g : AA} {p pos : Pos} (hm : X.mg "isinstance" = none) (ha : PA X (e :: es) (liftA X.K g)) (hg : Gl X "isinstance" := by rfl) (he : starEach (e :: es) X.env = (false, eval e X.env) :: starEach es X.env := by rfl) (hpl : (backTo pos (starEach es X.env)).any (·.1) = false := by rfl) :
    PE X (.Call (.Name "isinstance" p) (e :: es) [] pos) (lift X.K (aCB cIsiT g)) := e_callB (call_or2 call_isiT call_isiK) cIsiT_ok hm (by decide +kernel) ha hg (by decide) (by decide) he hpl
end
section
variable {M : MH} {k : AK} {d : D}
theorem iIsiT {t : String} {cs : List D} {b : Bool} (h : k (.bl b) M) (q1 : tyD M d = some t) (q2 : anyB t cs = some b) : cIsiT [d, .tup cs] M k := by
  show (match tyD M d with | some t => (match anyB t cs with | some b => k (.bl b) M | none => False) | none => False)
  rw [q1]
  show (match anyB t cs with | some b => k (.bl b) M | none => False)
  rw [q2]; exact h
theorem any2 {t U W : String} {x y : Bool} (h1 : kitB t U = some x) (h2 : kitB t W = some y) : anyB t [.ty U, .ty W] = some (x || y) := by
  show (match kitB t U with | some x => (match anyB t [.ty W] with | some y => some (x || y) | none => none) | none => none) = _
  rw [h1]
  show (match (match kitB t W with | some x => (match anyB t [] with | some y => some (x || y) | none => none) | none => none) with | some y => some (x || y) | none => none) = _
  rw [h2]
  show some (x || (y || false)) = _
  rw [Bool.or_false]
end
theorem iIsi2 {m : MH} {k : AK} {d : D} {t U W : String} {x y b : Bool} (h : k (.bl b) m) (q1 : tyD m d = some t) (h1 : kitB t U = some x) (h2 : kitB t W = some y) (e : (x || y) = b := by rfl) : cIsiT [d, .tup [.ty U, .ty W]] m k := by subst e; exact iIsiT h q1 (any2 h1 h2)
end M
/-! MMethK: o.m(a=.., b=..): a method called by names alone. -/
namespace M
open PySem PySem.Spec PyProof.Rows L2
def aMethK (x : EK) (C : Addr) (m : Str) (F : AF) (n : Nat) (ix : List Nat) (dds : List D) (fo : AE) (gk : AA) : AE := fun Γ M k => fo Γ M fun d M1 => match d with
  | .ref a => IsI M1 C m a ∧ gk Γ M1 fun es M2 => es.length = n ∧ F (pick ix (.ref a :: (es ++ dds))) M2 k x
  | _ => False
section
variable {X : Cx} {j k : Nat} {f C : Addr} {fd : FuncData} {ps ks : List Str} {F : AF} {m : Str} {ix : List Nat} {dds : List D} {dvs : List V} {ds : List Value} {fo : AE} {gk : AA} {pl : Sem Bool} {o : Expr} {kws : List Keyword} {apos pos : Pos}
theorem e_methK0 (ho : PE X o (lift X.K fo)) (c : Cls X.K C) (hm : Meth X.K C m f) (G : FnOk X.prog X.w X.K X.mg X.base CX0 j f fd ps (liftF X.K F)) (hr : Room k X.A) (hjk : j ≤ k) (hb : BK X.K fd ps 1 ks ix ds) (hd : Dfl X.K dds dvs ds) (hkw : PK X kws (liftA X.K gk))
    (hall : (backToKw pos (keywordEach kws X.env)).all (·.1.isSome) = true := by rfl) (hks : (backToKw pos (keywordEach kws X.env)).filterMap (·.1) = ks := by rfl)
    (hpl : ((backTo pos (starEach [] X.env)).any (·.1) || (backToKw pos (keywordEach kws X.env)).any (·.1.isNone)) = false := by rfl)
    (ht : eval (.Call (.Attribute o m apos) [] kws pos) X.env = (do let ov ← eval o X.env; standAt apos.atName; let (f, first) ← holding [ov] (getMethod ov m pl); callWith pos f first (backTo pos (starEach [] X.env)) (backToKw pos (keywordEach kws X.env))) := by rfl) :
    PE X (.Call (.Attribute o m apos) [] kws pos) (lift X.K (aMethK noX C m F ks.length ix dds fo gk)) := by
  refine ⟨fun pins s σ H Q I h => ?_⟩
  obtain ⟨Γ, M, I', Fr, k', hs, hc, hf, hk'⟩ := h
  have hA : lift X.K fo σ H (fun v H1 => ∃ a dx fs, v = V.ref a ∧ H1 a = some (.ins C dx fs) ∧ fs.lookup m = none ∧ liftA X.K gk σ H1 fun ws H2 => ws.length = ks.length ∧ liftF X.K F (pick ix (.ref a :: (ws ++ dvs))) H2 Q E0) := by
    refine ⟨Γ, M, I', Fr, _, hs, hc, hf, fun d M1 v H1 I1 h1 l1 c1 r1 => ?_⟩
    split at h1
    · rename_i a
      obtain ⟨h1, h2⟩ := h1
      obtain ⟨dx, fs, e1, e2⟩ := h1.ok c1
      rw [Rel] at r1
      refine ⟨a, dx, fs, r1, e1, e2, Γ, M1, I1, Fr, _, hs.le l1, c1, h2, fun es M2 ws H2 I2 h3 l2 c2 r2 => ?_⟩
      obtain ⟨a1, a2⟩ := h3
      exact ⟨by rw [← r2.length]; exact a1, _, M2, I2, Fr, k', noX, pick_rels (.cons (by rw [Rel]) (r2.append (hd.rel I2))), c2, a2, hk'.le (l1.trans l2), fun C w M v H I' d z => z.elim⟩
    · exact h1.elim
  refine PySem.W.methodCall_KW (pl := pl) (thn (ho.run pins s σ H _ I hA) fun u s1 ⟨x, H1, I1, rx, a, dx, fs, ex, ea, l, q⟩ => ?_) ht
  subst ex
  obtain rfl : u = Value.ref a := rx
  refine getmeth_ok I1 ea c hm l ?_
  refine PySem.W.callWith_KW0 (first := [.ref a]) (h₀ := X.base) I.ok.mod.kin hm.kp hall (thn (hkw.run pos pins s1 σ H1 _ I1 q) fun ws s2 ⟨zs, H2, I2, rz, l2, q2⟩ => ⟨I2.kIn, ?_⟩) hpl
  rw [hks]
  exact run_fnN (us := [.ref a]) (vs := [.ref a]) (G.mono hjk) hr (hb.kbn hd.val) pass0 I2 (.cons rfl .nil) rz rfl l2 q2
end
def kMethK (C : Addr) (m : Str) (F : AF) (n : Nat) (ix : List Nat) (dds : List D) (gk : AA) (Γ : G) (k : AK) (x : EK) : AK := fun d M1 => match d with
  | .ref a => IsI M1 C m a ∧ gk Γ M1 fun es M2 => es.length = n ∧ F (pick ix (.ref a :: (es ++ dds))) M2 k x
  | _ => False
theorem eMethK {x : EK} {C : Addr} {m : Str} {F : AF} {n : Nat} {ix : List Nat} {dds : List D} {fo : AE} {gk : AA} {Γ : G} {M : MH} {k : AK} : (aMethK x C m F n ix dds fo gk Γ M k) = (fo Γ M (kMethK C m F n ix dds gk Γ k x)) := propext Iff.rfl
theorem iKMethK {C : Addr} {m : Str} {F : AF} {n : Nat} {ix : List Nat} {dds : List D} {gk : AA} {x : EK} {Γ : G} {M : MH} {k : AK} {a : Addr} {o : MO} (h : gk Γ M fun es M2 => es.length = n ∧ F (pick ix (.ref a :: (es ++ dds))) M2 k x) (q : M a = some o) (i : InsO C m o) : kMethK C m F n ix dds gk Γ k x (.ref a) M := ⟨⟨o, q, i⟩, h⟩
end M
/-! MZipT: zip of two tuples, or of two lists. -/
namespace M
open PySem L2
section
variable {X : Cx}
def kZpA (k : AIt → MH → Prop) : List D → MH → Prop := fun ds M1 => match ds with
  | [.tup xs, .tup ys] => k ⟨zipD xs ys, fun _ => True⟩ M1
  | [d, e] => (match rdS M1 d, rdS M1 e with
    | some xs, some ys => k ⟨zipD xs ys, fun M => rdS M d = some xs ∧ rdS M e = some ys⟩ M1
    | _, _ => False)
  | _ => False
def wZpA (g : AA) : AI := fun Γ M k => g Γ M (kZpA k)
theorem i_zipA {a b : Expr} {elts : List Expr} {kk : Nat} {tpos : Pos} {g : AA} {p pos : Pos} (hm : X.mg "zip" = none) (ha : PA X [a, b] (liftA X.K g)) (hg : Gl X "zip" := by rfl) (hs : starEach [a, b] X.env = (false, eval a X.env) :: starEach [b] X.env := by rfl) (hpl : (backTo pos (starEach [b] X.env)).any (·.1) = false := by rfl) :
    PI X (.Tuple elts kk tpos) (.Call (.Name "zip" p) [a, b] [] pos) (liftI X.K (wZpA g)) :=
  (RZ.pi_zipA hg hm ha hs hpl).imp fun σ H R ⟨Γ, M, I, F, k, hs, hc, hf, hk⟩ => ⟨Γ, M, I, F, _, hs, hc, hf, fun ds M1 vs H1 I1 h1 l1 c1 r1 => by
    unfold kZpA at h1
    split at h1
    · rename_i xs ys
      obtain ⟨v, u, rfl, r2, r3⟩ := rels2 r1
      rw [Rel] at r2 r3
      obtain ⟨q, ws, rfl, t0, s0⟩ := r2
      obtain ⟨q', ws', rfl, t0', s0'⟩ := r3
      refine ⟨q, q', ws, ws', rfl, .inr ⟨sqt_le c1.sub t0.sqt, sqt_le c1.sub t0'.sqt, hk _ _ _ _ _ h1 l1 c1 ?_⟩⟩
      intro i H2 J M2 l2 F2 lf c2 _
      have g2 := sqt_le c2.sub (t0.le l2).sqt
      have g2' := sqt_le c2.sub (t0'.le l2).sqt
      have s2 := Rels.le l2 _ _ s0
      have s2' := Rels.le l2 _ _ s0'
      constructor
      · intro h
        have h : (zipD xs ys)[i]? = none := h
        rw [zipD_get] at h
        refine ⟨ws, ws', g2, g2', ?_⟩
        cases q : xs[i]? with
        | none => exact .inl (s2.get_none q)
        | some x =>
          cases q' : ys[i]? with
          | none => exact .inr (s2'.get_none q')
          | some y => rw [q, q'] at h; cases h
      · intro x h
        have h : (zipD xs ys)[i]? = some x := h
        rw [zipD_get] at h
        cases q : xs[i]? with
        | none => rw [q] at h; cases h
        | some x1 =>
          cases q' : ys[i]? with
          | none => rw [q, q'] at h; cases h
          | some y1 =>
            rw [q, q'] at h
            cases h
            obtain ⟨v, hv, rv⟩ := s2.get q
            obtain ⟨v', hv', rv'⟩ := s2'.get q'
            refine ⟨⟨ws, ws', v, v', g2, g2', hv, hv'⟩, fun z H' q2 => ?_⟩
            obtain ⟨T, u, u', rfl, hT, rfl, q3, q4⟩ := q2
            have := q3 ws g2
            rw [hv] at this; cases this
            have := q4 ws' g2'
            rw [hv'] at this; cases this
            have le : Le J (upd J T (.tup [v, v'])) := Le.new (c2.fresh hT).1
            refine ⟨_, le, c2.newF hT, ?_⟩
            rw [Rel]
            exact ⟨T, _, rfl, .inl upd_same, .cons (Rel.le le _ _ rv) (.one (Rel.le le _ _ rv'))⟩
    · rename_i d e _
      obtain ⟨v, u, rfl, r2, r3⟩ := rels2 r1
      split at h1
      · rename_i xs ys e0 e1
        obtain ⟨q, ws, rfl, g0, s0⟩ := rdS_ok e0 c1 r2
        obtain ⟨q', ws', rfl, g0', s0'⟩ := rdS_ok e1 c1 r3
        refine ⟨q, q', ws, ws', rfl, .inl ⟨g0, g0', hk _ _ _ _ _ h1 l1 c1 ?_⟩⟩
        intro i H2 J M2 l2 F2 lf c2 ok
        obtain ⟨p1, us, e1, g2, s2⟩ := rdS_ok ok.1 c2 (Rel.le l2 _ _ r2)
        obtain ⟨p2, us', e2, g2', s2'⟩ := rdS_ok ok.2 c2 (Rel.le l2 _ _ r3)
        cases e1
        cases e2
        constructor
        · intro h
          have h : (zipD xs ys)[i]? = none := h
          rw [zipD_get] at h
          refine ⟨us, us', g2, g2', ?_⟩
          cases q : xs[i]? with
          | none => exact .inl (s2.get_none q)
          | some x =>
            cases q' : ys[i]? with
            | none => exact .inr (s2'.get_none q')
            | some y => rw [q, q'] at h; cases h
        · intro x h
          have h : (zipD xs ys)[i]? = some x := h
          rw [zipD_get] at h
          cases q : xs[i]? with
          | none => rw [q] at h; cases h
          | some x1 =>
            cases q' : ys[i]? with
            | none => rw [q, q'] at h; cases h
            | some y1 =>
              rw [q, q'] at h
              cases h
              obtain ⟨v, hv, rv⟩ := s2.get q
              obtain ⟨v', hv', rv'⟩ := s2'.get q'
              refine ⟨⟨us, us', v, v', g2, g2', hv, hv'⟩, fun z H' q2 => ?_⟩
              obtain ⟨T, u, u', rfl, hT, rfl, q3, q4⟩ := q2
              have := q3 us g2
              rw [hv] at this; cases this
              have := q4 us' g2'
              rw [hv'] at this; cases this
              have le : Le J (upd J T (.tup [v, v'])) := Le.new (c2.fresh hT).1
              refine ⟨_, le, c2.newF hT, ?_⟩
              rw [Rel]
              exact ⟨T, _, rfl, .inl upd_same, .cons (Rel.le le _ _ rv) (.one (Rel.le le _ _ rv'))⟩
      · exact h1.elim
    · exact h1.elim⟩
end
section
variable {Γ : G} {M : MH} {kI : AIt → MH → Prop} {ga : AA} {ds es : List D} {d e : D}
theorem eZpA : (wZpA ga Γ M kI) = (ga Γ M (kZpA kI)) := propext Iff.rfl
theorem iZpAT (h : kI ⟨zipD ds es, fun _ => True⟩ M) : kZpA kI [.tup ds, .tup es] M := h
theorem iZpAL (h : kI ⟨zipD ds es, fun M => rdS M d = some ds ∧ rdS M e = some es⟩ M) (q : rdS M d = some ds) (q2 : rdS M e = some es) : kZpA kI [d, e] M := by
  unfold kZpA
  split
  · rename_i z
    cases z
    cases q
  · rename_i d' e' _ z
    cases z
    rw [q, q2]; exact h
  · rename_i n1 n2
    exact absurd rfl (n2 d e)
end
end M
/-! MRest: water at rest, in plain words: pools, the line under all heaps. -/
namespace M
section
variable {P H : Nat → Rat} {s n b c e m k : Nat}
/-- how steep the heaps are from b to e -/
def slope (P H : Nat → Rat) (b e : Nat) : Rat := (H e - H b) / (P e - P b)
theorem slope_mul (h : P b < P e) : slope P H b e * (P e - P b) = H e - H b := by
  unfold slope
  have : P e - P b ≠ 0 := by grind
  rw [Rat.div_def, Rat.mul_assoc, Rat.inv_mul_cancel _ this, Rat.mul_one]
theorem mul_mono {x y t : Rat} (h : x ≤ y) (ht : 0 ≤ t) : x * t ≤ y * t := Rat.mul_le_mul_of_nonneg_right h ht
/-- the heaps within b .. e are not below the straight line -/
def InPool (P H : Nat → Rat) (b e : Nat) : Prop := ∀ k, b ≤ k → k ≤ e → H b + slope P H b e * (P k - P b) ≤ H k
/-- between: a pool of two, the right one lower -/
theorem slope_mid (h1 : P b < P c) (h2 : P c < P e) (h : slope P H c e ≤ slope P H b c) : slope P H c e ≤ slope P H b e ∧ slope P H b e ≤ slope P H b c := by
  have e1 := slope_mul (H := H) h1
  have e2 := slope_mul (H := H) h2
  have e3 := slope_mul (H := H) (show P b < P e by grind)
  have u : 0 < P c - P b := by grind
  have v : 0 < P e - P c := by grind
  have w : 0 < P e - P b := by grind
  have q1 := mul_mono h (t := P c - P b) (by grind)
  have q2 := mul_mono h (t := P e - P c) (by grind)
  constructor
  · refine Rat.le_of_mul_le_mul_right (c := P e - P b) ?_ w
    grind
  · refine Rat.le_of_mul_le_mul_right (c := P e - P b) ?_ w
    grind
theorem InPool.merge (mono : ∀ i j, i ≤ j → j ≤ n → P i ≤ P j) (hn : e ≤ n) (h1 : P b < P c) (h2 : P c < P e) (hbc : b ≤ c) (hce : c ≤ e) (p1 : InPool P H b c) (p2 : InPool P H c e) (h : slope P H c e ≤ slope P H b c) : InPool P H b e := by
  obtain ⟨m1, m2⟩ := slope_mid h1 h2 h
  have e1 := slope_mul (H := H) h1
  have e2 := slope_mul (H := H) h2
  have e3 := slope_mul (H := H) (show P b < P e by grind)
  intro k hk1 hk2
  by_cases q : k ≤ c
  · have := p1 k hk1 q
    have t : 0 ≤ P k - P b := by have := mono b k hk1 (by omega); grind
    have := mul_mono m2 t
    grind
  · have := p2 k (by omega) hk2
    have t : 0 ≤ P e - P k := by have := mono k e hk2 hn; grind
    have := mul_mono m1 t
    grind
theorem InPool.one (h : P b < P (b + 1)) : InPool P H b (b + 1) := by
  intro k h1 h2
  have e1 := slope_mul (H := H) h
  have : k = b ∨ k = b + 1 := by omega
  rcases this with rfl | rfl
  · grind
  · grind
/-- pools from s on, the last one first, each at least as steep as the one before -/
inductive Stk (P H : Nat → Rat) (s : Nat) : Nat → List (Nat × Nat) → Prop where
  | nil : Stk P H s s []
  | cons {b e : Nat} {st : List (Nat × Nat)} (h : Stk P H s b st) (lt : b < e) (p : InPool P H b e) (up : ∀ q r, st = q :: r → slope P H q.1 q.2 ≤ slope P H b e) : Stk P H s e ((b, e) :: st)
theorem Stk.le {st : List (Nat × Nat)} (h : Stk P H s n st) : s ≤ n := by
  induction h with
  | nil => exact Nat.le_refl _
  | cons _ lt _ _ ih => omega
/-- a new pool is pushed: as long as the last one is higher both become one -/
def pushS (P H : Nat → Rat) : List (Nat × Nat) → Nat → Nat → List (Nat × Nat)
  | [], b, e => [(b, e)]
  | q :: st, b, e => if slope P H b e < slope P H q.1 q.2 then pushS P H st q.1 e else (b, e) :: q :: st
theorem Stk.push {N : Nat} (strict : ∀ i j, i < j → j ≤ N → P i < P j) : ∀ {st : List (Nat × Nat)} {b e : Nat}, Stk P H s b st → b < e → e ≤ N → InPool P H b e → Stk P H s e (pushS P H st b e)
  | [], b, e, h, lt, hN, p => by
    cases h
    exact .cons .nil lt p fun q r z => by cases z
  | q :: st, b, e, h, lt, hN, p => by
    unfold pushS
    cases h with
    | @cons b' _ _ h' lt' p' up' =>
      by_cases z : slope P H b e < slope P H b' b
      · rw [if_pos z]
        refine Stk.push strict h' (by omega) hN (InPool.merge (n := N) (fun i j h1 h2 => ?_) hN (strict _ _ lt' (by omega)) (strict _ _ lt hN) (by omega) (by omega) p' p (by grind))
        by_cases w : i = j
        · rw [w]; exact Rat.le_refl
        · have := strict i j (by omega) h2; grind
      · rw [if_neg z]
        refine .cons (.cons h' lt' p' up') lt p fun q r w => ?_
        cases w
        show slope P H b' b ≤ _
        grind
/-- every pool's line runs under all heaps -/
theorem Stk.under {N : Nat} (strict : ∀ i j, i < j → j ≤ N → P i < P j) {st : List (Nat × Nat)} (h : Stk P H s n st) (hN : n ≤ N) : ∀ q ∈ st, ∀ m, s ≤ m → m ≤ n → H q.1 + slope P H q.1 q.2 * (P m - P q.1) ≤ H m := by
  have mono : ∀ i j, i ≤ j → j ≤ N → P i ≤ P j := fun i j h1 h2 => by
    by_cases w : i = j
    · rw [w]; exact Rat.le_refl
    · have := strict i j (by omega) h2; grind
  induction h with
  | nil => intro q hq; cases hq
  | @cons b e st h lt p up ih =>
    have ih := ih (by omega)
    have slopes : ∀ q ∈ st, slope P H q.1 q.2 ≤ slope P H b e := by
      have go : ∀ {b : Nat} {st : List (Nat × Nat)} {x : Rat}, Stk P H s b st → (∀ q r, st = q :: r → slope P H q.1 q.2 ≤ x) → ∀ q ∈ st, slope P H q.1 q.2 ≤ x := by
        intro b st x h
        induction h generalizing x with
        | nil => intro _ q hq; cases hq
        | @cons b e st h lt p up ih =>
          intro hx q hq
          have h0 := hx (b, e) st rfl
          rcases List.mem_cons.mp hq with rfl | hq
          · exact h0
          · exact ih (fun q r z => Rat.le_trans (up q r z) h0) q hq
      exact go h up
    intro q hq m h1 h2
    rcases List.mem_cons.mp hq with rfl | hq
    · by_cases z : b ≤ m
      · exact p m z h2
      · cases h with
        | nil => omega
        | @cons b' _ st' h' lt' p' up' =>
          have i1 := ih (b', b) List.mem_cons_self m h1 (by omega)
          have i2 := slopes (b', b) List.mem_cons_self
          have e1 := slope_mul (H := H) (strict b' b lt' (by omega))
          have t : 0 ≤ P b - P m := by have := mono m b (by omega) (by omega); grind
          have := mul_mono i2 t
          dsimp only at *
          grind
    · by_cases z : m ≤ b
      · exact ih q hq m h1 z
      · have i1 := ih q hq b h.le (Nat.le_refl _)
        have i2 := slopes q hq
        have i3 := p m (by omega) h2
        have t : 0 ≤ P m - P b := by have := mono b m (by omega) (by omega); grind
        have := mul_mono i2 t
        grind
end
end M
/-! MRest2: chords; a fraction by a whole number. -/
namespace M
open PySem L2
section
variable {P H : Nat → Rat} {i j k : Nat} {σ a : Rat}
/-- the straight line over i and j, at k -/
def chord (P H : Nat → Rat) (i j k : Nat) : Rat := H i + slope P H i j * (P k - P i)
theorem chord_ge (hij : P i < P j) (h1 : P i ≤ P k) (h2 : P k ≤ P j) (l1 : a + σ * P i ≤ H i) (l2 : a + σ * P j ≤ H j) : a + σ * P k ≤ chord P H i j k := by
  have e := slope_mul (H := H) hij
  have u : 0 ≤ P k - P i := by grind
  have v : 0 ≤ P j - P k := by grind
  have w : 0 < P j - P i := by grind
  have q1 := mul_mono l1 v
  have q2 := mul_mono l2 u
  have e2 : slope P H i j * (P j - P i) * (P k - P i) = (H j - H i) * (P k - P i) := by rw [e]
  unfold chord
  refine Rat.le_of_mul_le_mul_right (c := P j - P i) ?_ w
  grind
end
theorem by_rat {x : Rat} {w : Int} (hw : 0 < w) : mkRat x.num ((x.den : Int) * w).toNat = x / (w : Rat) := by
  have hw0 : (w : Rat) ≠ 0 := by
    intro h
    have : (w : Rat) = ((0 : Int) : Rat) := by rw [h]; rfl
    have := Rat.intCast_inj.mp this
    omega
  have e : ((x.den : Int) * w).toNat = x.den * w.toNat := by
    have : w = ((w.toNat : Nat) : Int) := by omega
    conv => lhs; rw [this]
    rw [← Int.natCast_mul]; rfl
  have key : mkRat x.num (x.den * w.toNat) * (w : Rat) = x := by
    rw [show (w : Rat) = mkRat w 1 from (Rat.mkRat_one w).symm, Rat.mkRat_mul_mkRat, Nat.mul_one]
    have : w = ((w.toNat : Nat) : Int) := by omega
    conv => lhs; lhs; rw [this]
    rw [Rat.mkRat_mul_right (by omega), Rat.mkRat_self]
  rw [e, Rat.div_def]
  conv => rhs; rw [← key]
  rw [Rat.mul_assoc, Rat.mul_inv_cancel _ hw0, Rat.mul_one]
end M
/-! MEnv: the one rest, in plain words: what it is place by place, that it is one, and how it grows. -/
namespace M
/-- rises by floors never fall between a and b -/
def Shaped (P X : Nat → Rat) (a b : Nat) : Prop := ∀ k, a < k → k < b → slope P X (k - 1) k ≤ slope P X k (k + 1)
/-- places rise -/
def Strict (P : Nat → Rat) (n : Nat) : Prop := ∀ i j, i < j → j ≤ n → P i < P j
/-- from one cut to the next -/
structure Stretch (n : Nat) (B : Nat → Prop) (a b : Nat) : Prop where
  lo : B a
  hi : B b
  le : a ≤ b
  n : b ≤ n
  no : ∀ j, a < j → j < b → ¬ B j
/-- X is the rest of the heaps H over the places P, cut where B says -/
structure Rest (n : Nat) (P H X : Nat → Rat) (B : Nat → Prop) : Prop where
  le : ∀ k, k ≤ n → X k ≤ H k
  cut : ∀ k, k ≤ n → B k → X k = H k
  up : ∀ k, 0 < k → k < n → ¬ B k → slope P X (k - 1) k ≤ slope P X k (k + 1)
  eq : ∀ k, 0 < k → k < n → ¬ B k → X k < H k → slope P X (k - 1) k = slope P X k (k + 1)
section
variable {P H H' X X' Y Z : Nat → Rat} {B B' : Nat → Prop} {a b i j k m n : Nat} {σ c : Rat}
theorem Strict.mono (h : Strict P n) (hij : i ≤ j) (hj : j ≤ n) : P i ≤ P j := by
  by_cases w : i = j
  · rw [w]; exact Rat.le_refl
  · have := h i j (by omega) hj; grind
theorem Strict.to (h : Strict P n) (hm : m ≤ n) : Strict P m := fun i j h1 h2 => h i j h1 (Nat.le_trans h2 hm)
/-- a step up by the slope -/
theorem slope_step (h : P k < P (k + 1)) : X (k + 1) = X k + slope P X k (k + 1) * (P (k + 1) - P k) := by
  have := slope_mul (H := X) h
  grind
theorem Shaped.le_slope (s : Strict P n) (hb : b ≤ n) (h : Shaped P X a b) : ∀ d i, a ≤ i → i + d < b → slope P X i (i + 1) ≤ slope P X (i + d) (i + d + 1) := by
  intro d
  induction d with
  | zero => intro i _ _; exact Rat.le_refl
  | succ d ih =>
    intro i h1 h2
    have e1 := ih i h1 (by omega)
    have e2 := h (i + (d + 1)) (by omega) h2
    rw [show i + (d + 1) - 1 = i + d by omega] at e2
    rw [show i + d + 1 = i + (d + 1) by omega] at e1
    exact Rat.le_trans e1 e2
theorem Shaped.right (s : Strict P n) (hb : b ≤ n) (h : Shaped P X a b) (ha : a ≤ k) (hk : k < b) : ∀ d, k + d ≤ b → X k + slope P X k (k + 1) * (P (k + d) - P k) ≤ X (k + d) := by
  intro d
  induction d with
  | zero => intro _; show X k + _ * (P k - P k) ≤ X k; grind
  | succ d ih =>
    intro hd
    have e1 := ih (by omega)
    have lt := s (k + d) (k + d + 1) (Nat.lt_succ_self _) (by omega)
    have e2 := slope_step (X := X) lt
    have e3 := h.le_slope s hb d k ha (by omega)
    have e4 := mul_mono e3 (t := P (k + d + 1) - P (k + d)) (by grind)
    show X k + _ * (P (k + d + 1) - P k) ≤ X (k + d + 1)
    grind
theorem Shaped.left (s : Strict P n) (hb : b ≤ n) (h : Shaped P X a b) (hk : k < b) : ∀ d, a + d ≤ k → X k - slope P X k (k + 1) * (P k - P (k - d)) ≤ X (k - d) := by
  intro d
  induction d with
  | zero => intro _; show X k - _ * (P k - P k) ≤ X k; grind
  | succ d ih =>
    intro hd
    have e1 := ih (by omega)
    obtain ⟨q, hq⟩ : ∃ q, k - d = q + 1 := ⟨k - d - 1, by omega⟩
    have hq2 : k - (d + 1) = q := by omega
    rw [hq] at e1
    rw [hq2]
    have lt := s q (q + 1) (Nat.lt_succ_self _) (by omega)
    have e2 := slope_step (X := X) lt
    have e3 := h.le_slope s hb (k - q) q (by omega) (by omega)
    rw [show q + (k - q) = k by omega] at e3
    have e4 := mul_mono e3 (t := P (q + 1) - P q) (by grind)
    grind
/-- a line under all, through one place -/
theorem Shaped.support (s : Strict P n) (hb : b ≤ n) (h : Shaped P X a b) (ha : a ≤ k) (hk : k ≤ b) : ∃ σ : Rat, ∀ m, a ≤ m → m ≤ b → X k + σ * (P m - P k) ≤ X m := by
  have core : ∀ k, a ≤ k → k < b → ∀ m, a ≤ m → m ≤ b → X k + slope P X k (k + 1) * (P m - P k) ≤ X m := fun k ha hk m h1 h2 => by
    by_cases w : k ≤ m
    · have := h.right s hb ha hk (m - k) (by omega)
      rwa [show k + (m - k) = m by omega] at this
    · have := h.left s hb hk (k - m) (by omega)
      rw [show k - (k - m) = m by omega] at this
      grind
  by_cases q : k < b
  · exact ⟨_, core k ha q⟩
  · have e : k = b := by omega
    subst e
    by_cases w : a = k
    · refine ⟨0, fun m h1 h2 => ?_⟩
      have : m = k := by omega
      rw [this]; grind
    · obtain ⟨p, rfl⟩ : ∃ p, k = p + 1 := ⟨k - 1, by omega⟩
      have e1 := core p (by omega) (by omega)
      have lt := s p (p + 1) (Nat.lt_succ_self _) hb
      have e2 := slope_step (X := X) lt
      refine ⟨slope P X p (p + 1), fun m h1 h2 => ?_⟩
      have := e1 m h1 h2
      grind
theorem Shaped.le_chord (s : Strict P n) (hb : b ≤ n) (h : Shaped P X a b) (h1 : a ≤ i) (h2 : i ≤ k) (h3 : k ≤ j) (h4 : j ≤ b) (hij : i < j) : X k ≤ chord P X i j k := by
  obtain ⟨σ, hσ⟩ := h.support s hb (k := k) (by omega) (by omega)
  have e1 := hσ i h1 (by omega)
  have e2 := hσ j (by omega) h4
  have := chord_ge (P := P) (H := X) (i := i) (j := j) (k := k) (σ := σ) (a := X k - σ * P k) (s i j hij (by omega)) (s.mono h2 (by omega)) (s.mono h3 (by omega)) (by grind) (by grind)
  grind
/-- higher ends, a higher line -/
theorem chord_mono (s : Strict P n) (hj : j ≤ n) (hij : i < j) (h1 : i ≤ k) (h2 : k ≤ j) (l1 : X i ≤ Y i) (l2 : X j ≤ Y j) : chord P X i j k ≤ chord P Y i j k := by
  have lt := s i j hij hj
  have e := slope_mul (H := X) lt
  have h := chord_ge (H := Y) lt (s.mono h1 (by omega)) (s.mono h2 hj) (σ := slope P X i j) (a := X i - slope P X i j * P i) (by grind) (by grind)
  have h2 : chord P X i j k = X i - slope P X i j * P i + slope P X i j * P k := by unfold chord; grind
  rw [h2]; exact h
theorem chord_le (s : Strict P n) (hb : b ≤ n) (h : Shaped P Y a b) (l : ∀ m, a ≤ m → m ≤ b → Y m ≤ H m) (h1 : a ≤ i) (h2 : i ≤ k) (h3 : k ≤ j) (h4 : j ≤ b) (hij : i < j) : Y k ≤ chord P H i j k :=
  Rat.le_trans (h.le_chord s hb h1 h2 h3 h4 hij) (chord_mono s (by omega) hij h2 h3 (l i h1 (by omega)) (l j (by omega) h4))
theorem Rest.shaped (r : Rest n P H X B) (t : Stretch n B a b) : Shaped P X a b := fun k h1 h2 => r.up k (by omega) (by have := t.n; omega) (t.no k h1 h2)
/-- straight where nothing touches -/
theorem straight (s : Strict P n) (hj : j ≤ n) (h : ∀ m, i < m → m < j → slope P X (m - 1) m = slope P X m (m + 1)) : ∀ d, i + d < j → slope P X (i + d) (i + d + 1) = slope P X i (i + 1) ∧ X (i + d + 1) = X i + slope P X i (i + 1) * (P (i + d + 1) - P i) := by
  intro d
  induction d with
  | zero => intro hd; exact ⟨rfl, slope_step (s i (i + 1) (Nat.lt_succ_self _) (by omega))⟩
  | succ d ih =>
    intro hd
    obtain ⟨e1, e2⟩ := ih (by omega)
    have e3 := h (i + d + 1) (by omega) hd
    rw [show i + d + 1 - 1 = i + d by omega, e1] at e3
    have e4 := slope_step (X := X) (s (i + d + 1) (i + d + 1 + 1) (Nat.lt_succ_self _) (by omega))
    refine ⟨e3.symm, ?_⟩
    show X (i + d + 1 + 1) = X i + _ * (P (i + d + 1 + 1) - P i)
    rw [← e3] at e4
    grind
theorem straight_chord (s : Strict P n) (hj : j ≤ n) (hij : i < j) (h : ∀ m, i < m → m < j → slope P X (m - 1) m = slope P X m (m + 1)) (h1 : i ≤ k) (h2 : k ≤ j) : X k = chord P X i j k := by
  have at_ : ∀ m, i ≤ m → m ≤ j → X m = X i + slope P X i (i + 1) * (P m - P i) := fun m h1 h2 => by
    by_cases w : m = i
    · rw [w]; grind
    · have := (straight s hj h (m - i - 1) (by omega)).2
      rwa [show i + (m - i - 1) + 1 = m by omega] at this
  have e1 := at_ j (by omega) (Nat.le_refl _)
  have e2 := at_ k h1 h2
  have lt := s i j hij hj
  have e3 := slope_mul (H := X) lt
  have e4 : slope P X i j = slope P X i (i + 1) := by
    have : (slope P X i j - slope P X i (i + 1)) * (P j - P i) = 0 := by grind
    have h0 : P j - P i ≠ 0 := by grind
    rcases Rat.mul_eq_zero.mp this with q | q
    · grind
    · exact absurd q h0
  unfold chord
  rw [e4, e2]
/-- the nearest places at which both are alike -/
theorem contact_lo {T : Nat → Prop} (ha : T a) : ∀ k, a ≤ k → ∃ i, a ≤ i ∧ i ≤ k ∧ T i ∧ ∀ m, i < m → m ≤ k → ¬ T m := by
  intro k
  induction k with
  | zero => intro h; exact ⟨a, Nat.le_refl _, h, ha, fun m h1 h2 => by omega⟩
  | succ k ih =>
    intro h
    by_cases w : T (k + 1)
    · exact ⟨k + 1, h, Nat.le_refl _, w, fun m h1 h2 => by omega⟩
    · by_cases q : a = k + 1
      · rw [q] at ha; exact absurd ha w
      · obtain ⟨i, h1, h2, h3, h4⟩ := ih (by omega)
        refine ⟨i, h1, by omega, h3, fun m m1 m2 => ?_⟩
        by_cases z : m = k + 1
        · rw [z]; exact w
        · exact h4 m m1 (by omega)
theorem contact_hi {T : Nat → Prop} (hb : T b) : ∀ d k, k + d = b → ∃ j, k ≤ j ∧ j ≤ b ∧ T j ∧ ∀ m, k ≤ m → m < j → ¬ T m := by
  intro d
  induction d with
  | zero => intro k h; exact ⟨b, by omega, Nat.le_refl _, hb, fun m h1 h2 => by omega⟩
  | succ d ih =>
    intro k h
    by_cases w : T k
    · exact ⟨k, Nat.le_refl _, by omega, w, fun m h1 h2 => by omega⟩
    · obtain ⟨j, h1, h2, h3, h4⟩ := ih (k + 1) (by omega)
      refine ⟨j, by omega, h2, h3, fun m m1 m2 => ?_⟩
      by_cases z : m = k
      · rw [z]; exact w
      · exact h4 m (by omega) m2
/-- at each place the rest is a straight line between two places where it touches the heaps -/
theorem Rest.line (s : Strict P n) (r : Rest n P H X B) (t : Stretch n B a b) (h1 : a ≤ k) (h2 : k ≤ b) :
    ∃ i j, a ≤ i ∧ i ≤ k ∧ k ≤ j ∧ j ≤ b ∧ X i = H i ∧ X j = H j ∧ ((i = k ∧ j = k) ∨ (i < k ∧ k < j ∧ X k = chord P H i j k ∧ X k = chord P X i j k)) := by
  have ta := r.cut a (by have := t.n; omega) t.lo
  have tb := r.cut b t.n t.hi
  obtain ⟨i, i1, i2, i3, i4⟩ := contact_lo (T := fun m => X m = H m) ta k h1
  obtain ⟨j, j1, j2, j3, j4⟩ := contact_hi (T := fun m => X m = H m) tb (b - k) k (by omega)
  refine ⟨i, j, i1, i2, j1, j2, i3, j3, ?_⟩
  by_cases w : X k = H k
  · left
    constructor
    · by_cases z : i = k
      · exact z
      · exact absurd w (i4 k (by omega) (Nat.le_refl _))
    · by_cases z : j = k
      · exact z
      · exact absurd w (j4 k (Nat.le_refl _) (by omega))
  · right
    have hik : i < k := by
      by_cases z : i = k
      · rw [z] at i3; exact absurd i3 w
      · omega
    have hkj : k < j := by
      by_cases z : j = k
      · rw [z] at j3; exact absurd j3 w
      · omega
    have := straight_chord (X := X) (k := k) s (by have := t.n; omega) (show i < j by omega) (fun m m1 m2 => by
      have hn : ¬ B m := t.no m (by omega) (by omega)
      have hm : X m ≠ H m := by
        by_cases z : m ≤ k
        · exact i4 m m1 z
        · exact j4 m (by omega) m2
      have := r.le m (by have := t.n; omega)
      exact r.eq m (by omega) (by have := t.n; omega) hn (by grind)) i2 j1
    refine ⟨hik, hkj, ?_, this⟩
    rw [this]
    unfold chord slope
    rw [i3, j3]
/-- what is shaped and not above the heaps is not above the rest -/
theorem Rest.greatest (s : Strict P n) (r : Rest n P H X B) (t : Stretch n B a b) (hY : Shaped P Y a b) (l : ∀ m, a ≤ m → m ≤ b → Y m ≤ H m) (h1 : a ≤ k) (h2 : k ≤ b) : Y k ≤ X k := by
  obtain ⟨i, j, i1, i2, j1, j2, e1, e2, h⟩ := r.line s t h1 h2
  rcases h with ⟨rfl, rfl⟩ | ⟨q1, q2, e, _⟩
  · rw [e1]; exact l _ h1 h2
  · rw [e]
    exact chord_le s t.n hY l i1 i2 j1 j2 (by omega)
theorem Rest.le_chord (s : Strict P n) (r : Rest n P H X B) (t : Stretch n B a b) (h1 : a ≤ i) (h2 : i ≤ k) (h3 : k ≤ j) (h4 : j ≤ b) (hij : i < j) : X k ≤ chord P H i j k :=
  chord_le s t.n (r.shaped t) (fun m m1 m2 => r.le m (by have := t.n; omega)) h1 h2 h3 h4 hij
/-- each place lies in a stretch -/
theorem stretch_of (h0 : B 0) (hn : B n) (hk : k ≤ n) : ∃ a b, Stretch n B a b ∧ a ≤ k ∧ k ≤ b ∧ ((a = k ∧ b = k) ∨ (a < k ∧ k < b)) := by
  obtain ⟨i, i1, i2, i3, i4⟩ := contact_lo h0 k (Nat.zero_le _)
  obtain ⟨j, j1, j2, j3, j4⟩ := contact_hi hn (n - k) k (by omega)
  refine ⟨i, j, ⟨i3, j3, by omega, j2, fun m m1 m2 => ?_⟩, i2, j1, ?_⟩
  · by_cases z : m ≤ k
    · exact i4 m m1 z
    · exact j4 m (by omega) m2
  · by_cases w : B k
    · left
      constructor
      · by_cases z : i = k
        · exact z
        · exact absurd w (i4 k (by omega) (Nat.le_refl _))
      · by_cases z : j = k
        · exact z
        · exact absurd w (j4 k (Nat.le_refl _) (by omega))
    · right
      constructor
      · by_cases z : i = k
        · rw [z] at i3; exact absurd i3 w
        · omega
      · by_cases z : j = k
        · rw [z] at j3; exact absurd j3 w
        · omega
/-- shaped in each stretch -/
def Shapes (n : Nat) (P X : Nat → Rat) (B : Nat → Prop) : Prop := ∀ k, 0 < k → k < n → ¬ B k → slope P X (k - 1) k ≤ slope P X k (k + 1)
theorem Shapes.on (h : Shapes n P X B) (t : Stretch n B a b) : Shaped P X a b := fun k h1 h2 => h k (by omega) (by have := t.n; omega) (t.no k h1 h2)
/-- the rest is the greatest of all that are shaped and nowhere above -/
theorem Rest.max (s : Strict P n) (h0 : B 0) (hn : B n) (r : Rest n P H X B) (hY : Shapes n P Y B) (l : ∀ m, m ≤ n → Y m ≤ H m) (hk : k ≤ n) : Y k ≤ X k := by
  obtain ⟨a, b, t, h1, h2, _⟩ := stretch_of h0 hn hk
  exact r.greatest s t (hY.on t) (fun m _ m2 => l m (Nat.le_trans m2 t.n)) h1 h2
/-- more water, more bolts: no less -/
theorem Rest.mono (s : Strict P n) (h0 : B 0) (hn : B n) (r : Rest n P H X B) (r' : Rest n P H' X' B') (hB : ∀ k, B k → B' k) (hH : ∀ k, k ≤ n → H k ≤ H' k) (hk : k ≤ n) : X k ≤ X' k :=
  r'.max s (hB 0 h0) (hB n hn) (fun m m1 m2 hm => r.up m m1 m2 fun z => hm (hB m z)) (fun m hm => Rat.le_trans (r.le m hm) (hH m hm)) hk
theorem Rest.one (s : Strict P n) (h0 : B 0) (hn : B n) (r : Rest n P H X B) (r' : Rest n P H X' B) (hk : k ≤ n) : X k = X' k :=
  Rat.le_antisymm (r.mono s h0 hn r' (fun _ h => h) (fun _ _ => Rat.le_refl) hk) (r'.mono s h0 hn r (fun _ h => h) (fun _ _ => Rat.le_refl) hk)
theorem slope_add : slope P (fun k => X k + Y k) i j = slope P X i j + slope P Y i j := by
  unfold slope
  rw [Rat.div_def, Rat.div_def, Rat.div_def]
  grind
theorem slope_scale : slope P (fun k => c * X k) i j = c * slope P X i j := by
  unfold slope
  rw [Rat.div_def, Rat.div_def]
  grind
theorem Shapes.add (h : Shapes n P X B) (g : Shapes n P Y B) : Shapes n P (fun k => X k + Y k) B := fun k h1 h2 h3 => by
  rw [slope_add, slope_add]
  have := h k h1 h2 h3
  have := g k h1 h2 h3
  grind
theorem Rest.shapes (r : Rest n P H X B) : Shapes n P X B := r.up
/-- both together: no less -/
theorem Rest.super (s : Strict P n) (h0 : B 0) (hn : B n) (r : Rest n P H X B) (r' : Rest n P H' X' B) (q : Rest n P (fun k => H k + H' k) Y B) (hk : k ≤ n) : X k + X' k ≤ Y k :=
  q.max (Y := fun k => X k + X' k) s h0 hn (r.shapes.add r'.shapes) (fun m hm => by have := r.le m hm; have := r'.le m hm; grind) hk
theorem Rest.scale (hc : 0 ≤ c) (r : Rest n P H X B) : Rest n P (fun k => c * H k) (fun k => c * X k) B := by
  refine ⟨fun k hk => ?_, fun k hk hB => ?_, fun k h1 h2 h3 => ?_, fun k h1 h2 h3 h4 => ?_⟩
  · exact Rat.mul_le_mul_of_nonneg_left (r.le k hk) hc
  · show c * X k = c * H k
    rw [r.cut k hk hB]
  · rw [slope_scale, slope_scale]
    exact Rat.mul_le_mul_of_nonneg_left (r.up k h1 h2 h3) hc
  · rw [slope_scale, slope_scale]
    by_cases z : X k < H k
    · rw [r.eq k h1 h2 h3 z]
    · have := r.le k (by omega)
      have e : X k = H k := by grind
      rw [e] at h4
      grind
/-- at rest already -/
theorem Rest.self (h : Shapes n P H B) : Rest n P H H B := ⟨fun _ _ => Rat.le_refl, fun _ _ _ => rfl, h, fun k _ _ _ h4 => absurd h4 (by grind)⟩
/-- the same by the same heaps -/
theorem Rest.congr (r : Rest n P H X B) (hH : ∀ k, k ≤ n → H k = H' k) (hX : ∀ k, k ≤ n → X k = X' k) (hB : ∀ k, k ≤ n → (B k ↔ B' k)) : Rest n P H' X' B' := by
  have sl : ∀ i j, i ≤ n → j ≤ n → slope P X i j = slope P X' i j := fun i j h1 h2 => by unfold slope; rw [hX i h1, hX j h2]
  refine ⟨fun k hk => ?_, fun k hk hb => ?_, fun k h1 h2 h3 => ?_, fun k h1 h2 h3 h4 => ?_⟩
  · rw [← hH k hk, ← hX k hk]; exact r.le k hk
  · rw [← hH k hk, ← hX k hk]; exact r.cut k hk ((hB k hk).mpr hb)
  · rw [← sl _ _ (by omega) (by omega), ← sl _ _ (by omega) (by omega)]; exact r.up k h1 h2 fun z => h3 ((hB k (by omega)).mp z)
  · rw [← sl _ _ (by omega) (by omega), ← sl _ _ (by omega) (by omega)]
    rw [← hH k (by omega), ← hX k (by omega)] at h4
    exact r.eq k h1 h2 (fun z => h3 ((hB k (by omega)).mp z)) h4
end
end M
/-! MIns: xs.insert(i, y). -/
namespace M
open PySem L2
def mInsert : AM := fun d es M k => match es with
  | [.int i, x] => wrL d M fun a ds => ds.length < sizeLine ∧ (0 ≤ i ∧ i < 2 ^ 63) ∧ k .non (up M a (.obj (.lst (ds.take i.toNat ++ [x] ++ ds.drop i.toNat))))
  | _ => False
abbrev rInsert : V → List V → Hp → VK → Prop := fun x vs H Q => ∃ (l : Addr) (xs : List V) (i : Int) (y : V), x = .ref l ∧ vs = [.int i, y] ∧ H l = some (.lst xs) ∧ xs.length < sizeLine ∧ 0 ≤ i ∧ i < 2 ^ 63 ∧ Q .non (L2.upd H l (.lst (xs.take i.toNat ++ [y] ++ xs.drop i.toNat)))
theorem mInsert_ok {K : PySem.W.Frag} : OkM K rInsert mInsert := by
  intro d es M k v vs H I F Q h c r rs hk
  unfold mInsert at h
  split at h
  · rename_i i x
    obtain ⟨w, w', rfl, r1, r2⟩ := rels2 rs
    rw [Rel] at r1; subst r1
    obtain ⟨a, ds, ws, rfl, hM, hH, hr, hl, ⟨b1, b2⟩, q⟩ := wrL_ok h c r
    exact ⟨a, ws, i, w', rfl, rfl, hH, by rw [← hr.length]; exact hl, b1, b2, hk _ _ _ _ _ q (Le.refl I) (c.set hM ⟨_, upd_same, ((hr.take _).append (.one r2)).append (hr.drop _)⟩) (by rw [Rel])⟩
  · exact h.elim
theorem e_insert {X : Cx} {o e : Expr} {es : List Expr} {f : AE} {g : AA} {apos cpos : Pos} (ho : PE X o (lift X.K f)) (ha : PA X (e :: es) (liftA X.K g)) (hbase : attributeBase o "insert" X.env (eval o X.env) = eval o X.env := by rfl)
    (hfew : ((backTo cpos (starEach (e :: es) X.env)).all (fun x => !x.1) && (backToKw cpos (keywordEach [] X.env)).all (fun x => x.1.isSome)
      && decide ((e :: es).length + ([] : List Keyword).length + (if ([] : List Keyword).isEmpty then 0 else 1) < 30)) = true := by rfl)
    (hline : (apos.endLine == cpos.line) = true := by rfl) (hs : starEach (e :: es) X.env = (false, eval e X.env) :: starEach es X.env := by rfl) (hplain : (backTo cpos (starEach es X.env)).any (·.1) = false := by rfl) :
    PE X (.Call (.Attribute o "insert" apos) (e :: es) [] cpos) (lift X.K (aMt mInsert f g)) := (pe_bm PySem.F.plainAttrs_list PySem.F.slot_list_insert PySem.F.type_list_insert mt_insert ho ha hbase hfew hline hs hplain).imp (lift_Mt mInsert_ok)
theorem iInsert {M : MH} {a : Addr} {ds : List D} {i : Int} {d : D} {k : AK} (h : k .non (up M a (.obj (.lst (ds.take i.toNat ++ [d] ++ ds.drop i.toNat))))) (q : M a = some (.obj (.lst ds))) (l : ds.length < sizeLine) (b : 0 ≤ i ∧ i < 2 ^ 63) : mInsert (.ref a) [.int i, d] M k := by
  show match M a with | some (.obj (.lst ds)) => ds.length < sizeLine ∧ (0 ≤ i ∧ i < 2 ^ 63) ∧ k .non (up M a (.obj (.lst (ds.take i.toNat ++ [d] ++ ds.drop i.toNat)))) | _ => False
  rw [q]; exact ⟨l, b, h⟩
end M
/-! MTupOf: tuple(a list). -/
namespace M
open PySem L2
def cTupOf : AC := fun ds M k => match ds with
  | [d] => (match rdS M d with
    | some xs => k (.tup xs) M
    | none => False)
  | _ => False
theorem eTupOf {d : D} {M : MH} {k : AK} {xs : List D} (h : k (.tup xs) M) (e : rdS M d = some xs) : cTupOf [d] M k := by
  show (match rdS M d with | some xs => k (.tup xs) M | none => False)
  rw [e]; exact h
theorem cTupOf_ok {K : PySem.W.Frag} : OkC K (fun xs H Q => ∃ p ys, xs = [.ref p] ∧ ((SqL K H p ys ∧ ∀ l, H l = none → Q (.ref l) (upd H l (.tup ys))) ∨ (SqT K H p ys ∧ Q (.ref p) H))) cTupOf := by
  intro ds M k vs H I F Q h c r hk
  unfold cTupOf at h
  split at h
  · obtain ⟨v, rfl, r9⟩ := rels1 r
    split at h
    · rename_i e0
      obtain ⟨a, ws, rfl, g, s⟩ := rdS_ok e0 c r9
      refine ⟨a, ws, rfl, .inl ⟨g, fun l hl => ?_⟩⟩
      have le : Le I (upd I l (.tup ws)) := Le.new (c.fresh hl).1
      refine hk _ _ _ _ _ h le (c.newF hl) ?_
      rw [Rel]
      exact ⟨l, ws, rfl, .inl upd_same, Rels.le le _ _ s⟩
    · exact h.elim
  · exact h.elim
section
variable {X : Cx} {e : Expr} {es : List Expr} {ga : AA} {p pos : Pos}
theorem e_tupOf (hm : X.mg "tuple" = none) (ha : PA X (e :: es) (liftA X.K ga)) (hg : Gl X "tuple" := by rfl) (he : starEach (e :: es) X.env = (false, eval e X.env) :: starEach es X.env := by rfl) (hpl : (backTo pos (starEach es X.env)).any (·.1) = false := by rfl) :
    PE X (.Call (.Name "tuple" p) (e :: es) [] pos) (lift X.K (aCB cTupOf ga)) := e_callTy call_tuple_of cTupOf_ok hm (by decide +kernel) ha hg (by decide) (by decide) he hpl
end
end M
local macro_rules | `(tactic| walk_at "st") => `(tactic| simp only [M.startG, List.map_cons, List.map_nil, List.length_cons, List.length_nil, List.replicate, List.cons_append, List.nil_append, List.append_nil, Nat.reduceSub, Nat.reduceAdd, Nat.zero_add])
local macro_rules | `(tactic| walk_at "mul") => `(tactic| first | assumption | exact M.Sm.mnd (by assumption) (by assumption) | exact M.Sm.mdd (by assumption) (by assumption) | exact M.Sm.mnn (by assumption) (by assumption) | exact M.mul_okL (by omega) (by omega) | exact M.mul_okR (by omega) (by omega))
local macro_rules | `(tactic| walk_at "pow") => `(tactic| first | assumption | (unfold L2.CPow; exact ⟨by decide, by decide, by decide⟩) | (unfold L2.CPow; exact ⟨by omega, by omega, by omega⟩))
local macro_rules | `(tactic| walk_at "sx") => `(tactic| first | assumption | exact M.ix_c0 | exact M.ix_c1 | exact M.ix_c2 | exact M.ix_c3 | (unfold L2.ixN; simp; done) | (unfold L2.ixN; simp; omega))
local macro_rules | `(tactic| walk_at "ty") => `(tactic| first | assumption | exact M.ty_bl | exact M.ty_int | exact M.ty_str | exact M.ty_tup | exact M.ty_lst | exact M.ty_non)
local macro_rules | `(tactic| walk_at "kb") => `(tactic| first | assumption | exact M.kb_tuple_bool | exact M.kb_tuple_int | exact M.kb_tuple_str | exact M.kb_tuple_list | exact M.kb_tuple_tuple | exact M.kb_list_bool | exact M.kb_list_int | exact M.kb_list_str | exact M.kb_list_list | exact M.kb_list_tuple)
local macro_rules | `(tactic| walk_at "sz") => `(tactic| first | assumption | ((rw [PySem.sizeLine_eq]; try simp only [List.length_cons, List.length_nil, List.length_append, List.length_map, List.length_singleton]) <;> omega))
local macro_rules | `(tactic| walk_at "at") => `(tactic| first | assumption | exact M.up_same | (rw [M.up_ne (by first | assumption | (apply Ne.symm; assumption))]; walk_at "at"))
local macro_rules | `(tactic| walk_at "fl") => `(tactic| first | assumption | exact M.hF_a | exact M.hF_b | exact M.hF_c)
local macro_rules | `(tactic| walk_at "ins") => `(tactic| first | assumption | exact M.hBox_ins)
local macro_rules | `(tactic| walk_at "ix") => `(tactic| first | assumption | with_reducible exact L2.atI_last _ _)
local macro_rules | `(tactic| walk_at "eq") => `(tactic| simp only [↓M.eSeq, ↓M.eNext, ↓M.eDrop, ↓M.eRet, ↓M.eRetN, ↓M.eIfS, ↓M.eSet, ↓M.ePar, ↓M.ePar2, ↓M.eAsg, ↓M.eVar0, ↓M.eVar1, ↓M.eVar2, ↓M.eVar3, ↓M.eVar4, ↓M.eVar5, ↓M.eVar6, ↓M.eVar7, ↓M.eVar8, ↓M.eVar9, ↓M.eVar10, ↓M.eVar11, ↓M.eVar12, ↓M.eVar13, ↓M.eVar14, ↓M.eVar15, ↓M.eVar16, ↓M.eVar17, ↓M.eVar18, ↓M.eVar19, ↓M.eVar20, ↓M.eVar21, ↓M.eVar22, ↓M.eVar23, ↓M.eVar24, ↓M.eVar25, ↓M.eC, ↓M.eOp, ↓M.eAddI, ↓M.eSub, ↓M.eLt, ↓M.eLe, ↓M.eGt, ↓M.eGe, ↓M.eEqI, ↓M.eNeI, ↓M.eEqS, ↓M.eNeS, ↓M.eIsN, ↓M.eNotN, ↓M.eNeg, ↓M.eNeg1, ↓M.eB, ↓M.eB1, ↓M.eAnd, ↓M.eOr, ↓M.eNot, ↓M.eAndV, ↓M.eAndV1, ↓M.eOrV, ↓M.eOrV1, ↓M.eNotV, ↓M.eNotV1, ↓M.eIf, ↓M.eNil, ↓M.eCons, ↓M.eTup, ↓M.eLst, ↓M.eNlF, ↓M.eNlT, ↓M.eCB, ↓M.eCall, ↓M.eCallK, ↓M.eNoPart, ↓M.ePart, ↓M.ePart1, ↓M.eCut, ↓M.eCutL, ↓M.eCutSc, ↓M.eLenT, ↓M.eLenL, ↓M.eLenSc, ↓M.eAbs, ↓M.eMax2, ↓M.eMin2, ↓M.eSumL, ↓M.eListL, ↓M.eListT, ↓M.eMt, ↓M.eMt0, ↓M.eFrz, ↓M.eFrzL, ↓M.eFld, ↓M.eSFld, ↓M.eMeth, ↓M.eMake, ↓M.eMakeK, ↓M.eGNm, ↓M.eGTu, ↓M.eGCo, ↓M.eGNi, ↓M.eGIx, ↓M.eChain, ↓M.eCh1, ↓M.eCh2, ↓M.eInL, ↓M.eNotInL, ↓M.eFor, ↓M.eWL, ↓M.eWLL, ↓M.eWLS, ↓M.eR1, ↓M.eR1i, ↓M.eR2, ↓M.eR2i, ↓M.eEn, ↓M.eEnL, ↓M.eEnS, ↓M.eZp, ↓M.eZpL, ↓M.eWT, ↓M.eWT1, ↓M.eWS, ↓M.eWS1, ↓M.eLc, ↓M.eYes, ↓M.eIxT, ↓M.eIxL, ↓M.eIxSc, ↓M.eIx1, ↓M.eIteT, ↓M.eIteF, ↓M.eIsi_non_bool, ↓M.eIsi_non_int, ↓M.eIsi_non_str, ↓M.eIsi_non_list, ↓M.eIsi_non_tuple, ↓M.eIsi_non_dict, ↓M.eIsi_bl_bool, ↓M.eIsi_bl_int, ↓M.eIsi_bl_str, ↓M.eIsi_bl_list, ↓M.eIsi_bl_tuple, ↓M.eIsi_bl_dict, ↓M.eIsi_int_bool, ↓M.eIsi_int_int, ↓M.eIsi_int_str, ↓M.eIsi_int_list, ↓M.eIsi_int_tuple, ↓M.eIsi_int_dict, ↓M.eIsi_str_bool, ↓M.eIsi_str_int, ↓M.eIsi_str_str, ↓M.eIsi_str_list, ↓M.eIsi_str_tuple, ↓M.eIsi_str_dict, ↓M.eIsi_tup_bool, ↓M.eIsi_tup_int, ↓M.eIsi_tup_str, ↓M.eIsi_tup_list, ↓M.eIsi_tup_tuple, ↓M.eIsi_tup_dict, ↓M.eIsi_lst_bool, ↓M.eIsi_lst_int, ↓M.eIsi_lst_str, ↓M.eIsi_lst_list, ↓M.eIsi_lst_tuple, ↓M.eIsi_lst_dict, ↓M.eLZ, ↓M.eLRg1, ↓M.eLRg1i, ↓M.eLRg2, ↓M.eLRg2i, ↓M.eM1, ↓M.eM1s, ↓M.eFmt, ↓M.eFmtS, ↓M.eFmtI, ↓M.eJs0, ↓M.eJs, ↓M.eJs1, ↓M.eRepS, M.isNon_non, M.isNon_bl, M.isNon_int, M.isNon_str, M.isNon_tup, M.isNon_lst, M.isNon_ref, M.not_t, M.not_f, M.dec_t, M.dec_f, Int.reducePow, Int.reduceToNat, Int.reduceSub, Int.reduceAdd, Int.reduceMul, Int.reduceNeg, M.atI_c0, M.atI_c1, M.atI_c2, M.atI_c3, M.atI_c4, List.set_cons_zero, List.set_cons_succ, List.append_nil, List.cons_append, List.nil_append])
local macro_rules | `(tactic| walk_at "e1") => `(tactic| first
  | (with_reducible apply M.iPow; rotate_left; (walk_at "pow")) | (with_reducible apply M.iMul; rotate_left; (walk_at "mul")) | (with_reducible apply M.iMod; rotate_left; (first | assumption | omega)) | (with_reducible apply M.iFdiv; rotate_left; (first | assumption | exact M.cdivS (by omega) (by omega)))
  | ((with_reducible apply And.intro); (with_reducible show _ ≤ PySem.sizeLine); (walk_at "sz")) | ((with_reducible apply And.intro); (exact (rfl : (_ : Nat) = _)))
  | (with_reducible apply M.iKFld; rotate_left; (walk_at "at"); (walk_at "fl")) | (with_reducible apply M.iKMeth; rotate_left; (walk_at "at"); (walk_at "ins")) | (with_reducible apply M.iIxL; rotate_left; (walk_at "ix")) | (with_reducible apply M.iIxRk; rotate_left; (walk_at "at")) | (with_reducible apply M.iStIx; rotate_left; (walk_at "at"); (walk_at "sx")) | (with_reducible apply M.iKIx; rotate_left; (walk_at "ix"))
  | (with_reducible apply M.iKMt; rotate_left; (walk_at "at")) | (with_reducible apply M.iKMt0; rotate_left; (walk_at "at")) | (with_reducible apply M.iAppend; rotate_left; (walk_at "at"); (walk_at "sz")) | (with_reducible apply M.iExtendL; rotate_left; (walk_at "at"); (walk_at "sz"))
  | (with_reducible apply M.iReverse; rotate_left; (walk_at "at")) | (with_reducible apply M.iClear; rotate_left; (walk_at "at")) | (with_reducible apply M.iLenR; rotate_left; (walk_at "at")) | (with_reducible apply M.iLenS; rotate_left; (walk_at "sz"))
  | (with_reducible apply M.iListR; rotate_left; (walk_at "at")) | (with_reducible apply M.iIsi; rotate_left; (assumption); (walk_at "kb")) | (with_reducible apply M.iEqBs) | ((with_reducible apply M.iAug); rotate_left; exact rfl) | (with_reducible apply M.iAgI) | (with_reducible apply M.iLzG; rotate_left; (assumption); (assumption)) | (with_reducible apply M.iStr; rotate_left; (assumption)) | (with_reducible apply M.iAll; rotate_left; (assumption)) | (with_reducible apply M.iAny; rotate_left; (assumption)) | (with_reducible apply M.iInt; rotate_left; (assumption); (assumption)) | (with_reducible apply M.iPart'; rotate_left; (assumption); (assumption)) | (with_reducible apply M.iCutS; rotate_left; (walk_at "sz")) | (with_reducible apply M.iKFrz; rotate_left; (walk_at "at")) | (with_reducible apply M.iCutR; rotate_left; (walk_at "at"))
  | (with_reducible apply M.iLenG; rotate_left; (assumption)) | (with_reducible apply M.iWLG; rotate_left; (assumption)) | (with_reducible apply M.iEnG; rotate_left; (assumption)) | (with_reducible apply M.iZpG; rotate_left; (assumption); (assumption)) | (with_reducible apply M.iIxG; rotate_left; (assumption); (walk_at "ix")) | (with_reducible apply M.iCutG; rotate_left; (assumption)) | (with_reducible apply M.iListG; rotate_left; (assumption)) | (with_reducible apply M.iSumG; rotate_left; (assumption)) | (with_reducible apply M.iteT) | (with_reducible apply M.iteF) | (with_reducible apply M.iteNT) | (with_reducible apply M.iteNF) | (with_reducible apply M.iAddL; rotate_left; (walk_at "sz")) | (with_reducible apply M.iAddS; rotate_left; (walk_at "sz")))
local macro_rules | `(tactic| walk_at "ev") => `(tactic| repeat first | walk_at "eq" | walk_at "e1")
local macro_rules | `(tactic| walk_at "tr") => `(tactic| first | rfl | trivial | assumption | omega)
namespace M
open PySem L2
/-- objects forgotten -/
def Less (M M' : MH) : Prop := ∀ x, M' x = M x ∨ (M' x = none ∧ ∃ b, M x = some (.obj b))
theorem Abs.drop {M M' : MH} (h : Less M M') : Abs M M' := fun K H I F c => by
  refine ⟨c.sub, fun x m => ?_, fun x o e => ?_, fun x o e => ?_⟩
  · rcases h x with z | ⟨z, _⟩
    · exact c.fre x (by rw [← z]; exact m)
    · exact absurd z m
  · rcases h x with z | ⟨z, _⟩
    · rw [z] at e
      have hx := c.rel x o e
      cases o with
      | obj b => exact hx
      | part _ => exact hx
      | box ps φ =>
        obtain ⟨h1, h2⟩ := hx
        refine ⟨fun p hp => ?_, h2⟩
        rcases h p with w | ⟨_, b, w⟩
        · rw [w]; exact h1 p hp
        · rw [h1 p hp] at w; cases w
    · rw [z] at e; cases e
  · obtain ⟨a1, a2, a3⟩ := c.frm x o e
    refine ⟨a1, a2, ?_⟩
    rcases h x with w | ⟨w, _⟩
    · rw [w]; exact a3
    · exact w
theorem fin.less {k : AK} {d : D} {M M' : MH} (h : Less M M') (hk : k d M') : fin k d M := ⟨M', Abs.drop h, hk⟩
theorem Less.refl {M : MH} : Less M M := fun _ => .inl rfl
theorem Less.trans {M M' M'' : MH} (a : Less M M') (b : Less M' M'') : Less M M'' := fun x => by
  rcases b x with w | ⟨w, c, e⟩
  · rcases a x with z | ⟨z, e⟩
    · exact .inl (w.trans z)
    · exact .inr ⟨w.trans z, e⟩
  · rcases a x with z | ⟨z, _⟩
    · exact .inr ⟨w, c, by rw [← z]; exact e⟩
    · rw [z] at e; cases e
theorem Less.up {M : MH} {p : Addr} {b : BO} (h : M p = none) : Less (up M p (.obj b)) M := fun x => by
  by_cases q : x = p
  · subst q; exact .inr ⟨h, b, up_same⟩
  · exact .inl (up_ne q).symm
end M
namespace M
open PySem L2
def F_lowest : AF := fun ds M k x => ∃ a b : Int, ds = [.int a, .int b] ∧ 0 < b ∧ b.natAbs < b89 ∧ k (frD (mkRat a b.toNat)) M
/-- lowest -/
def b_lowest : AS := (aSeq (aPar 2 3 (aCons (aCB cAbs (aCons (aVar 0) aNil)) (aCons (aVar 1) aNil)))
  (aSeq (aWhile (aB (aOp bGt (aVar 2) (aC (.int 0))))
  (aPar 2 3 (aCons (aOp bMod (aVar 3) (aVar 2)) (aCons (aVar 2) aNil))))
  (aRet (aTup (aCons (aOp bFdiv (aVar 0) (aVar 3)) (aCons (aOp bFdiv (aVar 1) (aVar 3)) aNil))))))
theorem len_lowest : ∀ ds M k x, F_lowest ds M k x → ds.length = 2 := by
  rintro ds M k x ⟨a, b, rfl, _⟩; rfl
theorem gcd_end {a b v : Int} (hb : 0 < b) (hs : b.natAbs < b89) (hv : 0 < v) (h : Nat.gcd (0 : Int).toNat v.toNat = Nat.gcd a.natAbs b.toNat) : v = ((Nat.gcd a.natAbs b.toNat : Nat) : Int) ∧ v.natAbs < b89 := by
  have e : v = ((Nat.gcd a.natAbs b.toNat : Nat) : Int) := by
    rw [← h]
    simp only [Int.toNat_zero, Nat.gcd_zero_left]
    omega
  refine ⟨e, ?_⟩
  have : Nat.gcd a.natAbs b.toNat ≤ b.toNat := Nat.gcd_le_right _ (by omega)
  omega
theorem lowest_out {a b v : Int} (hb : 0 < b) (e : v = ((Nat.gcd a.natAbs b.toNat : Nat) : Int)) : D.tup [D.int (a / v), D.int (b / v)] = frD (mkRat a b.toNat) := by
  unfold frD
  rw [mkRat_num hb, mkRat_den hb, ← e]
theorem ok_lowest : ∀ ds M k x, F_lowest ds M k x → b_lowest { nx := fun _ M' => fin k .non M', rt := fin k } (startG 4 ds) M := by
  rintro ds M k x ⟨a, b, rfl, hb, hs, hk⟩
  walk_at "st"
  unfold b_lowest
  walk_at "ev"
  refine while_st (α := Int × Int) (fun s => [some (.int a), some (.int b), some (.int s.1), some (.int s.2)]) (fun _ => M) (fun s => 0 ≤ s.1 ∧ 0 < s.2 ∧ Nat.gcd s.1.toNat s.2.toNat = Nat.gcd a.natAbs b.toNat) (fun s => s.1.toNat) (if a < 0 then -a else a, b) ⟨by dsimp only; split <;> omega, hb, ?_⟩ rfl rfl ?_
  · have : (if a < 0 then -a else a).toNat = a.natAbs := by split <;> omega
    dsimp only
    rw [this]
  · rintro ⟨u, v⟩ ⟨h1, h2, h4⟩
    dsimp only at h1 h2 h4
    walk_at "ev"
    refine iteD (fun hu => ?_) (fun hu => ?_)
    · walk_at "ev"
      refine WNext.of (v % u, u) rfl rfl ⟨Int.emod_nonneg _ (by omega), hu, ?_⟩ ?_
      · dsimp only
        rw [gcd_step hu (Int.le_of_lt h2)]; exact h4
      · have := Int.emod_lt_of_pos v hu
        have := Int.emod_nonneg v (show u ≠ 0 by omega)
        dsimp only
        omega
    · have : u = 0 := by omega
      subst this
      obtain ⟨e, hv⟩ := gcd_end hb hs h2 h4
      have cd : ∀ i, CDivW i v := fun i => cdiv h2 hv
      have ca := cd a
      have cb := cd b
      walk_at "ev"
      rw [lowest_out hb e]
      exact fin.of hk
end M
namespace M
open PySem L2
def F_by : AF := fun ds M k _ => ∃ (x : Rat) (w : Int), ds = [frD x, .int w] ∧ Sm x ∧ 0 < w ∧ w < 18446744073709551616 ∧ k (frD (x / (w : Rat))) M
/-- by -/
def b_by : AS := (aRet (aCall noX F_lowest [] (aCons (aOp bIx (aVar 0) (aC (.int 0))) (aCons (aOp bMul (aOp bIx (aVar 0) (aC (.int 1))) (aVar 1)) aNil))))
theorem len_by : ∀ ds M k x, F_by ds M k x → ds.length = 2 := by
  rintro ds M k x ⟨a, b, rfl, _⟩; rfl
theorem ok_by : ∀ ds M k x, F_by ds M k x → b_by { nx := fun _ M' => fin k .non M', rt := fin k } (startG 2 ds) M := by
  rintro ds M k _ ⟨x, w, rfl, hx, h0, h1, hk⟩
  unfold frD
  walk_at "st"
  unfold b_by
  have hm : IntMulOk (x.den : Int) w := mul_okR (by omega) (by omega)
  walk_at "ev"
  have hw : w.natAbs < 2 ^ 64 := by omega
  refine ⟨_, _, rfl, Int.mul_pos (den_pos' x) h0, lt_b89 (wide_lt hx.d hw) (by decide), ?_⟩
  rw [by_rat h0]
  exact fin.of hk
end M
namespace M
open PySem L2
def F_is_below : AF := fun ds M k _ => ∃ x y : Rat, ds = [frD x, frD y] ∧ Sm x ∧ Sm y ∧ k (.bl (decide (x < y))) M
/-- is_below -/
def b_is_below : AS := (aRet (aOp bLt (aOp bMul (aOp bIx (aVar 0) (aC (.int 0))) (aOp bIx (aVar 1) (aC (.int 1)))) (aOp bMul (aOp bIx (aVar 1) (aC (.int 0))) (aOp bIx (aVar 0) (aC (.int 1))))))
theorem len_is_below : ∀ ds M k x, F_is_below ds M k x → ds.length = 2 := by
  rintro ds M k x ⟨a, b, rfl, _⟩; rfl
theorem ok_is_below : ∀ ds M k x, F_is_below ds M k x → b_is_below { nx := fun _ M' => fin k .non M', rt := fin k } (startG 2 ds) M := by
  rintro ds M k _ ⟨x, y, rfl, hx, hy, hk⟩
  unfold frD
  walk_at "st"
  unfold b_is_below
  walk_at "ev"
  rw [lt_rat]
  exact fin.of hk
end M
namespace M
open PySem L2
def F_add : AF := fun ds M k _ => ∃ x y : Rat, ds = [frD x, frD y] ∧ Sm x ∧ Sm y ∧ k (frD (x + y)) M
/-- add -/
def b_add : AS := (aRet (aCall noX F_lowest [] (aCons (aOp (bAdd false) (aOp bMul (aOp bIx (aVar 0) (aC (.int 0))) (aOp bIx (aVar 1) (aC (.int 1)))) (aOp bMul (aOp bIx (aVar 1) (aC (.int 0))) (aOp bIx (aVar 0) (aC (.int 1))))) (aCons (aOp bMul (aOp bIx (aVar 0) (aC (.int 1))) (aOp bIx (aVar 1) (aC (.int 1)))) aNil))))
theorem len_add : ∀ ds M k x, F_add ds M k x → ds.length = 2 := by
  rintro ds M k x ⟨a, b, rfl, _⟩; rfl
theorem ok_add : ∀ ds M k x, F_add ds M k x → b_add { nx := fun _ M' => fin k .non M', rt := fin k } (startG 2 ds) M := by
  rintro ds M k _ ⟨x, y, rfl, hx, hy, hk⟩
  unfold frD
  walk_at "st"
  unfold b_add
  walk_at "ev"
  refine ⟨_, _, rfl, Sm.dd_pos, Sm.dd_lt hx hy, ?_⟩
  rw [add_rat]
  exact fin.of hk
end M
namespace M
open PySem L2
/-- a pool as data -/
def poD (q : Int × Rat) : D := .tup [.int q.1, frD q.2]
/-- a new pool pushed: the last one first -/
def pushP : List (Int × Rat) → Int × Rat → List (Int × Rat)
  | [], p => [p]
  | q :: st, p => if p.2 / (p.1 : Rat) < q.2 / (q.1 : Rat) then pushP st (p.1 + q.1, p.2 + q.2) else p :: q :: st
def poolsP : List (Int × Rat) → List (Int × Rat) := List.foldl pushP []
def DenD (D : Nat) (x : Rat) : Prop := ∃ a : Int, x * (D : Rat) = (a : Rat)
theorem DenD.add {D : Nat} {x y : Rat} (h : DenD D x) (g : DenD D y) : DenD D (x + y) := by
  obtain ⟨a, ha⟩ := h
  obtain ⟨b, hb⟩ := g
  exact ⟨a + b, by rw [Rat.add_mul, ha, hb, Rat.intCast_add]⟩
/-- room for fractions: values to V, bottoms dividing D -/
structure Rm (V D : Nat) : Prop where
  d0 : 0 < D
  d : D < 2 ^ 1800
  v : V < 2 ^ 1800
theorem Rm.sm {V D : Nat} (r : Rm V D) {x : Rat} (h : DenD D x) (h0 : 0 ≤ x) (h1 : x ≤ (V : Rat)) : Sm x := by
  refine Bnd.sm ⟨h, ?_, h1⟩ r.d0 ?_ ?_
  · have : (0 : Rat) ≤ (V : Rat) := Rat.natCast_nonneg
    grind
  · rw [b40_eq]; exact lt_pow r.d (by decide)
  · rw [b40_eq]; exact lt_pow (a := 3600) (by rw [show (3600 : Nat) = 1800 + 1800 from rfl, Nat.pow_add]; exact Nat.mul_lt_mul'' r.v r.d) (by decide)
theorem le_div {x : Rat} {w : Int} (h0 : 0 ≤ x) (hw : 1 ≤ w) : 0 ≤ x / (w : Rat) ∧ x / (w : Rat) ≤ x ∧ x / (w : Rat) * (w : Rat) = x := by
  have hw1 : (1 : Rat) ≤ (w : Rat) := by
    have := Rat.intCast_le_intCast.mpr hw
    exact this
  have hne : (w : Rat) ≠ 0 := by grind
  have e : x / (w : Rat) * (w : Rat) = x := by rw [Rat.div_def, Rat.mul_assoc, Rat.inv_mul_cancel _ hne, Rat.mul_one]
  have p : 0 ≤ x / (w : Rat) := by
    refine Rat.le_of_mul_le_mul_right (c := (w : Rat)) ?_ (by grind)
    rw [e]; grind
  refine ⟨p, ?_, e⟩
  have := mul_mono (x := 0) (y := (w : Rat) - 1) (t := x / (w : Rat)) (by grind) p
  grind
theorem Rm.smBy {V D : Nat} (r : Rm V D) {x : Rat} {w : Int} (h : DenD D x) (h0 : 0 ≤ x) (h1 : x ≤ (V : Rat)) (hw : 1 ≤ w) (hw2 : w < 1152921504606846976) : Sm (x / (w : Rat)) := by
  obtain ⟨p1, p2, p3⟩ := le_div h0 hw
  have hn : w.toNat < 2 ^ 60 := by omega
  refine Bnd.sm (V := V) (D := D * w.toNat) ⟨?_, ?_, by grind⟩ (Nat.mul_pos r.d0 (by omega)) ?_ ?_
  · obtain ⟨a, ha⟩ := h
    refine ⟨a, ?_⟩
    have e : ((D * w.toNat : Nat) : Rat) = (D : Rat) * (w : Rat) := by
      rw [Rat.natCast_mul]
      congr 1
      have : ((w.toNat : Nat) : Int) = w := by omega
      rw [← Rat.intCast_natCast, this]
    rw [e, ← ha]
    grind
  · have : (0 : Rat) ≤ (V : Rat) := Rat.natCast_nonneg
    grind
  · rw [b40_eq]; exact lt_pow (a := 1860) (by rw [show (1860 : Nat) = 1800 + 60 from rfl, Nat.pow_add]; exact Nat.mul_lt_mul'' r.d hn) (by decide)
  · rw [b40_eq]
    refine lt_pow (a := 3660) ?_ (by decide)
    rw [show (3660 : Nat) = 1800 + (1800 + 60) from rfl, Nat.pow_add, Nat.pow_add]
    exact Nat.mul_lt_mul'' r.v (Nat.mul_lt_mul'' r.d hn)
/-- tanks: floors from 1 on, amounts from 0 on -/
structure TkOk (V D : Nat) (ps : List (Int × Rat)) : Prop where
  w : ∀ q ∈ ps, 1 ≤ q.1
  a : ∀ q ∈ ps, 0 ≤ q.2
  d : ∀ q ∈ ps, DenD D q.2
  sw : (ps.map (·.1)).sum < 1152921504606846976
  sa : (ps.map (·.2)).sum ≤ (V : Rat)
theorem sum_nonneg : ∀ {xs : List Rat}, (∀ x ∈ xs, 0 ≤ x) → 0 ≤ xs.sum
  | [], _ => by rw [List.sum_nil]; exact Rat.le_refl
  | x :: xs, h => by
    rw [List.sum_cons]
    have h1 := h x List.mem_cons_self
    have h2 := sum_nonneg fun y hy => h y (List.mem_cons_of_mem x hy)
    grind
theorem sum_nonnegI : ∀ {xs : List Int}, (∀ x ∈ xs, 0 ≤ x) → 0 ≤ xs.sum
  | [], _ => by rw [List.sum_nil]; exact Int.le_refl _
  | x :: xs, h => by
    rw [List.sum_cons]
    have h1 := h x List.mem_cons_self
    have h2 := sum_nonnegI fun y hy => h y (List.mem_cons_of_mem x hy)
    omega
theorem TkOk.head {V D : Nat} {q : Int × Rat} {ps : List (Int × Rat)} (h : TkOk V D (q :: ps)) : q.1 < 1152921504606846976 ∧ q.2 ≤ (V : Rat) ∧ TkOk V D ps := by
  have h1 := h.sw
  have h2 := h.sa
  rw [List.map_cons, List.sum_cons] at h1 h2
  have h3 : 0 ≤ (ps.map (·.1)).sum := sum_nonnegI fun x hx => by
    obtain ⟨r, hr, rfl⟩ := List.mem_map.mp hx
    have := h.w r (List.mem_cons_of_mem _ hr)
    omega
  have h4 : 0 ≤ (ps.map (·.2)).sum := sum_nonneg fun x hx => by
    obtain ⟨r, hr, rfl⟩ := List.mem_map.mp hx
    exact h.a r (List.mem_cons_of_mem _ hr)
  have h5 := h.w q List.mem_cons_self
  have h6 := h.a q List.mem_cons_self
  exact ⟨by omega, by grind, fun r hr => h.w r (List.mem_cons_of_mem _ hr), fun r hr => h.a r (List.mem_cons_of_mem _ hr), fun r hr => h.d r (List.mem_cons_of_mem _ hr), by omega, by grind⟩
theorem TkOk.merge {V D : Nat} {p q : Int × Rat} {ps : List (Int × Rat)} (h : TkOk V D (p :: q :: ps)) : TkOk V D ((p.1 + q.1, p.2 + q.2) :: ps) := by
  obtain ⟨h1, h2, h3⟩ := h.head
  have e1 := h.sw
  have e2 := h.sa
  have w1 := h.w p List.mem_cons_self
  have w2 := h.w q (List.mem_cons_of_mem _ List.mem_cons_self)
  have a1 := h.a p List.mem_cons_self
  have a2 := h.a q (List.mem_cons_of_mem _ List.mem_cons_self)
  simp only [List.map_cons, List.sum_cons] at e1 e2
  refine ⟨fun r hr => ?_, fun r hr => ?_, fun r hr => ?_, ?_, ?_⟩
  · rcases List.mem_cons.mp hr with rfl | hr
    · show 1 ≤ p.1 + q.1
      omega
    · exact h3.w r (List.mem_cons_of_mem _ hr)
  · rcases List.mem_cons.mp hr with rfl | hr
    · show 0 ≤ p.2 + q.2
      grind
    · exact h3.a r (List.mem_cons_of_mem _ hr)
  · rcases List.mem_cons.mp hr with rfl | hr
    · exact (h.d p List.mem_cons_self).add (h.d q (List.mem_cons_of_mem _ List.mem_cons_self))
    · exact h3.d r (List.mem_cons_of_mem _ hr)
  · rw [List.map_cons, List.sum_cons]; show p.1 + q.1 + _ < _; omega
  · rw [List.map_cons, List.sum_cons]; show p.2 + q.2 + _ ≤ _; grind
def poT (q : Int × Rat) : T := .tup [.int q.1, tF q.2]
theorem poT_d (q : Int × Rat) : (poT q).d = poD q := rfl
theorem RdT.pools {M : MH} {a : Addr} {st : List (Int × Rat)} (h : M a = some (.obj (.lst (st.map poD)))) : RdT M (.ref a) (.lst (st.map poT)) := by
  refine RdT.ref ?_ ?_
  · rw [ds_map]; exact h
  · have : T.deps (st.map poT) ≤ 2 := deps_le fun q _ => by show T.dep (.tup [.int q.1, tF q.2]) ≤ 2; simp [T.dep, T.deps, tF_dep]
    omega
theorem iPopL {a : Addr} {l : List D} {x : D} {M : MH} {k : AK} (h : k x (up M a (.obj (.lst l)))) (q : M a = some (.obj (.lst (l ++ [x])))) : mPop (.ref a) [] M k := by
  refine iPop (e := x) (ds := l ++ [x]) ?_ q (by simp)
  rw [List.dropLast_concat]; exact h
theorem T_lst_ne {x : T} {xs : List T} : (T.lst (xs ++ [x])) ≠ tI [] := by
  unfold tI; intro h; injection h with h; simp at h
def F_pools_of : AF := fun ds M k _ => ∃ (d e : D) (ps : List (Int × Rat)) (V D : Nat), ds = [d, e] ∧ rdS M d = some (ps.map fun q => .int q.1) ∧ rdS M e = some (ps.map fun q => frD q.2) ∧ Rm V D ∧ (∀ i, TkOk V D (ps.take i)) ∧ ps.length ≤ 1000000 ∧ k (.lst ((poolsP ps).reverse.map poD)) M
/-- pools_of -/
def b_pools_of : AS := (aSeq (aSet 2 (aLst true aNil))
  (aSeq (aFor (wZp (aCons (aVar 0) (aCons (aVar 1) aNil))) (gTu 2 (gCo (gNm 3) (gCo (gNm 4) gNi)))
  (aSeq (aWhile (aAnd (aB (aOp (bEq true) (aVar 2) (aLst false aNil))) (aB (aCall noX F_is_below [] (aCons (aCall noX F_by [] (aCons (aVar 4) (aCons (aVar 3) aNil))) (aCons (aCall noX F_by [] (aCons (aOp bIx (aOp bIx (aVar 2) (aNeg (aC (.int 1)))) (aC (.int 1))) (aCons (aOp bIx (aOp bIx (aVar 2) (aNeg (aC (.int 1)))) (aC (.int 0))) aNil))) aNil)))))
  (aSeq (aAsg (aMt0 mPop (aVar 2)) (gTu 2 (gCo (gNm 5) (gCo (gNm 6) gNi))))
  (aPar 3 4 (aCons (aOp (bAdd false) (aVar 3) (aVar 5)) (aCons (aCall noX F_add [] (aCons (aVar 4) (aCons (aVar 6) aNil))) aNil)))))
  (aDrop (aMt mAppend (aVar 2) (aCons (aTup (aCons (aVar 3) (aCons (aVar 4) aNil))) aNil)))))
  (aRet (aFrz (aVar 2)))))
theorem len_pools_of : ∀ ds M k x, F_pools_of ds M k x → ds.length = 2 := by
  rintro ds M k x ⟨a, b, _, _, _, rfl, _⟩; rfl
theorem zip_get1 {ps : List (Int × Rat)} {i : Nat} {x : D} (h : (zipD (ps.map fun q => D.int q.1) (ps.map fun q => frD q.2))[i]? = some x) : ∃ q, ps[i]? = some q ∧ x = .tup [.int q.1, frD q.2] := by
  obtain ⟨q, r, h1, h2, h3⟩ := zip_get (ι := fun q : Int × Rat => D.int q.1) (κ := fun q : Int × Rat => frD q.2) h
  rw [h1] at h2; cases h2
  exact ⟨q, h1, h3⟩
theorem poolsP_snoc (ps : List (Int × Rat)) (q : Int × Rat) : poolsP (ps ++ [q]) = pushP (poolsP ps) q := by
  unfold poolsP; rw [List.foldl_append]; rfl
theorem pushP_len : ∀ (st : List (Int × Rat)) (p : Int × Rat), (pushP st p).length ≤ st.length + 1
  | [], p => by simp [pushP]
  | q :: st, p => by
    unfold pushP
    split
    · have := pushP_len st (p.1 + q.1, p.2 + q.2)
      rw [List.length_cons]; omega
    · simp
theorem pushP_ok {V D : Nat} : ∀ {st : List (Int × Rat)} {p : Int × Rat}, TkOk V D (p :: st) → TkOk V D (pushP st p)
  | [], p, h => h
  | q :: st, p, h => by
    unfold pushP
    split
    · exact pushP_ok h.merge
    · exact h
theorem pushP_sum1 : ∀ (st : List (Int × Rat)) (p : Int × Rat), ((pushP st p).map (·.1)).sum = p.1 + (st.map (·.1)).sum
  | [], p => by simp [pushP]
  | q :: st, p => by
    unfold pushP
    split
    · rw [pushP_sum1 st, List.map_cons, List.sum_cons]; show p.1 + q.1 + _ = _; omega
    · rw [List.map_cons, List.sum_cons]
theorem pushP_sum2 : ∀ (st : List (Int × Rat)) (p : Int × Rat), ((pushP st p).map (·.2)).sum = p.2 + (st.map (·.2)).sum
  | [], p => by simp [pushP]
  | q :: st, p => by
    unfold pushP
    split
    · rw [pushP_sum2 st, List.map_cons, List.sum_cons]; show p.2 + q.2 + _ = _; grind
    · rw [List.map_cons, List.sum_cons]
def El (D : Nat) (q : Int × Rat) : Prop := 1 ≤ q.1 ∧ 0 ≤ q.2 ∧ DenD D q.2
theorem pushP_el {D : Nat} : ∀ {st : List (Int × Rat)} {p : Int × Rat}, (∀ q ∈ st, El D q) → El D p → ∀ q ∈ pushP st p, El D q
  | [], p, _, h2 => fun q hq => by rw [show q = p from List.mem_singleton.mp hq]; exact h2
  | r :: st, p, h1, h2 => by
    unfold pushP
    split
    · have hr := h1 r List.mem_cons_self
      refine pushP_el (fun q hq => h1 q (List.mem_cons_of_mem _ hq)) ⟨?_, ?_, h2.2.2.add hr.2.2⟩
      · have := h2.1; have := hr.1; show 1 ≤ p.1 + r.1; omega
      · have := h2.2.1; have := hr.2.1; show 0 ≤ p.2 + r.2; grind
    · intro q hq
      rcases List.mem_cons.mp hq with rfl | hq
      · exact h2
      · exact h1 q hq
theorem foldP_sum : ∀ (l st : List (Int × Rat)), ((l.foldl pushP st).map (·.1)).sum = (st.map (·.1)).sum + (l.map (·.1)).sum ∧ ((l.foldl pushP st).map (·.2)).sum = (st.map (·.2)).sum + (l.map (·.2)).sum
  | [], st => by simp; exact (Rat.add_zero _).symm
  | p :: l, st => by
    obtain ⟨h1, h2⟩ := foldP_sum l (pushP st p)
    rw [List.foldl_cons, h1, h2, pushP_sum1, pushP_sum2, List.map_cons, List.map_cons, List.sum_cons, List.sum_cons]
    exact ⟨by omega, by grind⟩
theorem foldP_el {D : Nat} : ∀ {l st : List (Int × Rat)}, (∀ q ∈ st, El D q) → (∀ q ∈ l, El D q) → ∀ q ∈ l.foldl pushP st, El D q
  | [], _, h1, _ => h1
  | p :: l, st, h1, h2 => by
    rw [List.foldl_cons]
    exact foldP_el (pushP_el h1 (h2 p List.mem_cons_self)) fun q hq => h2 q (List.mem_cons_of_mem _ hq)
theorem TkOk.pools {V D : Nat} {l : List (Int × Rat)} {q0 : Int × Rat} (h : TkOk V D (l ++ [q0])) : TkOk V D (q0 :: poolsP l) := by
  have hl : ∀ q ∈ l, El D q := fun q hq => ⟨h.w q (List.mem_append_left _ hq), h.a q (List.mem_append_left _ hq), h.d q (List.mem_append_left _ hq)⟩
  have h0 : El D q0 := by
    have : q0 ∈ l ++ [q0] := by simp
    exact ⟨h.w q0 this, h.a q0 this, h.d q0 this⟩
  have hp : ∀ q ∈ q0 :: poolsP l, El D q := fun q hq => by
    rcases List.mem_cons.mp hq with rfl | hq
    · exact h0
    · exact foldP_el (fun q hq => by cases hq) hl q hq
  obtain ⟨s1, s2⟩ := foldP_sum l []
  have e1 := h.sw
  have e2 := h.sa
  rw [List.map_append, List.map_singleton, sum_snocI] at e1
  rw [List.map_append, List.map_singleton, sum_snoc] at e2
  rw [List.map_nil, List.sum_nil] at s1 s2
  refine ⟨fun q hq => (hp q hq).1, fun q hq => (hp q hq).2.1, fun q hq => (hp q hq).2.2, ?_, ?_⟩
  · rw [List.map_cons, List.sum_cons]; unfold poolsP; rw [s1]; omega
  · rw [List.map_cons, List.sum_cons]; unfold poolsP; rw [s2]; grind
theorem ok_pools_of : ∀ ds M k x, F_pools_of ds M k x → b_pools_of { nx := fun _ M' => fin k .non M', rt := fin k } (startG 7 ds) M := by
  rintro ds M k _ ⟨d, e, ps, V, Dn, rfl, hd, he, hR, hok, hlen, hk⟩
  walk_at "st"
  unfold b_pools_of
  walk_at "ev"
  intro p hp
  walk_at "ev"
  refine iZpG ?_ (rdS_new hd hp) (rdS_new he hp)
  have pl : ∀ i, (poolsP (ps.take i)).length ≤ i := by
    intro i
    induction i with
    | zero => simp [poolsP]
    | succ i ih =>
      cases q : ps[i]? with
      | none =>
        have := List.getElem?_eq_none_iff.mp q
        rw [List.take_of_length_le (by omega)]
        rw [List.take_of_length_le (by omega)] at ih
        omega
      | some x =>
        rw [take_succ q, poolsP_snoc]
        have := pushP_len (poolsP (ps.take i)) x
        omega
  refine for_go (fun i Γ M' => i ≤ ps.length ∧ M' = up M p (.obj (.lst ((poolsP (ps.take i)).reverse.map poD))) ∧ ∃ x3 x4 x5 x6, Γ = [some d, some e, some (.ref p), x3, x4, x5, x6]) ⟨Nat.zero_le _, rfl, _, _, _, _, rfl⟩ ?_ ?_
  · rintro i Γ _ x hx ⟨hi, rfl, x3, x4, x5, x6, rfl⟩
    obtain ⟨q0, hq, rfl⟩ := zip_get1 hx
    have hl : i < ps.length := (List.getElem?_eq_some_iff.mp hq).1
    refine ⟨⟨rdS_new hd hp, rdS_new he hp⟩, ?_⟩
    have hT : TkOk V Dn (q0 :: poolsP (ps.take i)) := by
      have := hok (i + 1)
      rw [take_succ hq] at this
      exact this.pools
    have hpl := pl i
    have hnext : poolsP (ps.take (i + 1)) = pushP (poolsP (ps.take i)) q0 := by rw [take_succ hq, poolsP_snoc]
    walk_at "ev"
    refine while_st (α := List (Int × Rat) × (Int × Rat) × Option D × Option D) (fun s => [some d, some e, some (.ref p), some (.int s.2.1.1), some (frD s.2.1.2), s.2.2.1, s.2.2.2]) (fun s => up M p (.obj (.lst (s.1.reverse.map poD)))) (fun s => pushP s.1 s.2.1 = pushP (poolsP (ps.take i)) q0 ∧ TkOk V Dn (s.2.1 :: s.1) ∧ s.1.length ≤ i) (fun s => s.1.length) (poolsP (ps.take i), q0, x5, x6) ⟨rfl, hT, hpl⟩ rfl rfl ?_
    rintro ⟨st, ⟨w, a⟩, y5, y6⟩ ⟨h1, h2, h3⟩
    dsimp only at h1 h2 h3
    obtain ⟨w2, a2, hst⟩ := h2.head
    have w1 := h2.w (w, a) List.mem_cons_self
    have a1 := h2.a (w, a) List.mem_cons_self
    have d1 := h2.d (w, a) List.mem_cons_self
    dsimp only at w1 a1 d1 w2 a2
    have fini : pushP (poolsP (ps.take i)) q0 = (w, a) :: st → up M p (.obj (.lst (st.reverse.map poD ++ [D.tup [.int w, frD a]]))) = up M p (.obj (.lst ((poolsP (ps.take (i + 1))).reverse.map poD))) := fun z => by
      rw [hnext, z, List.reverse_cons, List.map_append]; rfl
    have hs : (st.reverse.map poD).length < sizeLine := by rw [List.length_map, List.length_reverse, sizeLine_eq]; omega
    have e0 : up M p (.obj (.lst (st.reverse.map poD))) p = some (.obj (.lst (st.reverse.map poD))) := up_same
    walk_at "ev"
    cases st with
    | nil =>
      refine iEqE (neg := true) ?_ rfl (RdT.pools (st := []) e0) (RdT.ints (ns := []))
      walk_at "ev"
      rw [up_up]
      exact ⟨hl, fini h1.symm, _, _, _, _, rfl⟩
    | cons q r =>
      refine iEqN (neg := true) ?_ (by rw [List.reverse_cons, List.map_append]; exact T_lst_ne) (RdT.pools (st := (q :: r).reverse) e0) (RdT.ints (ns := []))
      walk_at "ev"
      obtain ⟨w4, a4, hr⟩ := hst.head
      have w3 := hst.w q List.mem_cons_self
      have a3 := hst.a q List.mem_cons_self
      have d3 := hst.d q List.mem_cons_self
      have hlast : atI ((q :: r).reverse.map poD) (-1) = some (.tup [.int q.1, frD q.2]) := by
        rw [List.reverse_cons, List.map_append]
        exact L2.atI_last _ _
      have epop : up M p (.obj (.lst ((q :: r).reverse.map poD))) p = some (.obj (.lst (r.reverse.map poD ++ [.tup [.int q.1, frD q.2]]))) := by
        rw [up_same, List.reverse_cons, List.map_append]; rfl
      have sa := hR.sm d1 a1 a2
      have sq := hR.sm d3 a3 a4
      refine ⟨a, w, rfl, sa, by omega, by omega, ?_⟩
      walk_at "ev"
      refine ⟨q.2, q.1, rfl, sq, by omega, by omega, ?_⟩
      refine ⟨_, _, rfl, hR.smBy d1 a1 a2 w1 w2, hR.smBy d3 a3 a4 w3 w4, ?_⟩
      walk_at "ev"
      refine iteD (fun hlt => ?_) (fun hlt => ?_)
      · refine iKMt0 ?_ e0
        refine iPopL ?_ epop
        rw [up_up]
        walk_at "ev"
        refine ⟨a, q.2, rfl, sa, sq, ?_⟩
        refine WNext.of (r, (w + q.1, a + q.2), some (.int q.1), some (frD q.2)) rfl rfl ⟨?_, h2.merge, ?_⟩ (Nat.lt_succ_self _)
        · rw [← h1, pushP, if_pos hlt]
        · rw [List.length_cons] at h3; show r.length ≤ i; omega
      · clear epop hlast
        walk_at "ev"
        rw [up_up]
        refine ⟨hl, fini ?_, _, _, _, _, rfl⟩
        rw [← h1, pushP, if_neg hlt]
  · rintro Γ _ ⟨hi, rfl, x3, x4, x5, x6, rfl⟩
    refine ⟨⟨rdS_new hd hp, rdS_new he hp⟩, ?_⟩
    have hl : (zipD (ps.map fun q => D.int q.1) (ps.map fun q => frD q.2)).length = ps.length := by
      clear hd he hok hlen hi pl hk
      induction ps with
      | nil => rfl
      | cons q ps ih => rw [List.map_cons, List.map_cons, zipD, List.length_cons, ih, List.length_cons]
    walk_at "ev"
    rw [dl_up hp, hl, List.take_length]
    exact fin.of hk
end M
namespace M
open PySem L2
/-- places, whole -/
def plI (ps : List (Int × Rat)) (k : Nat) : Int := ((ps.take k).map (·.1)).sum
/-- places -/
def plR (ps : List (Int × Rat)) (k : Nat) : Rat := (plI ps k : Rat)
/-- heaps -/
def hpR (ps : List (Int × Rat)) (k : Nat) : Rat := ((ps.take k).map (·.2)).sum
/-- the pool of a segment -/
def poolS (ps : List (Int × Rat)) (q : Nat × Nat) : Int × Rat := (plI ps q.2 - plI ps q.1, hpR ps q.2 - hpR ps q.1)
theorem plI_succ {ps : List (Int × Rat)} {i : Nat} {q : Int × Rat} (h : ps[i]? = some q) : plI ps (i + 1) = plI ps i + q.1 := by
  unfold plI
  rw [take_succ h, List.map_append, List.map_singleton, sum_snocI]
theorem hpR_succ {ps : List (Int × Rat)} {i : Nat} {q : Int × Rat} (h : ps[i]? = some q) : hpR ps (i + 1) = hpR ps i + q.2 := by
  unfold hpR
  rw [take_succ h, List.map_append, List.map_singleton, sum_snoc]
theorem plR_strict {ps : List (Int × Rat)} (h : ∀ q ∈ ps, 1 ≤ q.1) : ∀ i j, i < j → j ≤ ps.length → plR ps i < plR ps j := by
  have step : ∀ i, i < ps.length → plI ps i < plI ps (i + 1) := fun i hi => by
    have e := List.getElem?_eq_getElem hi
    rw [plI_succ e]
    have := h _ (List.mem_of_getElem? e)
    omega
  have go : ∀ i d, i + d + 1 ≤ ps.length → plI ps i < plI ps (i + d + 1) := by
    intro i d
    induction d with
    | zero => intro hd; exact step i (by omega)
    | succ d ih =>
      intro hd
      have h1 := ih (by omega)
      have h2 := step (i + d + 1) (by omega)
      show plI ps i < plI ps (i + (d + 1) + 1)
      rw [show i + (d + 1) + 1 = i + d + 1 + 1 by omega]
      omega
  intro i j hij hj
  have := go i (j - i - 1) (by omega)
  rw [show i + (j - i - 1) + 1 = j by omega] at this
  exact Rat.intCast_lt_intCast.mpr this
theorem poolS_slope (ps : List (Int × Rat)) (b e : Nat) : (poolS ps (b, e)).2 / ((poolS ps (b, e)).1 : Rat) = slope (plR ps) (hpR ps) b e := by
  unfold poolS slope plR
  rw [Rat.intCast_sub]
theorem link {ps : List (Int × Rat)} {s : Nat} : ∀ {st : List (Nat × Nat)} {b e : Nat}, Stk (plR ps) (hpR ps) s b st → pushP (st.map (poolS ps)) (poolS ps (b, e)) = (pushS (plR ps) (hpR ps) st b e).map (poolS ps)
  | [], b, e, _ => rfl
  | q :: st, b, e, h => by
    cases h with
    | @cons b' _ _ h' lt p up =>
      rw [List.map_cons, pushP, pushS, poolS_slope, poolS_slope]
      by_cases z : slope (plR ps) (hpR ps) b e < slope (plR ps) (hpR ps) b' b
      · rw [if_pos z, if_pos z]
        have e1 : ((poolS ps (b, e)).1 + (poolS ps (b', b)).1, (poolS ps (b, e)).2 + (poolS ps (b', b)).2) = poolS ps (b', e) := by
          unfold poolS
          refine Prod.ext ?_ ?_
          · show plI ps e - plI ps b + (plI ps b - plI ps b') = plI ps e - plI ps b'
            omega
          · show hpR ps e - hpR ps b + (hpR ps b - hpR ps b') = hpR ps e - hpR ps b'
            grind
        rw [e1]
        exact link h'
      · rw [if_neg z, if_neg z]; rfl
theorem pools_segs {ps : List (Int × Rat)} (h : ∀ q ∈ ps, 1 ≤ q.1) : ∀ i, i ≤ ps.length → ∃ segs, Stk (plR ps) (hpR ps) 0 i segs ∧ poolsP (ps.take i) = segs.map (poolS ps) := by
  intro i
  induction i with
  | zero => intro _; exact ⟨[], .nil, rfl⟩
  | succ i ih =>
    intro hi
    obtain ⟨segs, h1, h2⟩ := ih (by omega)
    have e := List.getElem?_eq_getElem (show i < ps.length by omega)
    have st := plR_strict h
    refine ⟨pushS (plR ps) (hpR ps) segs i (i + 1), Stk.push (N := ps.length) st h1 (Nat.lt_succ_self _) hi (InPool.one (st i (i + 1) (Nat.lt_succ_self _) hi)), ?_⟩
    rw [take_succ e, poolsP_snoc, h2, ← link h1]
    congr 1
    unfold poolS
    refine Prod.ext ?_ ?_
    · show _ = plI ps (i + 1) - plI ps i
      rw [plI_succ e]; omega
    · show _ = hpR ps (i + 1) - hpR ps i
      rw [hpR_succ e]; grind
end M
namespace M
open PySem L2
/-- the floor of a tank -/
def flI (ps : List (Int × Rat)) (k : Nat) : Int := plI ps (k + 1) - plI ps k
/-- the amounts at rest, by segments -/
def restL (ps : List (Int × Rat)) : List (Nat × Nat) → List Rat
  | [] => []
  | (b, e) :: st => restL ps st ++ (List.range (e - b)).map fun j => slope (plR ps) (hpR ps) b e * (flI ps (b + j) : Rat)
theorem fl_get {ps : List (Int × Rat)} {i : Nat} (h : i < ps.length) : (ps.map fun q => D.int q.1)[i]? = some (.int (flI ps i)) := by
  have e := List.getElem?_eq_getElem h
  unfold flI
  rw [List.getElem?_map, plI_succ e, e]
  show some (D.int _) = _
  rw [show plI ps i + ps[i].1 - plI ps i = ps[i].1 by omega]
theorem Stk.suffix {P H : Nat → Rat} {s n : Nat} : ∀ {l T : List (Nat × Nat)}, Stk P H s n (l ++ T) → ∃ b, Stk P H s b T ∧ b ≤ n
  | [], T, h => ⟨n, h, Nat.le_refl _⟩
  | q :: l, T, h => by
    cases h with
    | cons h' lt _ _ =>
      obtain ⟨b, h1, h2⟩ := Stk.suffix h'
      exact ⟨b, h1, by omega⟩
theorem share_rat {x : Rat} {f w : Int} (hw : 0 < w) : mkRat (x.num * f) ((x.den : Int) * w).toNat = x / (w : Rat) * (f : Rat) := by
  have h := by_rat (x := x) hw
  rw [← h, show (f : Rat) = mkRat f 1 from (Rat.mkRat_one f).symm, Rat.mkRat_mul_mkRat, Nat.mul_one]
def F_rest_of : AF := fun ds M k _ => ∃ (d e : D) (ps : List (Int × Rat)) (V D : Nat), ds = [d, e] ∧ rdS M d = some (ps.map fun q => .int q.1) ∧ rdS M e = some (ps.map fun q => frD q.2) ∧ Rm V D ∧ (∀ i, TkOk V D (ps.take i)) ∧ ps.length ≤ 1000000 ∧
  ∀ segs, Stk (plR ps) (hpR ps) 0 ps.length segs → k (.lst ((restL ps segs).map frD)) M
/-- rest_of -/
def b_rest_of : AS := (aSeq (aSet 2 (aLst true aNil))
  (aSeq (aSet 3 (aC (.int 0)))
  (aSeq (aFor (wLst (aCall noX F_pools_of [] (aCons (aVar 0) (aCons (aVar 1) aNil)))) (gTu 2 (gCo (gNm 4) (gCo (gNm 5) gNi)))
  (aSeq (aSet 6 (aC (.int 0)))
  (aWhile (aB (aOp bLt (aVar 6) (aVar 4)))
  (aSeq (aDrop (aMt mAppend (aVar 2) (aCons (aCall noX F_lowest [] (aCons (aOp bMul (aOp bIx (aVar 5) (aC (.int 0))) (aOp bIx (aVar 0) (aVar 3))) (aCons (aOp bMul (aOp bIx (aVar 5) (aC (.int 1))) (aVar 4)) aNil))) aNil)))
  (aSeq (aAug 6 (aOp bIx (aVar 0) (aVar 3)))
  (aAug 3 (aC (.int 1))))))))
  (aRet (aFrz (aVar 2))))))
theorem len_rest_of : ∀ ds M k x, F_rest_of ds M k x → ds.length = 2 := by
  rintro ds M k x ⟨a, b, _, _, _, rfl, _⟩; rfl
def endS : List (Nat × Nat) → Nat
  | [] => 0
  | q :: _ => q.2
theorem Stk.endS {P H : Nat → Rat} {n : Nat} {T : List (Nat × Nat)} (h : Stk P H 0 n T) : n = M.endS T := by
  cases h <;> rfl
theorem last_of {l T : List (Nat × Nat)} {s : Nat × Nat} (h : (l ++ T).reverse[T.length]? = some s) : ∃ l', l = l' ++ [s] := by
  rw [List.reverse_append, List.getElem?_append_right (by simp), List.length_reverse, Nat.sub_self] at h
  cases q : l.reverse with
  | nil => rw [q] at h; cases h
  | cons x r =>
    rw [q] at h
    cases h
    refine ⟨r.reverse, ?_⟩
    have := congrArg List.reverse q
    rw [List.reverse_reverse, List.reverse_cons] at this
    exact this
theorem plI_strict {ps : List (Int × Rat)} (h : ∀ q ∈ ps, 1 ≤ q.1) {i j : Nat} (hij : i < j) (hj : j ≤ ps.length) : plI ps i < plI ps j := Rat.intCast_lt_intCast.mp (plR_strict h i j hij hj)
theorem TkOk.mem {V D : Nat} : ∀ {ps : List (Int × Rat)}, TkOk V D ps → ∀ q ∈ ps, q.1 < 1152921504606846976 ∧ q.2 ≤ (V : Rat)
  | [], _, q, hq => by cases hq
  | p :: ps, h, q, hq => by
    obtain ⟨h1, h2, h3⟩ := h.head
    rcases List.mem_cons.mp hq with rfl | hq
    · exact ⟨h1, h2⟩
    · exact TkOk.mem h3 q hq
theorem restL_len {ps : List (Int × Rat)} {P H : Nat → Rat} {n : Nat} : ∀ {T : List (Nat × Nat)}, Stk P H 0 n T → (restL ps T).length = n
  | [], h => by cases h; rfl
  | q :: T, h => by
    cases h with
    | cons h lt _ _ => rw [restL, List.length_append, List.length_map, List.length_range, restL_len h]; omega
theorem ok_rest_of : ∀ ds M k x, F_rest_of ds M k x → b_rest_of { nx := fun _ M' => fin k .non M', rt := fin k } (startG 7 ds) M := by
  rintro ds M k _ ⟨d, e, ps, V, Dn, rfl, hd, he, hR, hok, hlen, hk⟩
  walk_at "st"
  unfold b_rest_of
  have h0 := hok ps.length
  rw [List.take_length] at h0
  obtain ⟨segs, hs, hp⟩ := pools_segs h0.w ps.length (Nat.le_refl _)
  rw [List.take_length] at hp
  walk_at "ev"
  intro p hp0
  walk_at "ev"
  refine ⟨d, e, ps, V, Dn, rfl, rdS_new hd hp0, rdS_new he hp0, hR, hok, hlen, ?_⟩
  rw [hp]
  walk_at "ev"
  refine for_go (fun i Γ M' => ∃ l T, segs = l ++ T ∧ T.length = i ∧ M' = up M p (.obj (.lst ((restL ps T).map frD))) ∧ ∃ x4 x5 x6, Γ = [some d, some e, some (.ref p), some (.int ((endS T : Nat) : Int)), x4, x5, x6]) ⟨segs, [], (List.append_nil _).symm, rfl, rfl, _, _, _, rfl⟩ ?_ ?_
  · rintro i Γ _ x hx ⟨l, T, hlT, rfl, rfl, x4, x5, x6, rfl⟩
    rw [← List.map_reverse, List.map_map] at hx
    obtain ⟨sg, hsg, rfl⟩ := map_get hx
    rw [hlT] at hsg
    obtain ⟨l', rfl⟩ := last_of hsg
    rw [List.append_assoc] at hlT
    have hs' := hs
    rw [hlT] at hs'
    obtain ⟨b', hb', hbn⟩ := Stk.suffix hs'
    obtain ⟨b, e', rfl, hbT, hlt, hen⟩ : ∃ b e', sg = (b, e') ∧ Stk (plR ps) (hpR ps) 0 b T ∧ b < e' ∧ e' ≤ ps.length := by
      cases hb' with
      | cons h lt _ _ => exact ⟨_, _, rfl, h, lt, hbn⟩
    have hbe := hbT.endS
    subst hbe
    refine ⟨trivial, ?_⟩
    have hmem : poolS ps (endS T, e') ∈ poolsP ps := by
      rw [hp, hlT, List.map_append]
      exact List.mem_append_right _ (List.mem_map.mpr ⟨_, List.mem_append_left _ (List.mem_singleton.mpr rfl), rfl⟩)
    have hT : TkOk V Dn (poolsP ps) := by
      obtain ⟨q, hq⟩ : ∃ q, ps[ps.length - 1]? = some q := ⟨ps[ps.length - 1], List.getElem?_eq_getElem (by omega)⟩
      have h9 : TkOk V Dn (ps.take (ps.length - 1) ++ [q]) := by
        have := take_succ hq
        rw [show ps.length - 1 + 1 = ps.length by omega, List.take_length] at this
        rw [← this]; exact h0
      have h8 := pushP_ok h9.pools
      rw [← poolsP_snoc, ← take_succ hq, show ps.length - 1 + 1 = ps.length by omega, List.take_length] at h8
      exact h8
    have hw1 := hT.w _ hmem
    have ha1 := hT.a _ hmem
    have hd1 := hT.d _ hmem
    obtain ⟨hw2, ha2⟩ := hT.mem _ hmem
    have hsl : (poolS ps (endS T, e')).2 / ((poolS ps (endS T, e')).1 : Rat) = slope (plR ps) (hpR ps) (endS T) e' := poolS_slope ps _ _
    have hsm := hR.sm hd1 ha1 ha2
    have hw0 : (poolS ps (endS T, e')).1 = plI ps e' - plI ps (endS T) := rfl
    show gTu 2 _ (D.tup [.int (poolS ps (endS T, e')).1, frD (poolS ps (endS T, e')).2]) _ _ _
    generalize poolS ps (endS T, e') = q at hw1 ha1 hd1 hw2 ha2 hsl hsm hw0 ⊢
    walk_at "ev"
    refine while_st (α := Nat) (fun j => [some d, some e, some (.ref p), some (.int ((endS T + j : Nat) : Int)), some (.int q.1), some (.tup [.int q.2.num, .int (q.2.den : Int)]), some (.int (plI ps (endS T + j) - plI ps (endS T)))]) (fun j => up M p (.obj (.lst ((restL ps T ++ (List.range j).map fun i => slope (plR ps) (hpR ps) (endS T) e' * (flI ps (endS T + i) : Rat)).map frD)))) (fun j => endS T + j ≤ e') (fun j => e' - endS T - j) 0 (by omega) ?_ ?_ ?_
    · simp [frD]
    · simp
    · intro j hj
      have hdd : ∀ {l : List D}, rdS (up M p (.obj (.lst l))) d = some (ps.map fun q => .int q.1) := fun {l} => rdS_new hd hp0
      walk_at "ev"
      refine iteD (fun hlt2 => ?_) (fun hlt2 => ?_)
      · have hj2 : endS T + j < e' := by
          by_cases z : endS T + j = e'
          · rw [z] at hlt2; omega
          · omega
        have hat : atI (ps.map fun q => D.int q.1) ((endS T + j : Nat) : Int) = some (.int (flI ps (endS T + j))) := atI_nat (fl_get (by omega))
        have e9 := List.getElem?_eq_getElem (show endS T + j < ps.length by omega)
        have hfe : flI ps (endS T + j) = ps[endS T + j].1 := by unfold flI; rw [plI_succ e9]; omega
        have hf1 := h0.w _ (List.mem_of_getElem? e9)
        have hf2 := (h0.mem _ (List.mem_of_getElem? e9)).1
        rw [← hfe] at hf1 hf2
        have m1 : IntMulOk q.2.num (flI ps (endS T + j)) := mul_okR (by omega) (by omega)
        have m2 : IntMulOk (q.2.den : Int) q.1 := mul_okR (by omega) (by omega)
        have hdd1 := hdd (l := (restL ps T ++ (List.range j).map fun i => slope (plR ps) (hpR ps) (endS T) e' * (flI ps (endS T + i) : Rat)).map frD)
        have hw64 : q.1.natAbs < 2 ^ 64 := by omega
        have hrl := restL_len (ps := ps) hbT
        have hsz : ((restL ps T ++ (List.range j).map fun i => slope (plR ps) (hpR ps) (endS T) e' * (flI ps (endS T + i) : Rat)).map frD).length < sizeLine := by
          rw [List.length_map, List.length_append, List.length_map, List.length_range, hrl, sizeLine_eq]; omega
        walk_at "ev"
        refine ⟨_, _, rfl, Int.mul_pos (den_pos' q.2) (by omega), lt_b89 (wide_lt hsm.d hw64) (by decide), ?_⟩
        rw [share_rat (by omega), hsl]
        refine iAppend ?_ up_same hsz
        rw [up_up]
        have hdd2 := hdd (l := (restL ps T ++ (List.range j).map fun i => slope (plR ps) (hpR ps) (endS T) e' * (flI ps (endS T + i) : Rat)).map frD ++ [frD (slope (plR ps) (hpR ps) (endS T) e' * (flI ps (endS T + j) : Rat))])
        walk_at "ev"
        refine WNext.of (j + 1) ?_ ?_ (by omega) (by omega)
        · have : plI ps (endS T + j) - plI ps (endS T) + flI ps (endS T + j) = plI ps (endS T + (j + 1)) - plI ps (endS T) := by
            unfold flI
            rw [show endS T + (j + 1) = endS T + j + 1 by omega]; omega
          rw [this]
          rfl
        · simp only [List.range_succ, List.map_append, List.map_cons, List.map_nil, List.append_assoc]
      · have hj3 : endS T + j = e' := by
          by_cases z : endS T + j < e'
          · have := plI_strict h0.w z hen; omega
          · omega
        walk_at "ev"
        refine ⟨l', (endS T, e') :: T, by rw [hlT]; rfl, rfl, ?_, _, _, _, by rw [hj3]; rfl⟩
        rw [restL, show j = e' - endS T by omega]
  · rintro Γ _ ⟨l, T, hlT, hT, rfl, x4, x5, x6, rfl⟩
    rw [List.length_map, List.length_reverse, List.length_map] at hT
    have : l = [] := by
      have := congrArg List.length hlT
      rw [List.length_append] at this
      exact List.eq_nil_of_length_eq_zero (by omega)
    subst this
    rw [List.nil_append] at hlT
    subst hlT
    refine ⟨trivial, ?_⟩
    walk_at "ev"
    rw [dl_up hp0]
    exact fin.of (hk _ hs)
end M
namespace M
open PySem L2
theorem row_sum (ps : List (Int × Rat)) (σ : Rat) (b : Nat) : ∀ m : Nat, ((List.range m).map fun j => σ * (flI ps (b + j) : Rat)).sum = σ * (plR ps (b + m) - plR ps b)
  | 0 => by simp; grind
  | m + 1 => by
    rw [List.range_succ, List.map_append, List.map_singleton, sum_snoc, row_sum ps σ b m]
    have : ((flI ps (b + m) : Int) : Rat) = plR ps (b + (m + 1)) - plR ps (b + m) := by
      unfold flI plR
      rw [Rat.intCast_sub]; rfl
    rw [this]; grind
theorem restL_sum {ps : List (Int × Rat)} {n : Nat} : ∀ {T : List (Nat × Nat)}, Stk (plR ps) (hpR ps) 0 n T → (∀ q ∈ ps, 1 ≤ q.1) → n ≤ ps.length → (restL ps T).sum = hpR ps n
  | [], h, _, _ => by cases h; rfl
  | q :: T, h, hp, hn => by
    cases h with
    | cons h lt _ _ =>
      rw [restL]
      have ih := restL_sum h hp (by omega)
      have hs : ∀ (l m : List Rat), (l ++ m).sum = l.sum + m.sum := by
        intro l m
        induction l with
        | nil => rw [List.nil_append, List.sum_nil, Rat.zero_add]
        | cons x l ih => rw [List.cons_append, List.sum_cons, List.sum_cons, ih, Rat.add_assoc]
      rw [hs, ih, row_sum]
      have e := slope_mul (H := hpR ps) (plR_strict hp _ _ lt hn)
      have eb : ∀ b e : Nat, b < e → b + (e - b) = e := fun b e h => by omega
      rw [eb _ _ lt, e]
      grind
theorem Stk.pts {P H : Nat → Rat} {s n : Nat} {T : List (Nat × Nat)} (h : Stk P H s n T) : ∀ q ∈ T, q.1 < q.2 ∧ q.2 ≤ n := by
  induction h with
  | nil => intro q hq; cases hq
  | cons h lt _ _ ih =>
    intro q hq
    rcases List.mem_cons.mp hq with rfl | hq
    · exact ⟨lt, Nat.le_refl _⟩
    · have := ih q hq; omega
/-- how much is left at rest of a place within a pool -/
theorem restL_heap {ps : List (Int × Rat)} {n : Nat} : ∀ {T : List (Nat × Nat)}, Stk (plR ps) (hpR ps) 0 n T → (∀ q ∈ ps, 1 ≤ q.1) → n ≤ ps.length → ∀ q ∈ T, ∀ k, q.1 ≤ k → k ≤ q.2 → ((restL ps T).take k).sum = hpR ps q.1 + slope (plR ps) (hpR ps) q.1 q.2 * (plR ps k - plR ps q.1)
  | [], h, _, _ => fun q hq => by cases hq
  | r :: T, h, hp, hn => by
    cases h with
    | @cons b _ _ h lt _ _ =>
      have hlen := restL_len (ps := ps) h
      intro q hq k h1 h2
      rw [restL]
      rcases List.mem_cons.mp hq with rfl | hq
      · have hs : ∀ (l m : List Rat), (l ++ m).sum = l.sum + m.sum := by
          intro l m
          induction l with
          | nil => rw [List.nil_append, List.sum_nil, Rat.zero_add]
          | cons x l ih => rw [List.cons_append, List.sum_cons, List.sum_cons, ih, Rat.add_assoc]
        dsimp only at h1 h2 ⊢
        rw [List.take_append, List.take_of_length_le (by omega), hlen, ← List.map_take, hs, restL_sum h hp (by omega), List.take_range, Nat.min_eq_left (by omega), row_sum]
        have e2 : b + (k - b) = k := by omega
        rw [e2]
      · have := h.pts q hq
        rw [List.take_append_of_le_length (by omega)]
        exact restL_heap h hp (by omega) q hq k h1 h2
theorem Stk.cover {P H : Nat → Rat} {s n : Nat} {T : List (Nat × Nat)} (h : Stk P H s n T) : ∀ k, s ≤ k → k ≤ n → s < n → ∃ q ∈ T, q.1 ≤ k ∧ k ≤ q.2 := by
  induction h with
  | nil => intro k _ _ h; omega
  | @cons b e st h lt _ _ ih =>
    intro k h1 h2 _
    by_cases z : b ≤ k
    · exact ⟨(b, e), List.mem_cons_self, z, h2⟩
    · have := h.le
      obtain ⟨q, hq, h3⟩ := ih k h1 (by omega) (by omega)
      exact ⟨q, List.mem_cons_of_mem _ hq, h3⟩
/-- the rest at a place: the least straight line over it -/
theorem rest_least {ps : List (Int × Rat)} {n : Nat} {T : List (Nat × Nat)} (h : Stk (plR ps) (hpR ps) 0 n T) (hp : ∀ q ∈ ps, 1 ≤ q.1) (hn : n ≤ ps.length) (n0 : 0 < n) {k : Nat} (hk : k ≤ n) :
    (∀ i j, i ≤ k → k ≤ j → j ≤ n → i < j → ((restL ps T).take k).sum ≤ chord (plR ps) (hpR ps) i j k) ∧ ∃ i j, i ≤ k ∧ k ≤ j ∧ j ≤ n ∧ i < j ∧ ((restL ps T).take k).sum = chord (plR ps) (hpR ps) i j k := by
  obtain ⟨q, hq, h1, h2⟩ := h.cover k (Nat.zero_le _) hk n0
  have e := restL_heap h hp hn q hq k h1 h2
  have str := plR_strict hp
  have mono : ∀ i j, i ≤ j → j ≤ n → plR ps i ≤ plR ps j := fun i j h1 h2 => by
    by_cases w : i = j
    · rw [w]; exact Rat.le_refl
    · have := str i j (by omega) (by omega); grind
  have und := Stk.under str h hn q hq
  obtain ⟨p1, p2⟩ := h.pts q hq
  refine ⟨fun i j hi hj hjn hij => ?_, q.1, q.2, h1, h2, p2, p1, e⟩
  have u1 := und i (Nat.zero_le _) (by omega)
  have u2 := und j (Nat.zero_le _) hjn
  have := chord_ge (P := plR ps) (H := hpR ps) (i := i) (j := j) (k := k) (σ := slope (plR ps) (hpR ps) q.1 q.2) (a := hpR ps q.1 - slope (plR ps) (hpR ps) q.1 q.2 * plR ps q.1) (str i j hij (by omega)) (mono i k hi hk) (mono k j hj hjn) (by grind) (by grind)
  rw [e]
  grind
end M
namespace M
open PySem L2
/-- what is left of a place -/
def hp (xs : List Rat) (k : Nat) : Rat := (xs.take k).sum
theorem hp_zero (xs : List Rat) : hp xs 0 = 0 := rfl
theorem hp_succ {xs : List Rat} {k : Nat} {x : Rat} (h : xs[k]? = some x) : hp xs (k + 1) = hp xs k + x := by
  unfold hp
  rw [take_succ h, sum_snoc]
theorem sum_append (l m : List Rat) : (l ++ m).sum = l.sum + m.sum := by
  induction l with
  | nil => rw [List.nil_append, List.sum_nil, Rat.zero_add]
  | cons x l ih => rw [List.cons_append, List.sum_cons, List.sum_cons, ih, Rat.add_assoc]
theorem hp_append_lo {ys zs : List Rat} {k : Nat} (h : k ≤ ys.length) : hp (ys ++ zs) k = hp ys k := by
  unfold hp
  rw [List.take_append_of_le_length h]
theorem hp_append_hi {ys zs : List Rat} {k : Nat} : hp (ys ++ zs) (ys.length + k) = ys.sum + hp zs k := by
  unfold hp
  rw [List.take_append, List.take_of_length_le (by omega), sum_append, show ys.length + k - ys.length = k by omega]
theorem hp_len (xs : List Rat) : hp xs xs.length = xs.sum := by unfold hp; rw [List.take_length]
theorem slope_lin {P X : Nat → Rat} {i j : Nat} {c σ p : Rat} (h : P i < P j) (h1 : X i = c + σ * (P i - p)) (h2 : X j = c + σ * (P j - p)) : slope P X i j = σ := by
  have e := slope_mul (H := X) h
  have : (slope P X i j - σ) * (P j - P i) = 0 := by grind
  have h0 : P j - P i ≠ 0 := by grind
  rcases Rat.mul_eq_zero.mp this with q | q
  · grind
  · exact absurd q h0
theorem Stk.top {P H : Nat → Rat} {s n : Nat} {q : Nat × Nat} {T : List (Nat × Nat)} (h : Stk P H s n (q :: T)) : q.2 = n := by
  cases h; rfl
/-- within a pool, or between two -/
theorem Stk.inner {P H : Nat → Rat} {s n : Nat} {T : List (Nat × Nat)} (h : Stk P H s n T) : ∀ k, s < k → k < n → (∃ q ∈ T, q.1 < k ∧ k < q.2) ∨ ∃ q ∈ T, ∃ r ∈ T, q.2 = k ∧ r.1 = k ∧ q.1 < k ∧ k < r.2 ∧ slope P H q.1 q.2 ≤ slope P H r.1 r.2 := by
  induction h with
  | nil => intro k h1 h2; omega
  | @cons b e st h lt p up ih =>
    intro k h1 h2
    by_cases z : b < k
    · exact .inl ⟨(b, e), List.mem_cons_self, z, h2⟩
    · by_cases w : k < b
      · rcases ih k h1 w with ⟨q, hq, r⟩ | ⟨q, hq, r, hr, x⟩
        · exact .inl ⟨q, List.mem_cons_of_mem _ hq, r⟩
        · exact .inr ⟨q, List.mem_cons_of_mem _ hq, r, List.mem_cons_of_mem _ hr, x⟩
      · have e1 : k = b := by omega
        subst e1
        cases h with
        | nil => omega
        | @cons b' _ st' h' lt' p' up' =>
          exact .inr ⟨(b', k), List.mem_cons_of_mem _ List.mem_cons_self, (k, e), List.mem_cons_self, rfl, rfl, lt', h2, up _ _ rfl⟩
/-- what rest_of tells is the rest -/
theorem rest_stk {ps : List (Int × Rat)} {n : Nat} {T : List (Nat × Nat)} (h : Stk (plR ps) (hpR ps) 0 n T) (hp1 : ∀ q ∈ ps, 1 ≤ q.1) (hn : n ≤ ps.length) : Rest n (plR ps) (hpR ps) (hp (restL ps T)) (fun k => k = 0 ∨ k = n) := by
  have str := plR_strict hp1
  have hh := restL_heap h hp1 hn
  have hpts := h.pts
  have und := Stk.under str h hn
  have sl : ∀ q ∈ T, ∀ i, q.1 ≤ i → i + 1 ≤ q.2 → slope (plR ps) (hp (restL ps T)) i (i + 1) = slope (plR ps) (hpR ps) q.1 q.2 := fun q hq i h1 h2 => by
    have := hpts q hq
    exact slope_lin (str i (i + 1) (Nat.lt_succ_self _) (by omega)) (hh q hq i h1 (by omega)) (hh q hq (i + 1) (by omega) h2)
  refine ⟨fun k hk => ?_, fun k hk hB => ?_, fun k h1 h2 _ => ?_, fun k h1 h2 _ h4 => ?_⟩
  · by_cases z : n = 0
    · have : k = 0 := by omega
      subst this; rw [hp_zero]; exact Rat.le_refl
    · obtain ⟨q, hq, q1, q2⟩ := h.cover k (Nat.zero_le _) hk (by omega)
      have := hh q hq k q1 q2
      unfold hp
      rw [this]
      exact und q hq k (Nat.zero_le _) hk
  · rcases hB with rfl | rfl
    · rfl
    · have := restL_sum h hp1 hn
      have l := restL_len (ps := ps) h
      unfold hp
      rw [List.take_of_length_le (by omega), this]
  · rcases h.inner k h1 h2 with ⟨q, hq, q1, q2⟩ | ⟨q, hq, r, hr, e1, e2, q1, q2, le⟩
    · have s1 := sl q hq (k - 1) (by omega) (by omega)
      rw [show k - 1 + 1 = k by omega] at s1
      rw [s1, sl q hq k (by omega) (by omega)]
      exact Rat.le_refl
    · have s1 := sl q hq (k - 1) (by omega) (by omega)
      rw [show k - 1 + 1 = k by omega] at s1
      rw [s1, sl r hr k (by omega) (by omega)]
      exact le
  · rcases h.inner k h1 h2 with ⟨q, hq, q1, q2⟩ | ⟨q, hq, r, hr, e1, e2, q1, q2, le⟩
    · have s1 := sl q hq (k - 1) (by omega) (by omega)
      rw [show k - 1 + 1 = k by omega] at s1
      rw [s1, sl q hq k (by omega) (by omega)]
    · exfalso
      have := hh q hq k (by omega) (by omega)
      have e := slope_mul (H := hpR ps) (str q.1 k (by omega) (by omega))
      rw [e1] at this
      unfold hp at h4
      rw [this, e] at h4
      grind
section
variable {P H X X' Z : Nat → Rat} {B : Nat → Prop} {a b : Nat}
/-- one stretch more -/
theorem Rest.glue (s : Strict P b) (hab : a < b) (ha : B a) (no : ∀ j, a < j → j < b → ¬ B j) (r : Rest a P H X B) (r' : Rest (b - a) (fun k => P (a + k) - P a) (fun k => H (a + k) - H a) X' (fun k => k = 0 ∨ k = b - a))
    (e1 : ∀ k, k ≤ a → Z k = X k) (e2 : ∀ k, k ≤ b - a → Z (a + k) = H a + X' k) : Rest b P H Z B := by
  have sl1 : ∀ i j, i ≤ a → j ≤ a → slope P Z i j = slope P X i j := fun i j h1 h2 => by unfold slope; rw [e1 i h1, e1 j h2]
  have sl2 : ∀ i j, i ≤ b - a → j ≤ b - a → slope P Z (a + i) (a + j) = slope (fun k => P (a + k) - P a) X' i j := fun i j h1 h2 => by
    unfold slope
    rw [e2 i h1, e2 j h2]
    have : P (a + j) - P a - (P (a + i) - P a) = P (a + j) - P (a + i) := by grind
    rw [this]
    congr 1
    grind
  refine ⟨fun k hk => ?_, fun k hk hB => ?_, fun k h1 h2 h3 => ?_, fun k h1 h2 h3 h4 => ?_⟩
  · by_cases z : k ≤ a
    · rw [e1 k z]; exact r.le k z
    · have := r'.le (k - a) (by omega)
      have e := e2 (k - a) (by omega)
      rw [show a + (k - a) = k by omega] at this e
      rw [e]; grind
  · by_cases z : k ≤ a
    · rw [e1 k z]; exact r.cut k z hB
    · have kb : k = b := by
        by_cases w : k < b
        · exact absurd hB (no k (by omega) w)
        · omega
      have := r'.cut (k - a) (by omega) (.inr (by omega))
      have e := e2 (k - a) (by omega)
      rw [show a + (k - a) = k by omega] at this e
      rw [e, this]; grind
  · by_cases z : k < a
    · rw [sl1 _ _ (by omega) (by omega), sl1 _ _ (by omega) (by omega)]
      exact r.up k h1 z h3
    · have z1 : k ≠ a := fun w => h3 (by rw [w]; exact ha)
      have := r'.up (k - a) (by omega) (by omega) (by omega)
      rw [← sl2 _ _ (by omega) (by omega), ← sl2 _ _ (by omega) (by omega)] at this
      rwa [show a + (k - a - 1) = k - 1 by omega, show a + (k - a) = k by omega, show a + (k - a + 1) = k + 1 by omega] at this
  · by_cases z : k < a
    · rw [sl1 _ _ (by omega) (by omega), sl1 _ _ (by omega) (by omega)]
      rw [e1 k (by omega)] at h4
      exact r.eq k h1 z h3 h4
    · have z1 : k ≠ a := fun w => h3 (by rw [w]; exact ha)
      have e := e2 (k - a) (by omega)
      rw [show a + (k - a) = k by omega] at e
      have := r'.eq (k - a) (by omega) (by omega) (by omega) (by
        show X' (k - a) < H (a + (k - a)) - H a
        rw [show a + (k - a) = k by omega]
        grind)
      rw [← sl2 _ _ (by omega) (by omega), ← sl2 _ _ (by omega) (by omega)] at this
      rwa [show a + (k - a - 1) = k - 1 by omega, show a + (k - a) = k by omega, show a + (k - a + 1) = k + 1 by omega] at this
theorem Rest.none {P H X : Nat → Rat} {B : Nat → Prop} (e : X 0 = H 0) : Rest 0 P H X B := by
  refine ⟨fun k hk => ?_, fun k hk _ => ?_, fun k h1 h2 _ => by omega, fun k h1 h2 _ _ => by omega⟩
  · have : k = 0 := by omega
    subst this; rw [e]; exact Rat.le_refl
  · have : k = 0 := by omega
    subst this; exact e
end
end M
namespace M
open PySem L2
/-- flaps of a row of so many tanks, none twice -/
structure Flaps (n : Nat) (bs : List Int) : Prop where
  lo : ∀ b ∈ bs, 0 < b
  hi : ∀ b ∈ bs, b < (n : Int)
  nd : bs.Nodup
def F_need_flaps : AF := fun ds M k _ => ∃ (d e : D) (fs : List D) (bs : List Int), ds = [d, e] ∧ rdS M d = some fs ∧ rdT M e = some (bs.map .int) ∧ Flaps fs.length bs ∧ k .non M
/-- need_flaps -/
def b_need_flaps : AS := (aFor (wEnT (aCons (aVar 1) aNil)) (gTu 2 (gCo (gNm 2) (gCo (gNm 3) gNi)))
  (aIfS (aOr (aNot (aB (aChain (fun i j => decide (i < j)) (fun i j => decide (i < j)) (aC (.int 0)) (aVar 3) (aCB cLen (aCons (aVar 0) aNil))))) (aB (aOp (bIn false) (aVar 3) (aCut false (aVar 1) aNoPart (aPart (aVar 2))))))
  aNever
  aNext))
theorem len_need_flaps : ∀ ds M k x, F_need_flaps ds M k x → ds.length = 2 := by
  rintro ds M k x ⟨a, b, _, _, rfl, _⟩; rfl
theorem ok_need_flaps : ∀ ds M k x, F_need_flaps ds M k x → b_need_flaps { nx := fun _ M' => fin k .non M', rt := fin k } (startG 4 ds) M := by
  rintro ds M k _ ⟨d, e, fs, bs, rfl, hd, he, hf, hk⟩
  walk_at "st"
  unfold b_need_flaps
  rcases rdT_cases he with ⟨rfl, hb⟩ | he
  · walk_at "ev"
    simp only [eEnT]
    walk_at "ev"
    refine kEnT_0 ?_
    refine ⟨fun _ _ M' => M' = M, rfl, fun i Γ M' hi w => ⟨trivial, ?_⟩⟩
    subst w
    exact fin.of hk
  walk_at "ev"
  simp only [eEnT]
  walk_at "ev"
  refine kEnT_l ?_ he
  refine for_go (fun i Γ M' => M' = M ∧ ∃ a b, Γ = [some d, some e, a, b]) ⟨rfl, _, _, rfl⟩ ?_ ?_
  · rintro i Γ _ x hx ⟨rfl, a, b, rfl⟩
    obtain ⟨n, hn, rfl⟩ := enum_get hx
    refine ⟨he, ?_⟩
    have hm := List.mem_of_getElem? hn
    walk_at "ev"
    refine iteDT (hf.lo n hm) ?_
    walk_at "ev"
    refine iteNDT (hf.hi n hm) ?_
    refine iCutG ?_ he
    rw [Nat.zero_add, cut_to, ← List.map_take]
    walk_at "ev"
    refine iteDF (fun z => ?_) ?_
    · obtain ⟨j, hj⟩ := List.getElem?_of_mem z
      rw [List.getElem?_take] at hj
      by_cases q : j < i
      · rw [if_pos q] at hj
        have hj2 : j < bs.length := (List.getElem?_eq_some_iff.mp hj).1
        have := (List.getElem?_inj hj2 hf.nd).mp (hj.trans hn.symm)
        omega
      · rw [if_neg q] at hj; cases hj
    · walk_at "ev"
      exact ⟨by walk_at "tr", _, _, rfl⟩
  · rintro Γ _ ⟨rfl, a, b, rfl⟩
    exact ⟨he, fin.of hk⟩
end M
namespace M
open PySem L2
def F_need_water : AF := fun ds M k _ => ∃ (d e : D) (ns : List Int) (xs : List Rat), ds = [d, e] ∧ rdS M d = some (ns.map .int) ∧ rdS M e = some (xs.map frD) ∧ ns.length = xs.length ∧ (∀ x ∈ xs, 0 ≤ x ∧ Sm x) ∧ k .non M
/-- need_water -/
def b_need_water : AS := (aSeq (aIfS (aB (aOp (bEq true) (aCB cLen (aCons (aVar 1) aNil)) (aCB cLen (aCons (aVar 0) aNil))))
  aNever
  aNext)
  (aFor (wEn (aCons (aVar 1) aNil)) (gTu 2 (gCo (gNm 2) (gCo (gNm 3) gNi)))
  (aIfS (aB (aCall noX F_is_below [] (aCons (aVar 3) (aCons (aC (.tup [(.int 0), (.int 1)])) aNil))))
  aNever
  aNext)))
theorem len_need_water : ∀ ds M k x, F_need_water ds M k x → ds.length = 2 := by
  rintro ds M k x ⟨a, b, _, _, rfl, _⟩; rfl
theorem ok_need_water : ∀ ds M k x, F_need_water ds M k x → b_need_water { nx := fun _ M' => fin k .non M', rt := fin k } (startG 4 ds) M := by
  rintro ds M k _ ⟨d, e, ns, xs, rfl, hd, he, hl, h1, hk⟩
  walk_at "st"
  unfold b_need_water
  walk_at "ev"
  refine iteNDT (by rw [List.length_map, List.length_map, hl]) ?_
  walk_at "ev"
  refine for_go (fun i Γ M' => M' = M ∧ ∃ a b, Γ = [some d, some e, a, b]) ⟨rfl, _, _, rfl⟩ ?_ ?_
  · rintro i Γ _ x hx ⟨rfl, a, b, rfl⟩
    obtain ⟨n, hn, rfl⟩ := enum_get hx
    refine ⟨he, ?_⟩
    obtain ⟨h2, h3⟩ := h1 n (List.mem_of_getElem? hn)
    walk_at "ev"
    refine ⟨n, 0, rfl, h3, Sm.zero, ?_⟩
    walk_at "ev"
    refine iteDF (by rw [Rat.not_lt]; exact h2) ?_
    walk_at "ev"
    exact ⟨by walk_at "tr", _, _, rfl⟩
  · rintro Γ _ ⟨rfl, a, b, rfl⟩
    exact ⟨he, fin.of hk⟩
end M
namespace M
open PySem L2
def F_need_floors : AF := fun ds M k _ => ∃ (d : D) (ns : List Int), ds = [d] ∧ rdS M d = some (ns.map .int) ∧ ns ≠ [] ∧ (∀ n ∈ ns, 1 ≤ n) ∧ k .non M
/-- need_floors -/
def b_need_floors : AS := (aSeq (aIfS (aB (aOp (bEq false) (aCB cLen (aCons (aVar 0) aNil)) (aC (.int 0))))
  aNever
  aNext)
  (aFor (wEn (aCons (aVar 0) aNil)) (gTu 2 (gCo (gNm 1) (gCo (gNm 2) gNi)))
  (aIfS (aB (aOp bLt (aVar 2) (aC (.int 1))))
  aNever
  aNext)))
theorem len_need_floors : ∀ ds M k x, F_need_floors ds M k x → ds.length = 1 := by
  rintro ds M k x ⟨a, b, rfl, _⟩; rfl
theorem ok_need_floors : ∀ ds M k x, F_need_floors ds M k x → b_need_floors { nx := fun _ M' => fin k .non M', rt := fin k } (startG 3 ds) M := by
  rintro ds M k _ ⟨d, ns, rfl, hd, h0, h1, hk⟩
  walk_at "st"
  unfold b_need_floors
  walk_at "ev"
  have hl : ¬ (((ns.map D.int).length : Int) = 0) := by
    rw [List.length_map]; intro h; exact h0 (List.eq_nil_of_length_eq_zero (by omega))
  refine iteDF hl ?_
  walk_at "ev"
  refine for_go (fun i Γ M' => M' = M ∧ ∃ a b, Γ = [some d, a, b]) ⟨rfl, _, _, rfl⟩ ?_ ?_
  · rintro i Γ _ x hx ⟨rfl, a, b, rfl⟩
    obtain ⟨n, hn, rfl⟩ := enum_get hx
    refine ⟨hd, ?_⟩
    walk_at "ev"
    refine iteDF (by have := h1 n (List.mem_of_getElem? hn); omega) ?_
    walk_at "ev"
    exact ⟨by walk_at "tr", _, _, rfl⟩
  · rintro Γ _ ⟨rfl, a, b, rfl⟩
    exact ⟨hd, fin.of hk⟩
end M
namespace M
open PySem L2
/-- the ends of all stretches -/
def cutsOf (n : Nat) (bs : List Int) : List Int := 0 :: (bs ++ [(n : Int)])
def strD (n : Nat) (bs : List Int) : List D := zipD ((cutsOf n bs).map .int) (((cutsOf n bs).drop 1).map .int)
def F_stretches : AF := fun ds M k _ => ∃ (d e : D) (fs : List D) (bs : List Int), ds = [d, e] ∧ rdS M d = some fs ∧ rdT M e = some (bs.map .int) ∧ bs.length ≤ 1000000 ∧ ∀ bs' : List Int, bs'.Perm bs → bs'.Pairwise (· ≤ ·) → k (.lst (strD fs.length bs')) M
/-- stretches -/
def b_stretches : AS := (aSeq (aSet 2 (aOp (bAdd false) (aOp (bAdd false) (aLst false (aCons (aC (.int 0)) aNil)) (aCB (cSortedT false) (aCons (aVar 1) aNil))) (aLst false (aCons (aCB cLen (aCons (aVar 0) aNil)) aNil))))
  (aRet (aLZip false (aCons (aVar 2) (aCons (aCut false (aVar 2) (aPart (aC (.int 1))) aNoPart) aNil)))))
theorem len_stretches : ∀ ds M k x, F_stretches ds M k x → ds.length = 2 := by
  rintro ds M k x ⟨a, b, _, _, rfl, _⟩; rfl
theorem ok_stretches : ∀ ds M k x, F_stretches ds M k x → b_stretches { nx := fun _ M' => fin k .non M', rt := fin k } (startG 3 ds) M := by
  rintro ds M k _ ⟨d, e, fs, bs, rfl, hd, he, hl, hk⟩
  walk_at "st"
  unfold b_stretches
  walk_at "ev"
  refine iSortedT (fun bs' h1 h2 => ?_) he
  have hlen := h1.length_eq
  walk_at "ev"
  have c1 := cut_from (xs := D.int 0 :: (bs'.map D.int ++ [D.int (fs.length : Int)])) (j := 1)
  rw [show ((1 : Nat) : Int) = 1 from rfl] at c1
  refine iLzG ?_ rfl rfl
  rw [c1]
  have e : (cutsOf fs.length bs').map D.int = D.int 0 :: (bs'.map D.int ++ [D.int (fs.length : Int)]) := by
    unfold cutsOf
    rw [List.map_cons, List.map_append]; rfl
  have := hk bs' h1 h2
  unfold strD at this
  rw [List.map_drop, e] at this
  exact fin.of this
end M
namespace M
open PySem L2
/-- places of floors -/
def plI' (ns : List Int) (k : Nat) : Int := (ns.take k).sum
def pl (ns : List Int) (k : Nat) : Rat := (plI' ns k : Rat)
/-- where a row is cut: at its ends, at its bolted flaps -/
def cutB (n : Nat) (bs : List Int) (k : Nat) : Prop := k = 0 ∨ k = n ∨ (k : Int) ∈ bs
/-- water: amounts from 0 on, bottoms dividing D, together to V -/
structure WOk (V D : Nat) (xs : List Rat) : Prop where
  nn : ∀ x ∈ xs, 0 ≤ x
  d : ∀ x ∈ xs, DenD D x
  s : xs.sum ≤ (V : Rat)
theorem DenD.zero {D : Nat} : DenD D 0 := ⟨0, by rw [Rat.zero_mul]; rfl⟩
theorem DenD.sub {D : Nat} {x y : Rat} (h : DenD D x) (g : DenD D y) : DenD D (x - y) := by
  obtain ⟨a, ha⟩ := h
  obtain ⟨b, hb⟩ := g
  exact ⟨a - b, by rw [Rat.intCast_sub, ← ha, ← hb]; grind⟩
theorem DenD.sum {D : Nat} : ∀ {xs : List Rat}, (∀ x ∈ xs, DenD D x) → DenD D xs.sum
  | [], _ => DenD.zero
  | x :: xs, h => by rw [List.sum_cons]; exact (h x List.mem_cons_self).add (DenD.sum fun y hy => h y (List.mem_cons_of_mem _ hy))
theorem DenD.hp {D : Nat} {xs : List Rat} (h : ∀ x ∈ xs, DenD D x) (k : Nat) : DenD D (M.hp xs k) := DenD.sum fun x hx => h x (List.mem_of_mem_take hx)
theorem DenD.share {D L : Nat} {x w f : Rat} {wi fi : Int} (hw : w = (wi : Rat)) (hf : f = (fi : Rat)) (h0 : 1 ≤ wi) (hL : wi.toNat ∣ L) (h : DenD D x) : DenD (D * L) (x / w * f) := by
  obtain ⟨a, ha⟩ := h
  obtain ⟨q, hq⟩ := hL
  have hwz : w ≠ 0 := by
    rw [hw]
    intro z
    have : wi = 0 := Rat.intCast_inj.mp (z.trans (by rfl))
    omega
  have e1 : x / w * w = x := by rw [Rat.div_def, Rat.mul_assoc, Rat.inv_mul_cancel _ hwz, Rat.mul_one]
  have e2 : (L : Rat) = w * (q : Rat) := by
    rw [hq, Rat.natCast_mul, hw]
    congr 1
    have : ((wi.toNat : Nat) : Int) = wi := by omega
    rw [← Rat.intCast_natCast, this]
  refine ⟨a * fi * q, ?_⟩
  rw [Rat.natCast_mul, e2, Rat.intCast_mul, Rat.intCast_mul, ← ha, ← hf, Rat.intCast_natCast]
  grind
theorem WOk.hp_le {V D : Nat} {xs : List Rat} (h : WOk V D xs) (k : Nat) : 0 ≤ hp xs k ∧ hp xs k ≤ (V : Rat) := by
  have e : hp xs k + (xs.drop k).sum = xs.sum := by
    unfold hp
    rw [← sum_append, List.take_append_drop]
  have h1 : 0 ≤ hp xs k := sum_nonneg fun x hx => h.nn x (List.mem_of_mem_take hx)
  have h2 : 0 ≤ (xs.drop k).sum := sum_nonneg fun x hx => h.nn x (List.mem_of_mem_drop hx)
  have := h.s
  exact ⟨h1, by grind⟩
theorem WOk.le {V D : Nat} {xs : List Rat} (h : WOk V D xs) {x : Rat} (hx : x ∈ xs) : x ≤ (V : Rat) := by
  obtain ⟨i, hi⟩ := List.getElem?_of_mem hx
  have e := hp_succ hi
  have h1 := (h.hp_le i).1
  have h2 := (h.hp_le (i + 1)).2
  grind
theorem WOk.sm {V D : Nat} {xs : List Rat} (h : WOk V D xs) (r : Rm V D) {x : Rat} (hx : x ∈ xs) : Sm x := r.sm (h.d x hx) (h.nn x hx) (h.le hx)
theorem WOk.smS {V D : Nat} {xs : List Rat} (h : WOk V D xs) (r : Rm V D) : SmS xs := ⟨fun x hx => h.sm r hx, fun i => r.sm (DenD.hp h.d i) (h.hp_le i).1 (h.hp_le i).2⟩
/-! the cuts -/
theorem cuts_pw {n : Nat} {bs bs' : List Int} (f : Flaps n bs) (n0 : 0 < n) (h1 : bs'.Perm bs) (h2 : bs'.Pairwise (· ≤ ·)) : (cutsOf n bs').Pairwise (· < ·) := by
  have nd : bs'.Nodup := h1.nodup_iff.mpr f.nd
  have lt : bs'.Pairwise (· < ·) := by
    refine (h2.and nd).imp fun {a b} h => ?_
    obtain ⟨h3, h4⟩ := h
    omega
  unfold cutsOf
  refine List.pairwise_cons.mpr ⟨fun x hx => ?_, List.pairwise_append.mpr ⟨lt, List.pairwise_singleton _ _, fun a ha b hb => ?_⟩⟩
  · rcases List.mem_append.mp hx with hx | hx
    · exact f.lo x (h1.mem_iff.mp hx)
    · rw [List.mem_singleton] at hx; omega
  · rw [List.mem_singleton] at hb
    rw [hb]
    exact f.hi a (h1.mem_iff.mp ha)
theorem cuts_mem {n : Nat} {bs bs' : List Int} (h1 : bs'.Perm bs) (k : Nat) : (k : Int) ∈ cutsOf n bs' ↔ cutB n bs k := by
  unfold cutsOf cutB
  rw [List.mem_cons, List.mem_append, List.mem_singleton, h1.mem_iff]
  constructor
  · rintro (h | h | h)
    · exact .inl (by omega)
    · exact .inr (.inr h)
    · exact .inr (.inl (by omega))
  · rintro (h | h | h)
    · exact .inl (by omega)
    · exact .inr (.inr (by omega))
    · exact .inr (.inl h)
theorem pw_between {l : List Int} (h : l.Pairwise (· < ·)) {i : Nat} {a b x : Int} (ha : l[i]? = some a) (hb : l[i + 1]? = some b) (h1 : a < x) (h2 : x < b) : x ∉ l := by
  intro hx
  obtain ⟨j, hj⟩ := List.getElem?_of_mem hx
  have hjl := (List.getElem?_eq_some_iff.mp hj).1
  have hil := (List.getElem?_eq_some_iff.mp ha).1
  have hil2 := (List.getElem?_eq_some_iff.mp hb).1
  have pw := List.pairwise_iff_getElem.mp h
  have ea := (List.getElem?_eq_some_iff.mp ha).2
  have eb := (List.getElem?_eq_some_iff.mp hb).2
  have ej := (List.getElem?_eq_some_iff.mp hj).2
  by_cases z : j ≤ i
  · by_cases w : j = i
    · subst w; omega
    · have := pw j i hjl hil (by omega); omega
  · by_cases w : j = i + 1
    · subst w; omega
    · have := pw (i + 1) j hil2 hjl (by omega); omega
/-! a part of a row -/
def tanks (ns : List Int) (xs : List Rat) : List (Int × Rat) := ns.zip xs
theorem tanks_fst {ns : List Int} {xs : List Rat} (h : ns.length = xs.length) : (tanks ns xs).map (·.1) = ns := List.map_fst_zip (by omega)
theorem tanks_snd {ns : List Int} {xs : List Rat} (h : ns.length = xs.length) : (tanks ns xs).map (·.2) = xs := List.map_snd_zip (by omega)
theorem plR_tanks {ns : List Int} {xs : List Rat} (h : ns.length = xs.length) (k : Nat) : plR (tanks ns xs) k = pl ns k := by
  unfold plR plI pl plI'
  rw [List.map_take, tanks_fst h]
theorem hpR_tanks {ns : List Int} {xs : List Rat} (h : ns.length = xs.length) (k : Nat) : hpR (tanks ns xs) k = hp xs k := by
  unfold hpR hp
  rw [List.map_take, tanks_snd h]
theorem pl_strict {ns : List Int} (h : ∀ n ∈ ns, 1 ≤ n) : Strict (pl ns) ns.length := by
  intro i j hij hj
  have := plR_strict (ps := ns.map fun n => (n, (0 : Rat))) (fun q hq => by
    obtain ⟨n, hn, rfl⟩ := List.mem_map.mp hq
    exact h n hn) i j hij (by rw [List.length_map]; exact hj)
  have e : ∀ k, plR (ns.map fun n => (n, (0 : Rat))) k = pl ns k := fun k => by
    unfold plR plI pl plI'
    rw [List.map_take, List.map_map]
    congr 3
    exact List.map_id' ns
  rwa [e, e] at this
theorem sum_appendI (l m : List Int) : (l ++ m).sum = l.sum + m.sum := by
  induction l with
  | nil => rw [List.nil_append, List.sum_nil]; omega
  | cons x l ih => rw [List.cons_append, List.sum_cons, List.sum_cons, ih]; omega
theorem pl_part {ns : List Int} {a b k : Nat} (hk : k ≤ b - a) : pl ((ns.drop a).take (b - a)) k = pl ns (a + k) - pl ns a := by
  unfold pl plI'
  rw [List.take_take, Nat.min_eq_left hk, ← Rat.intCast_sub]
  congr 1
  rw [List.take_add, sum_appendI]
  omega
theorem hp_part {xs : List Rat} {a b k : Nat} (hk : k ≤ b - a) : hp ((xs.drop a).take (b - a)) k = hp xs (a + k) - hp xs a := by
  unfold hp
  rw [List.take_take, Nat.min_eq_left hk, List.take_add, sum_append]
  grind
theorem WOk.part {V D : Nat} {xs : List Rat} (h : WOk V D xs) (a m : Nat) : WOk V D ((xs.drop a).take m) := by
  refine ⟨fun x hx => h.nn x (List.mem_of_mem_drop (List.mem_of_mem_take hx)), fun x hx => h.d x (List.mem_of_mem_drop (List.mem_of_mem_take hx)), ?_⟩
  have e := hp_part (xs := xs) (a := a) (b := a + m) (k := m) (by omega)
  have e2 : hp ((xs.drop a).take (a + m - a)) m = ((xs.drop a).take m).sum := by
    unfold hp
    rw [show a + m - a = m by omega, List.take_take, Nat.min_self]
  have h1 := (h.hp_le a).1
  have h2 := (h.hp_le (a + m)).2
  rw [← e2, e]
  grind
theorem WOk.tk {V D : Nat} {ns : List Int} {xs : List Rat} (h : WOk V D xs) (hl : ns.length = xs.length) (h1 : ∀ n ∈ ns, 1 ≤ n) (h2 : ns.sum < 1152921504606846976) : ∀ i, TkOk V D ((tanks ns xs).take i) := by
  intro i
  have m1 : ∀ q ∈ tanks ns xs, q.1 ∈ ns ∧ q.2 ∈ xs := fun q hq => List.of_mem_zip hq
  refine ⟨fun q hq => h1 _ (m1 q (List.mem_of_mem_take hq)).1, fun q hq => h.nn _ (m1 q (List.mem_of_mem_take hq)).2, fun q hq => h.d _ (m1 q (List.mem_of_mem_take hq)).2, ?_, ?_⟩
  · rw [List.map_take, tanks_fst hl]
    have e : (ns.take i).sum + (ns.drop i).sum = ns.sum := by rw [← sum_appendI, List.take_append_drop]
    have : 0 ≤ (ns.drop i).sum := sum_nonnegI fun x hx => by have := h1 x (List.mem_of_mem_drop hx); omega
    omega
  · rw [List.map_take, tanks_snd hl]
    exact (h.hp_le i).2
/-- what rest_of tells of good water is good water -/
theorem restL_ok {V D L : Nat} {ns : List Int} {xs : List Rat} {T : List (Nat × Nat)} (h : WOk V D xs) (hl : ns.length = xs.length) (h1 : ∀ n ∈ ns, 1 ≤ n) (hL : ∀ w : Int, 1 ≤ w → w ≤ ns.sum → w.toNat ∣ L)
    (st : Stk (plR (tanks ns xs)) (hpR (tanks ns xs)) 0 ns.length T) : (restL (tanks ns xs) T).length = ns.length ∧ WOk V (D * L) (restL (tanks ns xs) T) := by
  have hlen : (tanks ns xs).length = ns.length := by unfold tanks; rw [List.length_zip]; omega
  have hp1 : ∀ q ∈ tanks ns xs, 1 ≤ q.1 := fun q hq => h1 _ (List.of_mem_zip hq).1
  have l := restL_len (ps := tanks ns xs) st
  have sub : ∀ T' n', n' ≤ ns.length → Stk (plR (tanks ns xs)) (hpR (tanks ns xs)) 0 n' T' → ∀ x ∈ restL (tanks ns xs) T', 0 ≤ x ∧ DenD (D * L) x := by
    intro T'
    induction T' with
    | nil => intro _ _ _ x hx; cases hx
    | cons q T' ih =>
      intro n' hn' h' x hx
      cases h' with
      | @cons b _ _ h'' lt p up =>
        rw [restL] at hx
        rcases List.mem_append.mp hx with hx | hx
        · exact ih b (by omega) h'' x hx
        · obtain ⟨j, hj, rfl⟩ := List.mem_map.mp hx
          have hj := List.mem_range.mp hj
          have e9 := List.getElem?_eq_getElem (show b + j < (tanks ns xs).length by omega)
          have hf : flI (tanks ns xs) (b + j) = (tanks ns xs)[b + j].1 := by unfold flI; rw [plI_succ e9]; omega
          have hf1 := hp1 _ (List.mem_of_getElem? e9)
          have str := plI_strict hp1 lt (by omega)
          have hb1 := hpR_tanks hl b
          have hb2 := hpR_tanks hl n'
          have up1 : plI (tanks ns xs) n' ≤ ns.sum := by
            have e0 : plI (tanks ns xs) n' = (ns.take n').sum := by unfold plI; rw [List.map_take, tanks_fst hl]
            have e1 : (ns.take n').sum + (ns.drop n').sum = ns.sum := by rw [← sum_appendI, List.take_append_drop]
            have : 0 ≤ (ns.drop n').sum := sum_nonnegI fun x hx => by have := h1 x (List.mem_of_mem_drop hx); omega
            omega
          have lo1 : 0 ≤ plI (tanks ns xs) b := by
            have e0 : plI (tanks ns xs) b = (ns.take b).sum := by unfold plI; rw [List.map_take, tanks_fst hl]
            have : 0 ≤ (ns.take b).sum := sum_nonnegI fun x hx => by have := h1 x (List.mem_of_mem_take hx); omega
            omega
          have hpm : hp xs b ≤ hp xs n' := by
            have e := hp_part (xs := xs) (a := b) (b := n') (k := n' - b) (Nat.le_refl _)
            rw [show b + (n' - b) = n' by omega] at e
            have := ((h.part b (n' - b)).hp_le (n' - b)).1
            grind
          have dd : DenD D (hpR (tanks ns xs) n' - hpR (tanks ns xs) b) := by
            rw [hb1, hb2]
            exact (DenD.hp h.d n').sub (DenD.hp h.d b)
          have wI : plR (tanks ns xs) n' - plR (tanks ns xs) b = ((plI (tanks ns xs) n' - plI (tanks ns xs) b : Int) : Rat) := by unfold plR; rw [Rat.intCast_sub]
          constructor
          · have c1 : 0 ≤ slope (plR (tanks ns xs)) (hpR (tanks ns xs)) b n' := by
              unfold slope
              rw [wI]
              exact (le_div (x := hpR (tanks ns xs) n' - hpR (tanks ns xs) b) (by rw [hb1, hb2]; grind) (show 1 ≤ plI (tanks ns xs) n' - plI (tanks ns xs) b by omega)).1
            have c2 : (0 : Rat) ≤ (flI (tanks ns xs) (b + j) : Rat) := by
              have : (0 : Int) ≤ flI (tanks ns xs) (b + j) := by omega
              exact_mod_cast this
            exact Rat.mul_nonneg c1 c2
          · unfold slope
            exact DenD.share (L := L) wI rfl (by omega) (hL _ (by omega) (by omega)) dd
  refine ⟨l, fun x hx => (sub T _ (Nat.le_refl _) st x hx).1, fun x hx => (sub T _ (Nat.le_refl _) st x hx).2, ?_⟩
  rw [restL_sum st hp1 (by omega), hpR_tanks hl]
  exact (h.hp_le _).2

/-- the divisors of all widths -/
def Lcm (ns : List Int) (L : Nat) : Prop := 0 < L ∧ ∀ w : Int, 1 ≤ w → w ≤ ns.sum → w.toNat ∣ L
structure RowOk (ns : List Int) : Prop where
  ne : ns ≠ []
  w : ∀ n ∈ ns, 1 ≤ n
  s : ns.sum < 1152921504606846976
  l : ns.length ≤ 1000
theorem RowOk.len {ns : List Int} (h : RowOk ns) : 0 < ns.length := List.length_pos_iff.mpr h.ne
theorem RowOk.strict {ns : List Int} (h : RowOk ns) : Strict (pl ns) ns.length := pl_strict h.w
theorem Lcm.part {ns : List Int} {L a m : Nat} (h : ∀ w : Int, 1 ≤ w → w ≤ ns.sum → w.toNat ∣ L) (h1 : ∀ n ∈ ns, 1 ≤ n) : ∀ w : Int, 1 ≤ w → w ≤ ((ns.drop a).take m).sum → w.toNat ∣ L := fun w w1 w2 => h w w1 (by
  have e0 : (ns.take a).sum + (ns.drop a).sum = ns.sum := by rw [← sum_appendI, List.take_append_drop]
  have e1 : ((ns.drop a).take m).sum + ((ns.drop a).drop m).sum = (ns.drop a).sum := by rw [← sum_appendI, List.take_append_drop]
  have g1 : 0 ≤ (ns.take a).sum := sum_nonnegI fun x hx => by have := h1 x (List.mem_of_mem_take hx); omega
  have g2 : 0 ≤ ((ns.drop a).drop m).sum := sum_nonnegI fun x hx => by have := h1 x (List.mem_of_mem_drop (List.mem_of_mem_drop hx)); omega
  omega)
theorem Flaps.length {n : Nat} : ∀ {bs : List Int}, Flaps n bs → bs.length ≤ n := by
  induction n with
  | zero =>
    intro bs h
    cases bs with
    | nil => exact Nat.le_refl _
    | cons b bs =>
      have h1 := h.lo b List.mem_cons_self
      have h2 := h.hi b List.mem_cons_self
      omega
  | succ n ih =>
    intro bs h
    have nd := h.nd.erase (n : Int)
    have := ih (bs := bs.erase (n : Int)) ⟨fun b hb => h.lo b (List.mem_of_mem_erase hb), fun b hb => by
      have h1 := h.hi b (List.mem_of_mem_erase hb)
      have h2 : b ≠ (n : Int) := fun z => by rw [z] at hb; exact h.nd.not_mem_erase hb
      omega, nd⟩
    have l : bs.length ≤ (bs.erase (n : Int)).length + 1 := by rw [List.length_erase]; split <;> omega
    omega

/-- one stretch more, by its own water at rest -/
theorem rest_part {ns ns' : List Int} {xs xs' ys zs : List Rat} {B : Nat → Prop} {a c : Nat} (hst : Strict (pl ns) ns.length) (hcn : c ≤ ns.length) (hac : a < c) (hBa : B a) (hno : ∀ j, a < j → j < c → ¬ B j) (hya : ys.length = a) (hrest : Rest a (pl ns) (hp xs) (hp ys) B)
    (hl' : ns'.length = xs'.length) (hns' : (ns.drop a).take (c - a) = ns') (hxs' : (xs.drop a).take (c - a) = xs') (pl1 : ns'.length = c - a) (zr : Rest ns'.length (plR (tanks ns' xs')) (hpR (tanks ns' xs')) (hp zs) (fun k => k = 0 ∨ k = ns'.length)) :
    Rest c (pl ns) (hp xs) (hp (ys ++ zs)) B := by
  have r' : Rest (c - a) (fun k => pl ns (a + k) - pl ns a) (fun k => hp xs (a + k) - hp xs a) (hp zs) (fun k => k = 0 ∨ k = c - a) := by
    rw [pl1] at zr
    have zz := zr.congr (H' := fun k => hp xs (a + k) - hp xs a) (X' := hp zs) (B' := fun k => k = 0 ∨ k = c - a) (fun k hk => by rw [hpR_tanks hl', ← hxs', hp_part hk]) (fun k _ => rfl) (fun k _ => Iff.rfl)
    have pe : ∀ k, k ≤ c - a → plR (tanks ns' xs') k = pl ns (a + k) - pl ns a := fun k hk => by rw [plR_tanks hl', ← hns', pl_part hk]
    have sl : ∀ (X : Nat → Rat) i j, i ≤ c - a → j ≤ c - a → slope (plR (tanks ns' xs')) X i j = slope (fun k => pl ns (a + k) - pl ns a) X i j := fun X i j h1 h2 => by unfold slope; rw [pe i h1, pe j h2]
    refine ⟨zz.le, zz.cut, fun k k1 k2 k3 => ?_, fun k k1 k2 k3 k4 => ?_⟩
    · rw [← sl _ _ _ (by omega) (by omega), ← sl _ _ _ (by omega) (by omega)]; exact zz.up k k1 k2 k3
    · rw [← sl _ _ _ (by omega) (by omega), ← sl _ _ _ (by omega) (by omega)]; exact zz.eq k k1 k2 k3 k4
  refine Rest.glue (hst.to hcn) hac hBa hno hrest r' (fun k hk => hp_append_lo (by omega)) (fun k hk => ?_)
  rw [← hya, hp_append_hi, hya]
  have := hrest.cut a (Nat.le_refl _) hBa
  rw [← this]
  conv => rhs; rw [← hya]
  rw [hp_len]

/-! the rest exists -/
theorem rest_exists {ns : List Int} {xs : List Rat} {bs : List Int} {V D L : Nat} (hr : RowOk ns) (hl : ns.length = xs.length) (hf : Flaps ns.length bs) (hL : ∀ w : Int, 1 ≤ w → w ≤ ns.sum → w.toNat ∣ L) (hw : WOk V D xs) :
    ∃ ys : List Rat, ys.length = ns.length ∧ Rest ns.length (pl ns) (hp xs) (hp ys) (cutB ns.length bs) ∧ WOk V (D * L) ys := by
  have hst := hr.strict
  have go : ∀ (d a : Nat), a + d = ns.length → cutB ns.length bs a → (∃ ys : List Rat, ys.length = a ∧ Rest a (pl ns) (hp xs) (hp ys) (cutB ns.length bs) ∧ ∀ y ∈ ys, 0 ≤ y ∧ DenD (D * L) y) →
      ∃ ys : List Rat, ys.length = ns.length ∧ Rest ns.length (pl ns) (hp xs) (hp ys) (cutB ns.length bs) ∧ ∀ y ∈ ys, 0 ≤ y ∧ DenD (D * L) y := by
    intro d
    induction d using Nat.strongRecOn with
    | _ d ih =>
      intro a had hBa ⟨ys, hya, hrest, hy⟩
      by_cases z : a = ns.length
      · subst z; exact ⟨ys, hya, hrest, hy⟩
      · obtain ⟨c, c1, c2, c3, c4⟩ := contact_hi (T := cutB ns.length bs) (b := ns.length) (.inr (.inl rfl)) (ns.length - (a + 1)) (a + 1) (by omega)
        have hac : a < c := c1
        have hno : ∀ j, a < j → j < c → ¬ cutB ns.length bs j := fun j j1 j2 => c4 j j1 j2
        refine ih (ns.length - c) (by omega) c (by omega) c3 ?_
        have pl1 : ((ns.drop a).take (c - a)).length = c - a := by rw [List.length_take, List.length_drop]; omega
        have pl2 : ((xs.drop a).take (c - a)).length = c - a := by rw [List.length_take, List.length_drop]; omega
        have pw1 : ∀ n ∈ (ns.drop a).take (c - a), 1 ≤ n := fun n hn => hr.w n (List.mem_of_mem_drop (List.mem_of_mem_take hn))
        have hLp : ∀ w : Int, 1 ≤ w → w ≤ ((ns.drop a).take (c - a)).sum → w.toNat ∣ L := Lcm.part (L := L) hL hr.w
        have hwp := hw.part a (c - a)
        generalize hns' : (ns.drop a).take (c - a) = ns' at pl1 pw1 hLp
        generalize hxs' : (xs.drop a).take (c - a) = xs' at pl2 hwp
        have hl' : ns'.length = xs'.length := by omega
        have htl : (tanks ns' xs').length = ns'.length := by unfold tanks; rw [List.length_zip]; omega
        obtain ⟨segs, hs, _⟩ := pools_segs (ps := tanks ns' xs') (fun q hq => pw1 _ (List.of_mem_zip hq).1) ns'.length (by omega)
        obtain ⟨zl, zw⟩ := restL_ok hwp hl' pw1 hLp hs
        have zr := rest_stk hs (fun q hq => pw1 _ (List.of_mem_zip hq).1) (by omega)
        generalize restL (tanks ns' xs') segs = zs at zl zw zr
        refine ⟨ys ++ zs, by rw [List.length_append]; omega, ?_, ?_⟩
        · exact rest_part hst c2 hac hBa hno hya hrest hl' hns' hxs' pl1 zr
        · intro y hy'
          rcases List.mem_append.mp hy' with h | h
          · exact hy y h
          · exact ⟨zw.nn y h, zw.d y h⟩
  obtain ⟨ys, h1, h2, h3⟩ := go ns.length 0 (by omega) (.inl rfl) ⟨[], rfl, Rest.none rfl, by simp⟩
  refine ⟨ys, h1, h2, fun y h => (h3 y h).1, fun y h => (h3 y h).2, ?_⟩
  have := h2.cut ns.length (Nat.le_refl _) (.inr (.inl rfl))
  rw [← hp_len, h1, this]
  exact (hw.hp_le _).2
/-- two waters with the same heaps are one -/
theorem hp_ext {ys zs : List Rat} (hl : ys.length = zs.length) (h : ∀ k, k ≤ ys.length → hp ys k = hp zs k) : ys = zs := by
  refine List.ext_getElem hl fun i h1 h2 => ?_
  have e1 := hp_succ (List.getElem?_eq_getElem h1)
  have e2 := hp_succ (List.getElem?_eq_getElem h2)
  have e3 := h i (by omega)
  have e4 := h (i + 1) h1
  grind
open Classical in
/-- the water at rest -/
noncomputable def settle (ns : List Int) (xs : List Rat) (bs : List Int) : List Rat :=
  if h : ∃ ys : List Rat, ys.length = ns.length ∧ Rest ns.length (pl ns) (hp xs) (hp ys) (cutB ns.length bs) then Classical.choose h else []
theorem settle_eq {ns : List Int} {xs ys : List Rat} {bs : List Int} (hr : RowOk ns) (h1 : ys.length = ns.length) (h2 : Rest ns.length (pl ns) (hp xs) (hp ys) (cutB ns.length bs)) : settle ns xs bs = ys := by
  have h : ∃ ys : List Rat, ys.length = ns.length ∧ Rest ns.length (pl ns) (hp xs) (hp ys) (cutB ns.length bs) := ⟨ys, h1, h2⟩
  unfold settle
  rw [dif_pos h]
  obtain ⟨g1, g2⟩ := Classical.choose_spec h
  exact hp_ext (g1.trans h1.symm) fun k hk => g2.one hr.strict (.inl rfl) (.inr (.inl rfl)) h2 (by omega)
section
variable {ns : List Int} {xs : List Rat} {bs bs' : List Int} {V D L : Nat}
theorem settle_ok (hr : RowOk ns) (hl : ns.length = xs.length) (hf : Flaps ns.length bs) (hL : Lcm ns L) (hw : WOk V D xs) : (settle ns xs bs).length = ns.length ∧ Rest ns.length (pl ns) (hp xs) (hp (settle ns xs bs)) (cutB ns.length bs) ∧ WOk V (D * L) (settle ns xs bs) := by
  obtain ⟨ys, h1, h2, h3⟩ := rest_exists hr hl hf hL.2 hw
  rw [settle_eq hr h1 h2]
  exact ⟨h1, h2, h3⟩
theorem settle_perm (hr : RowOk ns) (hl : ns.length = xs.length) (hf : Flaps ns.length bs) (hL : Lcm ns L) (hw : WOk V D xs) (hp : bs'.Perm bs) : settle ns xs bs' = settle ns xs bs := by
  obtain ⟨h1, h2, h3⟩ := settle_ok hr hl hf hL hw
  refine settle_eq hr h1 (h2.congr (fun _ _ => rfl) (fun _ _ => rfl) fun k _ => ?_)
  unfold cutB
  rw [hp.mem_iff]
end
end M
namespace M
open PySem L2
/-- what all widths to 72 divide -/
def L72 : Nat := 5624043567677125526551547131200
theorem L72_pos : 0 < L72 := by decide
theorem L72_lt : L72 < 2 ^ 103 := by decide +kernel
theorem L72_dvd {c : Nat} (h1 : 1 ≤ c) (h2 : c ≤ 72) : c ∣ L72 := by
  have : ∀ c : Fin 73, c.val = 0 ∨ c.val ∣ L72 := by decide +kernel
  rcases this ⟨c, by omega⟩ with h | h
  · have h : c = 0 := h
    omega
  · exact h
theorem Lcm.l72 {ns : List Int} (h : ns.sum ≤ 72) : Lcm ns L72 := ⟨L72_pos, fun w w1 w2 => L72_dvd (by omega) (by omega)⟩
/-- a row of the laws -/
structure Row (ns : List Int) : Prop where
  ne : ns ≠ []
  l : ns.length ≤ 8
  w : ∀ n ∈ ns, 1 ≤ n ∧ n ≤ 9
theorem sum_le9 : ∀ {ns : List Int}, (∀ n ∈ ns, n ≤ 9) → ns.sum ≤ 9 * (ns.length : Int)
  | [], _ => by simp
  | n :: ns, h => by
    have h1 := h n List.mem_cons_self
    have h2 := sum_le9 fun m hm => h m (List.mem_cons_of_mem n hm)
    rw [List.sum_cons, List.length_cons]
    omega
theorem Row.sum {ns : List Int} (h : Row ns) : ns.sum ≤ 72 := by
  have := sum_le9 fun n hn => (h.w n hn).2
  have := h.l
  omega
theorem Row.ok {ns : List Int} (h : Row ns) : RowOk ns := ⟨h.ne, fun n hn => (h.w n hn).1, by have := h.sum; omega, by have := h.l; omega⟩
theorem Row.lcm {ns : List Int} (h : Row ns) : Lcm ns L72 := Lcm.l72 h.sum
theorem Amt.wok {xs : List Rat} (h : ∀ x ∈ xs, Amt x) (hl : xs.length ≤ 8) : WOk 8000000000008 L60 xs := by
  refine ⟨fun x hx => (h x hx).nonneg, fun x hx => (h x hx).bnd.den, ?_⟩
  have b : Bnd (1000000000001 * xs.length) L60 xs.sum := Bnd.sum fun x hx => (h x hx).bnd
  refine Rat.le_trans b.hi (Rat.natCast_le_natCast.mpr ?_)
  have := Nat.mul_le_mul_left 1000000000001 hl
  omega
theorem rm_pow {V D a : Nat} (hd : 0 < D) (h1 : D < 2 ^ a) (ha : a ≤ 1800) (hv : V < 2 ^ 64) : Rm V D := ⟨hd, lt_pow h1 ha, lt_pow hv (by decide)⟩
theorem L60_lt84 : L60 < 2 ^ 84 := by decide +kernel
theorem L60_pos : 0 < L60 := by decide
theorem rm_row {V : Nat} (hv : V < 2 ^ 64) : Rm V (L60 * L72) ∧ Rm V L60 := ⟨rm_pow (a := 187) (Nat.mul_pos L60_pos L72_pos) (by rw [show (187 : Nat) = 84 + 103 from rfl, Nat.pow_add]; exact Nat.mul_lt_mul'' L60_lt84 L72_lt) (by decide) hv, rm_pow L60_pos L60_lt84 (by decide) hv⟩
end M
namespace M
open PySem L2
theorem pl_succ {ns : List Int} {k : Nat} {w : Int} (h : ns[k]? = some w) : pl ns (k + 1) = pl ns k + (w : Rat) := by
  unfold pl plI'
  rw [take_succ h, sum_snocI, Rat.intCast_add]
theorem slope_at {ns : List Int} {ys : List Rat} {k : Nat} {w : Int} {y : Rat} (h1 : ns[k]? = some w) (h2 : ys[k]? = some y) : slope (pl ns) (hp ys) k (k + 1) = y / (w : Rat) := by
  unfold slope
  rw [pl_succ h1, hp_succ h2]
  congr 1
  · grind
  · grind
theorem wpos {w : Int} (h : 1 ≤ w) : (0 : Rat) < (w : Rat) := by
  have : (0 : Int) < w := by omega
  exact_mod_cast this
theorem div_mul' {y : Rat} {w : Int} (h : 1 ≤ w) : y / (w : Rat) * (w : Rat) = y := by
  have := wpos h
  have hz : (w : Rat) ≠ 0 := by grind
  rw [Rat.div_def, Rat.mul_assoc, Rat.inv_mul_cancel _ hz, Rat.mul_one]
theorem div_le_div {y1 y2 : Rat} {w1 w2 : Int} (h1 : 1 ≤ w1) (h2 : 1 ≤ w2) : y1 / (w1 : Rat) ≤ y2 / (w2 : Rat) ↔ y1 * (w2 : Rat) ≤ y2 * (w1 : Rat) := by
  have e1 := div_mul' (y := y1) h1
  have e2 := div_mul' (y := y2) h2
  have p1 := wpos h1
  have p2 := wpos h2
  have pp : (0 : Rat) < (w1 : Rat) * (w2 : Rat) := Rat.mul_pos p1 p2
  generalize y1 / (w1 : Rat) = a at *
  generalize y2 / (w2 : Rat) = b at *
  generalize (w1 : Rat) = u at *
  generalize (w2 : Rat) = v at *
  subst e1 e2
  constructor
  · intro h
    have := mul_mono h (Rat.le_of_lt pp)
    grind
  · intro h
    refine Rat.le_of_mul_le_mul_right (c := u * v) ?_ pp
    grind
theorem div_eq_div {y1 y2 : Rat} {w1 w2 : Int} (h1 : 1 ≤ w1) (h2 : 1 ≤ w2) : y1 / (w1 : Rat) = y2 / (w2 : Rat) ↔ y1 * (w2 : Rat) = y2 * (w1 : Rat) := by
  constructor
  · intro h
    exact Rat.le_antisymm ((div_le_div h1 h2).mp (by rw [h]; exact Rat.le_refl)) ((div_le_div h2 h1).mp (by rw [h]; exact Rat.le_refl))
  · intro h
    exact Rat.le_antisymm ((div_le_div h1 h2).mpr (by rw [h]; exact Rat.le_refl)) ((div_le_div h2 h1).mpr (by rw [h]; exact Rat.le_refl))
theorem get_of {α : Type} {l : List α} {i : Nat} (h : i < l.length) : ∃ x, l[i]? = some x := ⟨l[i], List.getElem?_eq_getElem h⟩
theorem rat_nd' (x : Rat) : x * (x.den : Rat) = (x.num : Rat) := by
  have dx : (x.den : Rat) ≠ 0 := by
    intro z
    have : x.den = 0 := by exact_mod_cast z
    exact x.den_nz this
  have e := Rat.mkRat_self x
  rw [Rat.mkRat_eq_div] at e
  conv => lhs; lhs; rw [← e]
  rw [Rat.div_def, Rat.mul_assoc, Rat.inv_mul_cancel _ dx, Rat.mul_one]
/-- how high water stands: by products -/
theorem high_iff {x y : Rat} {v w : Int} : x.num * w * (y.den : Int) < y.num * v * (x.den : Int) ↔ x * (w : Rat) < y * (v : Rat) := by
  have hx := rat_nd' x
  have hy := rat_nd' y
  have dx : (0 : Rat) < (x.den : Rat) := by have := x.den_pos; exact_mod_cast this
  have dy : (0 : Rat) < (y.den : Rat) := by have := y.den_pos; exact_mod_cast this
  have pp : (0 : Rat) < (x.den : Rat) * (y.den : Rat) := Rat.mul_pos dx dy
  have e : x.num * w * (y.den : Int) < y.num * v * (x.den : Int) ↔ (x.num : Rat) * (w : Rat) * (y.den : Rat) < (y.num : Rat) * (v : Rat) * (x.den : Rat) := by
    rw [← Rat.intCast_lt_intCast]
    simp only [Rat.intCast_mul, Rat.intCast_natCast]
  rw [e, ← hx, ← hy]
  have e2 : x * (x.den : Rat) * (w : Rat) * (y.den : Rat) = x * (w : Rat) * ((x.den : Rat) * (y.den : Rat)) := by grind
  have e3 : y * (y.den : Rat) * (v : Rat) * (x.den : Rat) = y * (v : Rat) * ((x.den : Rat) * (y.den : Rat)) := by grind
  rw [e2, e3]
  constructor
  · intro h
    refine Rat.not_le.mp fun z => ?_
    have := mul_mono z (Rat.le_of_lt pp)
    grind
  · intro h
    refine Rat.not_le.mp fun z => ?_
    have := Rat.le_of_mul_le_mul_right z pp
    grind
end M
namespace M
open PySem L2
/-- the deck of draws -/
def DeckA (g : Addr) (b : Nat) : List BO → Prop := fun bs => ∃ (gs : List Int) (f c : Int), bs = [.lst [.ref g, .int f, .int c], .lst (gs.map .int)] ∧ (∀ x ∈ gs, 0 ≤ x) ∧ gs.length ≤ 1000000 ∧ 0 ≤ f ∧ f < 2305843009213693952 ∧ 0 ≤ c ∧ c + b ≤ 1152921504606846976
def deck (g : Addr) (b : Nat) : MO := .box [g] (DeckA g b)
theorem DeckA.mono {g : Addr} {b b' : Nat} (h : b' ≤ b) : ∀ bs, DeckA g b bs → DeckA g b' bs := by
  rintro bs ⟨gs, f, c, rfl, h1, h2, h3, h4, h5, h6⟩
  exact ⟨gs, f, c, rfl, h1, h2, h3, h4, h5, by omega⟩
theorem fin.deck_le {k : AK} {d : D} {M : MH} {t g : Addr} {b b' : Nat} (h : b' ≤ b) (hk : k d (up M t (deck g b'))) : fin k d (up M t (deck g b)) := by
  refine ⟨_, ?_, hk⟩
  have := Abs.mono_box (M := up M t (deck g b)) (a := t) up_same (DeckA.mono (g := g) h)
  rwa [up_up] at this
theorem fin.fin {k : AK} {d : D} {M : MH} (h : fin (fin k) d M) : fin k d M := by
  obtain ⟨M1, a1, M2, a2, h⟩ := h
  exact ⟨M2, a1.trans a2, h⟩
/-- the deck, open -/
def dkO (M : MH) (t g : Addr) (gs : List Int) (f c : Int) : MH := up (up M t (.obj (.lst [.ref g, .int f, .int c]))) g (.obj (.lst (gs.map .int)))
theorem dkO_g {M : MH} {t g : Addr} {gs : List Int} {f c : Int} : dkO M t g gs f c g = some (.obj (.lst (gs.map .int))) := up_same
theorem dkO_t {M : MH} {t g : Addr} {gs : List Int} {f c : Int} (ne : t ≠ g) : dkO M t g gs f c t = some (.obj (.lst [.ref g, .int f, .int c])) := by
  unfold dkO; rw [up_ne ne]; exact up_same
theorem dkO_close {M : MH} {t g : Addr} {b b' : Nat} {gs : List Int} {f c : Int} (hM : M t = some (deck g b')) (hp : M g = some (.part t)) (ne : t ≠ g) (h1 : ∀ x ∈ gs, 0 ≤ x) (hl : gs.length ≤ 1000000) (h2 : 0 ≤ f) (h3 : f < 2305843009213693952) (h4 : 0 ≤ c) (hb : c + b ≤ 1152921504606846976) :
    Abs (dkO M t g gs f c) (up M t (deck g b)) := by
  refine Abs.close (a := t) (ps := [g]) (φ := DeckA g b) (bs := [.lst [.ref g, .int f, .int c], .lst (gs.map .int)]) ⟨gs, f, c, rfl, h1, hl, h2, h3, h4, hb⟩ rfl ?_ up_same ?_ ?_
  · intro i x c e1 e2
    match i with
    | 0 => cases e1; cases e2; exact dkO_t ne
    | 1 => cases e1; cases e2; exact dkO_g
    | n + 2 => cases e1
  · intro p hp'
    rw [List.mem_singleton] at hp'
    subst hp'
    rw [up_ne (fun z => ne z.symm)]; exact hp
  · intro x hx
    have n1 : x ≠ t := fun z => hx (by rw [z]; exact List.mem_cons_self)
    have n2 : x ≠ g := fun z => hx (by rw [z]; exact List.mem_cons_of_mem _ (List.mem_singleton.mpr rfl))
    unfold dkO
    rw [up_ne n1, up_ne n2, up_ne n1]
theorem dkO_set {M : MH} {t g : Addr} {gs : List Int} {f c f' c' : Int} (ne : t ≠ g) : up (dkO M t g gs f c) t (.obj (.lst [.ref g, .int f', .int c'])) = dkO M t g gs f' c' := by
  unfold dkO; rw [up_comm (fun z => ne z.symm), up_up]
theorem dkO_gs {M : MH} {t g : Addr} {gs gs' : List Int} {f c : Int} : up (dkO M t g gs f c) g (.obj (.lst (gs'.map .int))) = dkO M t g gs' f c := by
  unfold dkO; rw [up_up]
theorem tI_app_ne {x : Int} {xs : List Int} : tI (xs ++ [x]) ≠ tI [] := by
  unfold tI; intro h; injection h with h; simp at h
end M
namespace M
open PySem L2
def F_law_deck : AF := fun ds M k _ => ∃ (ns : List Int) (b : Nat), ds = [.scr ns] ∧ ns.length ≤ 63 ∧ b ≤ 1000000000 ∧ ∀ g t, g ≠ t → M g = none → M t = none → k (.ref t) (up (up M g (.part t)) t (deck g b))
/-- _law_deck -/
def b_law_deck : AS := (aSeq (aSet 1 (aLst true aNil))
  (aSeq (aSet 2 (aC (.int 11)))
  (aSeq (aFor (wLst (aVar 0)) (gNm 3)
  (aSeq (aSet 2 (aOp bMod (aOp (bAdd false) (aOp bMul (aVar 2) (aC (.int 1000003))) (aVar 3)) (aC (.int 2305843009213693951))))
  (aIfS (aB (aOp bGe (aCB cAbs (aCons (aVar 3) aNil)) (aOp bPow (aC (.int 10)) (aC (.int 18)))))
  (aDrop (aMt mInsert (aVar 1) (aCons (aC (.int 0)) (aCons (aOp bSub (aCB cAbs (aCons (aVar 3) aNil)) (aOp bPow (aC (.int 10)) (aC (.int 18)))) aNil))))
  aNext)))
  (aRet (aLst true (aCons (aVar 1) (aCons (aVar 2) (aCons (aC (.int 0)) aNil))))))))
theorem len_law_deck : ∀ ds M k x, F_law_deck ds M k x → ds.length = 1 := by
  rintro ds M k x ⟨a, b, rfl, _⟩; rfl
theorem Abs.mk_deck {M : MH} {g t : Addr} {gs : List Int} {f : Int} {b : Nat} (ne : g ≠ t) (h1 : ∀ x ∈ gs, 0 ≤ x) (hl : gs.length ≤ 1000000) (h2 : 0 ≤ f) (h3 : f < 2305843009213693952) (hb : b ≤ 1000000000) :
    Abs (up (up M g (.obj (.lst (gs.map .int)))) t (.obj (.lst [.ref g, .int f, .int 0]))) (up (up M g (.part t)) t (deck g b)) := by
  refine Abs.close (a := t) (ps := [g]) (φ := DeckA g b) (bs := [.lst [.ref g, .int f, .int 0], .lst (gs.map .int)]) ⟨gs, f, 0, rfl, h1, hl, h2, h3, by decide, by omega⟩ rfl ?_ up_same ?_ ?_
  · intro i x c e1 e2
    match i with
    | 0 => cases e1; cases e2; exact up_same
    | 1 => cases e1; cases e2; rw [up_ne ne]; exact up_same
    | n + 2 => cases e1
  · intro p hp
    rw [List.mem_singleton] at hp
    subst hp
    rw [up_ne ne]; exact up_same
  · intro x hx
    have n1 : x ≠ t := fun z => hx (by rw [z]; exact List.mem_cons_self)
    have n2 : x ≠ g := fun z => hx (by rw [z]; exact List.mem_cons_of_mem _ (List.mem_singleton.mpr rfl))
    rw [up_ne n1, up_ne n2, up_ne n1, up_ne n2]
theorem ok_law_deck : ∀ ds M k x, F_law_deck ds M k x → b_law_deck { nx := fun _ M' => fin k .non M', rt := fin k } (startG 4 ds) M := by
  rintro ds M k _ ⟨ns, b, rfl, hn, hb, hk⟩
  walk_at "st"
  unfold b_law_deck
  walk_at "ev"
  intro g hg
  walk_at "ev"
  refine for_go (fun i Γ M' => i ≤ ns.length ∧ ∃ (f : Int) (gs : List Int) (c : Option D), 0 ≤ f ∧ f < 2305843009213693952 ∧ gs.length ≤ i ∧ (∀ x ∈ gs, 0 ≤ x) ∧ M' = up M g (.obj (.lst (gs.map .int))) ∧ Γ = [some (.scr ns), some (.ref g), some (.int f), c]) ⟨Nat.zero_le _, _, [], _, by decide, by decide, Nat.le_refl _, by simp, rfl, rfl⟩ ?_ ?_
  · rintro i Γ _ x hx ⟨hi, f, gs, c, h1, h2, h3, h4, rfl, rfl⟩
    obtain ⟨n, hn', rfl⟩ := map_get hx
    have hl : i < ns.length := (List.getElem?_eq_some_iff.mp hn').1
    refine ⟨by walk_at "tr", ?_⟩
    walk_at "ev"
    have b1 : 0 ≤ (f * 1000003 + n) % 2305843009213693951 := Int.emod_nonneg _ (by decide)
    have b2 : (f * 1000003 + n) % 2305843009213693951 < 2305843009213693951 := Int.emod_lt_of_pos _ (by decide)
    refine iteD (fun hu => ?_) (fun hu => ?_)
    · walk_at "ev"
      refine iInsert ?_ up_same (by rw [List.length_map]; simp only [sizeLine_eq]; omega) ⟨by decide, by decide⟩
      walk_at "ev"
      refine ⟨hl, _, _ :: gs, _, b1, by omega, by simp only [List.length_cons]; omega, ?_, by rw [up_up]; rfl, rfl⟩
      intro x hx
      rcases List.mem_cons.mp hx with rfl | hx
      · omega
      · exact h4 x hx
    · walk_at "ev"
      exact ⟨hl, _, gs, _, b1, by omega, by omega, h4, rfl, rfl⟩
  · rintro Γ _ ⟨hi, f, gs, c, h1, h2, h3, h4, rfl, rfl⟩
    refine ⟨by walk_at "tr", ?_⟩
    walk_at "ev"
    intro t ht
    have ne : g ≠ t := fun z => by rw [z, up_same] at ht; cases ht
    refine ⟨_, Abs.mk_deck ne h4 (by omega) h1 h2 hb, hk g t ne hg ?_⟩
    rwa [up_ne (fun z => ne z.symm)] at ht
end M
namespace M
open PySem L2
def F_law_take : AF := fun ds M k _ => ∃ (t g : Addr) (b : Nat) (m : Int), ds = [.ref t, .int m] ∧ M t = some (deck g (b + 1)) ∧ 0 < m ∧ m < 18446744073709551616 ∧ ∀ r : Int, 0 ≤ r → r < m → k (.int r) (up M t (deck g b))
/-- _law_take -/
def b_law_take : AS := (gOpen 0 (aSeq (aWhile (aAnd (aB (aOp (bEq true) (aOp bIx (aVar 0) (aC (.int 0))) (aLst false aNil))) (aB (aOp bLt (aOp bIx (aOp bIx (aVar 0) (aC (.int 0))) (aNeg (aC (.int 1)))) (aC (.int 2)))))
  (aDrop (aMt0 mPop (aOp bIx (aVar 0) (aC (.int 0))))))
  (aSeq (aIfS (aB (aOp (bEq true) (aOp bIx (aVar 0) (aC (.int 0))) (aLst false aNil)))
  (aSeq (aSet 2 (aOp bMod (aOp bIx (aOp bIx (aVar 0) (aC (.int 0))) (aNeg (aC (.int 1)))) (aVar 1)))
  (aSeq (aAsg (aOp bFdiv (aOp bIx (aOp bIx (aVar 0) (aC (.int 0))) (aNeg (aC (.int 1)))) (aVar 1)) (gIx (aOp bIx (aVar 0) (aC (.int 0))) (aNeg (aC (.int 1)))))
  (aRet (aVar 2))))
  aNext)
  (aSeq (aAsg (aOp (bAdd false) (aOp bIx (aVar 0) (aC (.int 2))) (aC (.int 1))) (gIx (aVar 0) (aC (.int 2))))
  (aSeq (aSet 3 (aOp bIx (aVar 0) (aC (.int 2))))
  (aSeq (aSet 4 (aOp (bAdd false) (aOp bMul (aOp (bAdd false) (aOp bIx (aVar 0) (aC (.int 1))) (aC (.int 40503))) (aOp bPow (aOp (bAdd false) (aVar 3) (aC (.int 5))) (aC (.int 3)))) (aOp bMul (aC (.int 69621)) (aVar 3))))
  (aRet (aOp bMod (aOp bFdiv (aOp bMod (aOp bPow (aOp bMod (aVar 4) (aC (.int 2305843009213693951))) (aC (.int 3))) (aC (.int 1000000007))) (aC (.int 64))) (aVar 1)))))))))
theorem len_law_take : ∀ ds M k x, F_law_take ds M k x → ds.length = 2 := by
  rintro ds M k x ⟨a, b, _, _, rfl, _⟩; rfl
theorem ix_lst {ys : List Int} {y : Int} : ixN ((ys ++ [y]).map D.int).length (-1) = some ys.length := by
  unfold ixN
  simp only [List.length_map, List.length_append, List.length_cons, List.length_nil]
  rw [if_neg (by decide), if_pos (by omega)]
  congr 1
  omega
theorem at_lst {ys : List Int} {y : Int} : ((ys ++ [y]).map D.int)[ys.length]? = some (.int y) := by simp
theorem set_lst {ys : List Int} {y z : Int} : ((ys ++ [y]).map D.int).set ys.length (.int z) = (ys ++ [z]).map D.int := by simp
theorem seq_lst {ys : List Int} {y : Int} : ((ys ++ [y]).map D.int)[((ys ++ [y]).map D.int).length - 1]? = some (.int y) := by simp
theorem drop_lst {ys : List Int} {y : Int} : ((ys ++ [y]).map D.int).dropLast = ys.map D.int := by simp
theorem atI_ix {xs : List D} {i : Int} {n : Nat} {d : D} (h : ixN xs.length i = some n) (h2 : xs[n]? = some d) : atI xs i = some d := by
  unfold atI; rw [h]; exact h2
theorem ok_law_take : ∀ ds M k x, F_law_take ds M k x → b_law_take { nx := fun _ M' => fin k .non M', rt := fin k } (startG 5 ds) M := by
  rintro ds M k _ ⟨t, g, b, m, rfl, hM, hm, hm', hk⟩
  walk_at "st"
  unfold b_law_take
  refine ⟨t, [g], DeckA g (b + 1), rfl, hM, fun bs hbs hlen hpt => ?_⟩
  obtain ⟨gs, f, c, rfl, h1, hl, h2, h3, h4, hb⟩ := hbs
  have hpg := hpt g List.mem_cons_self
  have ne : t ≠ g := fun z => by rw [← z, hM] at hpg; cases hpg
  rw [show opn M [t, g] [BO.lst [.ref g, .int f, .int c], BO.lst (gs.map .int)] = dkO M t g gs f c from rfl]
  have cl : ∀ {gs' : List Int} {c' : Int}, (∀ x ∈ gs', 0 ≤ x) → gs'.length ≤ 1000000 → 0 ≤ c' → c' + b ≤ 1152921504606846976 → Abs (dkO M t g gs' f c') (up M t (deck g b)) := fun x1 xl x3 x4 => dkO_close hM hpg ne x1 xl h2 h3 x3 x4
  have et : ∀ {gs f c}, dkO M t g gs f c t = some (.obj (.lst [.ref g, .int f, .int c])) := dkO_t ne
  have es : ∀ {gs f c f' c'}, up (dkO M t g gs f c) t (.obj (.lst [.ref g, .int f', .int c'])) = dkO M t g gs f' c' := dkO_set ne
  have cl5 : ∀ (a' : Int), CDivW a' m := fun a' => cdiv hm (lt_b89 (m := 64) (by omega) (by decide))
  walk_at "ev"
  refine while_st (α := List Int) (fun _ => [some (.ref t), some (.int m), none, none, none]) (fun s => dkO M t g s f c) (fun s => (∀ x ∈ s, 0 ≤ x) ∧ s.length ≤ 1000000) (fun s => s.length) gs ⟨h1, hl⟩ rfl rfl ?_
  rintro gs' ⟨h5, h6⟩
  have e0 := et (gs := gs') (f := f) (c := c)
  walk_at "ev"
  rcases List.eq_nil_or_concat gs' with rfl | ⟨ys, y, rfl⟩
  · refine iEqE (neg := true) ?_ rfl (RdT.refI dkO_g) (RdT.ints (ns := []))
    walk_at "ev"
    refine iEqE (neg := true) ?_ rfl (RdT.refI dkO_g) (RdT.ints (ns := []))
    walk_at "ev"
    rw [es]
    have e1 := et (gs := []) (f := f) (c := c + 1)
    walk_at "ev"
    refine ⟨_, cl (by simp) (by simp) (by omega) (by omega), hk _ (Int.emod_nonneg _ (by omega)) (Int.emod_lt_of_pos _ hm)⟩
  · rw [List.concat_eq_append] at *
    refine iEqN (neg := true) ?_ tI_app_ne (RdT.refI dkO_g) (RdT.ints (ns := []))
    have e2 := dkO_g (M := M) (t := t) (g := g) (gs := ys ++ [y]) (f := f) (c := c)
    have a1 : atI ((ys ++ [y]).map D.int) (-1) = some (.int y) := atI_ix ix_lst at_lst
    walk_at "ev"
    have hy : 0 ≤ y := h5 y (by simp)
    have hys : ∀ x ∈ ys, 0 ≤ x := fun x hx => h5 x (by simp [hx])
    refine iteD (fun hu => ?_) (fun hu => ?_)
    · walk_at "ev"
      refine iPop ?_ e2 seq_lst
      rw [drop_lst, dkO_gs]
      exact WNext.of ys rfl rfl ⟨hys, by simp at h6; omega⟩ (by simp)
    · walk_at "ev"
      refine iEqN (neg := true) ?_ tI_app_ne (RdT.refI dkO_g) (RdT.ints (ns := []))
      walk_at "ev"
      have c1 := cl5 y
      walk_at "ev"
      refine iStIx ?_ e2 ix_lst
      rw [set_lst, dkO_gs]
      refine ⟨_, cl (fun x hx => ?_) (by simpa using h6) h4 (by omega), hk _ (Int.emod_nonneg _ (by omega)) (Int.emod_lt_of_pos _ hm)⟩
      rcases List.mem_append.mp hx with hx | hx
      · exact hys x hx
      · rw [List.mem_singleton] at hx; subst hx; exact Int.ediv_nonneg hy (by omega)
end M
namespace M
open PySem L2
def F_law_tanks : AF := fun ds M k _ => ∃ (t g : Addr) (b m : Nat), ds = [.ref t, .int m] ∧ M t = some (deck g (b + m + 2)) ∧ 0 < m ∧ m ≤ 1000 ∧ ∀ ns : List Int, ns ≠ [] → ns.length ≤ m → (∀ n ∈ ns, 1 ≤ n ∧ n ≤ 9) → k (.lst (ns.map .int)) (up M t (deck g b))
/-- _law_tanks -/
def b_law_tanks : AS := (aSeq (aAsg (aTup (aCons (aOp (bAdd false) (aC (.int 1)) (aCall noX F_law_take [] (aCons (aVar 0) (aCons (aVar 1) aNil)))) (aCons (aCall noX F_law_take [] (aCons (aVar 0) (aCons (aC (.int 3)) aNil))) aNil))) (gTu 2 (gCo (gNm 2) (gCo (gNm 3) gNi))))
  (aRet (aLc false (wRg1 (aCons (aVar 2) aNil)) (gNm 4) aYes (aOp (bAdd false) (aC (.int 1)) (aCall noX F_law_take [] (aCons (aVar 0) (aCons (aOp bIx (aLst false (aCons (aC (.int 1)) (aCons (aC (.int 3)) (aCons (aC (.int 9)) aNil)))) (aVar 3)) aNil)))) [4])))
theorem len_law_tanks : ∀ ds M k x, F_law_tanks ds M k x → ds.length = 2 := by
  rintro ds M k x ⟨a, b, _, _, rfl, _⟩; rfl
theorem ok_law_tanks : ∀ ds M k x, F_law_tanks ds M k x → b_law_tanks { nx := fun _ M' => fin k .non M', rt := fin k } (startG 5 ds) M := by
  rintro ds M k _ ⟨t, g, b, m, rfl, hM, hm, hm', hk⟩
  walk_at "st"
  unfold b_law_tanks
  walk_at "ev"
  refine ⟨t, g, b + m + 1, m, rfl, hM, by omega, by omega, fun r2 r20 r2m => ?_⟩
  walk_at "ev"
  refine ⟨t, g, b + m, 3, rfl, up_same, by decide, by decide, fun r r0 r3 => ?_⟩
  rw [up_up]
  have hw : ∃ w : Int, atI [D.int 1, D.int 3, D.int 9] r = some (.int w) ∧ 1 ≤ w ∧ w ≤ 9 := by
    have : r = 0 ∨ r = 1 ∨ r = 2 := by omega
    rcases this with rfl | rfl | rfl
    · exact ⟨1, atI_c0, by decide, by decide⟩
    · exact ⟨3, atI_c1, by decide, by decide⟩
    · exact ⟨9, atI_c2, by decide, by decide⟩
  obtain ⟨w, hw, w1, w2⟩ := hw
  walk_at "ev"
  refine ⟨by omega, ?_⟩
  refine lc_st (fun i acc M' => ∃ ns : List Int, acc = ns.map .int ∧ (∀ n ∈ ns, 1 ≤ n ∧ n ≤ 9) ∧ M' = up M t (deck g (b + m - i))) (by rw [rng_len]; omega) ?_ ?_ ⟨[], rfl, by simp, rfl⟩
  · rintro i x acc M' hx ha ⟨ns, rfl, hns, rfl⟩
    obtain ⟨hl, rfl⟩ := rng_it hx
    refine ⟨by walk_at "tr", fun kd hkd => ?_⟩
    simp only [wipeG]
    walk_at "ev"
    refine ⟨t, g, b + m - i - 1, w, rfl, ?_, by omega, by omega, fun q q0 qw => ?_⟩
    · rw [up_same]; exact congrArg (fun n => some (deck g n)) (show b + m - i = b + m - i - 1 + 1 by omega)
    rw [up_up]
    walk_at "ev"
    refine hkd _ _ ⟨ns ++ [1 + q], by rw [List.map_append]; rfl, ?_, rfl⟩
    intro n hn
    rcases List.mem_append.mp hn with hn | hn
    · exact hns n hn
    · rw [List.mem_singleton] at hn; omega
  · rintro acc M' ha ⟨ns, rfl, hns, rfl⟩
    rw [rng_len, List.length_map] at ha
    refine ⟨by walk_at "tr", ?_⟩
    rw [rng_len]
    walk_at "ev"
    refine fin.deck_le (b' := b) (by omega) (hk ns ?_ (by omega) hns)
    rintro rfl
    simp at ha
    omega
end M
namespace M
open PySem L2
def F_law_low_v2 : AF := F_lowest
/-- _law_low -/
def b_law_low_v2 : AS := (aSeq (aPar 2 3 (aCons (aCB cAbs (aCons (aVar 0) aNil)) (aCons (aVar 1) aNil)))
  (aSeq (aWhile (aB (aOp (bEq true) (aVar 3) (aC (.int 0))))
  (aPar 2 3 (aCons (aVar 3) (aCons (aOp bMod (aVar 2) (aVar 3)) aNil))))
  (aRet (aTup (aCons (aOp bFdiv (aVar 0) (aVar 2)) (aCons (aOp bFdiv (aVar 1) (aVar 2)) aNil))))))
theorem len_law_low_v2 : ∀ ds M k x, F_law_low_v2 ds M k x → ds.length = 2 := len_lowest
theorem ok_law_low_v2 : ∀ ds M k x, F_law_low_v2 ds M k x → b_law_low_v2 { nx := fun _ M' => fin k .non M', rt := fin k } (startG 4 ds) M := by
  rintro ds M k x ⟨a, b, rfl, hb, hs, hk⟩
  walk_at "st"
  unfold b_law_low_v2
  walk_at "ev"
  refine while_st (α := Int × Int) (fun s => [some (.int a), some (.int b), some (.int s.1), some (.int s.2)]) (fun _ => M) (fun s => 0 ≤ s.1 ∧ 0 ≤ s.2 ∧ 0 < s.1 + s.2 ∧ Nat.gcd s.1.toNat s.2.toNat = Nat.gcd a.natAbs b.toNat) (fun s => s.2.toNat) (if a < 0 then -a else a, b) ⟨by dsimp only; split <;> omega, by dsimp only; omega, by dsimp only; split <;> omega, ?_⟩ rfl rfl ?_
  · have : (if a < 0 then -a else a).toNat = a.natAbs := by split <;> omega
    dsimp only
    rw [this]
  · rintro ⟨u, v⟩ ⟨h1, h2, h3, h4⟩
    dsimp only at h1 h2 h3 h4
    walk_at "ev"
    refine iteN (fun hu => ?_) (fun hu => ?_)
    · walk_at "ev"
      have hv : 0 < v := by omega
      refine WNext.of (v, u % v) rfl rfl ⟨h2, Int.emod_nonneg _ (by omega), ?_, ?_⟩ ?_
      · have := Int.emod_nonneg u (show v ≠ 0 by omega)
        dsimp only
        omega
      · dsimp only
        rw [Nat.gcd_comm, gcd_step hv h1, Nat.gcd_comm]; exact h4
      · have := Int.emod_lt_of_pos u hv
        have := Int.emod_nonneg u (show v ≠ 0 by omega)
        dsimp only
        omega
    · have : v = 0 := by omega
      subst this
      rw [Nat.gcd_comm] at h4
      obtain ⟨e, hv⟩ := gcd_end hb hs (by omega) h4
      have cd : ∀ i, CDivW i u := fun i => cdiv (by omega) hv
      have ca := cd a
      have cb := cd b
      walk_at "ev"
      rw [lowest_out hb e]
      exact fin.of hk
end M
namespace M
open PySem L2
def F_law_draw_v1 : AF := fun ds M k _ => ∃ (t g : Addr) (b : Nat) (m : Int), ds = [.ref t, .int m] ∧ M t = some (tray g (b + 1)) ∧ 0 < m ∧ m < 18446744073709551616 ∧ ∀ r : Int, 0 ≤ r → r < m → k (.int r) (up M t (tray g b))
/-- _law_draw -/
def b_law_draw_v1 : AS := (gOpen 0 (aSeq (aWhile (aAnd (aB (aOp bLt (aOp bIx (aVar 0) (aC (.int 1))) (aC (.int 2)))) (aB (aOp (bEq true) (aOp bIx (aVar 0) (aC (.int 0))) (aLst false aNil))))
  (aAsg (aMt mPop (aOp bIx (aVar 0) (aC (.int 0))) (aCons (aC (.int 0)) aNil)) (gIx (aVar 0) (aC (.int 1)))))
  (aSeq (aIfS (aB (aOp bGe (aOp bIx (aVar 0) (aC (.int 1))) (aC (.int 2))))
  (aSeq (aSet 2 (aOp bMod (aOp bIx (aVar 0) (aC (.int 1))) (aVar 1)))
  (aSeq (aAsg (aOp bFdiv (aOp bIx (aVar 0) (aC (.int 1))) (aVar 1)) (gIx (aVar 0) (aC (.int 1))))
  (aRet (aVar 2))))
  aNext)
  (aSeq (aAsg (aOp (bAdd false) (aOp bIx (aVar 0) (aC (.int 3))) (aC (.int 1))) (gIx (aVar 0) (aC (.int 3))))
  (aSeq (aSet 3 (aOp bMod (aOp (bAdd false) (aOp bMul (aOp (bAdd false) (aOp bIx (aVar 0) (aC (.int 2))) (aC (.int 5))) (aOp bPow (aOp (bAdd false) (aOp bIx (aVar 0) (aC (.int 3))) (aC (.int 2))) (aC (.int 3)))) (aOp bMul (aC (.int 1000003)) (aOp bIx (aVar 0) (aC (.int 3))))) (aOp bSub (aOp bPow (aC (.int 2)) (aC (.int 61))) (aC (.int 1)))))
  (aRet (aOp bMod (aOp bFdiv (aOp bMod (aOp bPow (aVar 3) (aC (.int 5))) (aOp (bAdd false) (aOp bPow (aC (.int 10)) (aC (.int 18))) (aC (.int 9)))) (aC (.int 64))) (aVar 1))))))))
theorem len_law_draw_v1 : ∀ ds M k x, F_law_draw_v1 ds M k x → ds.length = 2 := by
  rintro ds M k x ⟨a, b, _, _, rfl, _⟩; rfl
/-- the tray, open -/
def trO (M : MH) (t g : Addr) (gs : List Int) (a f c : Int) : MH := up (up M t (.obj (.lst [.ref g, .int a, .int f, .int c]))) g (.obj (.lst (gs.map .int)))
theorem trO_g {M : MH} {t g : Addr} {gs : List Int} {a f c : Int} : trO M t g gs a f c g = some (.obj (.lst (gs.map .int))) := up_same
theorem trO_t {M : MH} {t g : Addr} {gs : List Int} {a f c : Int} (ne : t ≠ g) : trO M t g gs a f c t = some (.obj (.lst [.ref g, .int a, .int f, .int c])) := by
  unfold trO; rw [up_ne ne]; exact up_same
theorem trO_close {M : MH} {t g : Addr} {b b' : Nat} {gs : List Int} {a f c : Int} (hM : M t = some (tray g b')) (hp : M g = some (.part t)) (ne : t ≠ g) (h1 : ∀ x ∈ gs, 0 ≤ x) (h0 : 0 ≤ a) (h2 : 0 ≤ f) (h3 : f < 2305843009213693952) (h4 : 0 ≤ c) (hb : c + b ≤ 1152921504606846976) :
    Abs (trO M t g gs a f c) (up M t (tray g b)) := by
  refine Abs.close (a := t) (ps := [g]) (φ := TrayA g b) (bs := [.lst [.ref g, .int a, .int f, .int c], .lst (gs.map .int)]) ⟨gs, a, f, c, rfl, h1, h0, h2, h3, h4, hb⟩ rfl ?_ up_same ?_ ?_
  · intro i x c e1 e2
    match i with
    | 0 => cases e1; cases e2; exact trO_t ne
    | 1 => cases e1; cases e2; exact trO_g
    | n + 2 => cases e1
  · intro p hp'
    rw [List.mem_singleton] at hp'
    subst hp'
    rw [up_ne (fun z => ne z.symm)]; exact hp
  · intro x hx
    have n1 : x ≠ t := fun z => hx (by rw [z]; exact List.mem_cons_self)
    have n2 : x ≠ g := fun z => hx (by rw [z]; exact List.mem_cons_of_mem _ (List.mem_singleton.mpr rfl))
    unfold trO
    rw [up_ne n1, up_ne n2, up_ne n1]
theorem trO_set {M : MH} {t g : Addr} {gs : List Int} {a f c a' f' c' : Int} (ne : t ≠ g) : up (trO M t g gs a f c) t (.obj (.lst [.ref g, .int a', .int f', .int c'])) = trO M t g gs a' f' c' := by
  unfold trO; rw [up_comm (fun z => ne z.symm), up_up]
theorem trO_pop {M : MH} {t g : Addr} {gs gs' : List Int} {a f c : Int} : up (trO M t g gs a f c) g (.obj (.lst (gs'.map .int))) = trO M t g gs' a f c := by
  unfold trO; rw [up_up]
theorem ok_law_draw_v1 : ∀ ds M k x, F_law_draw_v1 ds M k x → b_law_draw_v1 { nx := fun _ M' => fin k .non M', rt := fin k } (startG 4 ds) M := by
  rintro ds M k _ ⟨t, g, b, m, rfl, hM, hm, hm', hk⟩
  walk_at "st"
  unfold b_law_draw_v1
  refine ⟨t, [g], TrayA g (b + 1), rfl, hM, fun bs hbs hlen hpt => ?_⟩
  obtain ⟨gs, a, f, c, rfl, h1, h0, h2, h3, h4, hb⟩ := hbs
  have hpg := hpt g List.mem_cons_self
  have ne : t ≠ g := fun z => by rw [← z, hM] at hpg; cases hpg
  rw [show opn M [t, g] [BO.lst [.ref g, .int a, .int f, .int c], BO.lst (gs.map .int)] = trO M t g gs a f c from rfl]
  have cl : ∀ {gs' : List Int} {a' : Int} {c' : Int}, (∀ x ∈ gs', 0 ≤ x) → 0 ≤ a' → 0 ≤ c' → c' + b ≤ 1152921504606846976 → Abs (trO M t g gs' a' f c') (up M t (tray g b)) := fun x1 x2 x3 x4 => trO_close hM hpg ne x1 x2 h2 h3 x3 x4
  have et : ∀ {gs a f c}, trO M t g gs a f c t = some (.obj (.lst [.ref g, .int a, .int f, .int c])) := trO_t ne
  have es : ∀ {gs a f c a' f' c'}, up (trO M t g gs a f c) t (.obj (.lst [.ref g, .int a', .int f', .int c'])) = trO M t g gs a' f' c' := trO_set ne
  have cl5 : ∀ (a' : Int), CDivW a' m := fun a' => cdiv hm (lt_b89 (m := 64) (by omega) (by decide))
  walk_at "ev"
  refine while_st (α := List Int × Int) (fun _ => [some (.ref t), some (.int m), none, none]) (fun s => trO M t g s.1 s.2 f c) (fun s => (∀ x ∈ s.1, 0 ≤ x) ∧ 0 ≤ s.2) (fun s => s.1.length) (gs, a) ⟨h1, h0⟩ rfl rfl ?_
  rintro ⟨gs', a'⟩ ⟨h5, h6⟩
  dsimp only at h5 h6
  have e0 := et (gs := gs') (a := a') (f := f) (c := c)
  walk_at "ev"
  refine iteD (fun hu => ?_) (fun hu => ?_)
  · walk_at "ev"
    cases gs' with
    | nil =>
      refine iEqE (neg := true) ?_ rfl (RdT.refI trO_g) (RdT.ints (ns := []))
      walk_at "ev"
      refine iteDF (by omega) ?_
      walk_at "ev"
      rw [es]
      have e1 := et (gs := []) (a := a') (f := f) (c := c + 1)
      walk_at "ev"
      refine ⟨_, cl (by simp) h6 (by omega) (by omega), hk _ (Int.emod_nonneg _ (by omega)) (Int.emod_lt_of_pos _ hm)⟩
    | cons y ys =>
      refine iEqN (neg := true) ?_ tI_ne (RdT.refI trO_g) (RdT.ints (ns := []))
      walk_at "ev"
      have e2 := trO_g (M := M) (t := t) (g := g) (gs := y :: ys) (a := a') (f := f) (c := c)
      walk_at "ev"
      refine iPopI (n := 0) ?_ e2 (by omega) (ixN_seq (ix_c0 (a := D.int y) (l := ys.map D.int))).1 rfl
      rw [show (List.map D.int (y :: ys)).eraseIdx 0 = ys.map D.int from rfl, trO_pop]
      have e1 := et (gs := ys) (a := a') (f := f) (c := c)
      walk_at "ev"
      rw [es]
      exact WNext.of (ys, y) rfl rfl ⟨fun x hx => h5 x (List.mem_cons_of_mem _ hx), h5 y List.mem_cons_self⟩ (Nat.lt_succ_self _)
  · walk_at "ev"
    refine iteDT (by omega) ?_
    have c1 := cl5 a'
    walk_at "ev"
    rw [es]
    refine ⟨_, cl h5 (Int.ediv_nonneg h6 (by omega)) h4 (by omega), hk _ (Int.emod_nonneg _ (by omega)) (Int.emod_lt_of_pos _ hm)⟩
end M
namespace M
open PySem L2
def F_law_low_v1 : AF := F_lowest
/-- _law_low -/
def b_law_low_v1 : AS := (aSeq (aPar 2 3 (aCons (aCB cMax2 (aCons (aVar 0) (aCons (aOp bSub (aC (.int 0)) (aVar 0)) aNil))) (aCons (aVar 1) aNil)))
  (aSeq (aWhile (aB (aOp bGt (aVar 2) (aC (.int 0))))
  (aPar 2 3 (aCons (aOp bMod (aVar 3) (aVar 2)) (aCons (aVar 2) aNil))))
  (aRet (aTup (aCons (aOp bFdiv (aVar 0) (aVar 3)) (aCons (aOp bFdiv (aVar 1) (aVar 3)) aNil))))))
theorem len_law_low_v1 : ∀ ds M k x, F_law_low_v1 ds M k x → ds.length = 2 := len_lowest
theorem ok_law_low_v1 : ∀ ds M k x, F_law_low_v1 ds M k x → b_law_low_v1 { nx := fun _ M' => fin k .non M', rt := fin k } (startG 4 ds) M := by
  rintro ds M k x ⟨a, b, rfl, hb, hs, hk⟩
  walk_at "st"
  unfold b_law_low_v1
  walk_at "ev"
  refine while_st (α := Int × Int) (fun s => [some (.int a), some (.int b), some (.int s.1), some (.int s.2)]) (fun _ => M) (fun s => 0 ≤ s.1 ∧ 0 < s.2 ∧ Nat.gcd s.1.toNat s.2.toNat = Nat.gcd a.natAbs b.toNat) (fun s => s.1.toNat) (if 0 - a > a then 0 - a else a, b) ⟨by dsimp only; split <;> omega, hb, ?_⟩ rfl rfl ?_
  · have : (if 0 - a > a then 0 - a else a).toNat = a.natAbs := by split <;> omega
    dsimp only
    rw [this]
  · rintro ⟨u, v⟩ ⟨h1, h2, h4⟩
    dsimp only at h1 h2 h4
    walk_at "ev"
    refine iteD (fun hu => ?_) (fun hu => ?_)
    · walk_at "ev"
      refine WNext.of (v % u, u) rfl rfl ⟨Int.emod_nonneg _ (by omega), hu, ?_⟩ ?_
      · dsimp only
        rw [gcd_step hu (Int.le_of_lt h2)]; exact h4
      · have := Int.emod_lt_of_pos v hu
        have := Int.emod_nonneg v (show u ≠ 0 by omega)
        dsimp only
        omega
    · have : u = 0 := by omega
      subst this
      obtain ⟨e, hv⟩ := gcd_end hb hs h2 h4
      have cd : ∀ i, CDivW i v := fun i => cdiv h2 hv
      have ca := cd a
      have cb := cd b
      walk_at "ev"
      rw [lowest_out hb e]
      exact fin.of hk
end M
namespace M
open PySem L2
def F_law_amount_v1 : AF := fun ds M k _ => ∃ (t g : Addr) (b : Nat) (w c : Int), ds = [.ref t, .int w, .int c] ∧ M t = some (tray g (b + 5)) ∧ 0 ≤ w ∧ w ≤ 1000 ∧ 1 ≤ c ∧ c ≤ 60 ∧ ∀ x : Rat, Amt x → k (frD x) (up M t (tray g b))
/-- _law_amount -/
def b_law_amount_v1 : AS := (aSeq (aSet 3 (aLst true (aCons (aC (.int 0)) (aCons (aOp bMul (aOp bMul (aVar 1) (aVar 2)) (aCall noX F_law_draw_v1 [] (aCons (aVar 0) (aCons (aC (.int 4)) aNil)))) (aCons (aCall noX F_law_draw_v1 [] (aCons (aVar 0) (aCons (aC (.int 20)) aNil))) (aCons (aCall noX F_law_draw_v1 [] (aCons (aVar 0) (aCons (aOp bPow (aC (.int 10)) (aC (.int 4))) aNil))) aNil))))))
  (aSeq (aDrop (aMt mAppend (aVar 3) (aCons (aCall noX F_law_draw_v1 [] (aCons (aVar 0) (aCons (aOp bPow (aC (.int 10)) (aC (.int 12))) aNil))) aNil)))
  (aRet (aCall noX F_law_low_v1 [] (aCons (aOp bIx (aVar 3) (aCall noX F_law_draw_v1 [] (aCons (aVar 0) (aCons (aC (.int 5)) aNil)))) (aCons (aVar 2) aNil))))))
theorem len_law_amount_v1 : ∀ ds M k x, F_law_amount_v1 ds M k x → ds.length = 3 := by
  rintro ds M k x ⟨a, b, _, _, _, rfl, _⟩; rfl
theorem ok_law_amount_v1 : ∀ ds M k x, F_law_amount_v1 ds M k x → b_law_amount_v1 { nx := fun _ M' => fin k .non M', rt := fin k } (startG 4 ds) M := by
  rintro ds M k _ ⟨t, g, b, w, c, rfl, hM, w0, w1, c1, c2, hk⟩
  walk_at "st"
  unfold b_law_amount_v1
  walk_at "ev"
  have : IntMulOk w c := mul_okL (by omega) (by omega)
  refine ⟨t, g, b + 4, 4, rfl, hM, by decide, by decide, fun r r0 r3 => ?_⟩
  have b1 : 0 ≤ w * c := Int.mul_nonneg w0 (by omega)
  have b2 : w * c ≤ 60000 := by
    have := Int.mul_le_mul w1 c2 (by omega) (by omega : (0 : Int) ≤ 1000)
    omega
  have b3 : 0 ≤ w * c * r := Int.mul_nonneg b1 r0
  have b4 : w * c * r ≤ 240000 := by
    have := Int.mul_le_mul b2 (by omega : r ≤ 4) r0 (by omega : (0 : Int) ≤ 60000)
    omega
  walk_at "ev"
  refine ⟨t, g, b + 3, 20, rfl, up_same, by decide, by decide, fun r1 r10 r13 => ?_⟩
  rw [up_up]
  walk_at "ev"
  refine ⟨t, g, b + 2, 10000, rfl, up_same, by decide, by decide, fun r2 r20 r23 => ?_⟩
  rw [up_up]
  walk_at "ev"
  intro p hp
  have ne : t ≠ p := fun z => by rw [← z, up_same] at hp; cases hp
  have hp' : M p = none := by rwa [up_ne (fun z => ne z.symm)] at hp
  walk_at "ev"
  refine ⟨t, g, b + 1, 1000000000000, rfl, by rw [up_ne ne]; exact up_same, by decide, by decide, fun r4 r40 r43 => ?_⟩
  rw [up_comm (fun z => ne z.symm), up_up]
  walk_at "ev"
  rw [up_up]
  refine ⟨t, g, b, 5, rfl, by rw [up_ne ne]; exact up_same, by decide, by decide, fun q q0 q5 => ?_⟩
  rw [up_comm (fun z => ne z.symm), up_up]
  have hw : ∃ v : Int, atI [D.int 0, D.int (w * c * r), D.int r1, D.int r2, D.int r4] q = some (.int v) ∧ 0 ≤ v ∧ v < 1000000000001 := by
    have : q = 0 ∨ q = 1 ∨ q = 2 ∨ q = 3 ∨ q = 4 := by omega
    rcases this with rfl | rfl | rfl | rfl | rfl
    · exact ⟨_, atI_c0, by omega, by omega⟩
    · exact ⟨_, atI_c1, by omega, by omega⟩
    · exact ⟨_, atI_c2, by omega, by omega⟩
    · exact ⟨_, atI_c3, by omega, by omega⟩
    · exact ⟨_, atI_c4, by omega, by omega⟩
  obtain ⟨v, hw, v1, v2⟩ := hw
  walk_at "ev"
  refine ⟨v, c, rfl, by omega, lt_b89 (m := 64) (by omega) (by decide), ?_⟩
  exact fin.dl (by rw [up_ne (fun z => ne z.symm)]; exact hp') (hk _ ⟨v, c, v1, v2, c1, c2, rfl⟩)
end M
namespace M
open PySem L2
def F_law_amount_v3 : AF := fun ds M k _ => ∃ (t g : Addr) (b : Nat), ds = [.ref t] ∧ M t = some (deck g (b + 7)) ∧ ∀ x : Rat, Amt x → k (frD x) (up M t (deck g b))
/-- _law_amount -/
def b_law_amount_v3 : AS := (aSeq (aSet 1 (aLst false (aCons (aC (.int 0)) (aCons (aCall noX F_law_take [] (aCons (aVar 0) (aCons (aC (.int 10)) aNil))) (aCons (aCall noX F_law_take [] (aCons (aVar 0) (aCons (aC (.int 100)) aNil))) (aCons (aOp (bAdd false) (aOp bMul (aCall noX F_law_take [] (aCons (aVar 0) (aCons (aOp bPow (aC (.int 10)) (aC (.int 6))) aNil))) (aOp bPow (aC (.int 10)) (aC (.int 6)))) (aCall noX F_law_take [] (aCons (aVar 0) (aCons (aOp bPow (aC (.int 10)) (aC (.int 6))) aNil)))) aNil))))))
  (aSeq (aSet 2 (aCall noX F_law_take [] (aCons (aVar 0) (aCons (aC (.int 4)) aNil))))
  (aRet (aCall noX F_law_low_v2 [] (aCons (aOp bIx (aVar 1) (aVar 2)) (aCons (aOp bIx (aLst false (aCons (aC (.int 1)) (aCons (aC (.int 1)) (aCons (aOp (bAdd false) (aC (.int 1)) (aCall noX F_law_take [] (aCons (aVar 0) (aCons (aC (.int 12)) aNil)))) (aCons (aOp (bAdd false) (aC (.int 1)) (aCall noX F_law_take [] (aCons (aVar 0) (aCons (aC (.int 60)) aNil)))) aNil))))) (aVar 2)) aNil))))))
theorem len_law_amount_v3 : ∀ ds M k x, F_law_amount_v3 ds M k x → ds.length = 1 := by
  rintro ds M k x ⟨a, b, _, rfl, _⟩; rfl
theorem ok_law_amount_v3 : ∀ ds M k x, F_law_amount_v3 ds M k x → b_law_amount_v3 { nx := fun _ M' => fin k .non M', rt := fin k } (startG 3 ds) M := by
  rintro ds M k _ ⟨t, g, b, rfl, hM, hk⟩
  walk_at "st"
  unfold b_law_amount_v3
  walk_at "ev"
  refine ⟨t, g, b + 6, 10, rfl, hM, by decide, by decide, fun r1 r10 r13 => ?_⟩
  walk_at "ev"
  refine ⟨t, g, b + 5, 100, rfl, up_same, by decide, by decide, fun r2 r20 r23 => ?_⟩
  rw [up_up]
  walk_at "ev"
  refine ⟨t, g, b + 4, 1000000, rfl, up_same, by decide, by decide, fun r3 r30 r33 => ?_⟩
  rw [up_up]
  walk_at "ev"
  refine ⟨t, g, b + 3, 1000000, rfl, up_same, by decide, by decide, fun r4 r40 r43 => ?_⟩
  rw [up_up]
  walk_at "ev"
  refine ⟨t, g, b + 2, 4, rfl, up_same, by decide, by decide, fun q q0 q5 => ?_⟩
  rw [up_up]
  have hw : ∃ v : Int, atI [D.int 0, D.int r1, D.int r2, D.int (r3 * 1000000 + r4)] q = some (.int v) ∧ 0 ≤ v ∧ v < 1000000000001 := by
    have : q = 0 ∨ q = 1 ∨ q = 2 ∨ q = 3 := by omega
    rcases this with rfl | rfl | rfl | rfl
    · exact ⟨_, atI_c0, by omega, by omega⟩
    · exact ⟨_, atI_c1, by omega, by omega⟩
    · exact ⟨_, atI_c2, by omega, by omega⟩
    · exact ⟨_, atI_c3, by omega, by omega⟩
  obtain ⟨v, hw, v1, v2⟩ := hw
  walk_at "ev"
  refine ⟨t, g, b + 1, 12, rfl, up_same, by decide, by decide, fun r5 r50 r53 => ?_⟩
  rw [up_up]
  walk_at "ev"
  refine ⟨t, g, b, 60, rfl, up_same, by decide, by decide, fun r6 r60 r63 => ?_⟩
  rw [up_up]
  have hw : ∃ c : Int, atI [D.int 1, D.int 1, D.int (1 + r5), D.int (1 + r6)] q = some (.int c) ∧ 1 ≤ c ∧ c ≤ 60 := by
    have : q = 0 ∨ q = 1 ∨ q = 2 ∨ q = 3 := by omega
    rcases this with rfl | rfl | rfl | rfl
    · exact ⟨_, atI_c0, by omega, by omega⟩
    · exact ⟨_, atI_c1, by omega, by omega⟩
    · exact ⟨_, atI_c2, by omega, by omega⟩
    · exact ⟨_, atI_c3, by omega, by omega⟩
  obtain ⟨c, hw, c1, c2⟩ := hw
  walk_at "ev"
  refine ⟨v, c, rfl, by omega, lt_b89 (m := 64) (by omega) (by decide), ?_⟩
  exact fin.of (hk _ ⟨v, c, v1, v2, c1, c2, rfl⟩)
end M
namespace M
open PySem L2
def F_law_amounts_v1 : AF := fun ds M k _ => ∃ (t g : Addr) (b : Nat) (ns : List Int) (c : Int), ds = [.ref t, .lst (ns.map .int), .int c] ∧ M t = some (tray g (b + 6 * ns.length + 1)) ∧ ns ≠ [] ∧ ns.length ≤ 1000 ∧ (∀ n ∈ ns, 0 ≤ n ∧ n ≤ 1000) ∧ 0 ≤ c ∧ c ≤ 60 ∧
  ∀ xs : List Rat, xs.length = ns.length → (∀ x ∈ xs, Amt x) → k (.lst (xs.map frD)) (up M t (tray g b))
/-- _law_amounts -/
def b_law_amounts_v1 : AS := (aSeq (aSet 3 (aLc false (wLst (aVar 1)) (gNm 5) aYes (aCall noX F_law_amount_v1 [] (aCons (aVar 0) (aCons (aVar 5) (aCons (aIf (aB (aOp bGt (aVar 2) (aC (.int 0)))) (aVar 2) (aOp (bAdd false) (aC (.int 1)) (aCall noX F_law_draw_v1 [] (aCons (aVar 0) (aCons (aC (.int 60)) aNil))))) aNil)))) [5]))
  (aSeq (aSet 4 (aOp bIx (aLst false (aCons (aC (.int 0)) (aCons (aOp bSub (aCB cLen (aCons (aVar 1) aNil)) (aC (.int 1))) (aCons (aC .non) (aCons (aC .non) (aCons (aC .non) aNil)))))) (aCall noX F_law_draw_v1 [] (aCons (aVar 0) (aCons (aC (.int 5)) aNil)))))
  (aRet (aLc false (wRg1 (aCons (aCB cLen (aCons (aVar 1) aNil)) aNil)) (gNm 6) aYes (aIf (aOr (aB (aOp bIsN (aVar 4) (aC .non))) (aB (aOp (bEq false) (aVar 6) (aVar 4)))) (aOp bIx (aVar 3) (aVar 6)) (aTup (aCons (aC (.int 0)) (aCons (aC (.int 1)) aNil)))) [6]))))
theorem len_law_amounts_v1 : ∀ ds M k x, F_law_amounts_v1 ds M k x → ds.length = 3 := by
  rintro ds M k x ⟨a, b, _, _, _, rfl, _⟩; rfl
theorem ok_law_amounts_v1 : ∀ ds M k x, F_law_amounts_v1 ds M k x → b_law_amounts_v1 { nx := fun _ M' => fin k .non M', rt := fin k } (startG 7 ds) M := by
  rintro ds M k _ ⟨t, g, b, ns, c, rfl, hM, h0, hl, hn, c0, c1, hk⟩
  walk_at "st"
  unfold b_law_amounts_v1
  walk_at "ev"
  have hM' : up M t (tray g (b + 6 * ns.length + 1)) = M := up_self hM
  refine lc_st (fun i acc M' => ∃ xs : List Rat, acc = xs.map frD ∧ (∀ x ∈ xs, Amt x) ∧ ∃ b', b + 6 * (ns.length - i) + 1 ≤ b' ∧ M' = up M t (tray g b')) (by rw [List.length_map]; omega) ?_ ?_ ⟨[], rfl, by simp, _, Nat.le_refl _, hM'.symm⟩
  · rintro i x acc M' hx ha ⟨xs, rfl, hxs, b', hb', rfl⟩
    obtain ⟨n, hn', rfl⟩ := map_get hx
    have hi : i < ns.length := (List.getElem?_eq_some_iff.mp hn').1
    obtain ⟨n0, n1⟩ := hn n (List.mem_of_getElem? hn')
    refine ⟨by walk_at "tr", fun kd hkd => ?_⟩
    simp only [wipeG]
    walk_at "ev"
    obtain ⟨b2, rfl⟩ : ∃ b2, b' = b2 + 6 := ⟨b' - 6, by omega⟩
    refine iteD (fun hc => ?_) (fun hc => ?_)
    · walk_at "ev"
      refine ⟨t, g, b2 + 1, n, c, rfl, up_same, n0, n1, by omega, c1, fun x hx => ?_⟩
      rw [up_up]
      refine hkd _ _ ⟨xs ++ [x], by rw [List.map_append]; rfl, ?_, b2 + 1, by omega, rfl⟩
      intro y hy
      rcases List.mem_append.mp hy with hy | hy
      · exact hxs y hy
      · rw [List.mem_singleton] at hy; rw [hy]; exact hx
    · walk_at "ev"
      refine ⟨t, g, b2 + 5, 60, rfl, up_same, by decide, by decide, fun r r0 r6 => ?_⟩
      rw [up_up]
      walk_at "ev"
      refine ⟨t, g, b2, n, 1 + r, rfl, up_same, n0, n1, by omega, by omega, fun x hx => ?_⟩
      rw [up_up]
      refine hkd _ _ ⟨xs ++ [x], by rw [List.map_append]; rfl, ?_, b2, by omega, rfl⟩
      intro y hy
      rcases List.mem_append.mp hy with hy | hy
      · exact hxs y hy
      · rw [List.mem_singleton] at hy; rw [hy]; exact hx
  · rintro acc M' ha ⟨xs, rfl, hxs, b', hb', rfl⟩
    rw [List.length_map, List.length_map] at ha
    refine ⟨by walk_at "tr", ?_⟩
    walk_at "ev"
    obtain ⟨b2, rfl⟩ : ∃ b2, b' = b2 + 1 := ⟨b' - 1, by omega⟩
    refine ⟨t, g, b2, 5, rfl, up_same, by decide, by decide, fun q q0 q5 => ?_⟩
    rw [up_up]
    have hw : ∃ v : D, atI [D.int 0, D.int ((ns.map D.int).length - 1), D.non, D.non, D.non] q = some v ∧ (v = .non ∨ ∃ j : Int, v = .int j) := by
      have : q = 0 ∨ q = 1 ∨ q = 2 ∨ q = 3 ∨ q = 4 := by omega
      rcases this with rfl | rfl | rfl | rfl | rfl
      · exact ⟨_, atI_c0, .inr ⟨_, rfl⟩⟩
      · exact ⟨_, atI_c1, .inr ⟨_, rfl⟩⟩
      · exact ⟨_, atI_c2, .inl rfl⟩
      · exact ⟨_, atI_c3, .inl rfl⟩
      · exact ⟨_, atI_c4, .inl rfl⟩
    obtain ⟨v, hw, hv⟩ := hw
    walk_at "ev"
    refine ⟨by rw [List.length_map]; omega, ?_⟩
    have fini : ∀ ys : List Rat, ys.length = ns.length → (∀ y ∈ ys, Amt y) → fin k (.lst (ys.map frD)) (up M t (tray g b2)) := fun ys h1 h2 => fin.tray_le (by omega) (hk ys h1 h2)
    refine lc_st (fun i acc M' => M' = up M t (tray g b2) ∧ ∃ ys : List Rat, acc = ys.map frD ∧ (∀ y ∈ ys, Amt y)) (by rw [rng_len, List.length_map]; omega) ?_ ?_ ⟨rfl, [], rfl, by simp⟩
    · rintro i x acc M' hx ha2 ⟨rfl, ys, rfl, hys⟩
      obtain ⟨hi, rfl⟩ := rng_it hx
      rw [List.length_map] at hi
      have hi2 : i < xs.length := by omega
      refine ⟨by walk_at "tr", fun kd hkd => ?_⟩
      have hsn : ∀ y : Rat, Amt y → kd (frD y) (up M t (tray g b2)) := fun y hy => hkd _ _ ⟨rfl, ys ++ [y], by rw [List.map_append]; rfl, fun z hz => by
        rcases List.mem_append.mp hz with hz | hz
        · exact hys z hz
        · rw [List.mem_singleton] at hz; rw [hz]; exact hy⟩
      have hx1 : Amt xs[i] := hxs _ (List.getElem_mem hi2)
      have hx2 : atI (xs.map frD) (0 + (i : Int)) = some (frD xs[i]) := atI_of (by rw [List.getElem?_map, List.getElem?_eq_getElem hi2]; rfl)
      simp only [wipeG]
      rcases hv with rfl | ⟨j, rfl⟩
      · walk_at "ev"
        exact hsn _ hx1
      · walk_at "ev"
        refine iteD (fun hc => ?_) (fun hc => ?_)
        · walk_at "ev"
          exact hsn _ hx1
        · walk_at "ev"
          exact hsn 0 Amt.zero
    · rintro acc M' ha2 ⟨rfl, ys, rfl, hys⟩
      rw [rng_len, List.length_map, List.length_map] at ha2
      refine ⟨by walk_at "tr", ?_⟩
      walk_at "ev"
      exact fini ys (by omega) hys
end M
namespace M
open PySem L2
def F_law_fall : AF := fun ds M k _ => ∃ (t g : Addr) (b : Nat) (ns : List Int), ds = [.ref t, .lst (ns.map .int)] ∧ M t = some (deck g (b + 8 * ns.length + 3)) ∧ ns ≠ [] ∧ ns.length ≤ 1000 ∧ (∀ n ∈ ns, 0 ≤ n ∧ n ≤ 1000) ∧
  ∀ xs : List Rat, xs.length = ns.length → (∀ x ∈ xs, Amt x) → k (.lst (xs.map frD)) (up M t (deck g b))
/-- _law_fall -/
def b_law_fall : AS := (aSeq (aSet 2 (aCall noX F_law_take [] (aCons (aVar 0) (aCons (aC (.int 8)) aNil))))
  (aSeq (aIfS (aB (aOp (bEq false) (aVar 2) (aC (.int 0))))
  (aRet (aLc false (wLst (aVar 1)) (gNm 5) aYes (aTup (aCons (aC (.int 0)) (aCons (aC (.int 1)) aNil))) [5]))
  aNext)
  (aSeq (aSet 3 (aLc false (wLst (aVar 1)) (gNm 5) aYes (aCall noX F_law_amount_v3 [] (aCons (aVar 0) aNil)) [5]))
  (aSeq (aIfS (aB (aOp bLt (aVar 2) (aC (.int 3))))
  (aSeq (aSet 4 (aOp bIx (aLst false (aCons (aC (.int 0)) (aCons (aOp bSub (aCB cLen (aCons (aVar 1) aNil)) (aC (.int 1))) (aCons (aCall noX F_law_take [] (aCons (aVar 0) (aCons (aCB cLen (aCons (aVar 1) aNil)) aNil))) aNil)))) (aCall noX F_law_take [] (aCons (aVar 0) (aCons (aC (.int 3)) aNil)))))
  (aSet 3 (aLc false (wRg1 (aCons (aCB cLen (aCons (aVar 1) aNil)) aNil)) (gNm 6) aYes (aIf (aB (aOp (bEq false) (aVar 6) (aVar 4))) (aOp bIx (aVar 3) (aVar 6)) (aTup (aCons (aC (.int 0)) (aCons (aC (.int 1)) aNil)))) [6])))
  aNext)
  (aSeq (aIfS (aAnd (aB (aOp bLt (aVar 2) (aC (.int 5)))) (aB (aOp bGt (aVar 2) (aC (.int 2)))))
  (aSet 3 (aLc false (wLst (aVar 1)) (gNm 5) aYes (aTup (aCons (aOp bMul (aVar 5) (aCall noX F_law_take [] (aCons (aVar 0) (aCons (aC (.int 4)) aNil)))) (aCons (aC (.int 1)) aNil))) [5]))
  aNext)
  (aRet (aVar 3)))))))
theorem len_law_fall : ∀ ds M k x, F_law_fall ds M k x → ds.length = 2 := by
  rintro ds M k x ⟨a, b, _, _, rfl, _⟩; rfl
theorem frD_whole (n : Int) : D.tup [D.int n, D.int 1] = frD ((n : Int) : Rat) := by
  unfold frD; simp
theorem ok_law_fall : ∀ ds M k x, F_law_fall ds M k x → b_law_fall { nx := fun _ M' => fin k .non M', rt := fin k } (startG 7 ds) M := by
  rintro ds M k _ ⟨t, g, b, ns, rfl, hM, h0, hl, hn, hk⟩
  have hp : 0 < ns.length := List.length_pos_iff.mpr h0
  walk_at "st"
  unfold b_law_fall
  walk_at "ev"
  refine ⟨t, g, b + 8 * ns.length + 2, 8, rfl, hM, by decide, by decide, fun q q0 q8 => ?_⟩
  walk_at "ev"
  refine iteD (fun hq => ?_) (fun hq => ?_)
  · walk_at "ev"
    refine lc_st (fun i acc M' => acc = List.replicate i (frD 0) ∧ M' = up M t (deck g (b + 8 * ns.length + 2))) (by rw [List.length_map]; omega) ?_ ?_ ⟨rfl, rfl⟩
    · rintro i x acc M' hx ha ⟨rfl, rfl⟩
      obtain ⟨n, hn', rfl⟩ := map_get hx
      refine ⟨by walk_at "tr", fun kd hkd => ?_⟩
      simp only [wipeG]
      walk_at "ev"
      refine hkd _ _ ⟨?_, rfl⟩
      rw [List.replicate_succ']; rfl
    · rintro acc M' ha ⟨rfl, rfl⟩
      refine ⟨by walk_at "tr", ?_⟩
      walk_at "ev"
      rw [List.length_map, show List.replicate ns.length (frD 0) = (List.replicate ns.length (0 : Rat)).map frD by rw [List.map_replicate]]
      refine fin.deck_le (b' := b) (by omega) (hk _ (by rw [List.length_replicate]) fun x hx => ?_)
      rw [List.eq_of_mem_replicate hx]; exact Amt.zero
  · walk_at "ev"
    refine lc_st (fun i acc M' => ∃ xs : List Rat, acc = xs.map frD ∧ (∀ x ∈ xs, Amt x) ∧ M' = up M t (deck g (b + ns.length + 7 * (ns.length - i) + 2))) (by rw [List.length_map]; omega) ?_ ?_ ⟨[], rfl, by simp, congrArg (fun n => up M t (deck g n)) (by omega)⟩
    · rintro i x acc M' hx ha ⟨xs, rfl, hxs, rfl⟩
      obtain ⟨n, hn', rfl⟩ := map_get hx
      have hi : i < ns.length := (List.getElem?_eq_some_iff.mp hn').1
      refine ⟨by walk_at "tr", fun kd hkd => ?_⟩
      simp only [wipeG]
      walk_at "ev"
      refine ⟨t, g, b + ns.length + 7 * (ns.length - (i + 1)) + 2, rfl, ?_, fun x hx => ?_⟩
      · rw [up_same]; exact congrArg (fun n => some (deck g n)) (by omega)
      rw [up_up]
      refine hkd _ _ ⟨xs ++ [x], by rw [List.map_append]; rfl, ?_, rfl⟩
      intro y hy
      rcases List.mem_append.mp hy with hy | hy
      · exact hxs y hy
      · rw [List.mem_singleton] at hy; rw [hy]; exact hx
    · rintro acc M' ha ⟨xs, rfl, hxs, rfl⟩
      rw [List.length_map, List.length_map] at ha
      refine ⟨by walk_at "tr", ?_⟩
      rw [List.length_map, Nat.sub_self, Nat.mul_zero, Nat.add_zero]
      walk_at "ev"
      refine iteD (fun hq3 => ?_) (fun hq3 => ?_)
      · refine ⟨t, g, b + ns.length + 1, ns.length, rfl, up_same, by omega, by omega, fun r r0 rn => ?_⟩
        rw [up_up]
        walk_at "ev"
        refine ⟨t, g, b + ns.length, 3, rfl, up_same, by decide, by decide, fun r2 r20 r23 => ?_⟩
        rw [up_up]
        have hw : ∃ v : Int, atI [D.int 0, D.int ((ns.length : Int) - 1), D.int r] r2 = some (.int v) := by
          have : r2 = 0 ∨ r2 = 1 ∨ r2 = 2 := by omega
          rcases this with rfl | rfl | rfl
          · exact ⟨_, atI_c0⟩
          · exact ⟨_, atI_c1⟩
          · exact ⟨_, atI_c2⟩
        obtain ⟨v, hw⟩ := hw
        walk_at "ev"
        refine ⟨by omega, ?_⟩
        refine lc_st (fun i acc M' => M' = up M t (deck g (b + ns.length)) ∧ ∃ ys : List Rat, acc = ys.map frD ∧ (∀ y ∈ ys, Amt y)) (by rw [rng_len]; omega) ?_ ?_ ⟨rfl, [], rfl, by simp⟩
        · rintro i x acc M' hx ha2 ⟨rfl, ys, rfl, hys⟩
          obtain ⟨hi, rfl⟩ := rng_it hx
          have hi2 : i < xs.length := by omega
          refine ⟨by walk_at "tr", fun kd hkd => ?_⟩
          have hsn : ∀ y : Rat, Amt y → kd (frD y) (up M t (deck g (b + ns.length))) := fun y hy => hkd _ _ ⟨rfl, ys ++ [y], by rw [List.map_append]; rfl, fun z hz => by
            rcases List.mem_append.mp hz with hz | hz
            · exact hys z hz
            · rw [List.mem_singleton] at hz; rw [hz]; exact hy⟩
          have hx1 : Amt xs[i] := hxs _ (List.getElem_mem hi2)
          have hx2 : atI (xs.map frD) (0 + (i : Int)) = some (frD xs[i]) := atI_of (by rw [List.getElem?_map, List.getElem?_eq_getElem hi2]; rfl)
          simp only [wipeG]
          walk_at "ev"
          refine iteD (fun hc => ?_) (fun hc => ?_)
          · walk_at "ev"
            exact hsn _ hx1
          · walk_at "ev"
            exact hsn 0 Amt.zero
        · rintro acc M' ha2 ⟨rfl, ys, rfl, hys⟩
          rw [rng_len, List.length_map] at ha2
          refine ⟨by walk_at "tr", ?_⟩
          walk_at "ev"
          refine iteDT (by omega) ?_
          refine iteDF (by omega) ?_
          exact fin.deck_le (b' := b) (by omega) (hk ys (by omega) hys)
      · refine iteD (fun hq5 => ?_) (fun hq5 => ?_)
        · refine iteDT (by omega) ?_
          refine lc_st (fun i acc M' => ∃ ys : List Rat, acc = ys.map frD ∧ (∀ y ∈ ys, Amt y) ∧ M' = up M t (deck g (b + (ns.length - i) + 2))) (by rw [List.length_map]; omega) ?_ ?_ ⟨[], rfl, by simp, rfl⟩
          · rintro i x acc M' hx ha2 ⟨ys, rfl, hys, rfl⟩
            obtain ⟨n, hn', rfl⟩ := map_get hx
            have hi : i < ns.length := (List.getElem?_eq_some_iff.mp hn').1
            obtain ⟨n0, n1⟩ := hn n (List.mem_of_getElem? hn')
            refine ⟨by walk_at "tr", fun kd hkd => ?_⟩
            simp only [wipeG]
            walk_at "ev"
            refine ⟨t, g, b + (ns.length - (i + 1)) + 2, 4, rfl, ?_, by decide, by decide, fun r r0 r4 => ?_⟩
            · rw [up_same]; exact congrArg (fun n => some (deck g n)) (by omega)
            rw [up_up]
            have m1 : IntMulOk n r := mul_okR (by omega) (by omega)
            walk_at "ev"
            rw [frD_whole]
            refine hkd _ _ ⟨ys ++ [((n * r : Int) : Rat)], by rw [List.map_append]; rfl, ?_, rfl⟩
            intro z hz
            rcases List.mem_append.mp hz with hz | hz
            · exact hys z hz
            · rw [List.mem_singleton] at hz; rw [hz]
              have b1 : 0 ≤ n * r := Int.mul_nonneg n0 r0
              have b2 : n * r ≤ 4000 := by
                have := Int.mul_le_mul n1 (by omega : r ≤ 4) r0 (by omega : (0 : Int) ≤ 1000)
                omega
              exact ⟨n * r, 1, b1, by omega, by decide, by decide, by rw [show (1 : Int).toNat = 1 from rfl, Rat.mkRat_one]⟩
          · rintro acc M' ha2 ⟨ys, rfl, hys, rfl⟩
            rw [List.length_map, List.length_map] at ha2
            refine ⟨by walk_at "tr", ?_⟩
            walk_at "ev"
            exact fin.deck_le (b' := b) (by omega) (hk ys (by omega) hys)
        · walk_at "ev"
          exact fin.deck_le (b' := b) (by omega) (hk xs (by omega) hxs)
end M
namespace M
open PySem L2
def F_law_fall_m : AF := fun ds M k _ => ∃ (t g : Addr) (b : Nat) (ns : List Int), ds = [.ref t, .lst (ns.map .int)] ∧ M t = some (deck g (b + 8 * ns.length + 3)) ∧ ns ≠ [] ∧ ns.length ≤ 1000 ∧ (∀ n ∈ ns, 0 ≤ n ∧ n ≤ 1000) ∧
  ∀ xs : List Rat, xs.length = ns.length → (∀ x ∈ xs, Amt x) → ∀ r, M r = none → k (.ref r) (up (up M t (deck g b)) r (.obj (.lst (xs.map frD))))
/-- _law_fall -/
def b_law_fall_m : AS := (aSeq (aSet 2 (aCall noX F_law_take [] (aCons (aVar 0) (aCons (aC (.int 8)) aNil))))
  (aSeq (aIfS (aB (aOp (bEq false) (aVar 2) (aC (.int 0))))
  (aRet (aLc true (wLst (aVar 1)) (gNm 5) aYes (aTup (aCons (aC (.int 0)) (aCons (aC (.int 1)) aNil))) [5]))
  aNext)
  (aSeq (aSet 3 (aLc true (wLst (aVar 1)) (gNm 5) aYes (aCall noX F_law_amount_v3 [] (aCons (aVar 0) aNil)) [5]))
  (aSeq (aIfS (aB (aOp bLt (aVar 2) (aC (.int 3))))
  (aSeq (aSet 4 (aOp bIx (aLst false (aCons (aC (.int 0)) (aCons (aOp bSub (aCB cLen (aCons (aVar 1) aNil)) (aC (.int 1))) (aCons (aCall noX F_law_take [] (aCons (aVar 0) (aCons (aCB cLen (aCons (aVar 1) aNil)) aNil))) aNil)))) (aCall noX F_law_take [] (aCons (aVar 0) (aCons (aC (.int 3)) aNil)))))
  (aSet 3 (aLc true (wRg1 (aCons (aCB cLen (aCons (aVar 1) aNil)) aNil)) (gNm 6) aYes (aIf (aB (aOp (bEq false) (aVar 6) (aVar 4))) (aOp bIx (aVar 3) (aVar 6)) (aTup (aCons (aC (.int 0)) (aCons (aC (.int 1)) aNil)))) [6])))
  aNext)
  (aSeq (aIfS (aAnd (aB (aOp bLt (aVar 2) (aC (.int 5)))) (aB (aOp bGt (aVar 2) (aC (.int 2)))))
  (aSet 3 (aLc true (wLst (aVar 1)) (gNm 5) aYes (aTup (aCons (aOp bMul (aVar 5) (aCall noX F_law_take [] (aCons (aVar 0) (aCons (aC (.int 4)) aNil)))) (aCons (aC (.int 1)) aNil))) [5]))
  aNext)
  (aRet (aVar 3)))))))
theorem len_law_fall_m : ∀ ds M k x, F_law_fall_m ds M k x → ds.length = 2 := by
  rintro ds M k x ⟨a, b, _, _, rfl, _⟩; rfl
theorem fin_fall {k : AK} {M : MH} {t g r : Addr} {b b' : Nat} {o : BO} (h : b' ≤ b) (hr : up M t (deck g b) r = none) (hk : ∀ r, M r = none → k (.ref r) (up (up M t (deck g b')) r (.obj o))) : fin k (.ref r) (up (up M t (deck g b)) r (.obj o)) := by
  have rt : r ≠ t := fun z => by rw [z, up_same] at hr; cases hr
  rw [up_ne rt] at hr
  rw [up_comm rt.symm]
  refine fin.deck_le h ?_
  rw [← up_comm rt.symm]
  exact hk r hr
theorem fin_fall2 {k : AK} {M : MH} {t g p r : Addr} {b b' : Nat} {o o' : BO} (h : b' ≤ b) (hp : M p = none) (pt : p ≠ t) (hr : up (up M t (deck g b)) p (.obj o') r = none) (hk : ∀ r, M r = none → k (.ref r) (up (up M t (deck g b')) r (.obj o))) : fin k (.ref r) (up (up (up M t (deck g b)) p (.obj o')) r (.obj o)) := by
  have rp : r ≠ p := fun z => by rw [z, up_same] at hr; cases hr
  rw [up_ne rp] at hr
  refine fin.fin (fin.less (M' := up (up M t (deck g b)) r (.obj o)) (fun x => ?_) (fin_fall h hr hk))
  by_cases z : x = r
  · rw [z, up_same, up_same]; exact .inl rfl
  · rw [up_ne z, up_ne z]
    by_cases y : x = p
    · rw [y, up_same, up_ne pt]; exact .inr ⟨hp, _, rfl⟩
    · rw [up_ne y]; exact .inl rfl
theorem ok_law_fall_m : ∀ ds M k x, F_law_fall_m ds M k x → b_law_fall_m { nx := fun _ M' => fin k .non M', rt := fin k } (startG 7 ds) M := by
  rintro ds M k _ ⟨t, g, b, ns, rfl, hM, h0, hl, hn, hk⟩
  have hp : 0 < ns.length := List.length_pos_iff.mpr h0
  walk_at "st"
  unfold b_law_fall_m
  walk_at "ev"
  refine ⟨t, g, b + 8 * ns.length + 2, 8, rfl, hM, by decide, by decide, fun q q0 q8 => ?_⟩
  walk_at "ev"
  refine iteD (fun hq => ?_) (fun hq => ?_)
  · walk_at "ev"
    refine lc_st (fun i acc M' => acc = List.replicate i (frD 0) ∧ M' = up M t (deck g (b + 8 * ns.length + 2))) (by rw [List.length_map]; omega) ?_ ?_ ⟨rfl, rfl⟩
    · rintro i x acc M' hx ha ⟨rfl, rfl⟩
      obtain ⟨n, hn', rfl⟩ := map_get hx
      refine ⟨by walk_at "tr", fun kd hkd => ?_⟩
      simp only [wipeG]
      walk_at "ev"
      refine hkd _ _ ⟨?_, rfl⟩
      rw [List.replicate_succ']; rfl
    · rintro acc M' ha ⟨rfl, rfl⟩
      refine ⟨by walk_at "tr", ?_⟩
      walk_at "ev"
      rw [List.length_map, show List.replicate ns.length (frD 0) = (List.replicate ns.length (0 : Rat)).map frD by rw [List.map_replicate]]
      intro r hr
      refine fin_fall (b' := b) (by omega) hr (hk _ (by rw [List.length_replicate]) fun x hx => ?_)
      rw [List.eq_of_mem_replicate hx]; exact Amt.zero
  · walk_at "ev"
    refine lc_st (fun i acc M' => ∃ xs : List Rat, acc = xs.map frD ∧ (∀ x ∈ xs, Amt x) ∧ M' = up M t (deck g (b + ns.length + 7 * (ns.length - i) + 2))) (by rw [List.length_map]; omega) ?_ ?_ ⟨[], rfl, by simp, congrArg (fun n => up M t (deck g n)) (by omega)⟩
    · rintro i x acc M' hx ha ⟨xs, rfl, hxs, rfl⟩
      obtain ⟨n, hn', rfl⟩ := map_get hx
      have hi : i < ns.length := (List.getElem?_eq_some_iff.mp hn').1
      refine ⟨by walk_at "tr", fun kd hkd => ?_⟩
      simp only [wipeG]
      walk_at "ev"
      refine ⟨t, g, b + ns.length + 7 * (ns.length - (i + 1)) + 2, rfl, ?_, fun x hx => ?_⟩
      · rw [up_same]; exact congrArg (fun n => some (deck g n)) (by omega)
      rw [up_up]
      refine hkd _ _ ⟨xs ++ [x], by rw [List.map_append]; rfl, ?_, rfl⟩
      intro y hy
      rcases List.mem_append.mp hy with hy | hy
      · exact hxs y hy
      · rw [List.mem_singleton] at hy; rw [hy]; exact hx
    · rintro acc M' ha ⟨xs, rfl, hxs, rfl⟩
      rw [List.length_map, List.length_map] at ha
      refine ⟨by walk_at "tr", ?_⟩
      rw [List.length_map, Nat.sub_self, Nat.mul_zero, Nat.add_zero]
      walk_at "ev"
      intro p hp'
      have pt : p ≠ t := fun z => by rw [z, up_same] at hp'; cases hp'
      have tp : t ≠ p := pt.symm
      have hp0 : M p = none := by rw [up_ne pt] at hp'; exact hp'
      refine iteD (fun hq3 => ?_) (fun hq3 => ?_)
      · walk_at "ev"
        refine ⟨t, g, b + ns.length + 1, ns.length, rfl, by rw [up_ne tp]; exact up_same, by omega, by omega, fun r r0 rn => ?_⟩
        rw [up_comm pt, up_up]
        walk_at "ev"
        refine ⟨t, g, b + ns.length, 3, rfl, by rw [up_ne tp]; exact up_same, by decide, by decide, fun r2 r20 r23 => ?_⟩
        rw [up_comm pt, up_up]
        have hw : ∃ v : Int, atI [D.int 0, D.int ((ns.length : Int) - 1), D.int r] r2 = some (.int v) := by
          have : r2 = 0 ∨ r2 = 1 ∨ r2 = 2 := by omega
          rcases this with rfl | rfl | rfl
          · exact ⟨_, atI_c0⟩
          · exact ⟨_, atI_c1⟩
          · exact ⟨_, atI_c2⟩
        obtain ⟨v, hw⟩ := hw
        walk_at "ev"
        refine ⟨by omega, ?_⟩
        refine lc_st (fun i acc M' => M' = up (up M t (deck g (b + ns.length))) p (.obj (.lst (xs.map frD))) ∧ ∃ ys : List Rat, acc = ys.map frD ∧ (∀ y ∈ ys, Amt y)) (by rw [rng_len]; omega) ?_ ?_ ⟨rfl, [], rfl, by simp⟩
        · rintro i x acc M' hx ha2 ⟨rfl, ys, rfl, hys⟩
          obtain ⟨hi, rfl⟩ := rng_it hx
          have hi2 : i < xs.length := by omega
          refine ⟨by walk_at "tr", fun kd hkd => ?_⟩
          have hsn : ∀ y : Rat, Amt y → kd (frD y) (up (up M t (deck g (b + ns.length))) p (.obj (.lst (xs.map frD)))) := fun y hy => hkd _ _ ⟨rfl, ys ++ [y], by rw [List.map_append]; rfl, fun z hz => by
            rcases List.mem_append.mp hz with hz | hz
            · exact hys z hz
            · rw [List.mem_singleton] at hz; rw [hz]; exact hy⟩
          have hx1 : Amt xs[i] := hxs _ (List.getElem_mem hi2)
          have hx2 : atI (xs.map frD) (0 + (i : Int)) = some (frD xs[i]) := atI_of (by rw [List.getElem?_map, List.getElem?_eq_getElem hi2]; rfl)
          have hpp : up (up M t (deck g (b + ns.length))) p (.obj (.lst (xs.map frD))) p = some (.obj (.lst (xs.map frD))) := up_same
          simp only [wipeG]
          walk_at "ev"
          refine iteD (fun hc => ?_) (fun hc => ?_)
          · walk_at "ev"
            exact hsn _ hx1
          · walk_at "ev"
            exact hsn 0 Amt.zero
        · rintro acc M' ha2 ⟨rfl, ys, rfl, hys⟩
          rw [rng_len, List.length_map] at ha2
          refine ⟨by walk_at "tr", ?_⟩
          walk_at "ev"
          intro r9 hr9
          walk_at "ev"
          refine iteDT (by omega) ?_
          refine iteDF (by omega) ?_
          walk_at "ev"
          exact fin_fall2 (b' := b) (by omega) hp0 pt hr9 (hk ys (by omega) hys)
      · refine iteD (fun hq5 => ?_) (fun hq5 => ?_)
        · refine iteDT (by omega) ?_
          refine lc_st (fun i acc M' => ∃ ys : List Rat, acc = ys.map frD ∧ (∀ y ∈ ys, Amt y) ∧ M' = up (up M t (deck g (b + (ns.length - i) + 2))) p (.obj (.lst (xs.map frD)))) (by rw [List.length_map]; omega) ?_ ?_ ⟨[], rfl, by simp, rfl⟩
          · rintro i x acc M' hx ha2 ⟨ys, rfl, hys, rfl⟩
            obtain ⟨n, hn', rfl⟩ := map_get hx
            have hi : i < ns.length := (List.getElem?_eq_some_iff.mp hn').1
            obtain ⟨n0, n1⟩ := hn n (List.mem_of_getElem? hn')
            refine ⟨by walk_at "tr", fun kd hkd => ?_⟩
            simp only [wipeG]
            walk_at "ev"
            refine ⟨t, g, b + (ns.length - (i + 1)) + 2, 4, rfl, ?_, by decide, by decide, fun r r0 r4 => ?_⟩
            · rw [up_ne tp, up_same]; exact congrArg (fun n => some (deck g n)) (by omega)
            rw [up_comm pt, up_up]
            have m1 : IntMulOk n r := mul_okR (by omega) (by omega)
            walk_at "ev"
            rw [frD_whole]
            refine hkd _ _ ⟨ys ++ [((n * r : Int) : Rat)], by rw [List.map_append]; rfl, ?_, rfl⟩
            intro z hz
            rcases List.mem_append.mp hz with hz | hz
            · exact hys z hz
            · rw [List.mem_singleton] at hz; rw [hz]
              have b1 : 0 ≤ n * r := Int.mul_nonneg n0 r0
              have b2 : n * r ≤ 4000 := by
                have := Int.mul_le_mul n1 (by omega : r ≤ 4) r0 (by omega : (0 : Int) ≤ 1000)
                omega
              exact ⟨n * r, 1, b1, by omega, by decide, by decide, by rw [show (1 : Int).toNat = 1 from rfl, Rat.mkRat_one]⟩
          · rintro acc M' ha2 ⟨ys, rfl, hys, rfl⟩
            rw [List.length_map, List.length_map] at ha2
            refine ⟨by walk_at "tr", ?_⟩
            walk_at "ev"
            intro r9 hr9
            walk_at "ev"
            exact fin_fall2 (b' := b) (by omega) hp0 pt hr9 (hk ys (by omega) hys)
        · walk_at "ev"
          exact fin_fall (b' := b) (by omega) hp' (hk xs (by omega) hxs)
end M
namespace M
open PySem L2
theorem hp_mono {xs ys : List Rat} (h : ∀ (i : Nat) x y, xs[i]? = some x → ys[i]? = some y → x ≤ y) (hl : xs.length = ys.length) : ∀ k, hp xs k ≤ hp ys k := by
  intro k
  induction k with
  | zero => exact Rat.le_refl
  | succ k ih =>
    by_cases z : k < xs.length
    · have e1 := List.getElem?_eq_getElem z
      have e2 := List.getElem?_eq_getElem (l := ys) (i := k) (by omega)
      have := h k _ _ e1 e2
      rw [hp_succ e1, hp_succ e2]
      grind
    · have f : ∀ zs : List Rat, zs.length ≤ k → hp zs (k + 1) = hp zs k := fun zs hz => by
        unfold hp
        rw [List.take_of_length_le (by omega), List.take_of_length_le hz]
      rw [f xs (by omega), f ys (by omega)]
      exact ih
/-- two waters put together -/
def putR (xs ys : List Rat) : List Rat := List.zipWith (· + ·) xs ys
theorem putR_len {xs ys : List Rat} (h : xs.length = ys.length) : (putR xs ys).length = xs.length := by unfold putR; rw [List.length_zipWith]; omega
theorem putR_get {xs ys : List Rat} {i : Nat} {x y : Rat} (h1 : xs[i]? = some x) (h2 : ys[i]? = some y) : (putR xs ys)[i]? = some (x + y) := by
  unfold putR
  rw [List.getElem?_zipWith, h1, h2]
theorem putR_hp {xs ys : List Rat} (hl : xs.length = ys.length) (k : Nat) : hp (putR xs ys) k = hp xs k + hp ys k := by
  induction k with
  | zero => rw [hp_zero, hp_zero, hp_zero]; exact (Rat.add_zero 0).symm
  | succ k ih =>
    by_cases z : k < xs.length
    · have e1 := List.getElem?_eq_getElem z
      have e2 := List.getElem?_eq_getElem (l := ys) (i := k) (by omega)
      rw [hp_succ e1, hp_succ e2, hp_succ (putR_get e1 e2), ih]
      grind
    · have f : ∀ zs : List Rat, zs.length ≤ k → hp zs (k + 1) = hp zs k := fun zs hz => by
        unfold hp
        rw [List.take_of_length_le (by omega), List.take_of_length_le hz]
      rw [f xs (by omega), f ys (by omega), f _ (by rw [putR_len hl]; omega)]
      exact ih
theorem WOk.mono {V W D : Nat} {xs : List Rat} (h : WOk V D xs) (hv : V ≤ W) : WOk W D xs := ⟨h.nn, h.d, Rat.le_trans h.s (Rat.natCast_le_natCast.mpr hv)⟩
theorem WOk.den {V D L : Nat} {xs : List Rat} (h : WOk V D xs) : WOk V (D * L) xs := ⟨h.nn, fun x hx => by
  obtain ⟨a, ha⟩ := h.d x hx
  exact ⟨a * L, by rw [Rat.natCast_mul, Rat.intCast_mul, ← ha, Rat.intCast_natCast]; grind⟩, h.s⟩
theorem putR_mem {xs ys : List Rat} {z : Rat} (h : z ∈ putR xs ys) : ∃ x ∈ xs, ∃ y ∈ ys, z = x + y := by
  unfold putR at h
  obtain ⟨i, hi⟩ := List.getElem?_of_mem h
  rw [List.getElem?_zipWith] at hi
  cases e1 : xs[i]? with
  | none => rw [e1] at hi; cases hi
  | some x =>
    cases e2 : ys[i]? with
    | none => rw [e1, e2] at hi; cases hi
    | some y =>
      rw [e1, e2] at hi
      exact ⟨x, List.mem_of_getElem? e1, y, List.mem_of_getElem? e2, (Option.some.inj hi).symm⟩
theorem WOk.put {V W D : Nat} {xs ys : List Rat} (h : WOk V D xs) (g : WOk W D ys) (hl : xs.length = ys.length) : WOk (V + W) D (putR xs ys) := by
  refine ⟨fun z hz => ?_, fun z hz => ?_, ?_⟩
  · obtain ⟨x, hx, y, hy, rfl⟩ := putR_mem hz
    have := h.nn x hx
    have := g.nn y hy
    grind
  · obtain ⟨x, hx, y, hy, rfl⟩ := putR_mem hz
    exact (h.d x hx).add (g.d y hy)
  · have e := putR_hp hl xs.length
    have e1 : hp (putR xs ys) xs.length = (putR xs ys).sum := by rw [← putR_len hl, hp_len]
    have e2 : hp ys xs.length = ys.sum := by rw [hl, hp_len]
    rw [e1, hp_len, e2] at e
    rw [e, Rat.natCast_add]
    have := h.s
    have := g.s
    grind
/-- all so many times -/
def scR (c : Rat) (xs : List Rat) : List Rat := xs.map (fun x => c * x)
theorem scR_len (c : Rat) (xs : List Rat) : (scR c xs).length = xs.length := by unfold scR; rw [List.length_map]
theorem scR_hp (c : Rat) (xs : List Rat) (k : Nat) : hp (scR c xs) k = c * hp xs k := by
  have : ∀ l : List Rat, (l.map (fun x => c * x)).sum = c * l.sum := by
    intro l
    induction l with
    | nil => rw [List.map_nil, List.sum_nil, Rat.mul_zero]
    | cons x l ih => rw [List.map_cons, List.sum_cons, List.sum_cons, ih]; grind
  unfold hp scR
  rw [← List.map_take, this]
theorem WOk.scale {V D : Nat} {xs : List Rat} (h : WOk V D xs) (c : Nat) : WOk (c * V) D (scR (c : Rat) xs) := by
  have c0 : (0 : Rat) ≤ (c : Rat) := Rat.natCast_nonneg
  refine ⟨fun z hz => ?_, fun z hz => ?_, ?_⟩
  · unfold scR at hz
    obtain ⟨x, hx, rfl⟩ := List.mem_map.mp hz
    exact Rat.mul_nonneg c0 (h.nn x hx)
  · unfold scR at hz
    obtain ⟨x, hx, rfl⟩ := List.mem_map.mp hz
    obtain ⟨a, ha⟩ := h.d x hx
    exact ⟨c * a, by rw [Rat.intCast_mul, ← ha, Rat.intCast_natCast]; grind⟩
  · have e := scR_hp (c : Rat) xs xs.length
    rw [hp_len] at e
    have e1 : hp (scR (c : Rat) xs) xs.length = (scR (c : Rat) xs).sum := by rw [← scR_len (c : Rat) xs, hp_len]
    rw [← e1, e, Rat.natCast_mul]
    exact Rat.mul_le_mul_of_nonneg_left h.s c0
section
variable {ns : List Int} {xs ys : List Rat} {bs bs' : List Int} {V W D L : Nat}
theorem Rest.fn {n : Nat} {P H H' X X' : Nat → Rat} {B : Nat → Prop} (r : Rest n P H X B) (h1 : H = H') (h2 : X = X') : Rest n P H' X' B := by rw [← h1, ← h2]; exact r
theorem settle_scale (hr : RowOk ns) (hl : ns.length = xs.length) (hf : Flaps ns.length bs) (hL : Lcm ns L) (hw : WOk V D xs) (c : Nat) : settle ns (scR (c : Rat) xs) bs = scR (c : Rat) (settle ns xs bs) := by
  obtain ⟨s1, s2, s3⟩ := settle_ok hr hl hf hL hw
  exact settle_eq hr (by rw [scR_len]; exact s1) ((s2.scale (c := (c : Rat)) Rat.natCast_nonneg).fn (funext fun k => (scR_hp _ _ k).symm) (funext fun k => (scR_hp _ _ k).symm))
theorem settle_mono (hr : RowOk ns) (hl : ns.length = xs.length) (hl' : ns.length = ys.length) (hf : Flaps ns.length bs) (hf' : Flaps ns.length bs') (hL : Lcm ns L) (hw : WOk V D xs) (hw' : WOk W D ys) (hb : ∀ b ∈ bs, b ∈ bs') (h : ∀ k, k ≤ ns.length → hp xs k ≤ hp ys k) {k : Nat} (hk : k ≤ ns.length) : hp (settle ns xs bs) k ≤ hp (settle ns ys bs') k := by
  obtain ⟨s1, s2, s3⟩ := settle_ok hr hl hf hL hw
  obtain ⟨t1, t2, t3⟩ := settle_ok hr hl' hf' hL hw'
  exact s2.mono hr.strict (.inl rfl) (.inr (.inl rfl)) t2 (fun k h => h.imp id fun h => h.imp id fun h => hb _ h) h hk
theorem settle_super (hr : RowOk ns) (hl : ns.length = xs.length) (hl' : ns.length = ys.length) (hf : Flaps ns.length bs) (hL : Lcm ns L) (hw : WOk V D xs) (hw' : WOk W D ys) {k : Nat} (hk : k ≤ ns.length) : hp (settle ns xs bs) k + hp (settle ns ys bs) k ≤ hp (settle ns (putR xs ys) bs) k := by
  obtain ⟨s1, s2, s3⟩ := settle_ok hr hl hf hL hw
  obtain ⟨t1, t2, t3⟩ := settle_ok hr hl' hf hL hw'
  have hlp : xs.length = ys.length := hl.symm.trans hl'
  obtain ⟨u1, u2, u3⟩ := settle_ok hr (xs := putR xs ys) (by rw [putR_len hlp]; exact hl) hf hL (hw.put hw' hlp)
  exact s2.super hr.strict (.inl rfl) (.inr (.inl rfl)) t2 (u2.fn (funext fun k => putR_hp hlp k) rfl) hk
theorem settle_all (hr : RowOk ns) (hl : ns.length = xs.length) (hb : ∀ k : Nat, 0 < k → k < ns.length → (k : Int) ∈ bs) : settle ns xs bs = xs :=
  settle_eq hr hl.symm (Rest.self fun k h1 h2 h3 => absurd (.inr (.inr (hb k h1 h2))) h3)
theorem settle_sum (hr : RowOk ns) (hl : ns.length = xs.length) (hf : Flaps ns.length bs) (hL : Lcm ns L) (hw : WOk V D xs) : (settle ns xs bs).sum = xs.sum := by
  obtain ⟨s1, s2, s3⟩ := settle_ok hr hl hf hL hw
  have := s2.cut ns.length (Nat.le_refl _) (.inr (.inl rfl))
  rw [← hp_len, s1, this, hl, hp_len]
end
end M
namespace M
open PySem L2
/-- room for steps: rain to B, bottoms dividing D0 -/
structure HRm (B D0 : Nat) : Prop where
  d0 : 0 < D0
  d : D0 < 2 ^ 140
  b : B < 2 ^ 59
/-- a History of good floors, waters and rain -/
structure HOk (B D0 : Nat) (h : HD) : Prop where
  row : RowOk h.ns
  sum : h.ns.sum ≤ 72
  wl : h.ws.length = h.st.length + 1
  few : h.st.length ≤ 16
  w : ∀ (i : Nat) w, h.ws[i]? = some w → w.length = h.ns.length ∧ WOk (B * (i + 1)) (D0 * L72 ^ i) w
  s : ∀ (i : Nat) s w, h.st[i]? = some s → h.ws[i]? = some w → Flaps h.ns.length s.1 ∧ s.1.Pairwise (· ≤ ·) ∧ s.2.length = h.ns.length ∧ WOk B D0 s.2 ∧ h.ws[i + 1]? = some (settle h.ns (putR w s.2) s.1)
/-- the water now -/
def HD.now (h : HD) : List Rat := h.ws.getLastD []
theorem HOk.now {B D0 : Nat} {h : HD} (ok : HOk B D0 h) : h.ws[h.st.length]? = some h.now ∧ h.now.length = h.ns.length ∧ WOk (B * (h.st.length + 1)) (D0 * L72 ^ h.st.length) h.now := by
  have e : h.ws[h.st.length]? = some h.now := by
    unfold HD.now
    rw [List.getLastD_eq_getLast?, List.getLast?_eq_getElem?, ok.wl, Nat.add_sub_cancel]
    have := List.getElem?_eq_getElem (show h.st.length < h.ws.length by have := ok.wl; omega)
    rw [this]; rfl
  exact ⟨e, ok.w _ _ e⟩
theorem HRm.rm {B D0 i : Nat} (r : HRm B D0) (hi : i ≤ 16) : Rm (B * (i + 1)) (D0 * L72 ^ i) := by
  have h1 : 0 < L72 ^ i := Nat.pow_pos L72_pos
  have h2 : L72 ^ i ≤ 2 ^ (103 * 16) := Nat.le_trans (Nat.pow_le_pow_left (Nat.le_of_lt L72_lt) i) (by rw [← Nat.pow_mul]; exact Nat.pow_le_pow_right (by decide) (Nat.mul_le_mul_left _ hi))
  refine ⟨Nat.mul_pos r.d0 h1, ?_, ?_⟩
  · refine lt_pow (a := 140 + 103 * 16) ?_ (by decide)
    rw [Nat.pow_add]
    exact Nat.lt_of_lt_of_le (Nat.mul_lt_mul_of_pos_right r.d h1) (Nat.mul_le_mul_left _ h2)
  · refine lt_pow (a := 59 + 5) ?_ (by decide)
    rw [Nat.pow_add]
    exact Nat.lt_of_lt_of_le (Nat.mul_lt_mul_of_pos_right r.b (by omega)) (Nat.mul_le_mul_left _ (by show i + 1 ≤ 32; omega))
/-- with a step more -/
noncomputable def HD.add (h : HD) (bs : List Int) (rain : List Rat) : HD := ⟨h.ns, h.ws ++ [settle h.ns (putR h.now rain) bs], h.st ++ [(bs, rain)]⟩
theorem HOk.lcm {B D0 : Nat} {h : HD} (ok : HOk B D0 h) : Lcm h.ns L72 := Lcm.l72 ok.sum
theorem WOk.up {V W D E : Nat} {xs : List Rat} (h : WOk V D xs) (hv : V ≤ W) : WOk W (D * E) xs := (h.mono hv).den
theorem HOk.fell {B D0 : Nat} {h : HD} {rain : List Rat} (ok : HOk B D0 h) (hl : rain.length = h.ns.length) (hw : WOk B D0 rain) : h.now.length = rain.length ∧ h.ns.length = (putR h.now rain).length ∧ WOk (B * (h.st.length + 1 + 1)) (D0 * L72 ^ h.st.length) (putR h.now rain) := by
  obtain ⟨e, l, w⟩ := ok.now
  have hlp : h.now.length = rain.length := by omega
  refine ⟨hlp, by rw [putR_len hlp, l], ?_⟩
  have := w.put (hw.den (L := L72 ^ h.st.length)) hlp
  refine this.mono (by rw [Nat.mul_succ]; exact Nat.le_refl _)
theorem HOk.add {B D0 : Nat} {h : HD} {bs : List Int} {rain : List Rat} (ok : HOk B D0 h) (hf : Flaps h.ns.length bs) (hs : bs.Pairwise (· ≤ ·)) (hl : rain.length = h.ns.length) (hw : WOk B D0 rain) (few : h.st.length < 16) : HOk B D0 (h.add bs rain) := by
  obtain ⟨e, l, w⟩ := ok.now
  obtain ⟨f1, f2, f3⟩ := ok.fell hl hw
  obtain ⟨s1, s2, s3⟩ := settle_ok ok.row f2 hf ok.lcm f3
  have wl := ok.wl
  refine ⟨ok.row, ok.sum, ?_, ?_, fun i w' hi => ?_, fun i s w' hi hwi => ?_⟩
  · show (h.ws ++ [_]).length = (h.st ++ [_]).length + 1
    rw [List.length_append, List.length_append, wl]; rfl
  · show (h.st ++ [_]).length ≤ 16
    rw [List.length_append]; exact few
  · show w'.length = h.ns.length ∧ _
    have hi : (h.ws ++ [settle h.ns (putR h.now rain) bs])[i]? = some w' := hi
    by_cases z : i < h.ws.length
    · rw [List.getElem?_append_left z] at hi
      exact ok.w i w' hi
    · have hlt := (List.getElem?_eq_some_iff.mp hi).1
      rw [List.length_append, List.length_singleton] at hlt
      have : i = h.ws.length := by omega
      subst this
      rw [List.getElem?_append_right (Nat.le_refl _), Nat.sub_self] at hi
      cases hi
      refine ⟨s1, ?_⟩
      rw [wl]
      rw [Nat.mul_assoc, ← Nat.pow_succ] at s3
      exact s3
  · have hi : (h.st ++ [(bs, rain)])[i]? = some s := hi
    have hwi : (h.ws ++ [settle h.ns (putR h.now rain) bs])[i]? = some w' := hwi
    show Flaps h.ns.length s.1 ∧ _ ∧ _ ∧ _ ∧ (h.ws ++ [settle h.ns (putR h.now rain) bs])[i + 1]? = some (settle h.ns (putR w' s.2) s.1)
    by_cases z : i < h.st.length
    · rw [List.getElem?_append_left z] at hi
      rw [List.getElem?_append_left (by omega)] at hwi
      rw [List.getElem?_append_left (by omega)]
      exact ok.s i s w' hi hwi
    · have hlt := (List.getElem?_eq_some_iff.mp hi).1
      rw [List.length_append, List.length_singleton] at hlt
      have : i = h.st.length := by omega
      subst this
      rw [List.getElem?_append_right (Nat.le_refl _), Nat.sub_self] at hi
      cases hi
      rw [List.getElem?_append_left (by omega), e] at hwi
      cases hwi
      refine ⟨hf, hs, hl, hw, ?_⟩
      rw [List.getElem?_append_right (by omega), wl, Nat.sub_self]; rfl
/-- a History begun -/
theorem HOk.new {B D0 : Nat} {ns : List Int} {w : List Rat} (hr : RowOk ns) (hs : ns.sum ≤ 72) (hl : w.length = ns.length) (hw : WOk B D0 w) : HOk B D0 ⟨ns, [w], []⟩ := by
  refine ⟨hr, hs, rfl, Nat.zero_le _, fun i w' hi => ?_, fun i s w' hi _ => by simp at hi⟩
  have hlt := (List.getElem?_eq_some_iff.mp hi).1
  simp only [List.length_singleton] at hlt
  have : i = 0 := by omega
  subst this
  cases hi
  refine ⟨hl, ?_⟩
  rw [Nat.zero_add, Nat.mul_one, Nat.pow_zero, Nat.mul_one]
  exact hw
/-! the box -/
/-- a History stands at p -/
def IsH (M : MH) (C p : Addr) (h : HD) : Prop := ∃ a b c, M p = some (hBox C a b c h)
def hPut (M : MH) (p C a b c : Addr) (h : HD) : MH := up (up (up (up M a (.part p)) b (.part p)) c (.part p)) p (hBox C a b c h)
/-- the History open -/
def hOpen (M : MH) (p C a b c : Addr) (h : HD) : MH := opn M [p, a, b, c] (hBs C a b c h)
section
variable {M : MH} {p C a b c : Addr} {h h' : HD}
theorem hOpen_p (n1 : p ≠ a) (n2 : p ≠ b) (n3 : p ≠ c) : hOpen M p C a b c h p = some (.obj (.ins C (hF a b c))) := by
  show up (up (up (up M p _) a _) b _) c _ p = _
  rw [up_ne n3, up_ne n2, up_ne n1]; exact up_same
theorem hOpen_a (n1 : a ≠ b) (n2 : a ≠ c) : hOpen M p C a b c h a = some (.obj (.lst (h.ns.map .int))) := by
  show up (up (up (up M p _) a _) b _) c _ a = _
  rw [up_ne n2, up_ne n1]; exact up_same
theorem hOpen_b (n1 : b ≠ c) : hOpen M p C a b c h b = some (.obj (.lst (h.ws.map watD))) := by
  show up (up (up (up M p _) a _) b _) c _ b = _
  rw [up_ne n1]; exact up_same
theorem hOpen_c : hOpen M p C a b c h c = some (.obj (.lst (h.st.map stepD))) := up_same
theorem hOpen_o {x : Addr} (n0 : x ≠ p) (n1 : x ≠ a) (n2 : x ≠ b) (n3 : x ≠ c) : hOpen M p C a b c h x = M x := by
  show up (up (up (up M p _) a _) b _) c _ x = _
  rw [up_ne n3, up_ne n2, up_ne n1, up_ne n0]
theorem hOpen_ws {ws : List (List Rat)} (n1 : b ≠ c) : up (hOpen M p C a b c h) b (.obj (.lst (ws.map watD))) = hOpen M p C a b c ⟨h.ns, ws, h.st⟩ := by
  show up (up (up (up (up M p _) a _) b _) c _) b _ = up (up (up (up M p _) a _) b _) c _
  rw [up_comm n1.symm, up_up]
theorem hOpen_st {st : List (List Int × List Rat)} : up (hOpen M p C a b c h) c (.obj (.lst (st.map stepD))) = hOpen M p C a b c ⟨h.ns, h.ws, st⟩ := by
  show up (up (up (up (up M p _) a _) b _) c _) c _ = up (up (up (up M p _) a _) b _) c _
  rw [up_up]
/-- closed again, whatever stands in it -/
theorem hOpen_close {φ : List BO → Prop} (hM : M p = some (.box [a, b, c] φ)) (ha : M a = some (.part p)) (hb : M b = some (.part p)) (hc : M c = some (.part p)) (n1 : a ≠ b) (n2 : a ≠ c) (n3 : b ≠ c) : Abs (hOpen M p C a b c h') (up M p (hBox C a b c h')) := by
  have pa : p ≠ a := fun z => by rw [← z, hM] at ha; cases ha
  have pb : p ≠ b := fun z => by rw [← z, hM] at hb; cases hb
  have pc : p ≠ c := fun z => by rw [← z, hM] at hc; cases hc
  refine Abs.close (a := p) (ps := [a, b, c]) (bs := hBs C a b c h') ⟨rfl, n1, n2, n3⟩ rfl ?_ up_same ?_ ?_
  · intro i x d e1 e2
    match i with
    | 0 => cases e1; cases e2; exact hOpen_p pa pb pc
    | 1 => cases e1; cases e2; exact hOpen_a n1 n2
    | 2 => cases e1; cases e2; exact hOpen_b n3
    | 3 => cases e1; cases e2; exact hOpen_c
    | n + 4 => cases e1
  · intro q hq
    simp only [List.mem_cons, List.not_mem_nil, or_false] at hq
    rcases hq with rfl | rfl | rfl
    · rw [up_ne (fun z => pa z.symm)]; exact ha
    · rw [up_ne (fun z => pb z.symm)]; exact hb
    · rw [up_ne (fun z => pc z.symm)]; exact hc
  · intro x hx
    simp only [List.mem_cons, List.not_mem_nil, or_false, not_or] at hx
    obtain ⟨x0, x1, x2, x3⟩ := hx
    rw [hOpen_o x0 x1 x2 x3, up_ne x0]
theorem hPut_close (hM : M p = some (.obj (.ins C []))) (ha : M a = none) (hb : M b = none) (hc : M c = none) (n1 : a ≠ b) (n2 : a ≠ c) (n3 : b ≠ c) : Abs (hOpen M p C a b c h') (hPut M p C a b c h') := by
  have pa : p ≠ a := fun z => by rw [← z, hM] at ha; cases ha
  have pb : p ≠ b := fun z => by rw [← z, hM] at hb; cases hb
  have pc : p ≠ c := fun z => by rw [← z, hM] at hc; cases hc
  unfold hPut
  refine Abs.close (a := p) (ps := [a, b, c]) (bs := hBs C a b c h') ⟨rfl, n1, n2, n3⟩ rfl ?_ up_same ?_ ?_
  · intro i x d e1 e2
    match i with
    | 0 => cases e1; cases e2; exact hOpen_p pa pb pc
    | 1 => cases e1; cases e2; exact hOpen_a n1 n2
    | 2 => cases e1; cases e2; exact hOpen_b n3
    | 3 => cases e1; cases e2; exact hOpen_c
    | n + 4 => cases e1
  · intro q hq
    simp only [List.mem_cons, List.not_mem_nil, or_false] at hq
    rcases hq with rfl | rfl | rfl
    · rw [up_ne (fun z => pa z.symm), up_ne n2, up_ne n1]; exact up_same
    · rw [up_ne (fun z => pb z.symm), up_ne n3]; exact up_same
    · rw [up_ne (fun z => pc z.symm)]; exact up_same
  · intro x hx
    simp only [List.mem_cons, List.not_mem_nil, or_false, not_or] at hx
    obtain ⟨x0, x1, x2, x3⟩ := hx
    rw [hOpen_o x0 x1 x2 x3, up_ne x0, up_ne x3, up_ne x2, up_ne x1]
end
end M
namespace M
open PySem L2
def zerosR (ns : List Int) : List Rat := ns.map fun _ => 0
def F_History_init (CH : Addr) : AF := fun ds M k _ => ∃ (p : Addr) (d e : D) (ns : List Int) (w : List Rat) (V Dn : Nat), ds = [.ref p, d, e] ∧ M p = some (.obj (.ins CH [])) ∧ rdS M d = some (ns.map .int) ∧ ((e = .non ∧ w = zerosR ns) ∨ rdL M e = some (w.map frD)) ∧ RowOk ns ∧ w.length = ns.length ∧ WOk V Dn w ∧ Rm V Dn ∧
  ∀ a b c, M a = none → M b = none → M c = none → a ≠ b → a ≠ c → b ≠ c → k .non (hPut M p CH a b c ⟨ns, [w], []⟩)
def c1_History_init (CH : Addr) : AS := (aSeq (aDrop (aCall noX F_need_water [] (aCons (aVar 1) (aCons (aVar 3) aNil))))
  (aSeq (aSFld CH "floors_held" (aVar 0) (aCB (cList true) (aCons (aVar 1) aNil)))
  (aSeq (aSFld CH "waters_held" (aVar 0) (aLst true (aCons (aVar 3) aNil)))
  (aSFld CH "steps_held" (aVar 0) (aLst true aNil)))))
/-- __init__ -/
def b_History_init (CH : Addr) : AS := (aSeq (aDrop (aCall noX F_need_floors [] (aCons (aVar 1) aNil)))
  (aSeq (aSet 3 (aIf (aB (aOp bIsN (aVar 2) (aC .non))) (aLc false (wLst (aVar 1)) (gNm 4) aYes (aC (.tup [(.int 0), (.int 1)])) [4]) (aCB (cList false) (aCons (aVar 2) aNil))))
  (c1_History_init CH)))
theorem len_History_init (CH : Addr) : ∀ ds M k x, F_History_init CH ds M k x → ds.length = 3 := by
  rintro ds M k x ⟨a, b, c, _, _, _, _, rfl, _⟩; rfl
theorem init_rest {CH p : Addr} {d e : D} {ns : List Int} {w : List Rat} {V Dn : Nat} {M : MH} {k : AK} {x4 : Option D} (hM : M p = some (.obj (.ins CH []))) (hd : rdS M d = some (ns.map .int)) (hr : RowOk ns) (hl : w.length = ns.length) (hw : WOk V Dn w) (hR : Rm V Dn)
    (hk : ∀ a b c, M a = none → M b = none → M c = none → a ≠ b → a ≠ c → b ≠ c → k .non (hPut M p CH a b c ⟨ns, [w], []⟩)) :
    c1_History_init CH { nx := fun _ M' => fin k .non M', rt := fin k } [some (.ref p), some d, some e, some (.lst (w.map frD)), x4] M := by
  unfold c1_History_init
  walk_at "ev"
  refine ⟨d, _, ns, w, rfl, hd, rfl, hl.symm, fun x hx => ⟨hw.nn x hx, hw.sm hR hx⟩, ?_⟩
  walk_at "ev"
  intro a ha
  have pa : p ≠ a := fun z => by rw [← z, hM] at ha; cases ha
  refine iKSFld ?_ (by rw [up_ne pa]; exact hM) (by decide)
  walk_at "ev"
  intro b hb
  have ba : b ≠ a := fun z => by rw [z, up_ne (fun q => pa q.symm), up_same] at hb; cases hb
  have bp : b ≠ p := fun z => by rw [z, up_same] at hb; cases hb
  refine iKSFld ?_ (by rw [up_ne bp.symm, up_same]) (by show 1 < 1000; decide)
  walk_at "ev"
  intro c hc
  have cp : c ≠ p := fun z => by rw [z, up_same] at hc; cases hc
  rw [up_ne cp] at hc
  have cb : c ≠ b := fun z => by rw [z, up_same] at hc; cases hc
  rw [up_ne cb, up_ne cp] at hc
  have ca : c ≠ a := fun z => by rw [z, up_same] at hc; cases hc
  rw [up_ne ca] at hc
  rw [up_ne bp, up_ne ba] at hb
  refine iKSFld ?_ (by rw [up_ne cp.symm, up_same]) ?_
  · show fin k .non _
    refine ⟨_, ?_, hk a b c ha hb hc ba.symm ca.symm cb.symm⟩
    have := hPut_close (C := CH) (h' := ⟨ns, [w], []⟩) hM ha hb hc ba.symm ca.symm cb.symm
    have e : up (up (up (up (up (up M a (.obj (.lst (ns.map .int)))) p (.obj (.ins CH (putD "floors_held" (.ref a) [])))) b (.obj (.lst [.lst (w.map frD)]))) p (.obj (.ins CH (putD "waters_held" (.ref b) (putD "floors_held" (.ref a) []))))) c (.obj (.lst []))) p (.obj (.ins CH (putD "steps_held" (.ref c) (putD "waters_held" (.ref b) (putD "floors_held" (.ref a) []))))) = hOpen M p CH a b c ⟨ns, [w], []⟩ := by
      rw [hF_put CH]
      show _ = up (up (up (up M p _) a _) b _) c _
      funext x
      unfold up
      by_cases x1 : x = p
      · subst x1; rw [if_pos rfl, if_neg cp.symm, if_neg bp.symm, if_neg pa, if_pos rfl]
      · by_cases x2 : x = c
        · subst x2; rw [if_neg x1, if_pos rfl, if_pos rfl]; rfl
        · by_cases x3 : x = b
          · subst x3; rw [if_neg x1, if_neg x2, if_neg x1, if_pos rfl, if_neg x2, if_pos rfl]; rfl
          · by_cases x4 : x = a
            · subst x4; rw [if_neg x1, if_neg x2, if_neg x1, if_neg x3, if_neg x1, if_pos rfl, if_neg x2, if_neg x3, if_pos rfl]
            · rw [if_neg x1, if_neg x2, if_neg x1, if_neg x3, if_neg x1, if_neg x4, if_neg x2, if_neg x3, if_neg x4, if_neg x1]
    rw [e]
    exact this
  · have e1 : ¬ (("floors_held" : Str) = ("waters_held" : Str)) := by decide +kernel
    show (if ("floors_held" : Str) = ("waters_held" : Str) then _ else (("floors_held" : Str), D.ref a) :: putD "waters_held" (.ref b) []).length < 1000
    rw [if_neg e1]
    show 2 < 1000
    decide
theorem ok_History_init (CH : Addr) : ∀ ds M k x, F_History_init CH ds M k x → b_History_init CH { nx := fun _ M' => fin k .non M', rt := fin k } (startG 5 ds) M := by
  rintro ds M k _ ⟨p, d, e, ns, w, V, Dn, rfl, hM, hd, he, hr, hl, hw, hR, hk⟩
  walk_at "st"
  unfold b_History_init
  walk_at "ev"
  refine ⟨d, ns, rfl, hd, hr.ne, hr.w, ?_⟩
  walk_at "ev"
  rcases he with ⟨rfl, rfl⟩ | he
  · walk_at "ev"
    refine lc_map (ι := D.int) (fn := fun _ => frD 0) ns [] (by rw [sizeLine_eq]; have := hr.l; simp only [List.length_nil]; omega) hd (fun x hx kd hkd => ?_) ?_
    · simp only [wipeG]
      walk_at "ev"
      exact hkd
    walk_at "ev"
    have e0 : ns.map (fun _ => frD 0) = (zerosR ns).map frD := by unfold zerosR; rw [List.map_map]; rfl
    rw [e0]
    exact init_rest hM hd hr hl hw hR hk
  · rw [isNon_rd he]
    walk_at "ev"
    refine iListG ?_ (rdS_of he)
    walk_at "ev"
    exact init_rest hM hd hr hl hw hR hk
end M
namespace M
open PySem L2
def F_law_shuffled : AF := fun ds M k _ => ∃ (t g : Addr) (b : Nat) (d : D) (ns : List Int), ds = [.ref t, d] ∧ M t = some (tray g (b + ns.length)) ∧ rdS M d = some (ns.map .int) ∧ ns.length ≤ 1000 ∧ ∀ ns' : List Int, ns'.Perm ns → k (.lst (ns'.map .int)) (up M t (tray g b))
/-- _law_shuffled -/
def b_law_shuffled : AS := (aSeq (aSet 2 (aCB (cList true) (aCons (aVar 1) aNil)))
  (aRet (aLc false (wRg1 (aCons (aCB cLen (aCons (aVar 2) aNil)) aNil)) (gNm 3) aYes (aMt mPop (aVar 2) (aCons (aCall noX F_law_draw_v1 [] (aCons (aVar 0) (aCons (aCB cLen (aCons (aVar 2) aNil)) aNil))) aNil)) [3])))
theorem len_law_shuffled : ∀ ds M k x, F_law_shuffled ds M k x → ds.length = 2 := by
  rintro ds M k x ⟨a, b, _, _, _, rfl, _⟩; rfl
theorem ok_law_shuffled : ∀ ds M k x, F_law_shuffled ds M k x → b_law_shuffled { nx := fun _ M' => fin k .non M', rt := fin k } (startG 4 ds) M := by
  rintro ds M k _ ⟨t, g, b, d, ns, rfl, hM, hd, hl, hk⟩
  walk_at "st"
  unfold b_law_shuffled
  walk_at "ev"
  intro p hp0
  have ntp : t ≠ p := fun z => by rw [← z, hM] at hp0; cases hp0
  walk_at "ev"
  rw [List.length_map]
  refine ⟨by omega, ?_⟩
  refine lc_st (fun i acc M' => ∃ (dn rs : List Int), acc = dn.map .int ∧ rs.length + i = ns.length ∧ (dn ++ rs).Perm ns ∧ M' = up (up M t (tray g (b + rs.length))) p (.obj (.lst (rs.map .int)))) (by rw [rng_len]; omega) ?_ ?_ ⟨[], ns, rfl, rfl, List.Perm.refl _, by rw [up_self hM]⟩
  · rintro i x acc M' hx ha ⟨dn, rs, rfl, h1, h2, rfl⟩
    obtain ⟨hi, rfl⟩ := rng_it hx
    refine ⟨trivial, fun kd hkd => ?_⟩
    simp only [wipeG]
    have eP : up (up M t (tray g (b + rs.length))) p (.obj (.lst (rs.map .int))) p = some (.obj (.lst (rs.map .int))) := up_same
    walk_at "ev"
    rw [List.length_map]
    have hr : 0 < rs.length := by omega
    obtain ⟨m, hm⟩ : ∃ m, rs.length = m + 1 := ⟨rs.length - 1, by omega⟩
    refine ⟨t, g, b + m, rs.length, rfl, by rw [up_ne ntp, up_same, hm]; rfl, by omega, by omega, fun r r0 rm => ?_⟩
    have hlt : r.toNat < rs.length := by omega
    have e9 := List.getElem?_eq_getElem hlt
    refine iPopI (n := r.toNat) (e := .int rs[r.toNat]) (ds := rs.map .int) ?_ (by rw [up_ne (fun z => ntp z.symm), up_same]) (by omega) (by rw [List.length_map]; exact seq_ix (by omega) hlt) (by rw [List.getElem?_map, e9]; rfl)
    refine hkd _ _ ⟨dn ++ [rs[r.toNat]], rs.eraseIdx r.toNat, by rw [List.map_append]; rfl, by rw [List.length_eraseIdx_of_lt hlt]; omega, ?_, ?_⟩
    · rw [List.append_assoc]
      refine (List.Perm.append_left dn ?_).trans h2
      exact erase_perm hlt
    · rw [up_comm ntp, up_up, up_comm ntp.symm, up_up]
      rw [List.length_eraseIdx_of_lt hlt, hm, erase_map]
      rfl
  · rintro acc M' ha ⟨dn, rs, rfl, h1, h2, rfl⟩
    rw [rng_len] at h1
    have e0 : rs = [] := List.eq_nil_of_length_eq_zero (by omega)
    subst e0
    rw [List.append_nil] at h2
    refine ⟨trivial, ?_⟩
    walk_at "ev"
    refine fin.dl (by rw [up_ne (fun z => ntp z.symm)]; exact hp0) ?_
    exact hk dn h2
end M
namespace M
open PySem L2
/-- flaps, in any order -/
def F_law_bolts_v1 : AF := fun ds M k _ => ∃ (t g : Addr) (b : Nat) (n : Nat), ds = [.ref t, .int n] ∧ M t = some (tray g (b + 2 * n + 1)) ∧ 0 < n ∧ n ≤ 1000 ∧ ∀ bs : List Int, Flaps n bs → k (.lst (bs.map .int)) (up M t (tray g b))
/-- _law_bolts -/
def b_law_bolts_v1 : AS := (aSeq (aSet 2 (aLRange2 false (aC (.int 1)) (aVar 1)))
  (aSeq (aSet 3 (aCall noX F_law_draw_v1 [] (aCons (aVar 0) (aCons (aC (.int 4)) aNil))))
  (aSeq (aIfS (aB (aOp bLt (aVar 3) (aC (.int 2))))
  (aRet (aIf (aB (aOp (bEq false) (aVar 3) (aC (.int 1)))) (aCall noX F_law_shuffled [] (aCons (aVar 0) (aCons (aVar 2) aNil))) (aLst false aNil)))
  aNext)
  (aRet (aCall noX F_law_shuffled [] (aCons (aVar 0) (aCons (aLc false (wLst (aVar 2)) (gNm 4) (aB (aOp (bEq false) (aCall noX F_law_draw_v1 [] (aCons (aVar 0) (aCons (aVar 3) aNil))) (aC (.int 0)))) (aVar 4) [4]) aNil)))))))
theorem len_law_bolts_v1 : ∀ ds M k x, F_law_bolts_v1 ds M k x → ds.length = 2 := by
  rintro ds M k x ⟨a, b, _, _, rfl, _⟩; rfl
theorem Flaps.all {n : Nat} : Flaps n (rng 1 ((n : Int) - 1).toNat) := by
  have e : ∀ x ∈ rng 1 ((n : Int) - 1).toNat, ∃ i : Nat, i < n - 1 ∧ x = 1 + (i : Int) := fun x hx => by
    unfold rng at hx
    obtain ⟨i, hi, rfl⟩ := List.mem_map.mp hx
    exact ⟨i, by have := List.mem_range.mp hi; omega, rfl⟩
  refine ⟨fun b hb => ?_, fun b hb => ?_, ?_⟩
  · obtain ⟨i, hi, rfl⟩ := e b hb; omega
  · obtain ⟨i, hi, rfl⟩ := e b hb; omega
  · unfold rng
    refine List.pairwise_map.mpr ((List.nodup_range (n := ((n : Int) - 1).toNat)).imp fun {a b} h => ?_)
    omega
theorem Flaps.perm {n : Nat} {bs bs' : List Int} (h : Flaps n bs) (p : bs'.Perm bs) : Flaps n bs' := ⟨fun b hb => h.lo b (p.mem_iff.mp hb), fun b hb => h.hi b (p.mem_iff.mp hb), p.nodup_iff.mpr h.nd⟩
theorem Flaps.sub {n : Nat} {bs bs' : List Int} (h : Flaps n bs) (p : bs'.Sublist bs) : Flaps n bs' := ⟨fun b hb => h.lo b (p.subset hb), fun b hb => h.hi b (p.subset hb), p.nodup h.nd⟩
theorem Flaps.nil {n : Nat} : Flaps n [] := ⟨by simp, by simp, List.nodup_nil⟩
theorem ok_law_bolts_v1 : ∀ ds M k x, F_law_bolts_v1 ds M k x → b_law_bolts_v1 { nx := fun _ M' => fin k .non M', rt := fin k } (startG 5 ds) M := by
  rintro ds M k _ ⟨t, g, b, n, rfl, hM, h0, h1, hk⟩
  walk_at "st"
  unfold b_law_bolts_v1
  walk_at "ev"
  refine ⟨by unfold rgOk; omega, ?_⟩
  have hF := Flaps.all (n := n)
  have hlen : (rng 1 ((n : Int) - 1).toNat).length = n - 1 := by rw [rng_length]; omega
  generalize rng 1 ((n : Int) - 1).toNat = fl at hF hlen
  walk_at "ev"
  refine ⟨t, g, b + 2 * n, 4, rfl, hM, by decide, by decide, fun r r0 r4 => ?_⟩
  walk_at "ev"
  refine iteD (fun hr => ?_) (fun hr => ?_)
  · walk_at "ev"
    refine iteD (fun hr1 => ?_) (fun hr1 => ?_)
    · walk_at "ev"
      refine ⟨t, g, b + 2 * n - fl.length, _, fl, rfl, ?_, rfl, by omega, fun ns' hp => ?_⟩
      · rw [up_same]; exact congrArg (fun n => some (tray g n)) (by omega)
      rw [up_up]
      exact fin.tray_le (b' := b) (by omega) (hk _ (hF.perm hp))
    · walk_at "ev"
      exact fin.tray_le (b' := b) (by omega) (hk [] Flaps.nil)
  · walk_at "ev"
    refine lc_sf (fun i acc M' => ∃ bs : List Int, acc = bs.map .int ∧ bs.Sublist (fl.take i) ∧ M' = up M t (tray g (b + 2 * n - i))) (by rw [List.length_map]; omega) ?_ ?_ ⟨[], rfl, List.nil_sublist _, rfl⟩
    · rintro i x acc M' hx ha ⟨bs, rfl, hs, rfl⟩
      obtain ⟨y, hy, rfl⟩ := map_get hx
      have hi : i < fl.length := (List.getElem?_eq_some_iff.mp hy).1
      refine ⟨by walk_at "tr", fun k1 k2 hk1 hk2 => ?_⟩
      simp only [wipeG]
      walk_at "ev"
      refine ⟨t, g, b + 2 * n - (i + 1), r, rfl, ?_, by omega, by omega, fun q q0 qr => ?_⟩
      · rw [up_same]; exact congrArg (fun n => some (tray g n)) (by omega)
      rw [up_up]
      walk_at "ev"
      refine iteD (fun hq => ?_) (fun hq => ?_)
      · walk_at "ev"
        refine hk1 _ _ ⟨bs ++ [y], by rw [List.map_append]; rfl, ?_, rfl⟩
        rw [take_succ hy]
        exact hs.append (List.Sublist.refl _)
      · refine hk2 _ ⟨bs, rfl, ?_, rfl⟩
        rw [take_succ hy]
        exact hs.trans (List.sublist_append_left _ _)
    · rintro acc M' ha ⟨bs, rfl, hs, rfl⟩
      rw [List.length_map, List.take_length] at hs
      refine ⟨by walk_at "tr", ?_⟩
      walk_at "ev"
      have hbl := hs.length_le
      rw [List.length_map]
      refine ⟨t, g, b + 2 * n - fl.length - bs.length, _, bs, rfl, ?_, rfl, by omega, fun ns' hp => ?_⟩
      · rw [up_same]; exact congrArg (fun n => some (tray g n)) (by omega)
      rw [up_up]
      exact fin.tray_le (b' := b) (by omega) (hk _ ((hF.sub hs).perm hp))
end M
namespace M
open PySem L2
/-- flaps, in any order -/
def F_law_shut_m : AF := fun ds M k _ => ∃ (t g : Addr) (b : Nat) (ns : List Int), ds = [.ref t, .lst (ns.map .int)] ∧ M t = some (deck g (b + ns.length + 3)) ∧ ns ≠ [] ∧ ns.length ≤ 1000 ∧ ∀ bs : List Int, Flaps ns.length bs → ∀ r, M r = none → k (.ref r) (up (up M t (deck g b)) r (.obj (.lst (bs.map .int))))
/-- _law_shut -/
def b_law_shut_m : AS := (aSeq (aSet 2 (aLRange2 true (aC (.int 1)) (aCB cLen (aCons (aVar 1) aNil))))
  (aSeq (aSet 3 (aOp bIx (aLst false (aCons (aC (.int 0)) (aCons (aCB cLen (aCons (aVar 2) aNil)) (aCons (aCall noX F_law_take [] (aCons (aVar 0) (aCons (aCB cLen (aCons (aVar 1) aNil)) aNil))) (aCons (aCall noX F_law_take [] (aCons (aVar 0) (aCons (aCB cLen (aCons (aVar 1) aNil)) aNil))) aNil))))) (aCall noX F_law_take [] (aCons (aVar 0) (aCons (aC (.int 4)) aNil)))))
  (aRet (aLc true (wRg1 (aCons (aVar 3) aNil)) (gNm 4) aYes (aMt mPop (aVar 2) (aCons (aCall noX F_law_take [] (aCons (aVar 0) (aCons (aCB cLen (aCons (aVar 2) aNil)) aNil))) aNil)) [4]))))
theorem len_law_shut_m : ∀ ds M k x, F_law_shut_m ds M k x → ds.length = 2 := by
  rintro ds M k x ⟨a, b, _, _, rfl, _⟩; rfl
theorem ok_law_shut_m : ∀ ds M k x, F_law_shut_m ds M k x → b_law_shut_m { nx := fun _ M' => fin k .non M', rt := fin k } (startG 5 ds) M := by
  rintro ds M k _ ⟨t, g, b, ns, rfl, hM, h0, h1, hk⟩
  have hp : 0 < ns.length := List.length_pos_iff.mpr h0
  walk_at "st"
  unfold b_law_shut_m
  walk_at "ev"
  rw [List.length_map]
  refine ⟨by unfold rgOk; omega, ?_⟩
  have hF := Flaps.all (n := ns.length)
  have hlen : (rng 1 ((ns.length : Int) - 1).toNat).length = ns.length - 1 := by rw [rng_length]; omega
  generalize rng 1 ((ns.length : Int) - 1).toNat = fl at hF hlen
  intro p hp0
  have ntp : t ≠ p := fun z => by rw [← z, hM] at hp0; cases hp0
  have npt : p ≠ t := fun z => ntp z.symm
  walk_at "ev"
  rw [List.length_map]
  refine ⟨t, g, b + ns.length + 2, ns.length, rfl, by rw [up_ne ntp, hM], by omega, by omega, fun r1 r10 r11 => ?_⟩
  rw [up_comm npt]
  walk_at "ev"
  refine ⟨t, g, b + ns.length + 1, ns.length, rfl, by rw [up_ne ntp, up_same], by omega, by omega, fun r2 r20 r21 => ?_⟩
  rw [up_comm npt, up_up]
  walk_at "ev"
  refine ⟨t, g, b + ns.length, 4, rfl, by rw [up_ne ntp, up_same], by decide, by decide, fun q q0 q5 => ?_⟩
  rw [up_comm npt, up_up]
  have hw : ∃ v : Int, atI [D.int 0, D.int (fl.length : Int), D.int r1, D.int r2] q = some (.int v) ∧ 0 ≤ v ∧ v ≤ (fl.length : Int) := by
    have : q = 0 ∨ q = 1 ∨ q = 2 ∨ q = 3 := by omega
    rcases this with rfl | rfl | rfl | rfl
    · exact ⟨_, atI_c0, by omega, by omega⟩
    · exact ⟨_, atI_c1, by omega, by omega⟩
    · exact ⟨_, atI_c2, by omega, by omega⟩
    · exact ⟨_, atI_c3, by omega, by omega⟩
  obtain ⟨v, hw, v1, v2⟩ := hw
  obtain ⟨n, rfl⟩ : ∃ n : Nat, v = n := ⟨v.toNat, by omega⟩
  walk_at "ev"
  refine ⟨by omega, ?_⟩
  refine lc_st (fun i acc M' => ∃ (dn rs : List Int), acc = dn.map .int ∧ rs.length + i = fl.length ∧ (dn ++ rs).Perm fl ∧ M' = up (up M t (deck g (b + (ns.length - i)))) p (.obj (.lst (rs.map .int)))) (by rw [rng_len]; omega) ?_ ?_ ⟨[], fl, rfl, rfl, List.Perm.refl _, rfl⟩
  · rintro i x acc M' hx ha ⟨dn, rs, rfl, h2, h3, rfl⟩
    obtain ⟨hi, rfl⟩ := rng_it hx
    refine ⟨trivial, fun kd hkd => ?_⟩
    simp only [wipeG]
    have eP : up (up M t (deck g (b + (ns.length - i)))) p (.obj (.lst (rs.map .int))) p = some (.obj (.lst (rs.map .int))) := up_same
    walk_at "ev"
    rw [List.length_map]
    have hr : 0 < rs.length := by omega
    refine ⟨t, g, b + (ns.length - (i + 1)), rs.length, rfl, by rw [up_ne ntp, up_same]; exact congrArg (fun n => some (deck g n)) (by omega), by omega, by omega, fun r r0 rm => ?_⟩
    have hlt : r.toNat < rs.length := by omega
    have e9 := List.getElem?_eq_getElem hlt
    refine iPopI (n := r.toNat) (e := .int rs[r.toNat]) (ds := rs.map .int) ?_ (by rw [up_ne npt, up_same]) (by omega) (by rw [List.length_map]; exact seq_ix (by omega) hlt) (by rw [List.getElem?_map, e9]; rfl)
    refine hkd _ _ ⟨dn ++ [rs[r.toNat]], rs.eraseIdx r.toNat, by rw [List.map_append]; rfl, by rw [List.length_eraseIdx_of_lt hlt]; omega, ?_, ?_⟩
    · rw [List.append_assoc]
      refine (List.Perm.append_left dn ?_).trans h3
      exact erase_perm hlt
    · rw [up_comm ntp, up_up, up_comm ntp.symm, up_up, erase_map]
  · rintro acc M' ha ⟨dn, rs, rfl, h2, h3, rfl⟩
    refine ⟨trivial, ?_⟩
    walk_at "ev"
    intro r hr
    have rp : r ≠ p := fun z => by rw [z, up_same] at hr; cases hr
    rw [up_ne rp] at hr
    have rt : r ≠ t := fun z => by rw [z, up_same] at hr; cases hr
    rw [up_ne rt] at hr
    refine fin.fin (fin.less (M' := up (up M t (deck g (b + (ns.length - ((rng 0 (n : Int).toNat).map D.int).length)))) r (.obj (.lst (dn.map .int)))) (fun x => ?_) ?_)
    · by_cases z : x = r
      · rw [z, up_same, up_same]; exact .inl rfl
      · rw [up_ne z, up_ne z]
        by_cases y : x = p
        · rw [y, up_same, up_ne npt]; exact .inr ⟨hp0, _, rfl⟩
        · rw [up_ne y]; exact .inl rfl
    · rw [up_comm rt.symm]
      refine fin.deck_le (b' := b) (Nat.le_add_right _ _) ?_
      rw [← up_comm rt.symm]
      exact hk dn ((hF.perm h3).sub (List.sublist_append_left _ _)) r hr
end M
namespace M
open PySem L2
def F_law_sum_v1 : AF := F_add
/-- _law_sum -/
def b_law_sum_v1 : AS := (aRet (aCall noX F_law_low_v2 [] (aCons (aOp (bAdd false) (aOp bMul (aOp bIx (aVar 0) (aC (.int 0))) (aOp bIx (aVar 1) (aC (.int 1)))) (aOp bMul (aOp bIx (aVar 1) (aC (.int 0))) (aOp bIx (aVar 0) (aC (.int 1))))) (aCons (aOp bMul (aOp bIx (aVar 0) (aC (.int 1))) (aOp bIx (aVar 1) (aC (.int 1)))) aNil))))
theorem len_law_sum_v1 : ∀ ds M k x, F_law_sum_v1 ds M k x → ds.length = 2 := len_add
theorem ok_law_sum_v1 : ∀ ds M k x, F_law_sum_v1 ds M k x → b_law_sum_v1 { nx := fun _ M' => fin k .non M', rt := fin k } (startG 2 ds) M := by
  rintro ds M k _ ⟨x, y, rfl, hx, hy, hk⟩
  unfold frD
  walk_at "st"
  unfold b_law_sum_v1
  walk_at "ev"
  refine ⟨_, _, rfl, Sm.dd_pos, Sm.dd_lt hx hy, ?_⟩
  rw [add_rat]
  exact fin.of hk
end M
namespace M
open PySem L2
def psR (xs : List Rat) : List Rat := (List.range (xs.length + 1)).map fun i => (xs.take i).sum
theorem psR_get {ns : List Rat} {i : Nat} (h : i ≤ ns.length) : (psR ns)[i]? = some (ns.take i).sum := by
  unfold psR
  rw [List.getElem?_map, List.getElem?_range (by omega)]; rfl
theorem psR_len {ns : List Rat} : (psR ns).length = ns.length + 1 := by unfold psR; rw [List.length_map, List.length_range]
theorem psR_take_succ {ns : List Rat} {i : Nat} {n : Rat} (h : ns[i]? = some n) : (psR ns).take (i + 2) = (psR ns).take (i + 1) ++ [(ns.take i).sum + n] := by
  have hi : i < ns.length := (List.getElem?_eq_some_iff.mp h).1
  rw [take_succ (psR_get (i := i + 1) (by omega)), take_succ h, sum_snoc]
theorem psR_last {ns : List Rat} {i : Nat} (h : i ≤ ns.length) : atI (((psR ns).take (i + 1)).map frD) (-1) = some (frD (ns.take i).sum) := by
  rw [take_succ (psR_get h), List.map_append]
  exact L2.atI_last _ _
theorem psR_one {ns : List Rat} : (psR ns).take 1 = [0] := by rw [take_succ (psR_get (Nat.zero_le _)), List.take_zero, List.take_zero]; rfl
theorem psR_end {ns : List Rat} : (psR ns).take (ns.length + 1) = psR ns := by
  rw [List.take_of_length_le (by rw [psR_len]; omega)]
def F_heaped_up : AF := fun ds M k _ => ∃ (d : D) (xs : List Rat), ds = [d] ∧ rdS M d = some (xs.map frD) ∧ xs.length < 1000000 ∧ SmS xs ∧ ∀ p, M p = none → k (.ref p) (up M p (.obj (.lst ((psR xs).map frD))))
/-- heaped_up -/
def b_heaped_up : AS := (aSeq (aSet 1 (aLst true (aCons (aC (.tup [(.int 0), (.int 1)])) aNil)))
  (aSeq (aFor (wLst (aVar 0)) (gNm 2)
  (aDrop (aMt mAppend (aVar 1) (aCons (aCall noX F_add [] (aCons (aOp bIx (aVar 1) (aNeg (aC (.int 1)))) (aCons (aVar 2) aNil))) aNil))))
  (aRet (aVar 1))))
theorem len_heaped_up : ∀ ds M k x, F_heaped_up ds M k x → ds.length = 1 := by
  rintro ds M k x ⟨a, b, rfl, _⟩; rfl
theorem ok_heaped_up : ∀ ds M k x, F_heaped_up ds M k x → b_heaped_up { nx := fun _ M' => fin k .non M', rt := fin k } (startG 3 ds) M := by
  rintro ds M k _ ⟨d, xs, rfl, hd, hn, h1, hk⟩
  walk_at "st"
  unfold b_heaped_up
  walk_at "ev"
  intro p hp
  walk_at "ev"
  refine iWLG ?_ (rdS_new hd hp)
  refine for_go (fun i Γ M' => i ≤ xs.length ∧ M' = up M p (.obj (.lst (((psR xs).take (i + 1)).map frD))) ∧ ∃ a, Γ = [some d, some (.ref p), a]) ⟨Nat.zero_le _, by rw [psR_one]; rfl, _, rfl⟩ ?_ ?_
  · rintro i Γ _ x hx ⟨hi, rfl, a, rfl⟩
    obtain ⟨n, hn', rfl⟩ := map_get hx
    have hl : i < xs.length := (List.getElem?_eq_some_iff.mp hn').1
    refine ⟨rdS_new hd hp, ?_⟩
    have := psR_last (ns := xs) hi
    have hs : (((psR xs).take (i + 1)).map frD).length < sizeLine := by
      rw [List.length_map, List.length_take, sizeLine_eq]; omega
    walk_at "ev"
    refine ⟨_, n, rfl, h1.2 i, h1.1 n (List.mem_of_getElem? hn'), ?_⟩
    walk_at "ev"
    refine ⟨hl, ?_, _, rfl⟩
    rw [up_up, psR_take_succ hn', List.map_append]; rfl
  · rintro Γ _ ⟨hi, rfl, a, rfl⟩
    refine ⟨rdS_new hd hp, ?_⟩
    walk_at "ev"
    rw [List.length_map, psR_end]
    exact fin.of (hk p hp)
end M
namespace M
open PySem L2
def F_law_heap_v1 : AF := fun ds M k _ => ∃ (d : D) (xs : List Rat), ds = [d] ∧ rdS M d = some (xs.map frD) ∧ xs.length < 1000000 ∧ SmS xs ∧ k (.lst ((psR xs).map frD)) M
/-- _law_heap -/
def b_law_heap_v1 : AS := (aSeq (aSet 1 (aLst true (aCons (aTup (aCons (aC (.int 0)) (aCons (aC (.int 1)) aNil))) aNil)))
  (aSeq (aFor (wLst (aVar 0)) (gNm 2)
  (aDrop (aMt mAppend (aVar 1) (aCons (aCall noX F_law_sum_v1 [] (aCons (aOp bIx (aVar 1) (aNeg (aC (.int 1)))) (aCons (aVar 2) aNil))) aNil))))
  (aRet (aFrz (aVar 1)))))
theorem len_law_heap_v1 : ∀ ds M k x, F_law_heap_v1 ds M k x → ds.length = 1 := by
  rintro ds M k x ⟨a, b, rfl, _⟩; rfl
theorem ok_law_heap_v1 : ∀ ds M k x, F_law_heap_v1 ds M k x → b_law_heap_v1 { nx := fun _ M' => fin k .non M', rt := fin k } (startG 3 ds) M := by
  rintro ds M k _ ⟨d, xs, rfl, hd, hn, h1, hk⟩
  walk_at "st"
  unfold b_law_heap_v1
  walk_at "ev"
  intro p hp
  walk_at "ev"
  refine iWLG ?_ (rdS_new hd hp)
  refine for_go (fun i Γ M' => i ≤ xs.length ∧ M' = up M p (.obj (.lst (((psR xs).take (i + 1)).map frD))) ∧ ∃ a, Γ = [some d, some (.ref p), a]) ⟨Nat.zero_le _, by rw [psR_one]; rfl, _, rfl⟩ ?_ ?_
  · rintro i Γ _ x hx ⟨hi, rfl, a, rfl⟩
    obtain ⟨n, hn', rfl⟩ := map_get hx
    have hl : i < xs.length := (List.getElem?_eq_some_iff.mp hn').1
    refine ⟨rdS_new hd hp, ?_⟩
    have := psR_last (ns := xs) hi
    have hs : (((psR xs).take (i + 1)).map frD).length < sizeLine := by
      rw [List.length_map, List.length_take, sizeLine_eq]; omega
    walk_at "ev"
    refine ⟨_, n, rfl, h1.2 i, h1.1 n (List.mem_of_getElem? hn'), ?_⟩
    walk_at "ev"
    refine ⟨hl, ?_, _, rfl⟩
    rw [up_up, psR_take_succ hn', List.map_append]; rfl
  · rintro Γ _ ⟨hi, rfl, a, rfl⟩
    refine ⟨rdS_new hd hp, ?_⟩
    walk_at "ev"
    rw [dl_up hp, List.length_map, psR_end]
    exact fin.of hk
end M
namespace M
open PySem L2
def F_law_slope : AF := fun ds M k _ => ∃ (x y : Rat) (w : Int), ds = [frD x, frD y, .int w] ∧ Sm x ∧ Sm y ∧ 0 < w ∧ w < 18446744073709551616 ∧ k (frD ((y - x) / (w : Rat))) M
/-- _law_slope -/
def b_law_slope : AS := (aRet (aCall noX F_law_low_v2 [] (aCons (aOp bSub (aOp bMul (aOp bIx (aVar 1) (aC (.int 0))) (aOp bIx (aVar 0) (aC (.int 1)))) (aOp bMul (aOp bIx (aVar 0) (aC (.int 0))) (aOp bIx (aVar 1) (aC (.int 1))))) (aCons (aOp bMul (aOp bMul (aOp bIx (aVar 0) (aC (.int 1))) (aOp bIx (aVar 1) (aC (.int 1)))) (aVar 2)) aNil))))
theorem len_law_slope : ∀ ds M k x, F_law_slope ds M k x → ds.length = 3 := by
  rintro ds M k x ⟨a, b, _, rfl, _⟩; rfl
theorem slope_mk (x y : Rat) {w : Int} (h : 0 < w) : mkRat (y.num * (x.den : Int) - x.num * (y.den : Int)) ((x.den : Int) * (y.den : Int) * w).toNat = (y - x) / (w : Rat) := by
  have e := sub_rat y x
  have hw : (w : Rat) ≠ 0 := by
    intro z
    have : w = 0 := by exact_mod_cast z
    omega
  have dx := x.den_pos
  have dy := y.den_pos
  have d1 : ((y.den : Int) * (x.den : Int)).toNat = y.den * x.den := by rw [← Int.natCast_mul, Int.toNat_natCast]
  have d2 : ((x.den : Int) * (y.den : Int) * w).toNat = y.den * x.den * w.toNat := by
    have : (x.den : Int) * (y.den : Int) * w = ((y.den * x.den * w.toNat : Nat) : Int) := by
      rw [Int.natCast_mul, Int.natCast_mul, Int.toNat_of_nonneg (by omega), Int.mul_comm (x.den : Int)]
    rw [this, Int.toNat_natCast]
  rw [d1, Rat.mkRat_eq_div] at e
  rw [d2, Rat.mkRat_eq_div, ← e, Rat.natCast_mul]
  have e3 : ((w.toNat : Nat) : Rat) = (w : Rat) := by
    have : ((w.toNat : Nat) : Int) = w := Int.toNat_of_nonneg (by omega)
    rw [← Rat.intCast_natCast, this]
  rw [e3]
  have hd : ((y.den * x.den : Nat) : Rat) ≠ 0 := by
    intro z
    have : y.den * x.den = 0 := by exact_mod_cast z
    have := Nat.mul_pos dy dx
    omega
  grind
theorem ok_law_slope : ∀ ds M k x, F_law_slope ds M k x → b_law_slope { nx := fun _ M' => fin k .non M', rt := fin k } (startG 3 ds) M := by
  rintro ds M k _ ⟨x, y, w, rfl, hx, hy, h0, h1, hk⟩
  unfold frD
  walk_at "st"
  unfold b_law_slope
  have hm : IntMulOk ((x.den : Int) * (y.den : Int)) w := mul_okR (by omega) (by omega)
  walk_at "ev"
  have hw : w.natAbs < 2 ^ 64 := by omega
  refine ⟨_, _, rfl, Int.mul_pos (Int.mul_pos (den_pos' x) (den_pos' y)) h0, lt_b89 (wide_lt (wide_lt hx.d hy.d) hw) (by decide), ?_⟩
  rw [slope_mk x y h0]
  exact fin.of hk
end M
namespace M
open PySem L2
def F_law_times : AF := fun ds M k _ => ∃ (xs ys : List Rat) (m : Int), ds = [.tup [.lst (xs.map frD), .lst (ys.map frD)], .int m] ∧ 0 ≤ m ∧ m ≤ 1000000 ∧ xs.length ≤ 1000 ∧ ys.length ≤ 1000 ∧ (∀ x ∈ xs, Sm x) ∧ (∀ y ∈ ys, Sm y) ∧ k (.tup [.lst ((scR (m : Rat) xs).map frD), .lst ((scR (m : Rat) ys).map frD)]) M
/-- _law_times -/
def b_law_times : AS := (aRet (aCB cTupOf (aCons (aLc false (wTp (aVar 0)) (gNm 2) aYes (aLc false (wLst (aVar 2)) (gNm 3) aYes (aCall noX F_law_low_v2 [] (aCons (aOp bMul (aOp bIx (aVar 3) (aC (.int 0))) (aVar 1)) (aCons (aOp bIx (aVar 3) (aC (.int 1))) aNil))) [3]) [2]) aNil)))
theorem len_law_times : ∀ ds M k x, F_law_times ds M k x → ds.length = 2 := by
  rintro ds M k x ⟨a, b, m, rfl, _⟩; rfl
theorem mk_scale (x : Rat) (m : Int) : mkRat (x.num * m) x.den = (m : Rat) * x := by
  have e := Rat.mkRat_self x
  conv => rhs; rw [← e]
  rw [← Rat.mkRat_one m, Rat.mkRat_mul_mkRat, Nat.one_mul, Int.mul_comm]
theorem ok_law_times : ∀ ds M k x, F_law_times ds M k x → b_law_times { nx := fun _ M' => fin k .non M', rt := fin k } (startG 4 ds) M := by
  rintro ds M k _ ⟨xs, ys, m, rfl, hm0, hm1, l1, l2, h1, h2, hk⟩
  walk_at "st"
  unfold b_law_times
  walk_at "ev"
  have inner : ∀ (zs : List Rat) (g0 g2 g3 : Option D) (M : MH) (kd : List D → MH → Prop), (∀ z ∈ zs, Sm z) → zs.length ≤ 1000 → kd ((scR (m : Rat) zs).map frD) M →
      lcGo false (fun _ => True) (gNm 3) aYes (aCall noX F_law_low_v2 [] (aCons (aOp bMul (aOp bIx (aVar 3) (aC (D.int 0))) (aVar 1)) (aCons (aOp bIx (aVar 3) (aC (D.int 1))) aNil))) [g0, some (.int m), g2, g3] (zs.map frD) [] M kd := by
    intro zs g0 g2 g3 M kd hz hl h
    refine lc_map (ok := fun _ => True) frD (fun z => frD ((m : Rat) * z)) zs [] (by rw [sizeLine_eq]; show 0 + _ ≤ _; omega) trivial (fun z hm kd hk => ?_) ?_
    · have sz := hz z hm
      have dz := z.den_pos
      unfold frD
      walk_at "ev"
      refine ⟨_, _, rfl, by exact_mod_cast dz, ?_, ?_⟩
      · exact lt_b89 sz.d (by decide)
      · rw [Int.toNat_natCast, mk_scale]; exact hk
    · rw [List.nil_append]
      have e : zs.map (fun z => frD ((m : Rat) * z)) = (scR (m : Rat) zs).map frD := by unfold scR; rw [List.map_map]; rfl
      rw [e]; exact h
  refine lc_map (ok := fun _ => True) (ι := fun zs : List Rat => D.lst (zs.map frD)) (fn := fun zs => D.lst ((scR (m : Rat) zs).map frD)) [xs, ys] [] (by rw [sizeLine_eq]; show 2 ≤ 16777216; decide) trivial (fun zs hz kd hk => ?_) ?_
  · have hz2 : (∀ z ∈ zs, Sm z) ∧ zs.length ≤ 1000 := by
      simp only [List.mem_cons, List.not_mem_nil, or_false] at hz
      rcases hz with rfl | rfl
      · exact ⟨h1, l1⟩
      · exact ⟨h2, l2⟩
    simp only [wipeG]
    walk_at "ev"
    exact inner zs _ _ _ _ _ hz2.1 hz2.2 hk
  · refine eTupOf (xs := [D.lst ((scR (m : Rat) xs).map frD), D.lst ((scR (m : Rat) ys).map frD)]) ?_ rfl
    exact fin.of hk
end M
namespace M
open PySem L2
/-! ### the rest by corners -/
section
variable {P H : Nat → Rat} {B : Nat → Prop} {n : Nat}
/-- corners to a, in the stretch to e -/
structure Cor (P H : Nat → Rat) (B : Nat → Prop) (a e : Nat) (X : Nat → Rat) : Prop where
  r : Rest a P H X (fun k => B k ∨ k = a)
  up : ¬ B a → 0 < a → ∀ g, a < g → g ≤ e → slope P X (a - 1) a ≤ slope P H a g
theorem slope_ext {X Y : Nat → Rat} {i j : Nat} (h1 : X i = Y i) (h2 : X j = Y j) : slope P X i j = slope P Y i j := by unfold slope; rw [h1, h2]
theorem slope_line {X : Nat → Rat} {i j a : Nat} {σ h : Rat} (hij : P i < P j) (h1 : X i = h + σ * (P i - P a)) (h2 : X j = h + σ * (P j - P a)) : slope P X i j = σ := by
  have m := slope_mul (P := P) (H := X) hij
  rw [h1, h2] at m
  have : (slope P X i j - σ) * (P j - P i) = 0 := by grind
  rcases Rat.mul_eq_zero.mp this with z | z <;> grind
theorem Cor.step (s : Strict P n) {a c e : Nat} {X Y : Nat → Rat} {σ : Rat} (C : Cor P H B a e X) (hac : a < c) (hce : c ≤ e) (hen : e ≤ n) (no : ∀ j, a < j → j < e → ¬ B j) (hσ : σ = slope P H a c) (least : ∀ g, a < g → g ≤ e → σ ≤ slope P H a g)
    (old : ∀ k, k ≤ a → Y k = X k) (new : ∀ k, a ≤ k → k ≤ c → Y k = H a + σ * (P k - P a)) : Cor P H B c e Y := by
  have Xa : X a = H a := C.r.cut a (Nat.le_refl _) (.inr rfl)
  have dc := s a c hac (by omega)
  have mc := slope_mul (P := P) (H := H) dc
  rw [← hσ] at mc
  have lin : ∀ i j, a ≤ i → i < j → j ≤ c → slope P Y i j = σ := fun i j h1 h2 h3 => slope_line (a := a) (h := H a) (s i j h2 (by omega)) (new i h1 (by omega)) (new j (by omega) h3)
  have le : ∀ k, k ≤ c → Y k ≤ H k := fun k hk => by
    by_cases q : k ≤ a
    · rw [old k q]; exact C.r.le k q
    · rw [new k (by omega) hk]
      have dk := s a k (by omega) (by omega)
      have mk := slope_mul (P := P) (H := H) dk
      have := mul_mono (least k (by omega) (by omega)) (show 0 ≤ P k - P a by grind)
      grind
  have Yc : Y c = H c := by rw [new c (by omega) (Nat.le_refl _)]; grind
  refine ⟨⟨le, fun k hk hB => ?_, fun k k0 kc nb => ?_, fun k k0 kc nb lt => ?_⟩, fun nb c0 g h1 h2 => ?_⟩
  · by_cases q : k ≤ a
    · rw [old k q]
      rcases hB with hB | hB
      · exact C.r.cut k q (.inl hB)
      · omega
    · rcases hB with hB | hB
      · by_cases w : k = c
        · rw [w]; exact Yc
        · exact absurd hB (no k (by omega) (by omega))
      · rw [hB]; exact Yc
  · have nB : ¬ B k := fun z => nb (.inl z)
    by_cases q : k < a
    · rw [slope_ext (old (k - 1) (by omega)) (old k (by omega)), slope_ext (old k (by omega)) (old (k + 1) (by omega))]
      exact C.r.up k k0 q (fun z => z.elim nB (fun w => by omega))
    · rw [lin k (k + 1) (by omega) (by omega) (by omega)]
      by_cases w : k = a
      · subst w
        rw [slope_ext (old (k - 1) (by omega)) (old k (Nat.le_refl _)), hσ]
        exact C.up nB k0 c hac hce
      · rw [lin (k - 1) k (by omega) (by omega) (by omega)]; exact Rat.le_refl
  · have nB : ¬ B k := fun z => nb (.inl z)
    by_cases q : k < a
    · rw [slope_ext (old (k - 1) (by omega)) (old k (by omega)), slope_ext (old k (by omega)) (old (k + 1) (by omega))]
      rw [old k (by omega)] at lt
      exact C.r.eq k k0 q (fun z => z.elim nB (fun w => by omega)) lt
    · by_cases w : k = a
      · rw [w, old a (Nat.le_refl _), Xa] at lt
        exact absurd lt (by grind)
      · rw [lin k (k + 1) (by omega) (by omega) (by omega), lin (k - 1) k (by omega) (by omega) (by omega)]
  · rw [lin (c - 1) c (by omega) (by omega) (Nat.le_refl _)]
    have dg := s c g h1 (by omega)
    have dag := s a g (by omega) (by omega)
    have m1 := slope_mul (P := P) (H := H) dg
    have m2 := slope_mul (P := P) (H := H) dag
    have l := mul_mono (least g (by omega) h2) (show 0 ≤ P g - P a by grind)
    rw [m2] at l
    refine Rat.le_of_mul_le_mul_right (c := P g - P c) ?_ (by grind)
    rw [m1]
    grind
theorem Cor.next {a e e' : Nat} {X : Nat → Rat} (C : Cor P H B a e X) (hB : B a) : Cor P H B a e' X := ⟨C.r, fun nb => absurd hB nb⟩
theorem Cor.start {e : Nat} {X : Nat → Rat} (h : X 0 = H 0) : Cor P H B 0 e X := ⟨⟨fun k hk => by
  have : k = 0 := by omega
  rw [this, h]; exact Rat.le_refl, fun k hk _ => by
  have : k = 0 := by omega
  rw [this, h], fun k h1 h2 => by omega, fun k h1 h2 => by omega⟩, fun _ z => absurd z (Nat.lt_irrefl _)⟩
theorem Cor.done {e : Nat} {X : Nat → Rat} (C : Cor P H B n e X) (hB : B n) : Rest n P H X B := C.r.congr (fun _ _ => rfl) (fun _ _ => rfl) fun k hk => ⟨fun z => by
  rcases z with z | z
  · exact z
  · rw [z]; exact hB, fun z => .inl z⟩
end
end M
namespace M
open PySem L2
def F_law_rest_v2 : AF := fun ds M k _ => ∃ (d e : D) (ns : List Int) (xs : List Rat) (bs : List Int) (V Dn L : Nat), ds = [.lst (ns.map .int), d, e] ∧ rdS M d = some (xs.map frD) ∧ rdS M e = some (bs.map .int) ∧ RowOk ns ∧ ns.length = xs.length ∧ Flaps ns.length bs ∧ Lcm ns L ∧ Rm V (Dn * L) ∧ Rm V Dn ∧ WOk V Dn xs ∧ k (.lst ((settle ns xs bs).map frD)) M
def c1_law_rest_v2 : AS := (aSeq (aAsg (aTup (aCons (aC .non) (aCons (aVar 7) aNil))) (gTu 2 (gCo (gNm 9) (gCo (gNm 10) gNi))))
  (aSeq (aFor (wRg2 (aCons (aOp (bAdd false) (aVar 7) (aC (.int 1))) (aCons (aOp (bAdd false) (aVar 8) (aC (.int 1))) aNil))) (gNm 11)
  (aSeq (aSet 12 (aCall noX F_law_slope [] (aCons (aOp bIx (aVar 3) (aVar 7)) (aCons (aOp bIx (aVar 3) (aVar 11)) (aCons (aOp bSub (aOp bIx (aVar 4) (aVar 11)) (aOp bIx (aVar 4) (aVar 7))) aNil)))))
  (aIfS (aOr (aB (aOp bIsN (aVar 9) (aC .non))) (aB (aOp bLe (aOp bMul (aOp bIx (aVar 12) (aC (.int 0))) (aOp bIx (aVar 9) (aC (.int 1)))) (aOp bMul (aOp bIx (aVar 9) (aC (.int 0))) (aOp bIx (aVar 12) (aC (.int 1)))))))
  (aAsg (aTup (aCons (aVar 12) (aCons (aVar 11) aNil))) (gTu 2 (gCo (gNm 9) (gCo (gNm 10) gNi))))
  aNext)))
  (aSeq (aDrop (aMt mExtend (aVar 6) (aCons (aLc false (wLst (aCut false (aVar 0) (aPart (aVar 7)) (aPart (aVar 10)))) (gNm 5) aYes (aCall noX F_law_low_v2 [] (aCons (aOp bMul (aOp bIx (aVar 9) (aC (.int 0))) (aVar 5)) (aCons (aOp bIx (aVar 9) (aC (.int 1))) aNil))) [5]) aNil)))
  (aSet 7 (aVar 10)))))
/-- _law_rest -/
def b_law_rest_v2 : AS := (aSeq (aPar 3 4 (aCons (aCall noX F_law_heap_v1 [] (aCons (aVar 1) aNil)) (aCons (aLst true (aCons (aC (.int 0)) aNil)) aNil)))
  (aSeq (aFor (wLst (aVar 0)) (gNm 5)
  (aDrop (aMt mAppend (aVar 4) (aCons (aOp (bAdd false) (aOp bIx (aVar 4) (aNeg (aC (.int 1)))) (aVar 5)) aNil))))
  (aSeq (aPar 6 7 (aCons (aLst true aNil) (aCons (aC (.int 0)) aNil)))
  (aSeq (aFor (wLst (aOp (bAdd false) (aCB (cSorted false) (aCons (aVar 2) aNil)) (aLst false (aCons (aCB cLen (aCons (aVar 0) aNil)) aNil)))) (gNm 8)
  (aWhile (aB (aOp bLt (aVar 7) (aVar 8)))
  c1_law_rest_v2))
  (aRet (aFrz (aVar 6)))))))
theorem len_law_rest_v2 : ∀ ds M k x, F_law_rest_v2 ds M k x → ds.length = 3 := by
  rintro ds M k x ⟨a, b, _, _, _, _, _, _, rfl, _⟩; rfl
def psI (ns : List Int) (i : Nat) : List Int := (List.range (i + 1)).map (plI' ns)
theorem psI_len {ns : List Int} {i : Nat} : (psI ns i).length = i + 1 := by unfold psI; rw [List.length_map, List.length_range]
theorem psI_get {ns : List Int} {i k : Nat} (h : k ≤ i) : (psI ns i)[k]? = some (plI' ns k) := by unfold psI; rw [List.getElem?_map, List.getElem?_range (by omega)]; rfl
theorem psI_snoc {ns : List Int} {i : Nat} {w : Int} (h : ns[i]? = some w) : psI ns (i + 1) = psI ns i ++ [plI' ns i + w] := by
  unfold psI
  rw [List.range_succ, List.map_append]
  congr 1
  show [plI' ns (i + 1)] = _
  unfold plI'
  rw [take_succ h, sum_snocI]
theorem psI_last {ns : List Int} {i : Nat} : atI ((psI ns i).map D.int) (-1) = some (.int (plI' ns i)) := by
  have e : (psI ns i).map D.int = ((List.range i).map (plI' ns)).map D.int ++ [.int (plI' ns i)] := by
    unfold psI
    rw [List.range_succ, List.map_append, List.map_append]; rfl
  rw [e]
  exact L2.atI_last _ _
theorem le_rat' (x y : Rat) : x.num * (y.den : Int) ≤ y.num * (x.den : Int) ↔ x ≤ y := by
  rw [Rat.le_iff]
theorem ps_hp2 {xs : List Rat} {k : Nat} (h : k ≤ xs.length) : (psR xs)[k]? = some (hp xs k) := psR_get h
theorem pw_lt {l : List Int} (h : l.Pairwise (· < ·)) {i : Nat} {a b : Int} (ha : l[i]? = some a) (hb : l[i + 1]? = some b) : a < b := by
  obtain ⟨h1, rfl⟩ := List.getElem?_eq_some_iff.mp ha
  obtain ⟨h2, rfl⟩ := List.getElem?_eq_some_iff.mp hb
  exact List.pairwise_iff_getElem.mp h i (i + 1) h1 h2 (by omega)
theorem cor_hp {ns : List Int} {ys : List Rat} {σ : Rat} {a c : Nat} (hl : ys.length = a) (hc : c ≤ ns.length) : ∀ d, a + d ≤ c → hp (ys ++ ((ns.drop a).take (c - a)).map fun w : Int => (w : Rat) * σ) (a + d) = hp ys a + σ * (pl ns (a + d) - pl ns a)
  | 0, h => by
    rw [Nat.add_zero, hp_append_lo (by omega)]
    grind
  | d + 1, h => by
    have ih := cor_hp (σ := σ) hl hc d (by omega)
    obtain ⟨w, hw⟩ := get_of (l := ns) (i := a + d) (by omega)
    have e : (ys ++ ((ns.drop a).take (c - a)).map fun w : Int => (w : Rat) * σ)[a + d]? = some ((w : Rat) * σ) := by
      rw [List.getElem?_append_right (by omega), hl, Nat.add_sub_cancel_left, List.getElem?_map, List.getElem?_take_of_lt (by omega), List.getElem?_drop, hw]; rfl
    rw [show a + (d + 1) = a + d + 1 by omega, hp_succ e, ih, pl_succ hw]
    grind
theorem slope_int {ns : List Int} {xs : List Rat} {a g : Nat} : (hp xs g - hp xs a) / ((plI' ns g - plI' ns a : Int) : Rat) = slope (pl ns) (hp xs) a g := by
  unfold slope pl
  rw [Rat.intCast_sub]
theorem plI_lt {ns : List Int} (hr : RowOk ns) {a g : Nat} (h : a < g) (hg : g ≤ ns.length) : 0 < plI' ns g - plI' ns a ∧ plI' ns g - plI' ns a ≤ ns.sum := by
  have e : plI' ns g - plI' ns a = ((ns.drop a).take (g - a)).sum := by
    have p := pl_part (ns := ns) (a := a) (b := g) (k := g - a) (Nat.le_refl _)
    unfold pl at p
    rw [show a + (g - a) = g by omega] at p
    have q : ((plI' ns g - plI' ns a : Int) : Rat) = ((plI' ((ns.drop a).take (g - a)) (g - a) : Int) : Rat) := by rw [Rat.intCast_sub, p]
    have q2 : plI' ns g - plI' ns a = plI' ((ns.drop a).take (g - a)) (g - a) := by exact_mod_cast q
    rw [q2]
    unfold plI'
    rw [List.take_of_length_le (by rw [List.length_take]; omega)]
  have s := hr.strict a g h hg
  unfold pl at s
  have s2 : plI' ns a < plI' ns g := by exact_mod_cast s
  have nn : ∀ l : List Int, (∀ w ∈ l, 1 ≤ w) → 0 ≤ l.sum := fun l => by
    induction l with
    | nil => intro _; exact Int.le_refl _
    | cons w l ih =>
      intro h
      have := ih fun x hx => h x (List.mem_cons_of_mem _ hx)
      have := h w List.mem_cons_self
      rw [List.sum_cons]; omega
  refine ⟨by omega, ?_⟩
  have e1 := List.take_append_drop g ns
  have s1 : (ns.take g).sum + (ns.drop g).sum = ns.sum := by rw [← sum_appendI, e1]
  have n1 := nn (ns.drop g) fun w hw => hr.w w (List.mem_of_mem_drop hw)
  have n2 := nn (ns.take a) fun w hw => hr.w w (List.mem_of_mem_take hw)
  unfold plI'
  omega
theorem slope_sm {ns : List Int} {xs : List Rat} {V Dn L a g : Nat} (hr : RowOk ns) (hl : ns.length = xs.length) (hL : Lcm ns L) (R : Rm V (Dn * L)) (w : WOk V Dn xs) (h : a < g) (hg : g ≤ ns.length) : Sm (slope (pl ns) (hp xs) a g) := by
  obtain ⟨p1, p2⟩ := plI_lt hr h hg
  have dd : DenD Dn (hp xs g - hp xs a) := (DenD.hp w.d g).sub (DenD.hp w.d a)
  have ds := dd.share (L := L) (w := ((plI' ns g - plI' ns a : Int) : Rat)) (f := 1) rfl (show (1 : Rat) = ((1 : Int) : Rat) from rfl) (by omega) (hL.2 _ (by omega) p2)
  rw [Rat.mul_one] at ds
  rw [← slope_int]
  have hm : hp xs a ≤ hp xs g := by
    have e : ∀ d, hp xs a ≤ hp xs (a + d) := fun d => by
      induction d with
      | zero => exact Rat.le_refl
      | succ d ih =>
        by_cases q : a + d < xs.length
        · have := hp_succ (List.getElem?_eq_getElem q)
          have n := w.nn _ (List.getElem_mem q)
          rw [show a + (d + 1) = a + d + 1 by omega, this]
          grind
        · have : hp xs (a + (d + 1)) = hp xs (a + d) := by unfold hp; rw [List.take_of_length_le (by omega), List.take_of_length_le (by omega)]
          rw [this]; exact ih
    have := e (g - a)
    rwa [show a + (g - a) = g by omega] at this
  have b1 := w.hp_le g
  have b2 := w.hp_le a
  have wp : (0 : Rat) < ((plI' ns g - plI' ns a : Int) : Rat) := by exact_mod_cast p1
  have w1 : (1 : Rat) ≤ ((plI' ns g - plI' ns a : Int) : Rat) := by
    have : (1 : Int) ≤ plI' ns g - plI' ns a := by omega
    exact_mod_cast this
  have e : (hp xs g - hp xs a) / ((plI' ns g - plI' ns a : Int) : Rat) * ((plI' ns g - plI' ns a : Int) : Rat) = hp xs g - hp xs a := by
    rw [Rat.div_def, Rat.mul_assoc, Rat.inv_mul_cancel _ (by grind), Rat.mul_one]
  generalize (hp xs g - hp xs a) / ((plI' ns g - plI' ns a : Int) : Rat) = u at *
  generalize ((plI' ns g - plI' ns a : Int) : Rat) = W at *
  have u0 : 0 ≤ u := by
    refine Rat.le_of_mul_le_mul_right (c := W) ?_ wp
    rw [e]; grind
  have u1 : u ≤ (V : Rat) := by
    have m := Rat.mul_le_mul_of_nonneg_left w1 u0
    rw [e] at m
    grind
  exact R.sm ds u0 u1
theorem ok_c1_law_rest_v2 {ns : List Int} {xs ys : List Rat} {V Dn L a e : Nat} (hr : RowOk ns) (hl : ns.length = xs.length) (hL : Lcm ns L) (R1 : Rm V (Dn * L)) (R0 : Rm V Dn) (hw : WOk V Dn xs) (hae : a < e) (hen : e ≤ ns.length) (yl : ys.length = a) {Z : AD} {M : MH} {p q : Addr} (hp1 : M p = some (.obj (.lst ((psI ns ns.length).map .int)))) (hq : M q = some (.obj (.lst (ys.map frD)))) {x1 x2 x5 x9 y0 y1 y2 : Option D}
    (k : ∀ (c : Nat) (σ : Rat) (x5 y1 y2 : Option D), a < c → c ≤ e → σ = slope (pl ns) (hp xs) a c → (∀ g, a < g → g ≤ e → σ ≤ slope (pl ns) (hp xs) a g) →
      Z.nx [some (.lst (ns.map .int)), x1, x2, some (.lst ((psR xs).map frD)), some (.ref p), x5, some (.ref q), some (.int (c : Int)), some (.int (e : Int)), some (frD σ), some (.int (c : Int)), y1, y2] (up M q (.obj (.lst ((ys ++ ((ns.drop a).take (c - a)).map fun w : Int => (w : Rat) * σ).map frD))))) :
    c1_law_rest_v2 Z [some (.lst (ns.map .int)), x1, x2, some (.lst ((psR xs).map frD)), some (.ref p), x5, some (.ref q), some (.int (a : Int)), some (.int (e : Int)), x9, y0, y1, y2] M := by
  have hnl := hr.l
  unfold c1_law_rest_v2
  walk_at "ev"
  have eR : ((e : Int) + 1 - ((a : Int) + 1)).toNat = e - a := by omega
  rw [eR]
  refine ⟨by omega, ?_⟩
  have hh : ∀ i, i ≤ ns.length → atI ((psR xs).map frD) (i : Int) = some (frD (hp xs i)) := fun i hi => atI_nat (by rw [List.getElem?_map, ps_hp2 (by omega)]; rfl)
  have hs : ∀ i, i ≤ ns.length → atI ((psI ns ns.length).map D.int) (i : Int) = some (.int (plI' ns i)) := fun i hi => atI_nat (by rw [List.getElem?_map, psI_get hi]; rfl)
  have sh : ∀ i, Sm (hp xs i) := (hw.smS R0).2
  refine for_go (fun i Γ M' => i ≤ e - a ∧ M' = M ∧ ∃ (b : D) (c : Nat) (z1 z2 : Option D), (i = 0 ∧ b = .non ∨ ∃ σ, b = frD σ ∧ a < c ∧ c ≤ a + i ∧ σ = slope (pl ns) (hp xs) a c ∧ ∀ g, a < g → g ≤ a + i → σ ≤ slope (pl ns) (hp xs) a g) ∧
    Γ = [some (.lst (ns.map .int)), x1, x2, some (.lst ((psR xs).map frD)), some (.ref p), x5, some (.ref q), some (.int (a : Int)), some (.int (e : Int)), some b, some (.int (c : Int)), z1, z2]) ⟨Nat.zero_le _, rfl, .non, a, _, _, .inl ⟨rfl, rfl⟩, rfl⟩ ?_ ?_
  · rintro i Γ M' x hx ⟨hi0, eM, b, c, z1, z2, hb, rfl⟩
    subst M'
    obtain ⟨hi, rfl⟩ := rng_it hx
    refine ⟨trivial, ?_⟩
    have h1 := hh a (by omega)
    have h2 := hh (a + 1 + i) (by omega)
    have s1 := hs a (by omega)
    have s2 := hs (a + 1 + i) (by omega)
    have ei : (a : Int) + 1 + (i : Int) = ((a + 1 + i : Nat) : Int) := by omega
    obtain ⟨p1, p2⟩ := plI_lt hr (a := a) (g := a + 1 + i) (by omega) (by omega)
    have hsum := hr.s
    rw [ei]
    walk_at "ev"
    refine ⟨_, _, _, rfl, sh _, sh _, p1, by omega, ?_⟩
    rw [slope_int]
    have sm1 := slope_sm hr hl hL R1 hw (a := a) (g := a + 1 + i) (by omega) (by omega)
    rcases hb with ⟨i0, rfl⟩ | ⟨σ, rfl, c1, c2, c3, c4⟩
    · walk_at "ev"
      refine ⟨by omega, trivial, _, a + 1 + i, _, _, .inr ⟨_, rfl, by omega, by omega, rfl, fun g h1 h2 => ?_⟩, rfl⟩
      have : g = a + 1 + i := by omega
      rw [this]; exact Rat.le_refl
    · have smσ := slope_sm hr hl hL R1 hw (a := a) (g := c) (by omega) (by omega)
      rw [← c3] at smσ
      have m1 := Sm.mnd sm1 smσ
      have m2 := Sm.mnd smσ sm1
      generalize hτ : slope (pl ns) (hp xs) a (a + 1 + i) = τ at sm1 m1 m2 ⊢
      walk_at "ev"
      rw [show (frD σ).isNon = false from rfl, if_neg (by decide)]
      have g1 : frD τ = .tup [.int τ.num, .int (τ.den : Int)] := rfl
      have g2 : frD σ = .tup [.int σ.num, .int (σ.den : Int)] := rfl
      rw [g1, g2]
      walk_at "ev"
      refine iteD (fun le => ?_) fun nle => ?_
      · have le := (le_rat' τ σ).mp le
        walk_at "ev"
        refine ⟨by omega, trivial, _, a + 1 + i, _, _, .inr ⟨_, rfl, by omega, by omega, hτ.symm, fun g h1 h2 => ?_⟩, rfl⟩
        by_cases w : g = a + 1 + i
        · rw [w, hτ]; exact Rat.le_refl
        · exact Rat.le_trans le (c4 g h1 (by omega))
      · have nle : ¬ τ ≤ σ := fun z => nle ((le_rat' τ σ).mpr z)
        walk_at "ev"
        refine ⟨by omega, trivial, _, c, _, _, .inr ⟨σ, rfl, c1, by omega, c3, fun g h1 h2 => ?_⟩, rfl⟩
        by_cases w : g = a + 1 + i
        · rw [w, hτ]; grind
        · exact c4 g h1 (by omega)
  · rintro Γ M' ⟨hi0, eM, b, c, z1, z2, hb, rfl⟩
    subst M'
    refine ⟨by walk_at "tr", ?_⟩
    rw [rng_len] at hb
    rcases hb with ⟨i0, _⟩ | ⟨σ, rfl, c1, c2, c3, c4⟩
    · omega
    have sm1 := slope_sm hr hl hL R1 hw (a := a) (g := c) (by omega) (by omega)
    rw [← c3] at sm1
    walk_at "ev"
    rw [cut_fromto (xs := ns.map D.int) (i := a) (j := c) (by rw [List.length_map]; omega) (by omega), ← List.map_drop, ← List.map_take]
    have ll : ((ns.drop a).take (c - a)).length ≤ 1000 := by rw [List.length_take, List.length_drop]; omega
    refine lc_map (ok := fun _ => True) D.int (fun w : Int => frD ((w : Rat) * σ)) ((ns.drop a).take (c - a)) [] (by rw [sizeLine_eq]; show 0 + _ ≤ _; omega) trivial (fun w hm kd hk => ?_) ?_
    · have w1 := hr.w w (List.mem_of_mem_drop (List.mem_of_mem_take hm))
      have w2 : w < 1152921504606846976 := by
        have := hr.s
        obtain ⟨i, hi, e⟩ := List.getElem_of_mem (List.mem_of_mem_drop (List.mem_of_mem_take hm))
        have := (plI_lt hr (a := i) (g := i + 1) (by omega) (by omega)).2
        have e2 : plI' ns (i + 1) = plI' ns i + w := by
          unfold plI'
          rw [take_succ (List.getElem?_eq_getElem hi), sum_snocI, e]
        omega
      have dσ := σ.den_pos
      have m1 : IntMulOk σ.num w := mul_okR (by omega) (by omega)
      unfold frD
      simp only [wipeG]
      walk_at "ev"
      refine ⟨_, _, rfl, by exact_mod_cast dσ, lt_b89 sm1.d (by decide), ?_⟩
      rw [Int.toNat_natCast, mk_scale]
      exact hk
    rw [List.nil_append]
    have ly : (ys.map frD).length ≤ 1000 := by rw [List.length_map]; omega
    have lm : (((ns.drop a).take (c - a)).map fun w : Int => frD ((w : Rat) * σ)).length ≤ 1000 := by rw [List.length_map]; exact ll
    walk_at "ev"
    rw [show ys.map frD ++ (((ns.drop a).take (c - a)).map fun w : Int => frD ((w : Rat) * σ)) = (ys ++ ((ns.drop a).take (c - a)).map fun w : Int => (w : Rat) * σ).map frD by rw [List.map_append, List.map_map]; rfl]
    exact k c σ _ _ _ c1 (by omega) c3 fun g h1 h2 => c4 g h1 (by omega)
theorem ok_law_rest_v2 : ∀ ds M k x, F_law_rest_v2 ds M k x → b_law_rest_v2 { nx := fun _ M' => fin k .non M', rt := fin k } (startG 13 ds) M := by
  rintro ds M k _ ⟨d, e, ns, xs, bs, V, Dn, L, rfl, hd, he, hr, hl, hf, hL, R1, R0, hw, hk⟩
  have hnl := hr.l
  walk_at "st"
  unfold b_law_rest_v2
  walk_at "ev"
  refine ⟨d, xs, rfl, hd, by omega, hw.smS R0, ?_⟩
  walk_at "ev"
  intro p hp0
  walk_at "ev"
  refine for_go (fun i Γ M' => i ≤ ns.length ∧ M' = up M p (.obj (.lst ((psI ns i).map .int))) ∧ ∃ x5, Γ = [some (.lst (ns.map .int)), some d, some e, some (.lst ((psR xs).map frD)), some (.ref p), x5, none, none, none, none, none, none, none]) ⟨Nat.zero_le _, rfl, _, rfl⟩ ?_ ?_
  · rintro i Γ M' x hx ⟨hi0, eM, x5, rfl⟩
    subst M'
    obtain ⟨w, hw', rfl⟩ := map_get hx
    refine ⟨by walk_at "tr", ?_⟩
    have eP : up M p (.obj (.lst ((psI ns i).map .int))) p = some (.obj (.lst ((psI ns i).map .int))) := up_same
    have la := psI_last (ns := ns) (i := i)
    have hlt := (List.getElem?_eq_some_iff.mp hw').1
    have ll : ((psI ns i).map D.int).length < sizeLine := by rw [List.length_map, psI_len, sizeLine_eq]; omega
    walk_at "ev"
    refine ⟨by omega, ?_, _, rfl⟩
    rw [up_up, psI_snoc hw', List.map_append]; rfl
  · rintro Γ M' ⟨hi0, eM, x5, rfl⟩
    rw [List.length_map] at eM
    subst M'
    refine ⟨by walk_at "tr", ?_⟩
    have eP : up M p (.obj (.lst ((psI ns ns.length).map .int))) p = some (.obj (.lst ((psI ns ns.length).map .int))) := up_same
    have he2 : rdS (up M p (.obj (.lst ((psI ns ns.length).map .int)))) e = some (bs.map .int) := rdS_new he hp0
    have hM2 : ∃ M2, M2 = up M p (.obj (.lst ((psI ns ns.length).map .int))) := ⟨_, rfl⟩
    obtain ⟨M2, hM2⟩ := hM2
    rw [← hM2] at eP he2 ⊢
    walk_at "ev"
    intro q hq0
    walk_at "ev"
    have npq : p ≠ q := fun z => by rw [z, hq0] at eP; cases eP
    refine iSorted (fun bs' p1 p2 => ?_) (rdS_new he2 hq0)
    have bl := hf.length
    have bl' := p1.length_eq
    have lb : (bs'.map D.int).length ≤ 1000 := by rw [List.length_map]; omega
    walk_at "ev"
    rw [List.length_map, show bs'.map D.int ++ [D.int (ns.length : Int)] = (bs' ++ [(ns.length : Int)]).map D.int by rw [List.map_append]; rfl]
    have n0 := hr.len
    have cpw := cuts_pw hf n0 p1 p2
    have cmem := cuts_mem (n := ns.length) p1
    have cB : cutB ns.length bs 0 := .inl rfl
    have ec : cutsOf ns.length bs' = 0 :: (bs' ++ [(ns.length : Int)]) := rfl
    refine for_go (fun i Γ M' => ∃ (a : Nat) (ys : List Rat) (x5 x8 x9 y0 y1 y2 : Option D), (cutsOf ns.length bs')[i]? = some (a : Int) ∧ ys.length = a ∧ a ≤ ns.length ∧ Cor (pl ns) (hp xs) (cutB ns.length bs) a a (hp ys) ∧ M' = up M2 q (.obj (.lst (ys.map frD))) ∧
      Γ = [some (.lst (ns.map .int)), some d, some e, some (.lst ((psR xs).map frD)), some (.ref p), x5, some (.ref q), some (.int (a : Int)), x8, x9, y0, y1, y2]) ⟨0, [], _, _, _, _, _, _, rfl, rfl, Nat.zero_le _, Cor.start rfl, rfl, rfl⟩ ?_ ?_
    · rintro i Γ M' x hx ⟨a, ys, x5, x8, x9, y0, y1, y2, ha, yl, an, C, eM, rfl⟩
      subst M'
      obtain ⟨ee, he', rfl⟩ := map_get hx
      have he3 : (cutsOf ns.length bs')[i + 1]? = some ee := by rw [ec, List.getElem?_cons_succ]; exact he'
      have hee : cutB ns.length bs ee.toNat ∧ 0 ≤ ee ∧ ee ≤ ns.length := by
        have e0 := pw_lt cpw ha he3
        have e1 := (cmem ee.toNat).mp (by rw [Int.toNat_of_nonneg (by omega)]; exact List.mem_of_getElem? he3)
        refine ⟨e1, by omega, ?_⟩
        rcases e1 with z | z | z
        · omega
        · omega
        · have := hf.hi _ z
          omega
      obtain ⟨e1, e2, e3⟩ := hee
      obtain ⟨en, rfl⟩ : ∃ en : Nat, ee = (en : Int) := ⟨ee.toNat, by omega⟩
      rw [Int.toNat_natCast] at e1
      have aB : cutB ns.length bs a := (cmem a).mp (List.mem_of_getElem? ha)
      have ae : a < en := by
        have := pw_lt cpw ha he3
        omega
      have no : ∀ j, a < j → j < en → ¬ cutB ns.length bs j := fun j h1 h2 z => pw_between cpw ha he3 (by omega) (by omega) ((cmem j).mpr z)
      refine ⟨trivial, ?_⟩
      walk_at "ev"
      refine while_st (α := (Nat × List Rat) × Option D × Option D × Option D × Option D × Option D)
        (fun s => [some (.lst (ns.map .int)), some d, some e, some (.lst ((psR xs).map frD)), some (.ref p), s.2.1, some (.ref q), some (.int (s.1.1 : Int)), some (.int (en : Int)), s.2.2.1, s.2.2.2.1, s.2.2.2.2.1, s.2.2.2.2.2])
        (fun s => up M2 q (.obj (.lst (s.1.2.map frD)))) (fun s => a ≤ s.1.1 ∧ s.1.1 ≤ en ∧ s.1.2.length = s.1.1 ∧ Cor (pl ns) (hp xs) (cutB ns.length bs) s.1.1 en (hp s.1.2)) (fun s => en - s.1.1) ((a, ys), x5, x9, y0, y1, y2) ⟨Nat.le_refl _, Nat.le_of_lt ae, yl, C.next aB⟩ rfl rfl ?_
      rintro ⟨⟨at1, zs⟩, w5, w9, w0, w1, w2⟩ ⟨g1, g2, g3, g4⟩
      dsimp only at g1 g2 g3 g4
      walk_at "ev"
      refine iteD (fun lt => ?_) (fun nlt => ?_)
      · refine ok_c1_law_rest_v2 hr hl hL R1 R0 hw (by omega) (by omega) g3 (by rw [up_ne npq]; exact eP) up_same fun c σ z5 z1 z2 c1 c2 c3 c4 => ?_
        rw [up_up]
        dsimp only
        refine WNext.of ((c, zs ++ ((ns.drop at1).take (c - at1)).map fun w : Int => (w : Rat) * σ), z5, some (frD σ), some (D.int (c : Int)), z1, z2) rfl rfl ?_ ?_
        rotate_left
        · show en - c < en - at1; omega
        refine ⟨by show a ≤ c; omega, c2, ?_, ?_⟩
        · dsimp only
          rw [List.length_append, g3, List.length_map, List.length_take, List.length_drop]; omega
        · refine g4.step hr.strict c1 c2 (by omega) (fun j h1 h2 => no j (by omega) h2) c3 c4 (fun k hk => hp_append_lo (by omega)) fun k h1 h2 => ?_
          have h2 : k ≤ c := h2
          have := cor_hp (σ := σ) g3 (show c ≤ ns.length by omega) (k - at1) (by omega)
          rw [show at1 + (k - at1) = k by omega] at this
          rw [this, g4.r.cut at1 (Nat.le_refl _) (.inr rfl)]
      · have : at1 = en := by omega
        subst this
        exact ⟨at1, zs, _, _, _, _, _, _, he3, g3, by omega, ⟨g4.r, fun nb => absurd e1 nb⟩, rfl, rfl⟩
    · rintro Γ M' ⟨a, ys, x5, x8, x9, y0, y1, y2, ha, yl, an, C, eM, rfl⟩
      subst M'
      have la : (a : Int) = ns.length := by
        rw [List.length_map, List.length_append, show bs'.length + [(ns.length : Int)].length = bs'.length + 1 from rfl, ec, List.getElem?_cons_succ, List.getElem?_append_right (Nat.le_refl _), Nat.sub_self] at ha
        exact (Option.some.inj ha).symm
      have la : a = ns.length := by omega
      subst la
      have rr := C.done (.inr (.inl rfl))
      refine ⟨trivial, ?_⟩
      walk_at "ev"
      rw [settle_eq hr yl rr] at hk
      rw [dl_up hq0, hM2]
      exact fin.dl hp0 hk
end M
namespace M
open PySem L2
def F_law_both_v1 : AF := fun ds M k _ => ∃ (xs ys : List Rat), ds = [.lst (xs.map frD), .lst (ys.map frD)] ∧ xs.length = ys.length ∧ xs.length ≤ 1000 ∧ (∀ x ∈ xs, Sm x) ∧ (∀ y ∈ ys, Sm y) ∧ k (.lst ((putR xs ys).map frD)) M
/-- _law_both -/
def b_law_both_v1 : AS := (aRet (aLc false (wZp (aCons (aVar 0) (aCons (aVar 1) aNil))) (gTu 2 (gCo (gNm 2) (gCo (gNm 3) gNi))) aYes (aCall noX F_law_sum_v1 [] (aCons (aVar 2) (aCons (aVar 3) aNil))) [2, 3]))
theorem len_law_both_v1 : ∀ ds M k x, F_law_both_v1 ds M k x → ds.length = 2 := by
  rintro ds M k x ⟨a, b, rfl, _⟩; rfl
theorem zipD_lenM : ∀ {ds es : List D}, (zipD ds es).length = min ds.length es.length
  | [], es => by simp [zipD]
  | d :: ds, [] => by simp [zipD]
  | d :: ds, e :: es => by
    show (zipD ds es).length + 1 = _
    rw [zipD_lenM, List.length_cons, List.length_cons]; omega
theorem ok_law_both_v1 : ∀ ds M k x, F_law_both_v1 ds M k x → b_law_both_v1 { nx := fun _ M' => fin k .non M', rt := fin k } (startG 4 ds) M := by
  rintro ds M k _ ⟨xs, ys, rfl, hl, hn, h1, h2, hk⟩
  walk_at "st"
  unfold b_law_both_v1
  walk_at "ev"
  have lz : (zipD (xs.map frD) (ys.map frD)).length = xs.length := by rw [zipD_lenM, List.length_map, List.length_map]; omega
  refine lc_st (fun i acc M' => M' = M ∧ acc = ((putR xs ys).take i).map frD) (by rw [lz]; omega) ?_ ?_ ⟨rfl, rfl⟩
  · rintro i x acc M2 hx ha ⟨eM, rfl⟩
    subst M2
    obtain ⟨x, y, e1, e2, rfl⟩ := zip_get hx
    refine ⟨by walk_at "tr", fun kd hkd => ?_⟩
    simp only [wipeG]
    walk_at "ev"
    refine ⟨_, _, rfl, h1 _ (List.mem_of_getElem? e1), h2 _ (List.mem_of_getElem? e2), ?_⟩
    refine hkd _ _ ⟨rfl, ?_⟩
    rw [take_succ (putR_get e1 e2), List.map_append]; rfl
  · rintro acc M2 ha ⟨eM, rfl⟩
    subst M2
    refine ⟨by walk_at "tr", ?_⟩
    rw [lz, List.take_of_length_le (by rw [putR_len hl]; omega)]
    walk_at "ev"
    exact fin.of hk
end M
namespace M
open PySem L2
def F_law_both_g : AF := fun ds M k _ => ∃ (d e : D) (xs ys : List Rat), ds = [d, e] ∧ rdS M d = some (xs.map frD) ∧ rdS M e = some (ys.map frD) ∧ xs.length = ys.length ∧ xs.length ≤ 1000 ∧ (∀ x ∈ xs, Sm x) ∧ (∀ y ∈ ys, Sm y) ∧ k (.lst ((putR xs ys).map frD)) M
/-- _law_both -/
def b_law_both_g : AS := (aRet (aLc false (wZp (aCons (aVar 0) (aCons (aVar 1) aNil))) (gTu 2 (gCo (gNm 2) (gCo (gNm 3) gNi))) aYes (aCall noX F_law_sum_v1 [] (aCons (aVar 2) (aCons (aVar 3) aNil))) [2, 3]))
theorem len_law_both_g : ∀ ds M k x, F_law_both_g ds M k x → ds.length = 2 := by
  rintro ds M k x ⟨a, b, _, _, rfl, _⟩; rfl
theorem ok_law_both_g : ∀ ds M k x, F_law_both_g ds M k x → b_law_both_g { nx := fun _ M' => fin k .non M', rt := fin k } (startG 4 ds) M := by
  rintro ds M k _ ⟨d, e, xs, ys, rfl, hd, he, hl, hn, h1, h2, hk⟩
  walk_at "st"
  unfold b_law_both_g
  walk_at "ev"
  have lz : (zipD (xs.map frD) (ys.map frD)).length = xs.length := by rw [zipD_lenM, List.length_map, List.length_map]; omega
  refine lc_st (fun i acc M' => M' = M ∧ acc = ((putR xs ys).take i).map frD) (by rw [lz]; omega) ?_ ?_ ⟨rfl, rfl⟩
  · rintro i x acc M2 hx ha ⟨eM, rfl⟩
    subst M2
    obtain ⟨x, y, e1, e2, rfl⟩ := zip_get hx
    refine ⟨by first | exact ⟨hd, he⟩ | walk_at "tr", fun kd hkd => ?_⟩
    simp only [wipeG]
    walk_at "ev"
    refine ⟨_, _, rfl, h1 _ (List.mem_of_getElem? e1), h2 _ (List.mem_of_getElem? e2), ?_⟩
    refine hkd _ _ ⟨rfl, ?_⟩
    rw [take_succ (putR_get e1 e2), List.map_append]; rfl
  · rintro acc M2 ha ⟨eM, rfl⟩
    subst M2
    refine ⟨by first | exact ⟨hd, he⟩ | walk_at "tr", ?_⟩
    rw [lz, List.take_of_length_le (by rw [putR_len hl]; omega)]
    walk_at "ev"
    exact fin.of hk
end M
namespace M
open PySem L2
def F_settled : AF := fun ds M k _ => ∃ (d e b : D) (ns : List Int) (xs : List Rat) (bs : List Int) (V Dn L : Nat), ds = [d, e, b] ∧ rdS M d = some (ns.map .int) ∧ rdS M e = some (xs.map frD) ∧ rdT M b = some (bs.map .int) ∧ RowOk ns ∧ ns.length = xs.length ∧
  Flaps ns.length bs ∧ Lcm ns L ∧ Rm V (Dn * L) ∧ Rm V Dn ∧ WOk V Dn xs ∧ ∀ p, M p = none → k (.ref p) (up M p (.obj (.lst ((settle ns xs bs).map frD))))
/-- settled -/
def b_settled : AS := (aSeq (aDrop (aCall noX F_need_floors [] (aCons (aVar 0) aNil)))
  (aSeq (aDrop (aCall noX F_need_water [] (aCons (aVar 0) (aCons (aVar 1) aNil))))
  (aSeq (aDrop (aCall noX F_need_flaps [] (aCons (aVar 0) (aCons (aVar 2) aNil))))
  (aSeq (aSet 3 (aLst true aNil))
  (aSeq (aFor (wLst (aCall noX F_stretches [] (aCons (aVar 0) (aCons (aVar 2) aNil)))) (gTu 2 (gCo (gNm 4) (gCo (gNm 5) gNi)))
  (aAug 3 (aCall noX F_rest_of [] (aCons (aCut false (aVar 0) (aPart (aVar 4)) (aPart (aVar 5))) (aCons (aCut false (aVar 1) (aPart (aVar 4)) (aPart (aVar 5))) aNil)))))
  (aRet (aVar 3)))))))
theorem len_settled : ∀ ds M k x, F_settled ds M k x → ds.length = 3 := by
  rintro ds M k x ⟨a, b, c, _, _, _, _, _, _, rfl, _⟩; rfl
theorem rdT_new {M : MH} {d : D} {ds : List D} {a : Addr} {o : MO} (h : rdT M d = some ds) (n : M a = none) : rdT (up M a o) d = some ds := by
  rcases rdT_cases h with ⟨rfl, rfl⟩ | h
  · rfl
  · exact rdT_of (rdS_new h n)
theorem strD_get {n : Nat} {bs : List Int} {i : Nat} {x : D} (h : (strD n bs)[i]? = some x) : ∃ a b : Int, (cutsOf n bs)[i]? = some a ∧ (cutsOf n bs)[i + 1]? = some b ∧ x = .tup [.int a, .int b] := by
  unfold strD at h
  obtain ⟨a, b, h1, h2, rfl⟩ := zip_get h
  rw [List.getElem?_drop, Nat.add_comm] at h2
  exact ⟨a, b, h1, h2, rfl⟩
theorem strD_len {n : Nat} {bs : List Int} : (strD n bs).length = bs.length + 1 := by
  unfold strD
  have : ∀ (xs ys : List D), (zipD xs ys).length = min xs.length ys.length := by
    intro xs
    induction xs with
    | nil => intro ys; simp [zipD]
    | cons x xs ih =>
      intro ys
      cases ys with
      | nil => simp [zipD]
      | cons y ys => show (zipD xs ys).length + 1 = _; rw [ih]; simp only [List.length_cons]; omega
  rw [this, List.length_map, List.length_map, List.length_drop]
  unfold cutsOf
  simp only [List.length_cons, List.length_append, List.length_nil]
  omega
theorem cuts_last {n : Nat} {bs : List Int} : (cutsOf n bs)[bs.length + 1]? = some (n : Int) := by
  unfold cutsOf
  rw [List.getElem?_cons_succ, List.getElem?_append_right (Nat.le_refl _), Nat.sub_self]; rfl
theorem ok_settled : ∀ ds M k x, F_settled ds M k x → b_settled { nx := fun _ M' => fin k .non M', rt := fin k } (startG 6 ds) M := by
  rintro ds M k _ ⟨d, e, b, ns, xs, bs, V, Dn, L, rfl, hd, he, hb, hr, hl, hf, hL, hR, hR0, hw, hk⟩
  walk_at "st"
  unfold b_settled
  walk_at "ev"
  refine ⟨d, ns, rfl, hd, hr.ne, hr.w, ?_⟩
  walk_at "ev"
  refine ⟨d, e, ns, xs, rfl, hd, he, hl, fun x hx => ⟨hw.nn x hx, hw.sm hR0 hx⟩, ?_⟩
  walk_at "ev"
  refine ⟨d, b, _, bs, rfl, hd, hb, by rw [List.length_map]; exact hf, ?_⟩
  walk_at "ev"
  intro p hp0
  walk_at "ev"
  have hbl : bs.length ≤ 1000 := Nat.le_trans hf.length hr.l
  refine ⟨d, b, _, bs, rfl, rdS_new hd hp0, rdT_new hb hp0, by omega, fun bs' h1 h2 => ?_⟩
  rw [List.length_map]
  have hbl2 := h1.length_eq
  have pw := cuts_pw hf hr.len h1 h2
  have hc0 : (cutsOf ns.length bs')[0]? = some 0 := rfl
  walk_at "ev"
  have hst := hr.strict
  refine for_go (fun i Γ M' => ∃ (a : Nat) (ys : List Rat), (cutsOf ns.length bs')[i]? = some (a : Int) ∧ a ≤ ns.length ∧ ys.length = a ∧ Rest a (pl ns) (hp xs) (hp ys) (cutB ns.length bs) ∧ (∀ y ∈ ys, 0 ≤ y ∧ DenD (Dn * L) y) ∧ M' = up M p (.obj (.lst (ys.map frD))) ∧ ∃ x4 x5, Γ = [some d, some e, some b, some (.ref p), x4, x5])
    ⟨0, [], hc0, Nat.zero_le _, rfl, Rest.none rfl, by simp, rfl, _, _, rfl⟩ ?_ ?_
  · rintro i Γ _ x hx ⟨a, ys, ha, han, hya, hrest, hy, rfl, x4, x5, rfl⟩
    obtain ⟨a', b', e1, e2, rfl⟩ := strD_get hx
    rw [ha] at e1
    cases e1
    have hab : (a : Int) < b' := by
      obtain ⟨l1, g1⟩ := List.getElem?_eq_some_iff.mp ha
      obtain ⟨l2, g2⟩ := List.getElem?_eq_some_iff.mp e2
      have := List.pairwise_iff_getElem.mp pw i (i + 1) l1 l2 (Nat.lt_succ_self _)
      rwa [g1, g2] at this
    obtain ⟨c, rfl⟩ : ∃ c : Nat, b' = (c : Int) := ⟨b'.toNat, by omega⟩
    have hac : a < c := by omega
    have hBa : cutB ns.length bs a := (cuts_mem h1 a).mp (List.mem_of_getElem? ha)
    have hBc : cutB ns.length bs c := (cuts_mem h1 c).mp (List.mem_of_getElem? e2)
    have hcn : c ≤ ns.length := by
      rcases hBc with h | h | h
      · omega
      · omega
      · have := hf.hi _ h; omega
    have hno : ∀ j, a < j → j < c → ¬ cutB ns.length bs j := fun j j1 j2 hj => pw_between pw ha e2 (by omega) (by omega) ((cuts_mem h1 j).mpr hj)
    have hdd : ∀ {l : List D}, rdS (up M p (.obj (.lst l))) d = some (ns.map .int) := fun {l} => rdS_new hd hp0
    have hee : ∀ {l : List D}, rdS (up M p (.obj (.lst l))) e = some (xs.map frD) := fun {l} => rdS_new he hp0
    refine ⟨trivial, ?_⟩
    have hd1 := hdd (l := ys.map frD)
    have he1 := hee (l := ys.map frD)
    walk_at "ev"
    rw [cut_fromto (by rw [List.length_map]; exact hcn) (by omega), ← List.map_drop, ← List.map_take]
    walk_at "ev"
    rw [cut_fromto (by rw [List.length_map]; omega) (by omega), ← List.map_drop, ← List.map_take]
    walk_at "ev"
    have pl1 : ((ns.drop a).take (c - a)).length = c - a := by rw [List.length_take, List.length_drop]; omega
    have pl2 : ((xs.drop a).take (c - a)).length = c - a := by rw [List.length_take, List.length_drop]; omega
    have pw1 : ∀ n ∈ (ns.drop a).take (c - a), 1 ≤ n := fun n hn => hr.w n (List.mem_of_mem_drop (List.mem_of_mem_take hn))
    have psum : ((ns.drop a).take (c - a)).sum < 1152921504606846976 := by
      have e0 : (ns.take a).sum + (ns.drop a).sum = ns.sum := by rw [← sum_appendI, List.take_append_drop]
      have e1 : ((ns.drop a).take (c - a)).sum + ((ns.drop a).drop (c - a)).sum = (ns.drop a).sum := by rw [← sum_appendI, List.take_append_drop]
      have g1 : 0 ≤ (ns.take a).sum := sum_nonnegI fun x hx => by have := hr.w x (List.mem_of_mem_take hx); omega
      have g2 : 0 ≤ ((ns.drop a).drop (c - a)).sum := sum_nonnegI fun x hx => by have := hr.w x (List.mem_of_mem_drop (List.mem_of_mem_drop hx)); omega
      have := hr.s
      omega
    have hwp := hw.part a (c - a)
    generalize hns' : (ns.drop a).take (c - a) = ns' at pl1 pw1 psum
    generalize hxs' : (xs.drop a).take (c - a) = xs' at pl2 hwp
    have hl' : ns'.length = xs'.length := by omega
    have htl : (tanks ns' xs').length = ns'.length := by unfold tanks; rw [List.length_zip]; omega
    refine ⟨_, _, tanks ns' xs', V, Dn, rfl, ?_, ?_, hR0, hwp.tk hl' pw1 psum, by have := hr.l; omega, fun segs hs => ?_⟩
    · show some (ns'.map D.int) = some ((tanks ns' xs').map fun q => D.int q.1)
      have := tanks_fst hl'
      conv => lhs; rw [← this, List.map_map]
      rfl
    · show some (xs'.map frD) = some ((tanks ns' xs').map fun q => frD q.2)
      have := tanks_snd hl'
      conv => lhs; rw [← this, List.map_map]
      rfl
    have hLp : ∀ w : Int, 1 ≤ w → w ≤ ns'.sum → w.toNat ∣ L := by rw [← hns']; exact Lcm.part hL.2 hr.w
    rw [htl] at hs
    obtain ⟨zl, zw⟩ := restL_ok hwp hl' pw1 hLp hs
    have zr := rest_stk hs (fun q hq => pw1 _ (List.of_mem_zip hq).1) (by omega)
    refine iAgL ?_ up_same rfl (by rw [List.length_map, List.length_map, sizeLine_eq]; have := hr.l; omega)
    rw [up_up, ← List.map_append]
    generalize restL (tanks ns' xs') segs = zs at zl zw zr
    have zl2 : zs.length = c - a := by omega
    refine ⟨c, ys ++ zs, e2, hcn, by rw [List.length_append]; omega, ?_, ?_, rfl, _, _, rfl⟩
    · exact rest_part hst hcn hac hBa hno hya hrest hl' hns' hxs' pl1 zr
    · intro y hy'
      rcases List.mem_append.mp hy' with h | h
      · exact hy y h
      · exact ⟨zw.nn y h, zw.d y h⟩
  · rintro Γ _ ⟨a, ys, ha, han, hya, hrest, hy, rfl, x4, x5, rfl⟩
    rw [strD_len, cuts_last] at ha
    have ha := Option.some.inj ha
    have ha : a = ns.length := by omega
    subst ha
    refine ⟨trivial, ?_⟩
    walk_at "ev"
    have := hk p hp0
    rw [settle_eq hr hya hrest] at this
    exact fin.of this
end M
namespace M
open PySem L2
section
variable {M : MH} {p C a b c : Addr} {h h' : HD} {d : D} {ds : List D} {φ : List BO → Prop}
theorem rdS_open (h0 : rdS M d = some ds) (hM : M p = some (.box [a, b, c] φ)) (ha : M a = some (.part p)) (hb : M b = some (.part p)) (hc : M c = some (.part p)) : rdS (hOpen M p C a b c h) d = some ds := by
  have h1 := rdS_up (o := .obj (.ins C (hF a b c))) h0 (a := p) (.inr fun es z => by rw [hM] at z; cases z)
  have h2 := rdS_up (o := .obj (.lst (h.ns.map .int))) h1 (a := a) (by
    by_cases q : a = p
    · rw [q, up_same]; exact .inr fun es z => by cases z
    · rw [up_ne q, ha]; exact .inr fun es z => by cases z)
  have h3 : rdS (up (up (up M p (.obj (.ins C (hF a b c)))) a (.obj (.lst (h.ns.map .int)))) b (.obj (.lst (h.ws.map watD)))) d = some ds := by
    cases d with
    | ref x =>
      have xa : x ≠ a := fun z => by subst z; have h0 : (match M x with | some (.obj (.lst ds)) => some ds | _ => none) = some ds := h0; rw [ha] at h0; cases h0
      have xb : x ≠ b := fun z => by subst z; have h0 : (match M x with | some (.obj (.lst ds)) => some ds | _ => none) = some ds := h0; rw [hb] at h0; cases h0
      show (match up _ b _ x with | some (.obj (.lst ds)) => some ds | _ => none) = some ds
      rw [up_ne xb]; exact h2
    | _ => exact h0
  show rdS (up (up (up (up M p _) a _) b _) c _) d = some ds
  cases d with
  | ref x =>
    have xc : x ≠ c := fun z => by subst z; have h0 : (match M x with | some (.obj (.lst ds)) => some ds | _ => none) = some ds := h0; rw [hc] at h0; cases h0
    show (match up _ c _ x with | some (.obj (.lst ds)) => some ds | _ => none) = some ds
    rw [up_ne xc]; exact h3
  | _ => exact h0
theorem rdT_open (h0 : rdT M d = some ds) (hM : M p = some (.box [a, b, c] φ)) (ha : M a = some (.part p)) (hb : M b = some (.part p)) (hc : M c = some (.part p)) : rdT (hOpen M p C a b c h) d = some ds := by
  rcases rdT_cases h0 with ⟨rfl, rfl⟩ | h1
  · rfl
  · exact rdT_of (rdS_open h1 hM ha hb hc)
/-- what opening tells -/
structure HPt (M : MH) (p a b c : Addr) : Prop where
  ab : a ≠ b
  ac : a ≠ c
  bc : b ≠ c
  pa : p ≠ a
  pb : p ≠ b
  pc : p ≠ c
  qa : M a = some (.part p)
  qb : M b = some (.part p)
  qc : M c = some (.part p)
theorem hpt (hM : M p = some (hBox C a b c h)) {bs : List BO} (hφ : bs = hBs C a b c h ∧ a ≠ b ∧ a ≠ c ∧ b ≠ c) (hp : ∀ q ∈ [a, b, c], M q = some (.part p)) : HPt M p a b c := by
  have h1 := hp a (by simp)
  have h2 := hp b (by simp)
  have h3 := hp c (by simp)
  exact ⟨hφ.2.1, hφ.2.2.1, hφ.2.2.2, fun z => (by rw [← z, hM] at h1; cases h1), fun z => (by rw [← z, hM] at h2; cases h2), fun z => (by rw [← z, hM] at h3; cases h3), h1, h2, h3⟩
/-- a History in slot i opened -/
theorem gOpen_h {i : Nat} {s : AS} {Z : AD} {Γ : G} (hΓ : Γ[i]? = some (some (.ref p))) (hM : M p = some (hBox C a b c h)) (k : HPt M p a b c → s Z Γ (hOpen M p C a b c h)) : gOpen i s Z Γ M := by
  refine ⟨p, [a, b, c], _, hΓ, hM, fun bs hbs hlen hpt' => ?_⟩
  have q := hpt hM hbs hpt'
  have := k q
  unfold hOpen at this
  rw [← hbs.1] at this
  exact this
theorem hp_close (hM : M p = some (hBox C a b c h)) (q : HPt M p a b c) : Abs (hOpen M p C a b c h') (up M p (hBox C a b c h')) := hOpen_close hM q.qa q.qb q.qc q.ab q.ac q.bc
theorem hp_same (hM : M p = some (hBox C a b c h)) (q : HPt M p a b c) : Abs (hOpen M p C a b c h) M := by
  have := hp_close (h' := h) hM q
  rwa [up_self hM] at this
theorem ws_last {h : HD} {w : List Rat} (e : h.ws[h.st.length]? = some w) (l : h.ws.length = h.st.length + 1) : atI (h.ws.map watD) (-1) = some (watD w) := by
  have h1 := take_succ e
  rw [show h.st.length + 1 = h.ws.length from l.symm, List.take_length] at h1
  rw [h1, List.map_append]
  exact L2.atI_last _ _
end
end M
namespace M
open PySem L2
def F_History_step (CH : Addr) : AF := fun ds M k _ => ∃ (p a b c : Addr) (d e : D) (h : HD) (bs : List Int) (rain : List Rat) (B D0 : Nat), ds = [.ref p, d, e] ∧ M p = some (hBox CH a b c h) ∧ rdS M d = some (bs.map .int) ∧ rdS M e = some (rain.map frD) ∧ HOk B D0 h ∧ HRm B D0 ∧ h.st.length < 16 ∧
  Flaps h.ns.length bs ∧ rain.length = h.ns.length ∧ WOk B D0 rain ∧ ∀ bs' : List Int, bs'.Perm bs → bs'.Pairwise (· ≤ ·) → k .non (up M p (hBox CH a b c (h.add bs' rain)))
/-- step -/
def b_History_step (CH : Addr) : AS := (gOpen 0 (aSeq (aSet 3 (aOp bIx (aFld CH "waters_held" (aVar 0)) (aNeg (aC (.int 1)))))
  (aSeq (aDrop (aCall noX F_need_flaps [] (aCons (aFld CH "floors_held" (aVar 0)) (aCons (aVar 1) aNil))))
  (aSeq (aDrop (aCall noX F_need_water [] (aCons (aFld CH "floors_held" (aVar 0)) (aCons (aVar 2) aNil))))
  (aSeq (aSet 4 (aLc false (wZp (aCons (aVar 3) (aCons (aVar 2) aNil))) (gTu 2 (gCo (gNm 5) (gCo (gNm 6) gNi))) aYes (aCall noX F_add [] (aCons (aVar 5) (aCons (aVar 6) aNil))) [5, 6]))
  (aSeq (aDrop (aMt mAppend (aFld CH "waters_held" (aVar 0)) (aCons (aFrz (aCall noX F_settled [] (aCons (aFld CH "floors_held" (aVar 0)) (aCons (aVar 4) (aCons (aVar 1) aNil))))) aNil)))
  (aDrop (aMt mAppend (aFld CH "steps_held" (aVar 0)) (aCons (aTup (aCons (aCB (cSorted false) (aCons (aVar 1) aNil)) (aCons (aCB (cList false) (aCons (aVar 2) aNil)) aNil))) aNil)))))))))
theorem len_History_step (CH : Addr) : ∀ ds M k x, F_History_step CH ds M k x → ds.length = 3 := by
  rintro ds M k x ⟨p, a, b, c, d, e, _, _, _, _, _, rfl, _⟩; rfl
theorem HRm.rm1 {B D0 i : Nat} (r : HRm B D0) (hi : i < 16) : Rm (B * (i + 1 + 1)) (D0 * L72 ^ i * L72) ∧ Rm (B * (i + 1 + 1)) (D0 * L72 ^ i) := by
  have h1 := r.rm (i := i + 1) hi
  have h2 := r.rm (i := i) (by omega)
  rw [Nat.pow_succ, ← Nat.mul_assoc] at h1
  exact ⟨h1, ⟨h2.d0, h2.d, h1.v⟩⟩
theorem ok_History_step (CH : Addr) : ∀ ds M k x, F_History_step CH ds M k x → b_History_step CH { nx := fun _ M' => fin k .non M', rt := fin k } (startG 7 ds) M := by
  rintro ds M k _ ⟨p, a, b, c, d, e, h, bs, rain, B, D0, rfl, hM, hd, he, ok, hR, few, hf, hl, hw, hk⟩
  walk_at "st"
  unfold b_History_step
  refine gOpen_h rfl hM fun q => ?_
  obtain ⟨e1, l1, w1⟩ := ok.now
  have hd1 : ∀ {g : HD}, rdS (hOpen M p CH a b c g) d = some (bs.map .int) := fun {g} => rdS_open hd hM q.qa q.qb q.qc
  have he1 : ∀ {g : HD}, rdS (hOpen M p CH a b c g) e = some (rain.map frD) := fun {g} => rdS_open he hM q.qa q.qb q.qc
  have o_p : ∀ {g : HD}, hOpen M p CH a b c g p = some (.obj (.ins CH (hF a b c))) := fun {g} => hOpen_p q.pa q.pb q.pc
  have o_a : ∀ {g : HD}, hOpen M p CH a b c g a = some (.obj (.lst (g.ns.map .int))) := fun {g} => hOpen_a q.ab q.ac
  have o_b : ∀ {g : HD}, hOpen M p CH a b c g b = some (.obj (.lst (g.ws.map watD))) := fun {g} => hOpen_b q.bc
  have o_c : ∀ {g : HD}, hOpen M p CH a b c g c = some (.obj (.lst (g.st.map stepD))) := fun {g} => hOpen_c
  obtain ⟨r1, r2⟩ := hR.rm1 few
  obtain ⟨f1, f2, f3⟩ := ok.fell hl hw
  have hz := (HRm.rm hR (show h.st.length ≤ 16 by omega))
  have wlast := ws_last e1 ok.wl
  have op := o_p (g := h)
  have ob := o_b (g := h)
  have oc := o_c (g := h)
  walk_at "ev"
  unfold watD
  refine ⟨_, d, h.ns.map .int, bs, rfl, rdS_of (rdL_ref o_a), rdT_of hd1, by rw [List.length_map]; exact hf, ?_⟩
  walk_at "ev"
  have hB0 : Rm B D0 := by
    have := hR.rm (i := 0) (by omega)
    rw [Nat.zero_add, Nat.mul_one, Nat.pow_zero, Nat.mul_one] at this
    exact this
  refine ⟨_, e, h.ns, rain, rfl, rdS_of (rdL_ref o_a), he1, hl.symm, fun x hx => ⟨hw.nn x hx, hw.sm hB0 hx⟩, ?_⟩
  walk_at "ev"
  refine iZpG ?_ rfl he1
  refine lc_st (fun i acc M' => M' = hOpen M p CH a b c h ∧ acc = ((putR h.now rain).take i).map frD) ?_ ?_ ?_ ⟨rfl, rfl⟩
  · have : ∀ (xs ys : List D), (zipD xs ys).length ≤ xs.length := by
      intro xs
      induction xs with
      | nil => intro ys; simp [zipD]
      | cons x xs ih =>
        intro ys
        cases ys with
        | nil => simp [zipD]
        | cons y ys => show (zipD xs ys).length + 1 ≤ _; rw [List.length_cons]; have := ih ys; omega
    have := this (h.now.map frD) (rain.map frD)
    rw [List.length_map] at this
    exact Nat.le_trans this (by have := ok.row.l; omega)
  · rintro i x acc M' hx ha ⟨rfl, rfl⟩
    obtain ⟨u, v, hu, hv, rfl⟩ := zip_get hx
    refine ⟨⟨rfl, he1⟩, fun kd hkd => ?_⟩
    simp only [wipeG]
    walk_at "ev"
    refine ⟨u, v, rfl, w1.sm hz (List.mem_of_getElem? hu), hw.sm hB0 (List.mem_of_getElem? hv), ?_⟩
    refine hkd _ _ ⟨rfl, ?_⟩
    rw [take_succ (putR_get hu hv), List.map_append]; rfl
  · rintro acc M' ha ⟨rfl, rfl⟩
    refine ⟨⟨rfl, he1⟩, ?_⟩
    have hzl : (zipD (h.now.map frD) (rain.map frD)).length = (putR h.now rain).length := by
      have : ∀ (xs ys : List D), xs.length = ys.length → (zipD xs ys).length = xs.length := by
        intro xs
        induction xs with
        | nil => intro ys _; cases ys <;> rfl
        | cons x xs ih =>
          intro ys hy
          cases ys with
          | nil => simp at hy
          | cons y ys => show (zipD xs ys).length + 1 = _; rw [ih ys (by simpa using hy)]; rfl
      rw [this _ _ (by rw [List.length_map, List.length_map, f1]), List.length_map, putR_len f1]
    rw [hzl, List.take_length]
    walk_at "ev"
    refine ⟨_, _, d, h.ns, putR h.now rain, bs, _, _, L72, rfl, rdS_of (rdL_ref o_a), rfl, rdT_of hd1, ok.row, f2, hf, ok.lcm, r1, r2, f3, fun s hs => ?_⟩
    refine iKFrz ?_ up_same
    rw [dl_up hs]
    have hsz : (h.ws.map watD).length < sizeLine := by rw [List.length_map, sizeLine_eq, ok.wl]; omega
    refine iAppend ?_ o_b hsz
    have eb : h.ws.map watD ++ [D.lst ((settle h.ns (putR h.now rain) bs).map frD)] = (h.ws ++ [settle h.ns (putR h.now rain) bs]).map watD := by rw [List.map_append]; rfl
    rw [eb, hOpen_ws q.bc]
    have op2 := o_p (g := ⟨h.ns, h.ws ++ [settle h.ns (putR h.now rain) bs], h.st⟩)
    have oc2 := o_c (g := ⟨h.ns, h.ws ++ [settle h.ns (putR h.now rain) bs], h.st⟩)
    walk_at "ev"
    refine iSorted (fun bs' p1 p2 => ?_) hd1
    walk_at "ev"
    refine iListG ?_ he1
    have hsz2 : (h.st.map stepD).length < sizeLine := by rw [List.length_map, sizeLine_eq]; omega
    walk_at "ev"
    have ec : h.st.map stepD ++ [D.tup [D.lst (bs'.map .int), D.lst (rain.map frD)]] = (h.st ++ [(bs', rain)]).map stepD := by rw [List.map_append]; rfl
    refine ⟨_, ?_, hk bs' p1 p2⟩
    rw [ec, hOpen_st]
    have e2 : h.add bs' rain = ⟨h.ns, h.ws ++ [settle h.ns (putR h.now rain) bs], h.st ++ [(bs', rain)]⟩ := by
      unfold HD.add
      rw [settle_perm ok.row f2 hf ok.lcm f3 p1]
    rw [e2]
    exact hp_close hM q
end M
/-! S_MSame: likeness of ints, tuples and lists. -/
namespace M
open PySem L2
/-- both are alike, at most n deep -/
def Sml (M : MH) : Nat → D → D → Prop
  | 0, _, _ => False
  | n + 1, d, e => (∃ i, d = .int i ∧ e = .int i) ∨
    (∃ ds es : List D, ((d = .tup ds ∧ e = .tup es) ∨ (rdL M d = some ds ∧ rdL M e = some es)) ∧ ds.length = es.length ∧ ds.length ≤ 1000000 ∧ ∀ (i : Nat) (x y : D), ds[i]? = some x → es[i]? = some y → Sml M n x y)
theorem Sml.int {M : MH} {n : Nat} {i : Int} : Sml M (n + 1) (.int i) (.int i) := .inl ⟨i, rfl, rfl⟩
theorem Sml.pair {M : MH} {n : Nat} {a b c d : D} (h1 : Sml M n a c) (h2 : Sml M n b d) : Sml M (n + 1) (.tup [a, b]) (.tup [c, d]) := by
  refine .inr ⟨_, _, .inl ⟨rfl, rfl⟩, rfl, by simp, fun i x y q1 q2 => ?_⟩
  have : i = 0 ∨ i = 1 := by
    have := (List.getElem?_eq_some_iff.mp q1).1
    simp only [List.length_cons, List.length_nil] at this
    omega
  rcases this with rfl | rfl
  · cases q1; cases q2; exact h1
  · cases q1; cases q2; exact h2
theorem Sml.fr {M : MH} {n : Nat} {x : Rat} : Sml M (n + 2) (frD x) (frD x) := .pair .int .int
theorem Sml.same {M : MH} {n : Nat} {d e : D} {ds : List D} (h1 : rdL M d = some ds) (h2 : rdL M e = some ds) (hl : ds.length ≤ 1000000) (h : ∀ x ∈ ds, Sml M n x x) : Sml M (n + 1) d e :=
  .inr ⟨ds, ds, .inr ⟨h1, h2⟩, rfl, hl, fun i x y q1 q2 => by rw [q1] at q2; cases q2; exact h x (List.mem_of_getElem? q1)⟩
theorem Sml.frs {M : MH} {n : Nat} {d e : D} {xs : List Rat} (h1 : rdL M d = some (xs.map frD)) (h2 : rdL M e = some (xs.map frD)) (hl : xs.length ≤ 1000000) : Sml M (n + 3) d e :=
  .same h1 h2 (by rw [List.length_map]; exact hl) fun x hx => by obtain ⟨q, _, rfl⟩ := List.mem_map.mp hx; exact .fr
theorem Sml.ints {M : MH} {n : Nat} {d e : D} {xs : List Int} (h1 : rdL M d = some (xs.map .int)) (h2 : rdL M e = some (xs.map .int)) (hl : xs.length ≤ 1000000) : Sml M (n + 2) d e :=
  .same h1 h2 (by rw [List.length_map]; exact hl) fun x hx => by obtain ⟨q, _, rfl⟩ := List.mem_map.mp hx; exact .int
def F_sm (n : Nat) : AF := fun ds M k _ => ∃ d e : D, ds = [d, e] ∧ Sml M n d e ∧ k (.bl true) M
theorem all_trues (n : Nat) : (List.replicate n true).all id = true := by
  induction n with
  | zero => rfl
  | succ n ih => rw [List.replicate_succ, List.all_cons, ih]; rfl
end M
namespace M
open PySem L2
def F_sm1 (n : Nat) : AF := F_sm n
def F_law_same_v1 : AF := F_sm1 8
/-- _law_same -/
def b_law_same_v1 : AF → AS := fun F_law_same_v1 => (aSeq (aIfS (aB (aCB cIsiT (aCons (aVar 1) (aCons (aTup (aCons (aC (.ty "list")) (aCons (aC (.ty "tuple")) aNil))) aNil))))
  (aSeq (aIfS (aOr (aB (aOp (bEq true) (aCB cIsi (aCons (aVar 0) (aCons (aC (.ty "list")) aNil))) (aCB cIsi (aCons (aVar 1) (aCons (aC (.ty "list")) aNil))))) (aB (aOp (bEq true) (aCB cIsi (aCons (aVar 0) (aCons (aC (.ty "tuple")) aNil))) (aCB cIsi (aCons (aVar 1) (aCons (aC (.ty "tuple")) aNil))))))
  (aRet (aC (.bl false)))
  aNext)
  (aRet (aAndV (aOp (bEq false) (aCB cLen (aCons (aVar 0) aNil)) (aCB cLen (aCons (aVar 1) aNil))) (aCB cAll (aCons (aLc false (wZpA (aCons (aVar 0) (aCons (aVar 1) aNil))) (gTu 2 (gCo (gNm 2) (gCo (gNm 3) gNi))) aYes (aCall noX F_law_same_v1 [] (aCons (aVar 2) (aCons (aVar 3) aNil))) [2, 3]) aNil)))))
  aNext)
  (aRet (aAndV (aOp (bEq false) (aCB cIsi (aCons (aVar 0) (aCons (aC (.ty "bool")) aNil))) (aCB cIsi (aCons (aVar 1) (aCons (aC (.ty "bool")) aNil)))) (aOp (bEq false) (aVar 0) (aVar 1)))))
theorem len_law_same_v1 : ∀ n ds M k x, F_sm1 n ds M k x → ds.length = 2 := by
  rintro n ds M k x ⟨a, b, rfl, _⟩; rfl
theorem ok_law_same_v1 : ∀ n ds M k x, F_sm1 (n + 1) ds M k x → b_law_same_v1 (F_sm1 n) { nx := fun _ M' => fin k .non M', rt := fin k } (startG 4 ds) M := by
  rintro n ds M k _ ⟨d, e, rfl, h, hk⟩
  walk_at "st"
  unfold b_law_same_v1
  have K := fin.of hk
  rcases h with ⟨i, rfl, rfl⟩ | ⟨ds, es, h1, h2, h3, h4⟩
  · walk_at "ev"
    refine iIsi2 (b := false) ?_ rfl kb_int_list kb_int_tuple
    walk_at "ev"
    exact K
  · have core : ∀ (d e : D) (t : String), (t = "tuple" ∨ t = "list") → tyD M d = some t → tyD M e = some t → d.isNon = false → e.isNon = false → (∀ k : AK, k (.int ds.length) M → cLen [d] M k) → (∀ k : AK, k (.int ds.length) M → cLen [e] M k) →
        (∀ (kI : AIt → MH → Prop), (∀ ok : MH → Prop, ok M → kI ⟨zipD ds es, ok⟩ M) → kZpA kI [d, e] M) → b_law_same_v1 (F_sm1 n) { nx := fun _ M' => fin k .non M', rt := fin k } [some d, some e, none, none] M := by
      intro d e t ht t1 t2 n1 n2 l1 l2 zz
      have lz : ∀ {ds es : List D}, ds.length = es.length → (zipD ds es).length = ds.length := by
        intro ds
        induction ds with
        | nil => intro es h; rfl
        | cons d ds ih =>
          intro es h
          cases es with
          | nil => cases h
          | cons e es =>
            show (zipD ds es).length + 1 = ds.length + 1
            rw [ih (by simpa using h)]
      have lz := lz h2
      have last : ∀ ok : MH → Prop, ok M → lcGo false ok (gTu 2 (gCo (gNm 2) (gCo (gNm 3) gNi))) aYes (aCall noX (F_sm1 n) [] (aCons (aVar 2) (aCons (aVar 3) aNil))) [some d, some e, none, none] (zipD ds es) [] M (fun ds M2 => cAll [D.lst ds] M2 (fin k)) := by
        intro ok hok
        refine lc_st (fun i acc M' => M' = M ∧ acc = (List.replicate i true).map .bl) (by rw [lz]; exact h3) ?_ ?_ ⟨rfl, rfl⟩
        · rintro i x acc M' hx ha ⟨eM, rfl⟩
          subst M'
          rw [zipD_get] at hx
          cases q1 : ds[i]? with
          | none => rw [q1] at hx; cases hx
          | some x1 =>
            cases q2 : es[i]? with
            | none => rw [q1, q2] at hx; cases hx
            | some y1 =>
              rw [q1, q2] at hx
              cases hx
              refine ⟨hok, fun kd hkd => ?_⟩
              walk_at "ev"
              refine ⟨_, _, rfl, h4 i _ _ q1 q2, ?_⟩
              refine hkd _ _ ⟨rfl, ?_⟩
              rw [List.replicate_succ', List.map_append]; rfl
        · rintro acc M' ha ⟨eM, rfl⟩
          subst M'
          refine ⟨hok, ⟨_, rfl, ?_⟩⟩
          rw [all_trues]; exact K
      unfold b_law_same_v1
      rcases ht with rfl | rfl
      · walk_at "ev"
        refine iIsi2 (b := true) ?_ t2 kb_tuple_list kb_tuple_tuple
        walk_at "ev"
        refine l1 _ ?_
        refine l2 _ ?_
        walk_at "ev"
        rw [eZpA]
        walk_at "ev"
        exact zz _ fun ok hok => last ok hok
      · walk_at "ev"
        refine iIsi2 (b := true) ?_ t2 kb_list_list kb_list_tuple
        walk_at "ev"
        refine l1 _ ?_
        refine l2 _ ?_
        walk_at "ev"
        rw [eZpA]
        walk_at "ev"
        exact zz _ fun ok hok => last ok hok
    rcases h1 with ⟨rfl, rfl⟩ | ⟨r1, r2⟩
    · exact core _ _ "tuple" (.inl rfl) rfl rfl rfl rfl (fun k h => h) (fun k h => by rw [h2] at h; exact h) fun kI h => iZpAT (h _ trivial)
    · exact core _ _ "list" (.inr rfl) (ty_rd r1) (ty_rd r2) (isNon_rd r1) (isNon_rd r2) (fun k h => iLenG h (rdS_of r1)) (fun k h => iLenG (by rw [h2] at h; exact h) (rdS_of r2)) fun kI h => iZpAL (h _ ⟨rdS_of r1, rdS_of r2⟩) (rdS_of r1) (rdS_of r2)
end M
namespace M
open PySem L2
theorem hOpen_up {M : MH} {p C a b c r : Addr} {h : HD} {o : MO} (q : HPt M p a b c) (hr : hOpen M p C a b c h r = none) : up (hOpen M p C a b c h) r o = hOpen (up M r o) p C a b c h ∧ M r = none ∧ r ≠ p ∧ r ≠ a ∧ r ≠ b ∧ r ≠ c := by
  change up (up (up (up M p _) a _) b _) c _ r = none at hr
  show up (up (up (up (up M p _) a _) b _) c _) r o = up (up (up (up (up M r o) p _) a _) b _) c _ ∧ _
  have rc : r ≠ c := fun z => by rw [z, up_same] at hr; cases hr
  rw [up_ne rc] at hr
  have rb : r ≠ b := fun z => by rw [z, up_same] at hr; cases hr
  rw [up_ne rb] at hr
  have ra : r ≠ a := fun z => by rw [z, up_same] at hr; cases hr
  rw [up_ne ra] at hr
  have rp : r ≠ p := fun z => by rw [z, up_same] at hr; cases hr
  rw [up_ne rp] at hr
  refine ⟨?_, hr, rp, ra, rb, rc⟩
  rw [up_comm rc.symm, up_comm rb.symm, up_comm ra.symm, up_comm rp.symm]
theorem hpt_up {M : MH} {p a b c r : Addr} {o : MO} (q : HPt M p a b c) (h1 : r ≠ a) (h2 : r ≠ b) (h3 : r ≠ c) : HPt (up M r o) p a b c :=
  ⟨q.ab, q.ac, q.bc, q.pa, q.pb, q.pc, by rw [up_ne h1.symm]; exact q.qa, by rw [up_ne h2.symm]; exact q.qb, by rw [up_ne h3.symm]; exact q.qc⟩
/-- a new list told by a method -/
theorem hp_new {M : MH} {p C a b c r : Addr} {h : HD} {o : MO} (hM : M p = some (hBox C a b c h)) (q : HPt M p a b c) (hr : hOpen M p C a b c h r = none) : Abs (up (hOpen M p C a b c h) r o) (up M r o) ∧ M r = none := by
  obtain ⟨e, r0, rp, ra, rb, rc⟩ := hOpen_up (o := o) q hr
  refine ⟨?_, r0⟩
  rw [e]
  exact hp_same (by rw [up_ne rp.symm]; exact hM) (hpt_up q ra rb rc)
/-- pairs of lists of the small heap within one list -/
structure NestS (M0 M' : MH) (qs : List (Addr × Addr)) (st : List (List D × List D)) : Prop where
  less : Less M' M0
  len : qs.length = st.length
  new : ∀ q ∈ qs, M0 q.1 = none ∧ M0 q.2 = none
  at_ : ∀ (i : Nat) q s, qs[i]? = some q → st[i]? = some s → M' q.1 = some (.obj (.lst s.1)) ∧ M' q.2 = some (.obj (.lst s.2))
  ne : ∀ (i j : Nat) q r, qs[i]? = some q → qs[j]? = some r → q.1 ≠ r.2 ∧ (i ≠ j → q.1 ≠ r.1 ∧ q.2 ≠ r.2)
theorem NestS.nil {M : MH} : NestS M M [] [] := ⟨Less.refl, rfl, fun q h => (by cases h), fun i q s h => (by simp at h), fun i j q r h => (by simp at h)⟩
theorem NestS.val {M0 M' : MH} {qs : List (Addr × Addr)} {st : List (List D × List D)} (h : NestS M0 M' qs st) {i : Nat} {q : Addr × Addr} (hq : qs[i]? = some q) : ∃ s, st[i]? = some s ∧ M' q.1 = some (.obj (.lst s.1)) ∧ M' q.2 = some (.obj (.lst s.2)) := by
  have hl := (List.getElem?_eq_some_iff.mp hq).1
  have e := List.getElem?_eq_getElem (show i < st.length by have := h.len; omega)
  exact ⟨_, e, h.at_ i q _ hq e⟩
theorem less_none {M M' : MH} (h : Less M M') {x : Addr} (e : M x = none) : M' x = none := by
  rcases h x with z | ⟨z, _⟩
  · rw [z]; exact e
  · exact z
theorem less_some {M M' : MH} (h : Less M M') {x : Addr} {o : MO} (e : M' x = some o) : M x = some o := by
  rcases h x with z | ⟨z, _⟩
  · rw [← z]; exact e
  · rw [z] at e; cases e
theorem less_put {M M' : MH} (h : Less M M') {x : Addr} {b : BO} (e : M' x = none) : Less (up M x (.obj b)) M' := fun y => by
  by_cases z : y = x
  · rw [z]; exact .inr ⟨e, b, up_same⟩
  · rw [up_ne z]; exact h y
theorem NestS.snoc {M0 M' : MH} {qs : List (Addr × Addr)} {st : List (List D × List D)} {a b : Addr} {u v : List D} (h : NestS M0 M' qs st) (ha : M' a = none) (hb : M' b = none) (ab : a ≠ b) : NestS M0 (up (up M' a (.obj (.lst u))) b (.obj (.lst v))) (qs ++ [(a, b)]) (st ++ [(u, v)]) := by
  have na : ∀ (i : Nat) (q : Addr × Addr), qs[i]? = some q → q.1 ≠ a ∧ q.2 ≠ a ∧ q.1 ≠ b ∧ q.2 ≠ b := fun i q e => by
    obtain ⟨s, _, e1, e2⟩ := h.val e
    exact ⟨fun z => (by rw [z, ha] at e1; cases e1), fun z => (by rw [z, ha] at e2; cases e2), fun z => (by rw [z, hb] at e1; cases e1), fun z => (by rw [z, hb] at e2; cases e2)⟩
  have cs : ∀ (i : Nat) (q : Addr × Addr), (qs ++ [(a, b)])[i]? = some q → (i < qs.length ∧ qs[i]? = some q) ∨ (i = qs.length ∧ q = (a, b)) := fun i q e => by
    by_cases z : i < qs.length
    · rw [List.getElem?_append_left z] at e; exact .inl ⟨z, e⟩
    · have hl := (List.getElem?_eq_some_iff.mp e).1
      rw [List.length_append, List.length_singleton] at hl
      have : i = qs.length := by omega
      subst this
      rw [List.getElem?_append_right (Nat.le_refl _), Nat.sub_self] at e
      cases e
      exact .inr ⟨rfl, rfl⟩
  refine ⟨less_put (less_put h.less (less_none h.less ha)) (less_none h.less hb), by rw [List.length_append, List.length_append, h.len]; rfl, fun q hq => ?_, fun i q s e1 e2 => ?_, fun i j q r e1 e2 => ?_⟩
  · rcases List.mem_append.mp hq with hq | hq
    · exact h.new q hq
    · rw [List.mem_singleton.mp hq]; exact ⟨less_none h.less ha, less_none h.less hb⟩
  · rcases cs i q e1 with ⟨z, e⟩ | ⟨z, rfl⟩
    · rw [List.getElem?_append_left (by have := h.len; omega)] at e2
      obtain ⟨n1, n2, n3, n4⟩ := na i q e
      rw [up_ne n3, up_ne n1, up_ne n4, up_ne n2]
      exact h.at_ i q s e e2
    · subst z
      rw [h.len, List.getElem?_append_right (Nat.le_refl _), Nat.sub_self] at e2
      cases e2
      exact ⟨by rw [up_ne ab]; exact up_same, up_same⟩
  · rcases cs i q e1 with ⟨z, e⟩ | ⟨z, rfl⟩ <;> rcases cs j r e2 with ⟨y, e'⟩ | ⟨y, rfl⟩
    · exact h.ne i j q r e e'
    · obtain ⟨n1, n2, n3, n4⟩ := na i q e
      exact ⟨n3, fun _ => ⟨n1, n4⟩⟩
    · obtain ⟨n1, n2, n3, n4⟩ := na j r e'
      exact ⟨fun w => n2 w.symm, fun _ => ⟨fun w => n1 w.symm, fun w => n4 w.symm⟩⟩
    · exact ⟨ab, fun w => absurd (z.trans y.symm) w⟩
theorem NestS.put1 {M0 M' : MH} {qs : List (Addr × Addr)} {st : List (List D × List D)} {i : Nat} {q : Addr × Addr} {s : List D × List D} {u : List D} (h : NestS M0 M' qs st) (hq : qs[i]? = some q) (hs : st[i]? = some s) : NestS M0 (up M' q.1 (.obj (.lst u))) qs (st.set i (u, s.2)) := by
  have hi := (List.getElem?_eq_some_iff.mp hs).1
  refine ⟨less_put h.less (h.new q (List.mem_of_getElem? hq)).1, by rw [List.length_set]; exact h.len, h.new, fun j r t e1 e2 => ?_, h.ne⟩
  obtain ⟨n1, n2⟩ := h.ne i j q r hq e1
  by_cases z : i = j
  · subst z
    rw [hq] at e1; cases e1
    rw [List.getElem?_set_self hi] at e2; cases e2
    exact ⟨up_same, by rw [up_ne n1.symm]; exact (h.at_ i q s hq hs).2⟩
  · rw [List.getElem?_set_ne z] at e2
    obtain ⟨g1, g2⟩ := h.at_ j r t e1 e2
    exact ⟨by rw [up_ne (n2 z).1.symm]; exact g1, by rw [up_ne n1.symm]; exact g2⟩
theorem NestS.put2 {M0 M' : MH} {qs : List (Addr × Addr)} {st : List (List D × List D)} {i : Nat} {q : Addr × Addr} {s : List D × List D} {u : List D} (h : NestS M0 M' qs st) (hq : qs[i]? = some q) (hs : st[i]? = some s) : NestS M0 (up M' q.2 (.obj (.lst u))) qs (st.set i (s.1, u)) := by
  have hi := (List.getElem?_eq_some_iff.mp hs).1
  refine ⟨less_put h.less (h.new q (List.mem_of_getElem? hq)).2, by rw [List.length_set]; exact h.len, h.new, fun j r t e1 e2 => ?_, h.ne⟩
  obtain ⟨n1, _⟩ := h.ne j i r q e1 hq
  obtain ⟨_, n2⟩ := h.ne i j q r hq e1
  by_cases z : i = j
  · subst z
    rw [hq] at e1; cases e1
    rw [List.getElem?_set_self hi] at e2; cases e2
    exact ⟨by rw [up_ne n1]; exact (h.at_ i q s hq hs).1, up_same⟩
  · rw [List.getElem?_set_ne z] at e2
    obtain ⟨g1, g2⟩ := h.at_ j r t e1 e2
    exact ⟨by rw [up_ne n1]; exact g1, by rw [up_ne (n2 z).2.symm]; exact g2⟩
def qD (q : Addr × Addr) : D := .tup [.ref q.1, .ref q.2]
def stPD (s : List Int × List Rat) : List D × List D := (s.1.map .int, s.2.map frD)
end M
namespace M
open PySem L2
def F_History_water_m (CH : Addr) : AF := fun ds M k _ => ∃ (p a b c : Addr) (d : D) (h : HD) (i : Nat) (w : List Rat), ds = [.ref p, d] ∧ M p = some (hBox CH a b c h) ∧ ((d = .non ∧ i = h.st.length) ∨ (d = .int i ∧ i ≤ h.st.length)) ∧ h.ws[i]? = some w ∧ ∀ r, M r = none → k (.ref r) (up M r (.obj (.lst (w.map frD))))
/-- water -/
def b_History_water_m (CH : Addr) : AS := (gOpen 0 (aSeq (aSet 2 (aIf (aB (aOp bIsN (aVar 1) (aC .non))) (aCB cLen (aCons (aFld CH "steps_held" (aVar 0)) aNil)) (aVar 1)))
  (aSeq (aIfS (aNot (aB (aChain (fun i j => decide (i ≤ j)) (fun i j => decide (i ≤ j)) (aC (.int 0)) (aVar 2) (aCB cLen (aCons (aFld CH "steps_held" (aVar 0)) aNil)))))
  aNever
  aNext)
  (aRet (aCB (cList true) (aCons (aOp bIx (aFld CH "waters_held" (aVar 0)) (aVar 2)) aNil))))))
theorem len_History_water_m (CH : Addr) : ∀ ds M k x, F_History_water_m CH ds M k x → ds.length = 2 := by
  rintro ds M k x ⟨p, a, b, c, d, h, i, w, rfl, _⟩; rfl
theorem ok_History_water_m (CH : Addr) : ∀ ds M k x, F_History_water_m CH ds M k x → b_History_water_m CH { nx := fun _ M' => fin k .non M', rt := fin k } (startG 3 ds) M := by
  rintro ds M k _ ⟨p, a, b, c, d, h, i, w, rfl, hM, hd, hw, hk⟩
  walk_at "st"
  unfold b_History_water_m
  refine gOpen_h rfl hM fun q => ?_
  have op := hOpen_p (M := M) (C := CH) (h := h) q.pa q.pb q.pc
  have ob := hOpen_b (M := M) (p := p) (C := CH) (a := a) (h := h) q.bc
  have oc := hOpen_c (M := M) (p := p) (C := CH) (a := a) (b := b) (c := c) (h := h)
  have ai : atI (h.ws.map watD) (i : Int) = some (.lst (w.map frD)) := atI_nat (by rw [List.getElem?_map, hw]; rfl)
  rcases hd with ⟨rfl, rfl⟩ | ⟨rfl, hi⟩
  · walk_at "ev"
    rw [List.length_map]
    refine iteDT (by omega) ?_
    walk_at "ev"
    rw [List.length_map]
    refine iteNDT (by omega) ?_
    walk_at "ev"
    intro r hr
    obtain ⟨ab, r0⟩ := hp_new (o := .obj (.lst (w.map frD))) hM q hr
    exact ⟨_, ab, hk r r0⟩
  · walk_at "ev"
    refine iteDT (by omega) ?_
    walk_at "ev"
    rw [List.length_map]
    refine iteNDT (by omega) ?_
    walk_at "ev"
    intro r hr
    obtain ⟨ab, r0⟩ := hp_new (o := .obj (.lst (w.map frD))) hM q hr
    exact ⟨_, ab, hk r r0⟩
end M
namespace M
open PySem L2
def F_History_steps_m (CH : Addr) : AF := fun ds M k _ => ∃ (p a b c : Addr) (h : HD), ds = [.ref p] ∧ M p = some (hBox CH a b c h) ∧ h.st.length ≤ 1000 ∧
  ∀ (r : Addr) (qs : List (Addr × Addr)) (M' : MH), NestS M M' qs (h.st.map stPD) → M' r = none → k (.ref r) (up M' r (.obj (.lst (qs.map qD))))
/-- steps -/
def b_History_steps_m (CH : Addr) : AS := (gOpen 0 (aRet (aLc true (wLst (aFld CH "steps_held" (aVar 0))) (gTu 2 (gCo (gNm 1) (gCo (gNm 2) gNi))) aYes (aTup (aCons (aCB (cList true) (aCons (aVar 1) aNil)) (aCons (aCB (cList true) (aCons (aVar 2) aNil)) aNil))) [1, 2])))
theorem len_History_steps_m (CH : Addr) : ∀ ds M k x, F_History_steps_m CH ds M k x → ds.length = 1 := by
  rintro ds M k x ⟨p, a, b, c, h, rfl, _⟩; rfl
theorem ok_History_steps_m (CH : Addr) : ∀ ds M k x, F_History_steps_m CH ds M k x → b_History_steps_m CH { nx := fun _ M' => fin k .non M', rt := fin k } (startG 3 ds) M := by
  rintro ds M k _ ⟨p, a, b, c, h, rfl, hM, hl, hk⟩
  walk_at "st"
  unfold b_History_steps_m
  refine gOpen_h rfl hM fun q => ?_
  have op := hOpen_p (M := M) (C := CH) (h := h) q.pa q.pb q.pc
  have oc := hOpen_c (M := M) (p := p) (C := CH) (a := a) (b := b) (c := c) (h := h)
  walk_at "ev"
  refine iWLG ?_ (rdS_of (rdL_ref oc))
  refine lc_st (fun i acc M' => ∃ (qs : List (Addr × Addr)) (M2 : MH), acc = qs.map qD ∧ M' = hOpen M2 p CH a b c h ∧ NestS M M2 qs ((h.st.take i).map stPD)) (by rw [List.length_map]; omega) ?_ ?_ ⟨[], M, rfl, rfl, by rw [List.take_zero]; exact .nil⟩
  · rintro i x acc M' hx ha ⟨qs, M2, rfl, rfl, nest⟩
    obtain ⟨s, hs, rfl⟩ := map_get hx
    have oc2 := hOpen_c (M := M2) (p := p) (C := CH) (a := a) (b := b) (c := c) (h := h)
    refine ⟨rdS_of (rdL_ref oc2), fun kd hkd => ?_⟩
    have q2 : HPt M2 p a b c := ⟨q.ab, q.ac, q.bc, q.pa, q.pb, q.pc, less_some nest.less q.qa, less_some nest.less q.qb, less_some nest.less q.qc⟩
    simp only [wipeG]
    unfold stepD
    walk_at "ev"
    intro r1 hr1
    obtain ⟨e1, r10, n1, n2, n3, n4⟩ := hOpen_up (o := .obj (.lst (s.1.map .int))) q2 hr1
    rw [e1]
    walk_at "ev"
    intro r2 hr2
    have q3 := hpt_up (o := .obj (.lst (s.1.map .int))) q2 n2 n3 n4
    obtain ⟨e2, r20, m1, m2, m3, m4⟩ := hOpen_up (o := .obj (.lst (s.2.map frD))) q3 hr2
    rw [e2]
    walk_at "ev"
    have ne : r2 ≠ r1 := fun z => by rw [z, up_same] at r20; cases r20
    rw [up_ne ne] at r20
    refine hkd _ _ ⟨qs ++ [(r1, r2)], _, by rw [List.map_append]; rfl, rfl, ?_⟩
    rw [take_succ hs, List.map_append]
    exact nest.snoc r10 r20 ne.symm
  · rintro acc M' ha ⟨qs, M2, rfl, rfl, nest⟩
    have oc2 := hOpen_c (M := M2) (p := p) (C := CH) (a := a) (b := b) (c := c) (h := h)
    refine ⟨rdS_of (rdL_ref oc2), ?_⟩
    have q2 : HPt M2 p a b c := ⟨q.ab, q.ac, q.bc, q.pa, q.pb, q.pc, less_some nest.less q.qa, less_some nest.less q.qb, less_some nest.less q.qc⟩
    rw [List.length_map, List.take_length] at nest
    walk_at "ev"
    intro r hr
    obtain ⟨ab, r0⟩ := hp_new (o := .obj (.lst (qs.map qD))) (less_some nest.less hM) q2 hr
    exact ⟨_, ab, hk r qs M2 nest r0⟩
end M
namespace M
open PySem L2
def F_History_left (CH : Addr) : AF := fun ds M k _ => ∃ (p a b c : Addr) (h : HD) (i : Nat) (B D0 : Nat), ds = [.ref p, .int i] ∧ M p = some (hBox CH a b c h) ∧ HOk B D0 h ∧ HRm B D0 ∧ i ≤ h.ns.length ∧ k (frD (hp h.now i)) M
/-- left -/
def b_History_left (CH : Addr) : AS := (gOpen 0 (aSeq (aIfS (aNot (aB (aChain (fun i j => decide (i ≤ j)) (fun i j => decide (i ≤ j)) (aC (.int 0)) (aVar 1) (aCB cLen (aCons (aFld CH "floors_held" (aVar 0)) aNil)))))
  aNever
  aNext)
  (aRet (aOp bIx (aFrz (aCall noX F_heaped_up [] (aCons (aOp bIx (aFld CH "waters_held" (aVar 0)) (aNeg (aC (.int 1)))) aNil))) (aVar 1)))))
theorem len_History_left (CH : Addr) : ∀ ds M k x, F_History_left CH ds M k x → ds.length = 2 := by
  rintro ds M k x ⟨p, a, b, c, h, i, _, _, rfl, _⟩; rfl
theorem ok_History_left (CH : Addr) : ∀ ds M k x, F_History_left CH ds M k x → b_History_left CH { nx := fun _ M' => fin k .non M', rt := fin k } (startG 2 ds) M := by
  rintro ds M k _ ⟨p, a, b, c, h, i, B, D0, rfl, hM, ok, hR, hi, hk⟩
  walk_at "st"
  unfold b_History_left
  refine gOpen_h rfl hM fun q => ?_
  have op := hOpen_p (M := M) (C := CH) (h := h) q.pa q.pb q.pc
  have oa := hOpen_a (M := M) (p := p) (C := CH) (h := h) q.ab q.ac
  have ob := hOpen_b (M := M) (p := p) (C := CH) (a := a) (h := h) q.bc
  obtain ⟨e1, l1, w1⟩ := ok.now
  have wl := ws_last e1 ok.wl
  have rm := hR.rm (i := h.st.length) ok.few
  have ai : atI ((psR h.now).map frD) (i : Int) = some (frD (hp h.now i)) := atI_nat (by rw [List.getElem?_map, psR_get (by omega)]; rfl)
  walk_at "ev"
  refine iteDT (by omega) ?_
  walk_at "ev"
  rw [List.length_map]
  refine iteNDT (by omega) ?_
  walk_at "ev"
  unfold watD
  refine ⟨_, h.now, rfl, rfl, by have := ok.row.l; omega, w1.smS rm, fun s hs => ?_⟩
  refine iKFrz ?_ up_same
  rw [dl_up hs]
  walk_at "ev"
  exact ⟨_, hp_same hM q, hk⟩
end M
namespace M
open PySem L2
def F_History_floors_m (CH : Addr) : AF := fun ds M k _ => ∃ (p a b c : Addr) (h : HD), ds = [.ref p] ∧ M p = some (hBox CH a b c h) ∧ ∀ r, M r = none → k (.ref r) (up M r (.obj (.lst (h.ns.map .int))))
/-- floors -/
def b_History_floors_m (CH : Addr) : AS := (gOpen 0 (aRet (aCB (cList true) (aCons (aFld CH "floors_held" (aVar 0)) aNil))))
theorem len_History_floors_m (CH : Addr) : ∀ ds M k x, F_History_floors_m CH ds M k x → ds.length = 1 := by
  rintro ds M k x ⟨p, a, b, c, h, rfl, _⟩; rfl
theorem ok_History_floors_m (CH : Addr) : ∀ ds M k x, F_History_floors_m CH ds M k x → b_History_floors_m CH { nx := fun _ M' => fin k .non M', rt := fin k } (startG 1 ds) M := by
  rintro ds M k _ ⟨p, a, b, c, h, rfl, hM, hk⟩
  walk_at "st"
  unfold b_History_floors_m
  refine gOpen_h rfl hM fun q => ?_
  have op := hOpen_p (M := M) (C := CH) (h := h) q.pa q.pb q.pc
  have oa := hOpen_a (M := M) (p := p) (C := CH) (h := h) q.ab q.ac
  walk_at "ev"
  intro r hr
  obtain ⟨ab, r0⟩ := hp_new (o := .obj (.lst (h.ns.map .int))) hM q hr
  exact ⟨_, ab, hk r r0⟩
end M
local macro_rules | `(tactic| walk_at "mk1") => `(tactic| first | simp only [↓M.eMethK] | (with_reducible apply M.iKMethK; rotate_left; (walk_at "at"); (walk_at "ins")))
local macro_rules | `(tactic| walk_at "kv") => `(tactic| repeat first | walk_at "eq" | walk_at "e1" | walk_at "mk1")
namespace M
open PySem L2
def F_law_right_v1 (CH : Addr) : AF := fun ds M k _ => ∃ (p a b c : Addr) (d2 d3 : D) (h : HD) (B D0 : Nat), ds = [.ref p, .lst (h.ns.map .int), d2, d3] ∧ M p = some (hBox CH a b c h) ∧ HOk B D0 h ∧ HRm B D0 ∧ rdL M d2 = some (h.ws.map watD) ∧ rdL M d3 = some (h.st.map stepD) ∧ k (.bl true) M
def c2_law_right_v1 (CH : Addr) : AS := (aSeq (aSet 6 (aMeth noX CH "steps" (F_History_steps_m CH) [] (aVar 0) aNil))
  (aSeq (aFor (wEn (aCons (aVar 6) aNil)) (gTu 2 (gCo (gNm 7) (gCo (gTu 2 (gCo (gNm 8) (gCo (gNm 9) gNi))) gNi)))
  (aSeq (aDrop (aMt mAppend (aVar 8) (aCons (aVar 7) aNil)))
  (aDrop (aMt mAppend (aVar 9) (aCons (aNeg (aVar 7)) aNil)))))
  (aSeq (aIfS (aB (aOp (bEq true) (aVar 6) (aLc false (wEn (aCons (aVar 3) aNil)) (gTu 2 (gCo (gNm 7) (gCo (gTu 2 (gCo (gNm 8) (gCo (gNm 9) gNi))) gNi))) aYes (aTup (aCons (aOp (bAdd false) (aVar 8) (aLst false (aCons (aVar 7) aNil))) (aCons (aOp (bAdd false) (aVar 9) (aLst false (aCons (aNeg (aVar 7)) aNil))) aNil))) [7, 8, 9])))
  (aRet (aC (.bl false)))
  aNext)
  (aRet (aCall noX F_law_same_v1 [] (aCons (aMeth noX CH "floors" (F_History_floors_m CH) [] (aVar 0) aNil) (aCons (aVar 1) aNil)))))))
def c1_law_right_v1 (CH : Addr) : AS := (aSeq (aFor (wLst (aLst false (aCons (aMeth noX CH "water" (F_History_water_m CH) [.non] (aVar 0) aNil) (aCons (aMeth noX CH "steps" (F_History_steps_m CH) [] (aVar 0) aNil) (aCons (aMeth noX CH "floors" (F_History_floors_m CH) [] (aVar 0) aNil) (aCons (aMeth noX CH "water" (F_History_water_m CH) [] (aVar 0) (aCons (aC (.int 0)) aNil)) aNil)))))) (gNm 5)
  (aDrop (aMt mAppend (aVar 5) (aCons (aC (.int 7)) aNil))))
  (c2_law_right_v1 CH))
/-- _law_right -/
def b_law_right_v1 (CH : Addr) : AS := (aSeq (aIfS (aOr (aNot (aB (aCall noX F_law_same_v1 [] (aCons (aMeth noX CH "water" (F_History_water_m CH) [.non] (aVar 0) aNil) (aCons (aOp bIx (aVar 2) (aNeg (aC (.int 1)))) aNil))))) (aNot (aB (aCall noX F_law_same_v1 [] (aCons (aMeth noX CH "steps" (F_History_steps_m CH) [] (aVar 0) aNil) (aCons (aVar 3) aNil))))))
  (aRet (aC (.bl false)))
  aNext)
  (aSeq (aIfS (aNot (aB (aCall noX F_law_same_v1 [] (aCons (aLc false (wRg1 (aCons (aOp (bAdd false) (aCB cLen (aCons (aVar 1) aNil)) (aC (.int 1))) aNil)) (gNm 4) aYes (aMethK noX CH "left" (F_History_left CH) 1 [0, 1] [] (aVar 0) (aCons (aVar 4) aNil)) [4]) (aCons (aCall noX F_law_heap_v1 [] (aCons (aOp bIx (aVar 2) (aNeg (aC (.int 1)))) aNil)) aNil)))))
  (aRet (aC (.bl false)))
  aNext)
  (aSeq (aFor (wRg1 (aCons (aCB cLen (aCons (aVar 2) aNil)) aNil)) (gNm 4)
  (aIfS (aNot (aB (aCall noX F_law_same_v1 [] (aCons (aLst false (aCons (aMeth noX CH "water" (F_History_water_m CH) [] (aVar 0) (aCons (aVar 4) aNil)) (aCons (aMethK noX CH "water" (F_History_water_m CH) 1 [0, 1] [] (aVar 0) (aCons (aVar 4) aNil)) aNil))) (aCons (aLst false (aCons (aOp bIx (aVar 2) (aVar 4)) (aCons (aOp bIx (aVar 2) (aVar 4)) aNil))) aNil)))))
  (aRet (aC (.bl false)))
  aNext))
  (c1_law_right_v1 CH))))
theorem len_law_right_v1 (CH : Addr) : ∀ ds M k x, F_law_right_v1 CH ds M k x → ds.length = 4 := by
  rintro ds M k x ⟨a, b, _, _, _, _, _, _, _, rfl, _⟩; rfl
theorem rdL_less {M M' : MH} {d : D} {ds : List D} (l : Less M' M) (h : rdL M d = some ds) : rdL M' d = some ds := by
  cases d with
  | ref x =>
    have h : (match M x with | some (.obj (.lst ds)) => some ds | _ => none) = some ds := h
    split at h
    · rename_i ds' e
      cases h
      exact rdL_ref (less_some l e)
    · cases h
  | _ => exact h
/-- the steps, the first i of them changed -/
def appS (j : Nat) (s : List Int × List Rat) : List D × List D := (s.1.map .int ++ [.int j], s.2.map frD ++ [.int (-(j : Int))])
def stA (st : List (List Int × List Rat)) (i : Nat) : List (List D × List D) := st.mapIdx fun j s => if j < i then appS j s else stPD s
theorem stA_zero (st : List (List Int × List Rat)) : stA st 0 = st.map stPD := by
  refine List.ext_getElem? fun j => ?_
  unfold stA
  rw [List.getElem?_mapIdx, List.getElem?_map]
  simp
theorem stA_len (st : List (List Int × List Rat)) (i : Nat) : (stA st i).length = st.length := by unfold stA; rw [List.length_mapIdx]
theorem stA_at {st : List (List Int × List Rat)} {i j : Nat} {s : List Int × List Rat} (h : st[j]? = some s) : (stA st i)[j]? = some (if j < i then appS j s else stPD s) := by
  unfold stA
  rw [List.getElem?_mapIdx, h]; rfl
theorem stA_set {st : List (List Int × List Rat)} {i : Nat} {s : List Int × List Rat} {u : List D} (h : st[i]? = some s) : (((stA st i).set i ((appS i s).1, u)).set i ((appS i s).1, (appS i s).2)) = stA st (i + 1) := by
  have hi := (List.getElem?_eq_some_iff.mp h).1
  refine List.ext_getElem? fun j => ?_
  by_cases z : i = j
  · subst z
    rw [List.getElem?_set_self (by rw [List.length_set, stA_len]; exact hi), stA_at h, if_pos (by omega)]
  · rw [List.getElem?_set_ne z, List.getElem?_set_ne z]
    cases e : st[j]? with
    | none =>
      have := List.getElem?_eq_none_iff.mp e
      rw [List.getElem?_eq_none (by rw [stA_len]; exact this), List.getElem?_eq_none (by rw [stA_len]; exact this)]
    | some s' =>
      rw [stA_at e, stA_at e]
      by_cases y : j < i
      · rw [if_pos y, if_pos (by omega)]
      · rw [if_neg y, if_neg (by omega)]
def pD (u : List D × List D) : D := .tup [.lst u.1, .lst u.2]
theorem NestS.rd {M0 M' : MH} {qs : List (Addr × Addr)} {st : List (List D × List D)} {r : Addr} (n : NestS M0 M' qs st) (h : M' r = none) : rdD (up M' r (.obj (.lst (qs.map qD)))) 4 (.ref r) = rdD (up M' r (.obj (.lst (qs.map qD)))) 4 (.lst (st.map pD)) := by
  show (match up M' r (.obj (.lst (qs.map qD))) r with | some (.obj (.lst ds)) => D.lst (ds.map (rdD (up M' r (.obj (.lst (qs.map qD)))) 3)) | _ => .ref r) = .lst ((st.map pD).map (rdD (up M' r (.obj (.lst (qs.map qD)))) 3))
  rw [up_same]
  refine congrArg D.lst (List.ext_getElem? fun i => ?_)
  rw [List.getElem?_map, List.getElem?_map, List.getElem?_map, List.getElem?_map]
  cases e : qs[i]? with
  | none =>
    have := List.getElem?_eq_none_iff.mp e
    rw [List.getElem?_eq_none (l := st) (by have := n.len; omega)]; rfl
  | some q =>
    obtain ⟨s, e2, m1, m2⟩ := n.val e
    rw [e2]
    have q1 : q.1 ≠ r := fun z => by rw [z, h] at m1; cases m1
    have q2 : q.2 ≠ r := fun z => by rw [z, h] at m2; cases m2
    have m1' : up M' r (.obj (.lst (qs.map qD))) q.1 = some (.obj (.lst s.1)) := by rw [up_ne q1]; exact m1
    have m2' : up M' r (.obj (.lst (qs.map qD))) q.2 = some (.obj (.lst s.2)) := by rw [up_ne q2]; exact m2
    generalize up M' r (.obj (.lst (qs.map qD))) = N at m1' m2' ⊢
    have e3 : ∀ (x : Addr) (ds : List D), N x = some (.obj (.lst ds)) → rdD N 2 (.ref x) = rdD N 2 (.lst ds) := fun x ds hx => by
      show (match N x with | some (.obj (.lst ds)) => D.lst (ds.map (rdD N 1)) | _ => .ref x) = .lst (ds.map (rdD N 1))
      rw [hx]
    show some (D.tup [rdD N 2 (.ref q.1), rdD N 2 (.ref q.2)]) = some (.tup [rdD N 2 (.lst s.1), rdD N 2 (.lst s.2)])
    rw [e3 _ _ m1', e3 _ _ m2']
def tApp (j : Nat) (s : List Int × List Rat) : T := .tup [.lst (s.1.map .int ++ [.int j]), .lst (s.2.map tF ++ [.int (-(j : Int))])]
theorem ds_app : ∀ (xs ys : List T), T.ds (xs ++ ys) = T.ds xs ++ T.ds ys
  | [], ys => by rw [T.ds]; rfl
  | x :: xs, ys => by rw [List.cons_append, T.ds, T.ds, ds_app xs ys]; rfl
theorem deps_app : ∀ (xs ys : List T) (n : Nat), T.deps xs ≤ n → T.deps ys ≤ n → T.deps (xs ++ ys) ≤ n
  | [], ys, n, _, h => h
  | x :: xs, ys, n, h1, h2 => by
    rw [T.deps] at h1
    rw [List.cons_append, T.deps]
    have := deps_app xs ys n (by omega) h2
    omega
theorem tApp_d (j : Nat) (s : List Int × List Rat) : (tApp j s).d = pD (appS j s) := by
  unfold tApp pD appS
  rw [T.d, T.ds, T.ds, T.ds, T.d, T.d, ds_app, ds_app, ds_map, ds_map, T.ds, T.ds, T.ds, T.ds, T.d, T.d]
  rw [show s.1.map (fun x => (T.int x).d) = s.1.map D.int from List.map_congr_left fun x _ => by rw [T.d], show s.2.map (fun x => (tF x).d) = s.2.map frD from List.map_congr_left fun x _ => tF_d x]
theorem tApp_dep (j : Nat) (s : List Int × List Rat) : (tApp j s).dep ≤ 8 := by
  unfold tApp
  rw [T.dep, T.deps, T.deps, T.deps, T.dep, T.dep]
  have h1 : T.deps (s.1.map .int ++ [.int j]) ≤ 3 := deps_app _ _ _ (deps_le fun c hc => by rw [T.dep]; decide) (by rw [T.deps, T.deps, T.dep]; decide)
  have h2 : T.deps (s.2.map tF ++ [.int (-(j : Int))]) ≤ 3 := deps_app _ _ _ (deps_le fun c hc => by rw [tF_dep]; decide) (by rw [T.deps, T.deps, T.dep]; decide)
  omega
def tAll1 (st : List (List Int × List Rat)) : T := .lst (st.mapIdx tApp)
theorem tAll1_d (st : List (List Int × List Rat)) : (tAll1 st).d = .lst ((stA st st.length).map pD) := by
  unfold tAll1
  rw [T.d]
  refine congrArg D.lst ?_
  have : ∀ ts : List T, T.ds ts = ts.map T.d := fun ts => by
    have := ds_map (fun t : T => t) ts
    rwa [List.map_id'] at this
  rw [this]
  refine List.ext_getElem? fun i => ?_
  rw [List.getElem?_map, List.getElem?_map, List.getElem?_mapIdx]
  cases e : st[i]? with
  | none =>
    have := List.getElem?_eq_none_iff.mp e
    rw [List.getElem?_eq_none (l := stA st st.length) (by rw [stA_len]; exact this)]; rfl
  | some s =>
    rw [stA_at e, if_pos (List.getElem?_eq_some_iff.mp e).1]
    exact congrArg some (tApp_d i s)
theorem tAll1_dep (st : List (List Int × List Rat)) : (tAll1 st).dep ≤ 64 := by
  unfold tAll1
  rw [T.dep]
  have : ∀ ts : List T, (∀ t ∈ ts, t.dep ≤ 8) → T.deps ts ≤ 8 := fun ts h => by
    induction ts with
    | nil => rw [T.deps]; decide
    | cons t ts ih =>
      rw [T.deps]
      have h1 := h t (by simp)
      have h2 := ih fun u hu => h u (by simp [hu])
      omega
  have := this (st.mapIdx tApp) fun t ht => by
    obtain ⟨i, hi, rfl⟩ := List.mem_mapIdx.mp ht
    exact tApp_dep _ _
  omega
theorem ok_c2_law_right_v1 {CH : Addr} {p a b c : Addr} {d2 d3 : D} {h : HD} {B D0 : Nat} {M : MH} {Z : AD} {x4 x5 x6 x7 x8 x9 : Option D} (hM : M p = some (hBox CH a b c h)) (ok : HOk B D0 h) (hd : rdL M d3 = some (h.st.map stepD)) (hz : ∀ M', Less M' M → Z.rt (.bl true) M') :
    c2_law_right_v1 CH Z [some (.ref p), some (.lst (h.ns.map .int)), some d2, some d3, x4, x5, x6, x7, x8, x9] M := by
  have few := ok.few
  unfold c2_law_right_v1
  walk_at "ev"
  refine ⟨p, a, b, c, h, rfl, hM, by omega, fun r qs M2 nest r0 => ?_⟩
  walk_at "ev"
  have hr : rdS (up M2 r (.obj (.lst (qs.map qD)))) (.ref r) = some (qs.map qD) := rdS_of (rdL_ref up_same)
  refine iEnG ?_ hr
  have ql : qs.length = h.st.length := by rw [nest.len, List.length_map]
  refine for_go (fun i Γ M' => ∃ M3, M' = up M3 r (.obj (.lst (qs.map qD))) ∧ NestS M M3 qs (stA h.st i) ∧ M3 r = none ∧ ∃ y7 y8 y9, Γ = [some (.ref p), some (.lst (h.ns.map .int)), some d2, some d3, x4, x5, some (.ref r), y7, y8, y9]) ⟨M2, rfl, by rw [stA_zero]; exact nest, r0, _, _, _, rfl⟩ ?_ ?_
  · rintro i Γ M' x hx ⟨M3, rfl, n3, r3, y7, y8, y9, rfl⟩
    have hx := hx
    have hr3 : rdS (up M3 r (.obj (.lst (qs.map qD)))) (.ref r) = some (qs.map qD) := rdS_of (rdL_ref up_same)
    refine ⟨by first | exact hr3 | exact ⟨hr3⟩, ?_⟩
    obtain ⟨q, hq, rfl⟩ := enum_get hx
    rw [Nat.zero_add]
    have hi : i < h.st.length := by have := (List.getElem?_eq_some_iff.mp hq).1; omega
    have hs := List.getElem?_eq_getElem hi
    obtain ⟨g1, g2, g3, g4, g5⟩ := ok.s i _ (h.ws[i]'(by rw [ok.wl]; omega)) hs (List.getElem?_eq_getElem _)
    generalize h.st[i] = s at hs g1 g2 g3 g4 g5
    have ha := stA_at (i := i) hs
    rw [if_neg (Nat.lt_irrefl i)] at ha
    obtain ⟨m1, m2⟩ := n3.at_ i q _ hq ha
    have qr1 : q.1 ≠ r := fun z => by rw [z, r3] at m1; cases m1
    have qr2 : q.2 ≠ r := fun z => by rw [z, r3] at m2; cases m2
    have c1 : up M3 r (.obj (.lst (qs.map qD))) q.1 = some (.obj (.lst (s.1.map .int))) := by rw [up_ne qr1]; exact m1
    have sz1 : (s.1.map D.int).length < sizeLine := by
      rw [List.length_map, sizeLine_eq]
      have := g1.length
      have := ok.row.l
      omega
    have sz2 : (s.2.map frD).length < sizeLine := by
      rw [List.length_map, sizeLine_eq, g3]
      have := ok.row.l
      omega
    unfold qD
    walk_at "ev"
    rw [show qs.map (fun q : Addr × Addr => D.tup [D.ref q.1, D.ref q.2]) = qs.map qD from rfl]
    refine iAppend ?_ c1 sz1
    rw [up_comm qr1.symm]
    have n4 := n3.put1 (u := (appS i s).1) hq ha
    have hne := (n3.ne i i q q hq hq).1
    have c2 : up (up M3 q.1 (.obj (.lst (s.1.map .int ++ [.int i])))) r (.obj (.lst (qs.map qD))) q.2 = some (.obj (.lst (s.2.map frD))) := by
      rw [up_ne qr2, up_ne hne.symm]; exact m2
    refine iKMt (ds := s.2.map frD) ?_ c2
    walk_at "ev"
    rw [up_comm qr2.symm]
    have n5 := n4.put2 (u := (appS i s).2) hq (by rw [List.getElem?_set_self (by rw [stA_len]; exact hi)])
    rw [stA_set hs] at n5
    exact ⟨_, rfl, n5, by rw [up_ne qr2.symm, up_ne qr1.symm]; exact r3, _, _, _, rfl⟩
  · rintro Γ M' ⟨M3, rfl, n3, r3, y7, y8, y9, rfl⟩
    have hr3 : rdS (up M3 r (.obj (.lst (qs.map qD)))) (.ref r) = some (qs.map qD) := rdS_of (rdL_ref up_same)
    refine ⟨by first | exact hr3 | exact ⟨hr3⟩, ?_⟩
    have lx : Less (up M3 r (.obj (.lst (qs.map qD)))) M := less_put n3.less (less_none n3.less r3)
    rw [show (⟨enumD 0 (qs.map qD), fun M => rdS M (.ref r) = some (qs.map qD)⟩ : AIt).items.length = h.st.length by
      show (enumD 0 (qs.map qD)).length = _
      rw [enumD_length, List.length_map, ql]] at n3
    have hd3 := rdS_of (rdL_less lx hd)
    have hM3 := less_some lx hM
    have rd := n3.rd r3
    have rr : up M3 r (.obj (.lst (qs.map qD))) r = some (.obj (.lst (qs.map qD))) := up_same
    generalize up M3 r (.obj (.lst (qs.map qD))) = N at hd3 hM3 rd rr lx hr3 ⊢
    walk_at "ev"
    refine lc_st (fun j acc M' => M' = N ∧ acc = ((stA h.st h.st.length).take j).map pD) (by rw [enumD_length, List.length_map]; omega) ?_ ?_ ⟨rfl, by rw [List.take_zero]; rfl⟩
    · rintro j x acc M' hx ha ⟨eM, rfl⟩
      subst M'
      obtain ⟨s, hs, rfl⟩ := enum_get hx
      refine ⟨by first | exact hd3 | exact ⟨hd3⟩, fun kd hkd => ?_⟩
      have hj := (List.getElem?_eq_some_iff.mp hs).1
      obtain ⟨g1, g2, g3, g4, g5⟩ := ok.s j _ (h.ws[j]'(by rw [ok.wl]; omega)) hs (List.getElem?_eq_getElem _)
      have gl := g1.length
      have nl0 := ok.row.l
      have ea := stA_at (i := h.st.length) hs
      rw [if_pos hj] at ea
      simp only [wipeG]
      rw [Nat.zero_add]
      unfold stepD
      have z1 : (s.1.map D.int).length + 1 ≤ sizeLine := by rw [List.length_map, sizeLine_eq]; omega
      have z2 : (s.2.map frD).length + 1 ≤ sizeLine := by rw [List.length_map, sizeLine_eq]; omega
      walk_at "ev"
      refine hkd _ _ ⟨rfl, ?_⟩
      rw [take_succ ea, List.map_append]; rfl
    · rintro acc M' ha ⟨eM, rfl⟩
      subst M'
      refine ⟨by first | exact hd3 | exact ⟨hd3⟩, ?_⟩
      rw [enumD_length, List.length_map]
      rw [show (stA h.st h.st.length).take h.st.length = stA h.st h.st.length from List.take_of_length_le (by rw [stA_len]; exact Nat.le_refl _)]
      walk_at "ev"
      have t2 := RdT.of N (t := tAll1 h.st) (tAll1_dep _)
      rw [tAll1_d] at t2
      have t1 : RdT N (.ref r) (tAll1 h.st) := ⟨by rw [rd]; exact t2.1, t2.2⟩
      refine iEqE (neg := true) ?_ rfl t1 t2
      walk_at "ev"
      refine ⟨p, a, b, c, h, rfl, hM3, fun r9 r90 => ?_⟩
      refine ⟨_, _, rfl, Sml.ints (n := 6) (rdL_ref up_same) rfl (by have := ok.row.l; omega), ?_⟩
      exact hz _ (less_put lx (less_none lx r90))
theorem ok_c1_law_right_v1 {CH : Addr} {p a b c : Addr} {d2 d3 : D} {h : HD} {B D0 : Nat} {M : MH} {Z : AD} {x4 x5 x6 x7 x8 x9 : Option D} (hM : M p = some (hBox CH a b c h)) (ok : HOk B D0 h) (hd : rdL M d3 = some (h.st.map stepD)) (hz : ∀ M', Less M' M → Z.rt (.bl true) M') :
    c1_law_right_v1 CH Z [some (.ref p), some (.lst (h.ns.map .int)), some d2, some d3, x4, x5, x6, x7, x8, x9] M := by
  have few := ok.few
  obtain ⟨w1, w2, _⟩ := ok.now
  have w0 : ∃ w0, h.ws[0]? = some w0 ∧ w0.length = h.ns.length := ⟨_, List.getElem?_eq_getElem (by rw [ok.wl]; omega), (ok.w 0 _ (List.getElem?_eq_getElem (by rw [ok.wl]; omega))).1⟩
  obtain ⟨w0, w01, w02⟩ := w0
  have nl := ok.row.l
  unfold c1_law_right_v1
  walk_at "ev"
  refine ⟨p, a, b, c, .non, h, h.st.length, h.now, rfl, hM, .inl ⟨rfl, rfl⟩, w1, fun r1 r10 => ?_⟩
  have L1 : Less (up M r1 (.obj (.lst (h.now.map frD)))) M := Less.up r10
  have e1 : up M r1 (.obj (.lst (h.now.map frD))) r1 = some (.obj (.lst (h.now.map frD))) := up_same
  generalize up M r1 (.obj (.lst (h.now.map frD))) = M1 at L1 e1 ⊢
  have hM1 := less_some L1 hM
  walk_at "ev"
  refine ⟨p, a, b, c, h, rfl, hM1, by omega, fun r2 qs M2 nest r20 => ?_⟩
  have ql : qs.length = h.st.length := by rw [nest.len, List.length_map]
  have L2 : Less (up M2 r2 (.obj (.lst (qs.map qD)))) M1 := less_put nest.less (less_none nest.less r20)
  have r20' := less_none L1 (less_none nest.less r20)
  have e2 : up M2 r2 (.obj (.lst (qs.map qD))) r2 = some (.obj (.lst (qs.map qD))) := up_same
  generalize up M2 r2 (.obj (.lst (qs.map qD))) = M3 at L2 e2 ⊢
  have hM3 := less_some L2 hM1
  walk_at "ev"
  refine ⟨p, a, b, c, h, rfl, hM3, fun r3 r30 => ?_⟩
  have L3 : Less (up M3 r3 (.obj (.lst (h.ns.map .int)))) M3 := Less.up r30
  have e3 : up M3 r3 (.obj (.lst (h.ns.map .int))) r3 = some (.obj (.lst (h.ns.map .int))) := up_same
  generalize up M3 r3 (.obj (.lst (h.ns.map .int))) = M4 at L3 e3 ⊢
  have hM4 := less_some L3 hM3
  walk_at "ev"
  refine ⟨p, a, b, c, .int 0, h, 0, w0, rfl, hM4, .inr ⟨rfl, by omega⟩, w01, fun r4 r40 => ?_⟩
  have L4 : Less (up M4 r4 (.obj (.lst (w0.map frD)))) M4 := Less.up r40
  have e4 : up M4 r4 (.obj (.lst (w0.map frD))) r4 = some (.obj (.lst (w0.map frD))) := up_same
  generalize up M4 r4 (.obj (.lst (w0.map frD))) = M5 at L4 e4 ⊢
  have LL : Less M5 M := L4.trans (L3.trans (L2.trans L1))
  have fr : ∀ x ∈ [r1, r2, r3, r4], M x = none := by
    intro x hx
    simp only [List.mem_cons, List.not_mem_nil, or_false] at hx
    rcases hx with rfl | rfl | rfl | rfl
    · exact r10
    · exact r20'
    · exact less_none L1 (less_none L2 r30)
    · exact less_none L1 (less_none L2 (less_none L3 r40))
  have hv : ∀ x ∈ [r1, r2, r3, r4], ∃ ds : List D, M5 x = some (.obj (.lst ds)) ∧ ds.length ≤ 3000 := by
    intro x hx
    simp only [List.mem_cons, List.not_mem_nil, or_false] at hx
    rcases hx with rfl | rfl | rfl | rfl
    · exact ⟨_, less_some L4 (less_some L3 (less_some L2 e1)), by rw [List.length_map, w2]; omega⟩
    · exact ⟨_, less_some L4 (less_some L3 e2), by rw [List.length_map, ql]; omega⟩
    · exact ⟨_, less_some L4 e3, by rw [List.length_map]; omega⟩
    · exact ⟨_, e4, by rw [List.length_map, w02]; omega⟩
  walk_at "ev"
  refine for_go (fun i Γ M' => Less M' M ∧ (∀ x ∈ [r1, r2, r3, r4], ∃ ds : List D, M' x = some (.obj (.lst ds)) ∧ ds.length ≤ 3000 + i) ∧ ∃ y5, Γ = [some (.ref p), some (.lst (h.ns.map .int)), some d2, some d3, x4, y5, x6, x7, x8, x9]) ⟨LL, hv, _, rfl⟩ ?_ ?_
  · rintro i Γ M' x hx ⟨l', hv', y5, rfl⟩
    have hi : i < 4 := (List.getElem?_eq_some_iff.mp hx).1
    obtain ⟨r, hr, rfl⟩ : ∃ r, r ∈ [r1, r2, r3, r4] ∧ x = .ref r := by
      have := List.mem_of_getElem? hx
      simp only [List.mem_cons, List.not_mem_nil, or_false] at this
      rcases this with rfl | rfl | rfl | rfl
      · exact ⟨r1, by simp, rfl⟩
      · exact ⟨r2, by simp, rfl⟩
      · exact ⟨r3, by simp, rfl⟩
      · exact ⟨r4, by simp, rfl⟩
    refine ⟨trivial, ?_⟩
    obtain ⟨ds, er, el⟩ := hv' r hr
    walk_at "ev"
    refine ⟨less_put l' (fr r hr), fun y hy => ?_, _, rfl⟩
    by_cases z : y = r
    · rw [z, up_same]; exact ⟨_, rfl, by rw [List.length_append, List.length_singleton]; omega⟩
    · rw [up_ne z]
      obtain ⟨ds', e', l''⟩ := hv' y hy
      exact ⟨ds', e', by omega⟩
  · rintro Γ M' ⟨l', hv', y5, rfl⟩
    refine ⟨trivial, ?_⟩
    exact ok_c2_law_right_v1 (less_some l' hM) ok (rdL_less l' hd) fun M'' l'' => hz M'' (l''.trans l')
theorem ok_law_right_v1 (CH : Addr) : ∀ ds M k x, F_law_right_v1 CH ds M k x → b_law_right_v1 CH { nx := fun _ M' => fin k .non M', rt := fin k } (startG 10 ds) M := by
  rintro ds M k _ ⟨p, a, b, c, d2, d3, h, B, D0, rfl, hM, ok, hR, hd2, hd3, hk⟩
  have few := ok.few
  obtain ⟨w1, w2, w3⟩ := ok.now
  have nl := ok.row.l
  walk_at "st"
  unfold b_law_right_v1
  walk_at "ev"
  have sm := w3.smS (hR.rm (i := h.st.length) (by omega))
  have al : atI (h.ws.map watD) (-1) = some (watD h.now) := ws_last w1 ok.wl
  refine ⟨p, a, b, c, .non, h, h.st.length, h.now, rfl, hM, .inl ⟨rfl, rfl⟩, w1, fun r1 r10 => ?_⟩
  have L1 : Less (up M r1 (.obj (.lst (h.now.map frD)))) M := Less.up r10
  have e1 : up M r1 (.obj (.lst (h.now.map frD))) r1 = some (.obj (.lst (h.now.map frD))) := up_same
  generalize up M r1 (.obj (.lst (h.now.map frD))) = M1 at L1 e1 ⊢
  have hM1 := less_some L1 hM
  have hd21 := rdS_of (rdL_less L1 hd2)
  walk_at "ev"
  refine ⟨_, _, rfl, Sml.frs (n := 5) (rdL_ref e1) rfl (by rw [w2]; omega), ?_⟩
  walk_at "ev"
  refine ⟨p, a, b, c, h, rfl, hM1, by omega, fun r2 qs M2 nest r20 => ?_⟩
  have ql : qs.length = h.st.length := by rw [nest.len, List.length_map]
  have L2 : Less (up M2 r2 (.obj (.lst (qs.map qD)))) M1 := less_put nest.less (less_none nest.less r20)
  have e2 : up M2 r2 (.obj (.lst (qs.map qD))) r2 = some (.obj (.lst (qs.map qD))) := up_same
  have e3 : ∀ (i : Nat) (q : Addr × Addr) s, qs[i]? = some q → h.st[i]? = some s → up M2 r2 (.obj (.lst (qs.map qD))) q.1 = some (.obj (.lst (s.1.map .int))) ∧ up M2 r2 (.obj (.lst (qs.map qD))) q.2 = some (.obj (.lst (s.2.map frD))) := fun i q s hq hs => by
    obtain ⟨m1, m2⟩ := nest.at_ i q (stPD s) hq (by rw [List.getElem?_map, hs]; rfl)
    exact ⟨by rw [up_ne (fun z => by rw [z, r20] at m1; cases m1)]; exact m1, by rw [up_ne (fun z => by rw [z, r20] at m2; cases m2)]; exact m2⟩
  generalize up M2 r2 (.obj (.lst (qs.map qD))) = M3 at L2 e2 e3 ⊢
  have L3 := L2.trans L1
  have hM3 := less_some L3 hM
  have hd23 := rdS_of (rdL_less L3 hd2)
  walk_at "ev"
  refine ⟨_, _, rfl, .inr ⟨_, _, .inr ⟨rdL_ref e2, rdL_less L3 hd3⟩, by rw [List.length_map, List.length_map, ql], by rw [List.length_map]; omega, fun i x y hx hy => ?_⟩, ?_⟩
  · obtain ⟨q, hq, rfl⟩ := map_get hx
    obtain ⟨s, hs, rfl⟩ := map_get hy
    obtain ⟨m1, m2⟩ := e3 i q s hq hs
    have hj := (List.getElem?_eq_some_iff.mp hs).1
    obtain ⟨g1, _, g3, _⟩ := ok.s i _ (h.ws[i]'(by rw [ok.wl]; omega)) hs (List.getElem?_eq_getElem _)
    have := g1.length
    exact .pair (Sml.ints (n := 4) (rdL_ref m1) rfl (by omega)) (Sml.frs (n := 3) (rdL_ref m2) rfl (by omega))
  walk_at "kv"
  rw [List.length_map]
  refine ⟨by omega, ?_⟩
  refine lc_st (fun i acc M' => M' = M3 ∧ acc = ((psR h.now).take i).map frD) (by rw [rng_len]; omega) ?_ ?_ ⟨rfl, by rw [List.take_zero]; rfl⟩
  · rintro i x acc M' hx ha ⟨eM, rfl⟩
    subst M'
    obtain ⟨hi, rfl⟩ := rng_it hx
    refine ⟨trivial, fun kd hkd => ?_⟩
    simp only [wipeG]
    walk_at "kv"
    rw [Int.zero_add]
    refine ⟨p, a, b, c, h, i, B, D0, rfl, hM3, ok, hR, by omega, ?_⟩
    refine hkd _ _ ⟨rfl, ?_⟩
    rw [take_succ (psR_get (i := i) (by rw [w2]; omega)), List.map_append]; rfl
  · rintro acc M' ha ⟨eM, rfl⟩
    subst M'
    refine ⟨trivial, ?_⟩
    rw [List.length_map, rng_length, show (psR h.now).take ((h.ns.length : Int) + 1).toNat = psR h.now from List.take_of_length_le (by unfold psR; rw [List.length_map, List.length_range, w2]; omega)]
    have pl : (psR h.now).length = h.ns.length + 1 := by unfold psR; rw [List.length_map, List.length_range, w2]
    walk_at "kv"
    refine ⟨_, h.now, rfl, rfl, by rw [w2]; omega, sm, ?_⟩
    refine ⟨_, _, rfl, Sml.frs (n := 5) rfl rfl (by rw [pl]; omega), ?_⟩
    walk_at "kv"
    rw [List.length_map, ok.wl]
    refine ⟨by omega, ?_⟩
    refine for_go (fun i Γ M' => Less M' M ∧ ∃ y4, Γ = [some (.ref p), some (.lst (h.ns.map .int)), some d2, some d3, y4, none, none, none, none, none]) ⟨L3, _, rfl⟩ ?_ ?_
    · rintro i Γ M' x hx ⟨l', y4, rfl⟩
      obtain ⟨hi, rfl⟩ := rng_it hx
      refine ⟨trivial, ?_⟩
      rw [Int.zero_add]
      have wi := List.getElem?_eq_getElem (show i < h.ws.length by rw [ok.wl]; omega)
      obtain ⟨wl, _⟩ := ok.w i _ wi
      generalize h.ws[i]'(by rw [ok.wl]; omega) = wv at wi wl
      have ai : atI (h.ws.map watD) (i : Int) = some (watD wv) := atI_nat (by rw [List.getElem?_map, wi]; rfl)
      have hM' := less_some l' hM
      walk_at "kv"
      refine ⟨p, a, b, c, .int i, h, i, wv, rfl, hM', .inr ⟨rfl, by omega⟩, wi, fun r5 r50 => ?_⟩
      have K1 : Less (up M' r5 (.obj (.lst (wv.map frD)))) M' := Less.up r50
      have f1 : up M' r5 (.obj (.lst (wv.map frD))) r5 = some (.obj (.lst (wv.map frD))) := up_same
      generalize up M' r5 (.obj (.lst (wv.map frD))) = N1 at K1 f1 ⊢
      have hN1 := less_some (K1.trans l') hM
      walk_at "kv"
      refine ⟨p, a, b, c, .int i, h, i, wv, rfl, hN1, .inr ⟨rfl, by omega⟩, wi, fun r6 r60 => ?_⟩
      have K2 : Less (up N1 r6 (.obj (.lst (wv.map frD)))) N1 := Less.up r60
      have f2 : up N1 r6 (.obj (.lst (wv.map frD))) r6 = some (.obj (.lst (wv.map frD))) := up_same
      generalize up N1 r6 (.obj (.lst (wv.map frD))) = N2 at K2 f2 ⊢
      have f1' := less_some K2 f1
      have K3 := K2.trans (K1.trans l')
      have hdN := rdS_of (rdL_less K3 hd2)
      walk_at "kv"
      refine ⟨_, _, rfl, .inr ⟨_, _, .inr ⟨rfl, rfl⟩, rfl, by simp, fun j x y hx hy => ?_⟩, ?_⟩
      · have hj : j = 0 ∨ j = 1 := by
          have := (List.getElem?_eq_some_iff.mp hx).1
          simp only [List.length_cons, List.length_nil] at this
          omega
        rcases hj with rfl | rfl
        · cases hx; cases hy
          exact Sml.frs (n := 4) (rdL_ref f1') rfl (by omega)
        · cases hx; cases hy
          exact Sml.frs (n := 4) (rdL_ref f2) rfl (by omega)
      · walk_at "kv"
        exact ⟨K3, _, rfl⟩
    · rintro Γ M' ⟨l', y4, rfl⟩
      refine ⟨trivial, ?_⟩
      exact ok_c1_law_right_v1 (less_some l' hM) ok (rdL_less l' hd3) fun M'' l'' => fin.less (l''.trans l') hk
end M
namespace M
open PySem L2
def oD : Option Int → D
  | some n => .int n
  | none => .non
theorem oD_some {n : Int} : oD (some n) = .int n := rfl
theorem oD_none : oD none = .non := rfl
theorem figs : (Str.ofString "0123456789").cps.toList = [48, 49, 50, 51, 52, 53, 54, 55, 56, 57] := by decide +kernel
theorem fig_mem {c : Nat} : decide (c ∈ (Str.ofString "0123456789").cps.toList) = isDig c := by
  rw [figs]; unfold isDig
  rw [decide_eq_decide]
  simp only [List.mem_cons, List.not_mem_nil, or_false]
  omega
def F_number_in : AF := fun ds M k _ => ∃ l : List Nat, ds = [.str (S l)] ∧ l.length ≤ 16000000 ∧ k (oD (numIn l)) M
/-- number_in -/
def b_number_in : AS := (aSeq (aIfS (aOr (aNot (aB (aChain (fun i j => decide (i < j)) (fun i j => decide (i ≤ j)) (aC (.int 0)) (aCB cLen (aCons (aVar 0) aNil)) (aC (.int 400))))) (aNot (aB (aCB cAll (aCons (aLc false (wSt (aVar 0)) (gNm 1) aYes (aOp (bInS false) (aVar 1) (aC (.str "0123456789"))) [1]) aNil)))))
  (aRet (aC .non))
  aNext)
  (aRet (aIf (aOr (aB (aOp (bEq true) (aOp bIx (aVar 0) (aC (.int 0))) (aC (.str "0")))) (aB (aOp (bEq false) (aVar 0) (aC (.str "0"))))) (aCB cInt (aCons (aVar 0) aNil)) (aC .non))))
theorem len_number_in : ∀ ds M k x, F_number_in ds M k x → ds.length = 1 := by
  rintro ds M k x ⟨a, rfl, _⟩; rfl
theorem iIxS {z : Str} {i : Int} {c : Nat} {M : MH} {k : AK} (h : k (.str ⟨#[c]⟩) M) (l : z.length ≤ sizeLine) (q : atI z.cps.toList i = some c) : bIx (.str z) (.int i) M k := ⟨l, by rw [q]; exact h⟩
theorem ok_number_in : ∀ ds M k x, F_number_in ds M k x → b_number_in { nx := fun _ M' => fin k .non M', rt := fin k } (startG 2 ds) M := by
  rintro ds M k _ ⟨l, rfl, hl, hk⟩
  walk_at "st"
  unfold b_number_in
  have hs : (S l).length ≤ sizeLine := by rw [S_len, sizeLine_eq]; omega
  have hN : ¬ (0 < l.length ∧ l.length ≤ 400 ∧ l.all isDig = true) → fin k .non M := fun h => by
    unfold numIn at hk; rw [if_neg h] at hk; exact fin.of hk
  walk_at "ev"
  rw [S_len]
  refine iteD (fun h0 => ?_) (fun h0 => ?_)
  · walk_at "ev"
    refine iteN (fun h4 => hN (by omega)) (fun h4 => ?_)
    rw [signs_S]
    refine lc_map (fun c => D.str (S [c])) (fun c => D.bl (isDig c)) l [] (by rw [sizeLine_eq, List.length_nil]; omega) trivial (fun c _ kd hkd => ?_) ?_
    · simp only [wipeG]
      walk_at "ev"
      exact iInS (by rw [fig_mem]; exact hkd) rfl
    · walk_at "ev"
      refine iAll (bs := l.map isDig) ?_ (by show some _ = some _; rw [List.map_map]; rfl)
      have e0 : (l.map isDig).all id = l.all isDig := by rw [List.all_map]; rfl
      rw [e0]
      cases hall : l.all isDig with
      | false =>
        walk_at "ev"
        exact hN (by rw [hall]; simp)
      | true =>
        walk_at "ev"
        have hpos : 0 < l.length ∧ l.length ≤ 400 ∧ l.all isDig = true := ⟨by omega, by omega, hall⟩
        obtain ⟨c, r, rfl⟩ : ∃ c r, l = c :: r := by
          cases l with
          | nil => simp at h0
          | cons c r => exact ⟨c, r, rfl⟩
        have htl : (S (c :: r)).cps.toList = c :: r := tl_S _
        unfold numIn at hk
        rw [if_pos hpos] at hk
        have hint : PySem.intText? (S (c :: r)) = some ((NumText.digitsVal (c :: r) : Nat) : Int) := by
          have := PySem.intText_digits (x := S (c :: r)) (by rw [htl]; exact dig_all.mp hall) (by rw [htl]; simp) (by rw [S_len]; omega)
          rwa [htl] at this
        have h640 : (S (c :: r)).length ≤ 640 := by rw [S_len]; omega
        refine iIxS (c := c) ?_ hs (by rw [htl]; exact atI_c0)
        rw [show (⟨#[c]⟩ : Str) = S [c] from rfl, show Str.ofString "0" = S [48] from rfl]
        walk_at "ev"
        have e1 : (S [c] = S [48]) ↔ c = 48 := ⟨fun h => by have := S_inj h; simpa using this, fun h => by rw [h]⟩
        have e2 : (S (c :: r) = S [48]) ↔ (c :: r) = [48] := ⟨S_inj, fun h => by rw [h]⟩
        refine iteN (fun hc => ?_) (fun hc => ?_)
        · rw [if_pos (.inl (by simp; exact fun z => hc (e1.mpr z)))] at hk
          walk_at "ev"
          exact fin.of hk
        · refine iteD (fun hd => ?_) (fun hd => ?_)
          · rw [if_pos (.inr (e2.mp hd))] at hk
            walk_at "ev"
            exact fin.of hk
          · rw [if_neg (by
              rintro (z | z)
              · exact z (by simp; exact e1.mp hc)
              · exact hd (e2.mpr z))] at hk
            exact fin.of hk
  · walk_at "ev"
    exact hN (by omega)
end M
namespace M
open PySem L2
theorem cutS_to (l : List Nat) (j : Nat) : cutS (S l) none (some (j : Int)) = S (l.take j) := by
  apply TL.ext_tl
  rw [tl_S]
  have := cut_to (xs := l) (j := j)
  unfold cutD at this
  unfold cutS TL.tl
  rw [S_len, show (S l).cps.toList = l from tl_S l]
  simpa using this
theorem cutS_from (l : List Nat) (j : Nat) : cutS (S l) (some (j : Int)) none = S (l.drop j) := by
  apply TL.ext_tl
  rw [tl_S]
  have := cut_from (xs := l) (j := j)
  unfold cutD at this
  unfold cutS TL.tl
  rw [S_len, show (S l).cps.toList = l from tl_S l]
  simpa using this
def F_top_in : AF := fun ds M k _ => ∃ l : List Nat, ds = [.str (S l)] ∧ l.length ≤ 16000000 ∧ k (oD (topIn l)) M
/-- top_in -/
def b_top_in : AS := (aSeq (aIfS (aB (aOp (bEq true) (aCut false (aVar 0) aNoPart (aPart (aC (.int 1)))) (aC (.str "-"))))
  (aRet (aCall noX F_number_in [] (aCons (aVar 0) aNil)))
  aNext)
  (aSeq (aSet 1 (aCall noX F_number_in [] (aCons (aCut false (aVar 0) (aPart (aC (.int 1))) aNoPart) aNil)))
  (aRet (aIf (aOr (aB (aOp bIsN (aVar 1) (aC .non))) (aB (aOp (bEq false) (aVar 1) (aC (.int 0))))) (aC .non) (aOp bSub (aC (.int 0)) (aVar 1))))))
theorem len_top_in : ∀ ds M k x, F_top_in ds M k x → ds.length = 1 := by
  rintro ds M k x ⟨a, rfl, _⟩; rfl
theorem ok_top_in : ∀ ds M k x, F_top_in ds M k x → b_top_in { nx := fun _ M' => fin k .non M', rt := fin k } (startG 2 ds) M := by
  rintro ds M k _ ⟨l, rfl, hl, hk⟩
  walk_at "st"
  unfold b_top_in
  have hs : (S l).length ≤ sizeLine := by rw [S_len, sizeLine_eq]; omega
  have e1 : (S (l.take 1) = S [45]) ↔ l.take 1 = [45] := ⟨S_inj, fun h => by rw [h]⟩
  walk_at "ev"
  have c1 := cutS_to l 1
  have c2 := cutS_from l 1
  rw [show ((1 : Nat) : Int) = 1 from rfl] at c1 c2
  rw [c1, show Str.ofString "-" = S [45] from rfl]
  walk_at "ev"
  unfold topIn at hk
  refine iteN (fun hc => ?_) (fun hc => ?_)
  · rw [if_pos (fun z => hc (e1.mpr z))] at hk
    walk_at "ev"
    exact ⟨l, rfl, hl, fin.of hk⟩
  · rw [if_neg (fun z => z (e1.mp hc))] at hk
    walk_at "ev"
    rw [c2]
    refine ⟨l.drop 1, rfl, by rw [List.length_drop]; omega, ?_⟩
    cases q : numIn (l.drop 1) with
    | none =>
      rw [q] at hk
      rw [oD_none]
      walk_at "ev"
      exact fin.of hk
    | some n =>
      rw [q] at hk
      rw [oD_some]
      walk_at "ev"
      refine iteD (fun hn => ?_) (fun hn => ?_)
      · walk_at "ev"
        dsimp only at hk
        rw [if_pos hn] at hk
        exact fin.of hk
      · walk_at "ev"
        dsimp only at hk
        rw [if_neg hn] at hk
        exact fin.of hk
end M
namespace M
open PySem L2
def oP : Option (Int × Int) → D
  | some (a, b) => .tup [.int a, .int b]
  | none => .non
theorem val_lt : ∀ (l : List Nat) (a : Nat), NumText.AllDigits l → l.foldl (fun acc c => acc * 10 + (c - 48)) a < (a + 1) * 10 ^ l.length
  | [], a, _ => by simp
  | c :: l, a, h => by
    have h1 := val_lt l (a * 10 + (c - 48)) h.tail
    have h2 := h.head
    rw [List.foldl_cons, List.length_cons, Nat.pow_succ]
    have h3 : (a * 10 + (c - 48) + 1) * 10 ^ l.length ≤ ((a + 1) * 10) * 10 ^ l.length := Nat.mul_le_mul_right _ (by omega)
    rw [Nat.mul_assoc, Nat.mul_comm 10] at h3
    omega
theorem numIn_lt {l : List Nat} {n : Int} (h : numIn l = some n) : 0 ≤ n ∧ n.natAbs < 10 ^ 400 := by
  unfold numIn at h
  split at h
  · rename_i hc
    split at h
    · cases h
      refine ⟨by omega, ?_⟩
      rw [Int.natAbs_natCast]
      have := val_lt l 0 (dig_all.mp hc.2.2)
      rw [Nat.zero_add, Nat.one_mul] at this
      exact Nat.lt_of_lt_of_le this (Nat.pow_le_pow_right (by decide) hc.2.1)
    · cases h
  · cases h
def F_fraction_in : AF := fun ds M k _ => ∃ l : List Nat, ds = [.str (S l)] ∧ l.length ≤ 16000000 ∧ k (oP (frIn l)) M
/-- fraction_in -/
def b_fraction_in : AS := (aSeq (aAsg (aM1 sPart (aVar 0) (aC (.str "/"))) (gTu 3 (gCo (gNm 1) (gCo (gNm 2) (gCo (gNm 3) gNi)))))
  (aSeq (aPar 4 5 (aCons (aCall noX F_top_in [] (aCons (aVar 1) aNil)) (aCons (aIf (aB (aOp (bEq true) (aVar 2) (aC (.str "")))) (aCall noX F_number_in [] (aCons (aVar 3) aNil)) (aC (.int 1))) aNil)))
  (aSeq (aIfS (aOr (aB (aOp bIsN (aVar 4) (aC .non))) (aOr (aB (aOp bIsN (aVar 5) (aC .non))) (aAnd (aB (aOp (bEq true) (aVar 2) (aC (.str "")))) (aB (aOp bLt (aVar 5) (aC (.int 2)))))))
  (aRet (aC .non))
  aNext)
  (aRet (aIf (aB (aOp (bEq false) (aCall noX F_lowest [] (aCons (aVar 4) (aCons (aVar 5) aNil))) (aTup (aCons (aVar 4) (aCons (aVar 5) aNil))))) (aTup (aCons (aVar 4) (aCons (aVar 5) aNil))) (aC .non))))))
theorem len_fraction_in : ∀ ds M k x, F_fraction_in ds M k x → ds.length = 1 := by
  rintro ds M k x ⟨a, rfl, _⟩; rfl
theorem RdT.two {M : MH} {a b : Int} : RdT M (.tup [.int a, .int b]) (.tup [.int a, .int b]) := RdT.of M (t := .tup [.int a, .int b]) (by simp [T.dep, T.deps])
theorem RdT.fr {M : MH} {x : Rat} : RdT M (frD x) (tF x) := RdT.of M (t := tF x) (by rw [tF_dep]; decide)
theorem tF_eq {x : Rat} {a b : Int} : tF x = .tup [.int a, .int b] ↔ x.num = a ∧ (x.den : Int) = b := by
  unfold tF
  constructor
  · intro h
    injection h with h
    injection h with h1 h2
    injection h2 with h2 _
    injection h1 with h1
    injection h2 with h2
    exact ⟨h1, h2⟩
  · rintro ⟨rfl, rfl⟩; rfl
theorem ok_fraction_in : ∀ ds M k x, F_fraction_in ds M k x → b_fraction_in { nx := fun _ M' => fin k .non M', rt := fin k } (startG 6 ds) M := by
  rintro ds M k _ ⟨l, rfl, hl, hk⟩
  walk_at "st"
  unfold b_fraction_in
  have hs : (S l).length ≤ sizeLine := by rw [S_len, sizeLine_eq]; omega
  have hb : ((Str.ofString "/").length == 0) = false := by decide
  walk_at "ev"
  rw [show Str.ofString "/" = S [47] from rfl, show Str.ofString "" = S [] from rfl, part_S]
  have e47 : ¬ S [47] = S [] := fun h => by have := S_inj h; cases this
  unfold frIn at hk
  cases q : cutAt 47 l with
  | some p =>
    obtain ⟨a, b⟩ := p
    obtain ⟨hab, _⟩ := cutAt_some q
    have hla : a.length + b.length + 1 = l.length := by rw [hab, List.length_append, List.length_cons]; omega
    rw [q] at hk
    dsimp only at hk ⊢
    refine ⟨a, rfl, by omega, ?_⟩
    refine iteNDF e47 ?_
    refine ⟨b, rfl, by omega, ?_⟩
    walk_at "ev"
    cases qa : topIn a with
    | none =>
      rw [qa] at hk
      rw [oD_none]
      walk_at "ev"
      exact fin.of hk
    | some t =>
      rw [oD_some]
      walk_at "ev"
      cases qb : numIn b with
      | none =>
        rw [qa, qb] at hk
        rw [oD_none]
        walk_at "ev"
        exact fin.of hk
      | some d =>
        rw [qa, qb] at hk
        dsimp only at hk
        obtain ⟨d0, d1⟩ := numIn_lt qb
        rw [oD_some]
        walk_at "ev"
        refine iteNDF e47 ?_
        walk_at "ev"
        refine iteD (fun h2 => ?_) (fun h2 => ?_)
        · rw [if_pos h2] at hk
          walk_at "ev"
          exact fin.of hk
        · rw [if_neg h2] at hk
          walk_at "ev"
          refine ⟨t, d, rfl, by omega, lt_b89 (m := 1400) (Nat.lt_of_lt_of_le d1 ten400) (by decide), ?_⟩
          by_cases z : (mkRat t d.toNat).num = t ∧ ((mkRat t d.toNat).den : Int) = d
          · rw [if_pos ⟨rfl, z⟩] at hk
            walk_at "ev"
            refine iEqE (neg := false) ?_ (tF_eq.mpr z) RdT.fr RdT.two
            walk_at "ev"
            exact fin.of hk
          · rw [if_neg (fun w => z w.2)] at hk
            walk_at "ev"
            refine iEqN (neg := false) ?_ (fun w => z (tF_eq.mp w)) RdT.fr RdT.two
            walk_at "ev"
            exact fin.of hk
  | none =>
    rw [q] at hk
    dsimp only at hk ⊢
    refine ⟨l, rfl, by omega, ?_⟩
    walk_at "ev"
    cases qa : topIn l with
    | none =>
      rw [qa] at hk
      rw [oD_none]
      walk_at "ev"
      exact fin.of hk
    | some t =>
      rw [qa] at hk
      rw [oD_some]
      walk_at "ev"
      refine ⟨t, 1, rfl, by decide, lt_b89 (m := 1400) (by decide) (by decide), ?_⟩
      walk_at "ev"
      refine iEqE (neg := false) ?_ (tF_eq.mpr ?_) RdT.fr RdT.two
      · walk_at "ev"
        exact fin.of hk
      · show (mkRat t 1).num = t ∧ (((mkRat t 1).den : Nat) : Int) = 1
        rw [Rat.mkRat_one]
        exact ⟨rfl, rfl⟩
end M
namespace M
open PySem L2
theorem iEqFr {neg : Bool} {x y : Rat} {M : MH} {k : AK} (h : k (.bl (if neg then !decide (x = y) else decide (x = y))) M) : bEq neg (frD x) (frD y) M k := by
  by_cases z : x = y
  · subst z
    refine iEqTt ?_ RdT.fr
    rw [decide_eq_true rfl] at h
    cases neg <;> exact h
  · refine iEqN (t := tF x) (u := tF y) ?_ (fun w => z ?_) RdT.fr RdT.fr
    · rw [decide_eq_false z] at h
      cases neg <;> exact h
    · have := congrArg T.d w
      rw [tF, tF, T.d, T.d] at this
      exact frD_inj this
section
variable {ns : List Int} {xs : List Rat} {bs bs' : List Int} {V D L : Nat}
theorem settle_stay (hr : RowOk ns) (hl : ns.length = xs.length) (hf : Flaps ns.length bs) (hL : Lcm ns L) (hw : WOk V D xs) (hb : ∀ k : Nat, (k : Int) ∈ bs → (k : Int) ∈ bs') : settle ns (settle ns xs bs) bs' = settle ns xs bs := by
  obtain ⟨s1, r, _⟩ := settle_ok hr hl hf hL hw
  refine settle_eq hr s1 (Rest.self fun k h1 h2 h3 => r.up k h1 h2 fun z => h3 ?_)
  rcases z with z | z | z
  · exact .inl z
  · exact .inr (.inl z)
  · exact .inr (.inr (hb k z))
theorem putR_zero : ∀ {xs : List Rat}, putR xs (List.replicate xs.length 0) = xs
  | [] => rfl
  | x :: xs => by
    rw [List.length_cons, List.replicate_succ]
    show (x + 0) :: putR xs (List.replicate xs.length 0) = _
    rw [putR_zero, Rat.add_zero]
theorem settle_flap (hr : RowOk ns) (hl : ns.length = xs.length) (hf : Flaps ns.length bs) (hL : Lcm ns L) (hw : WOk V D xs) {i : Nat} (hi : ((i : Int) + 1) ∉ bs) {n m : Int} {x y : Rat} (n1 : ns[i]? = some n) (n2 : ns[i + 1]? = some m) (y1 : (settle ns xs bs)[i]? = some x) (y2 : (settle ns xs bs)[i + 1]? = some y) : x * (m : Rat) ≤ y * (n : Rat) := by
  obtain ⟨s1, r, _⟩ := settle_ok hr hl hf hL hw
  have hlt := (List.getElem?_eq_some_iff.mp n2).1
  have u := r.up (i + 1) (by omega) hlt (by
    rintro (z | z | z)
    · omega
    · omega
    · exact hi (by simpa using z))
  rw [Nat.add_sub_cancel, slope_at n1 y1, slope_at n2 y2] at u
  exact (div_le_div (hr.w n (List.mem_of_getElem? n1)) (hr.w m (List.mem_of_getElem? n2))).mp u
theorem nd_len : ∀ {bs l : List Int}, bs.Nodup → (∀ b ∈ bs, b ∈ l) → bs.length ≤ l.length
  | [], _, _, _ => Nat.zero_le _
  | b :: bs, l, h, hs => by
    obtain ⟨h1, h2⟩ := List.nodup_cons.mp h
    have hb := hs b List.mem_cons_self
    have ih := nd_len (l := l.erase b) h2 fun x hx => (List.mem_erase_of_ne fun z => h1 (by rw [← z]; exact hx)).mpr (hs x (List.mem_cons_of_mem b hx))
    rw [List.length_erase_of_mem hb] at ih
    have := List.length_pos_iff.mpr (List.ne_nil_of_mem hb)
    rw [List.length_cons]; omega
theorem Flaps.full {n : Nat} {bs : List Int} (h : Flaps n bs) (hl : bs.length = n - 1) : ∀ k : Nat, 0 < k → k < n → (k : Int) ∈ bs := by
  intro k k0 kn
  apply Classical.byContradiction
  intro hk
  have sub : ∀ b ∈ bs, b ∈ (rng 1 (n - 1)).erase (k : Int) := fun b hb => by
    have h0 := h.lo b hb
    have h1 := h.hi b hb
    refine (List.mem_erase_of_ne fun z => hk (by rw [← z]; exact hb)).mpr ?_
    unfold rng
    exact List.mem_map.mpr ⟨(b - 1).toNat, List.mem_range.mpr (by omega), by omega⟩
  have le := nd_len h.nd sub
  have mem : (k : Int) ∈ rng 1 (n - 1) := by
    unfold rng
    exact List.mem_map.mpr ⟨k - 1, List.mem_range.mpr (by omega), by omega⟩
  rw [List.length_erase_of_mem mem, rng_length] at le
  omega
end
theorem HD.add_now (h : HD) (bs : List Int) (rain : List Rat) : (h.add bs rain).now = settle h.ns (putR h.now rain) bs := by
  unfold HD.add HD.now
  rw [List.getLastD_concat]
theorem putR_sum {xs ys : List Rat} (h : xs.length = ys.length) : (putR xs ys).sum = xs.sum + ys.sum := by
  rw [← hp_len, ← hp_len, ← hp_len, putR_hp h, putR_len h]
  rw [h]
/-- a History made: what stood stands -/
theorem hPut_keep' {M : MH} {p C a b c : Addr} {h : HD} {o : MO} (hp : M p = none) (ha : up M p o a = none) (hb : up M p o b = none) (hc : up M p o c = none) : hPut (up M p o) p C a b c h p = some (hBox C a b c h) ∧ ∀ x q, M x = some q → hPut (up M p o) p C a b c h x = some q ∧ x ≠ p := by
  unfold hPut
  refine ⟨up_same, fun x q hx => ?_⟩
  have n0 : x ≠ p := fun z => by rw [z, hp] at hx; cases hx
  have f : ∀ y, up M p o y = none → x ≠ y := fun y hy z => by
    rw [← z, up_ne n0, hx] at hy; cases hy
  rw [up_ne n0, up_ne (f c hc), up_ne (f b hb), up_ne (f a ha), up_ne n0]
  exact ⟨hx, n0⟩
end M
namespace M
open PySem L2
def HD.undo (h : HD) : HD := ⟨h.ns, h.ws.dropLast, h.st.dropLast⟩
def F_History_undo_v2 (CH : Addr) : AF := fun ds M k _ => ∃ (p a b c : Addr) (h : HD), ds = [.ref p] ∧ M p = some (hBox CH a b c h) ∧ h.st ≠ [] ∧ h.ws ≠ [] ∧ k .non (up M p (hBox CH a b c h.undo))
/-- undo -/
def b_History_undo_v2 (CH : Addr) : AS := (gOpen 0 (aSeq (aIfS (aB (aOp (bEq false) (aFld CH "steps_held" (aVar 0)) (aLst false aNil)))
  aNever
  aNext)
  (aSeq (aDrop (aMt0 mPop (aFld CH "steps_held" (aVar 0))))
  (aDrop (aMt0 mPop (aFld CH "waters_held" (aVar 0)))))))
theorem len_History_undo_v2 (CH : Addr) : ∀ ds M k x, F_History_undo_v2 CH ds M k x → ds.length = 1 := by
  rintro ds M k x ⟨p, a, b, c, h, rfl, _⟩; rfl
def stepT (s : List Int × List Rat) : T := .tup [tI s.1, tFs s.2]
theorem stepT_d (s : List Int × List Rat) : (stepT s).d = stepD s := by unfold stepT stepD; rw [T.d, T.ds, T.ds, T.ds, tI_d, tFs_d]
theorem stepT_dep (s : List Int × List Rat) : (stepT s).dep ≤ 3 := by
  have h1 := tI_dep s.1
  have h2 := tFs_dep s.2
  unfold stepT
  rw [T.dep, T.deps, T.deps, T.deps]
  omega
theorem steps_ds (l : List (List Int × List Rat)) : T.ds (l.map stepT) = l.map stepD := by
  rw [ds_map]
  exact List.map_congr_left fun s _ => stepT_d s
theorem RdT.steps {M : MH} {a : Addr} {l : List (List Int × List Rat)} (h : M a = some (.obj (.lst (l.map stepD)))) : RdT M (.ref a) (.lst (l.map stepT)) := by
  refine RdT.ref (by rw [steps_ds]; exact h) ?_
  have : T.deps (l.map stepT) ≤ 3 := deps_le fun s _ => stepT_dep s
  omega
theorem ok_History_undo_v2 (CH : Addr) : ∀ ds M k x, F_History_undo_v2 CH ds M k x → b_History_undo_v2 CH { nx := fun _ M' => fin k .non M', rt := fin k } (startG 1 ds) M := by
  rintro ds M k _ ⟨p, a, b, c, h, rfl, hM, h0, h1, hk⟩
  walk_at "st"
  unfold b_History_undo_v2
  refine gOpen_h rfl hM fun q => ?_
  have op := hOpen_p (M := M) (C := CH) (h := h) q.pa q.pb q.pc
  have ob := hOpen_b (M := M) (p := p) (C := CH) (a := a) (h := h) q.bc
  have oc := hOpen_c (M := M) (p := p) (C := CH) (a := a) (b := b) (c := c) (h := h)
  walk_at "ev"
  refine iEqN (neg := false) ?_ ?_ (RdT.steps oc) (RdT.ints (ns := []))
  · walk_at "ev"
    refine iPop (e := stepD (h.st.getLast h0)) ?_ oc (by rw [List.length_map, List.getElem?_map, ← List.getLast?_eq_getElem?, List.getLast?_eq_some_getLast h0]; rfl)
    rw [← List.map_dropLast, hOpen_st]
    have op2 := hOpen_p (M := M) (C := CH) (h := ⟨h.ns, h.ws, h.st.dropLast⟩) q.pa q.pb q.pc
    have ob2 := hOpen_b (M := M) (p := p) (C := CH) (a := a) (h := ⟨h.ns, h.ws, h.st.dropLast⟩) q.bc
    walk_at "ev"
    refine iPop (e := watD (h.ws.getLast h1)) ?_ ob2 (by rw [List.length_map, List.getElem?_map, ← List.getLast?_eq_getElem?, List.getLast?_eq_some_getLast h1]; rfl)
    rw [← List.map_dropLast, hOpen_ws q.bc]
    exact ⟨_, hp_close hM q, hk⟩
  · intro z
    have : h.st.map stepT = [] := by
      unfold tI at z
      injection z
    exact h0 (List.map_eq_nil_iff.mp this)
end M
namespace M
open PySem L2
theorem HD.add_undo (h : HD) (bs : List Int) (rain : List Rat) : (h.add bs rain).undo = h := by
  unfold HD.undo HD.add
  simp
theorem get_dropLast {α : Type} {l : List α} {i : Nat} {x : α} (h : l.dropLast[i]? = some x) : l[i]? = some x ∧ i + 1 < l.length := by
  have hlt := (List.getElem?_eq_some_iff.mp h).1
  rw [List.length_dropLast] at hlt
  rw [List.getElem?_dropLast, if_pos hlt] at h
  exact ⟨h, by omega⟩
theorem HOk.undo {B D0 : Nat} {h : HD} (ok : HOk B D0 h) (h0 : h.st ≠ []) : HOk B D0 h.undo := by
  have wl := ok.wl
  have hp := List.length_pos_iff.mpr h0
  refine ⟨ok.row, ok.sum, ?_, ?_, fun i w hi => ok.w i w (get_dropLast hi).1, fun i s w hi hwi => ?_⟩
  · show h.ws.dropLast.length = h.st.dropLast.length + 1
    rw [List.length_dropLast, List.length_dropLast]; omega
  · show h.st.dropLast.length ≤ 16
    have := ok.few
    rw [List.length_dropLast]; omega
  · obtain ⟨e1, l1⟩ := get_dropLast hi
    obtain ⟨e2, l2⟩ := get_dropLast hwi
    obtain ⟨a1, a2, a3, a4, a5⟩ := ok.s i s w e1 e2
    refine ⟨a1, a2, a3, a4, ?_⟩
    show h.ws.dropLast[i + 1]? = _
    rw [List.getElem?_dropLast, if_pos (by omega)]
    exact a5
end M
namespace M
open PySem L2
theorem HD.add_now' (h : HD) (bs : List Int) (rain : List Rat) : (h.add bs rain).now = settle h.ns (putR h.now rain) bs := by
  unfold HD.add HD.now
  rw [List.getLastD_concat]
theorem sorted_one {l m : List Int} (h : l.Perm m) (h1 : l.Pairwise (· ≤ ·)) (h2 : m.Pairwise (· ≤ ·)) : l = m :=
  List.Perm.eq_of_pairwise (fun _ _ _ _ => Int.le_antisymm) h1 h2 h
/-- two Histories of one row: what the other has, the one has behind n steps -/
structure Along (B D0 D1 n : Nat) (ns : List Int) (h g : HD) : Prop where
  o : HOk B D0 h
  o2 : HOk B D1 g
  n1 : h.ns = ns
  n2 : g.ns = ns
  st : h.st.drop n = g.st
  ws : h.ws.drop n = g.ws
  le : n ≤ h.st.length
theorem Along.now {B D0 D1 n : Nat} {ns : List Int} {h g : HD} (a : Along B D0 D1 n ns h g) : g.now = h.now := by
  obtain ⟨e1, _, _⟩ := a.o.now
  obtain ⟨e2, _, _⟩ := a.o2.now
  have l1 : g.st.length = h.st.length - n := by rw [← a.st, List.length_drop]
  have := a.le
  rw [← a.ws, List.getElem?_drop, l1, show n + (h.st.length - n) = h.st.length by omega, e1] at e2
  injection e2 with e2
  exact e2.symm
theorem Along.add {B D0 D1 n : Nat} {ns : List Int} {h g : HD} {bs : List Int} {rain : List Rat} (a : Along B D0 D1 n ns h g) (f : Flaps ns.length bs) (p : bs.Pairwise (· ≤ ·)) (hl : rain.length = ns.length) (hw : WOk B D0 rain) (hw1 : WOk B D1 rain) (few : h.st.length < 16) :
    Along B D0 D1 n ns (h.add bs rain) (g.add bs rain) := by
  have e := a.now
  have wl := a.o.wl
  have le := a.le
  have l1 : g.st.length = h.st.length - n := by rw [← a.st, List.length_drop]
  refine ⟨a.o.add (by rw [a.n1]; exact f) p (by rw [a.n1]; exact hl) hw few, a.o2.add (by rw [a.n2]; exact f) p (by rw [a.n2]; exact hl) hw1 (by omega), a.n1, a.n2, ?_, ?_, ?_⟩
  · show (h.st ++ [(bs, rain)]).drop n = g.st ++ [(bs, rain)]
    rw [List.drop_append_of_le_length le, a.st]
  · show (h.ws ++ [settle h.ns (putR h.now rain) bs]).drop n = g.ws ++ [settle g.ns (putR g.now rain) bs]
    rw [List.drop_append_of_le_length (by omega), a.ws, a.n1, a.n2, e]
  · show n ≤ (h.st ++ [(bs, rain)]).length
    rw [List.length_append]; omega
theorem drop_dropLast' {α : Type} {l : List α} {n : Nat} : l.dropLast.drop n = (l.drop n).dropLast := by
  rw [List.dropLast_eq_take, List.dropLast_eq_take, List.drop_take, List.length_drop]
  congr 1
  omega
theorem Along.undo {B D0 D1 n : Nat} {ns : List Int} {h g : HD} (a : Along B D0 D1 n ns h g) (h0 : g.st ≠ []) : Along B D0 D1 n ns h.undo g.undo := by
  have hp := List.length_pos_iff.mpr h0
  have l1 : g.st.length = h.st.length - n := by rw [← a.st, List.length_drop]
  refine ⟨a.o.undo (List.length_pos_iff.mp (by omega)), a.o2.undo h0, a.n1, a.n2, ?_, ?_, ?_⟩
  · show h.st.dropLast.drop n = g.st.dropLast
    rw [drop_dropLast', a.st]
  · show h.ws.dropLast.drop n = g.ws.dropLast
    rw [drop_dropLast', a.ws]
  · show n ≤ h.st.dropLast.length
    rw [List.length_dropLast]; omega
theorem WOk.dvd {V D E : Nat} {xs : List Rat} (h : WOk V D xs) (hd : D ∣ E) : WOk V E xs := by
  obtain ⟨c, rfl⟩ := hd
  exact h.den
end M
namespace M
open PySem L2
def F_law_k08 : AF := fun ds M k _ => ∃ ns : List Int, ds = [.scr ns] ∧ ns.length ≤ 63 ∧ ∀ M', k (.bl true) M'
def c4_law_k08 (CH : Addr) : AS := (aSeq (aDrop (aMt mAppend (aVar 10) (aCons (aC (.int 1)) aNil)))
  (aSeq (aDrop (aMt0 mReverse (aVar 11)))
  (aIfS (aOr (aB (aOp bNotN (aVar 12) (aC .non))) (aNot (aB (aCall noX (F_law_right_v1 CH) [] (aCons (aVar 6) (aCons (aVar 3) (aCons (aVar 7) (aCons (aVar 8) aNil))))))))
  (aRet (aC (.bl false)))
  aNext)))
def c3_law_k08 (CH : Addr) : AS := (aSeq (aPar 10 11 (aCons (aCall noX F_law_shut_m [] (aCons (aVar 1) (aCons (aVar 3) aNil))) (aCons (aCall noX F_law_fall_m [] (aCons (aVar 1) (aCons (aVar 3) aNil))) aNil)))
  (aSeq (aDrop (aMt mAppend (aVar 7) (aCons (aCall noX F_law_rest_v2 [] (aCons (aVar 3) (aCons (aCall noX F_law_both_g [] (aCons (aOp bIx (aVar 7) (aNeg (aC (.int 1)))) (aCons (aVar 11) aNil))) (aCons (aVar 10) aNil)))) aNil)))
  (aSeq (aDrop (aMt mAppend (aVar 8) (aCons (aTup (aCons (aCB (cSorted false) (aCons (aVar 10) aNil)) (aCons (aCB (cList false) (aCons (aVar 11) aNil)) aNil))) aNil)))
  (aSeq (aSet 12 (aIf (aB (aOp (bEq false) (aCall noX F_law_take [] (aCons (aVar 1) (aCons (aC (.int 2)) aNil))) (aC (.int 0)))) (aMeth noX CH "step" (F_History_step CH) [] (aVar 6) (aCons (aVar 10) (aCons (aVar 11) aNil))) (aMethK noX CH "step" (F_History_step CH) 2 [0, 2, 1] [] (aVar 6) (aCons (aVar 11) (aCons (aVar 10) aNil)))))
  (c4_law_k08 CH)))))
def c2_law_k08 (CH : Addr) : AS := (aSeq (aDrop (aMt mAppend (aOp bIx (aVar 5) (aC (.int 0))) (aCons (aC (.int 3)) aNil)))
  (aSeq (aDrop (aMt0 mReverse (aOp bIx (aVar 5) (aC (.int 1)))))
  (aSeq (aPar 7 8 (aCons (aLst true (aCons (aVar 4) aNil)) (aCons (aLst true aNil) aNil)))
  (aSeq (aFor (wRg1 (aCons (aCall noX F_law_take [] (aCons (aVar 1) (aCons (aC (.int 11)) aNil))) aNil)) (gNm 9)
  (c3_law_k08 CH))
  (aIfS (aNot (aB (aCall noX (F_law_right_v1 CH) [] (aCons (aVar 6) (aCons (aVar 3) (aCons (aVar 7) (aCons (aVar 8) aNil)))))))
  (aRet (aC (.bl false)))
  aNext)))))
def c1_law_k08 (CH : Addr) : AS := (aSeq (aIfS (aB (aOp (bEq false) (aCall noX F_law_take [] (aCons (aVar 1) (aCons (aC (.int 4)) aNil))) (aC (.int 0))))
  (aPar 6 4 (aCons (aMakeK noX CH (F_History_init CH) 1 [0, 1, 2] [.non] (aCons (aOp bIx (aVar 5) (aC (.int 0))) aNil)) (aCons (aLc false (wLst (aVar 3)) (gNm 13) aYes (aTup (aCons (aC (.int 0)) (aCons (aC (.int 1)) aNil))) [13]) aNil)))
  aNext)
  (c2_law_k08 CH))
/-- law -/
def b_law_k08 (CH : Addr) : AS := (aSeq (aSet 1 (aCall noX F_law_deck [] (aCons (aVar 0) aNil)))
  (aSeq (aFor (wRg1 (aCons (aOp (bAdd false) (aC (.int 2)) (aCB cMin2 (aCons (aC (.int 4)) (aCons (aCB cLen (aCons (aVar 0) aNil)) aNil)))) aNil)) (gNm 2)
  (aSeq (aSet 3 (aCall noX F_law_tanks [] (aCons (aVar 1) (aCons (aC (.int 8)) aNil))))
  (aSeq (aSet 4 (aFrz (aCall noX F_law_fall_m [] (aCons (aVar 1) (aCons (aVar 3) aNil)))))
  (aSeq (aSet 5 (aLst false (aCons (aCB (cList true) (aCons (aVar 3) aNil)) (aCons (aCB (cList true) (aCons (aVar 4) aNil)) aNil))))
  (aSeq (aSet 6 (aMake noX CH (F_History_init CH) [] (aCons (aOp bIx (aVar 5) (aC (.int 0))) (aCons (aOp bIx (aVar 5) (aC (.int 1))) aNil))))
  (aSeq (aIfS (aB (aOp (bEq false) (aCall noX F_law_take [] (aCons (aVar 1) (aCons (aC (.int 3)) aNil))) (aC (.int 0))))
  (aSet 6 (aMakeK noX CH (F_History_init CH) 2 [0, 2, 1] [] (aCons (aOp bIx (aVar 5) (aC (.int 1))) (aCons (aOp bIx (aVar 5) (aC (.int 0))) aNil))))
  aNext)
  (c1_law_k08 CH)))))))
  (aRet (aC (.bl true)))))
theorem len_law_k08 : ∀ ds M k x, F_law_k08 ds M k x → ds.length = 1 := by
  rintro ds M k x ⟨a, rfl, _⟩; rfl
abbrev B08 : Nat := 8000000000008
theorem hrm08 : HRm B08 L60 := ⟨L60_pos, Nat.lt_trans L60_lt84 (by decide), by decide⟩
/-- a History and what the law keeps of it -/
structure S08 (CH : Addr) (ns : List Int) (t g p pa pb pc s dn : Addr) (b : Nat) (h : HD) (M : MH) : Prop where
  ft : M t = some (deck g b)
  fp : M p = some (hBox CH pa pb pc h)
  fs : M s = some (.obj (.lst (h.ws.map watD)))
  fd : M dn = some (.obj (.lst (h.st.map stepD)))
  sd : s ≠ dn
  ok : HOk B08 L60 h
  fn : h.ns = ns
theorem ok_c4_law_k08 {CH : Addr} {ns : List Int} {t g p pa pb pc s dn ra rb : Addr} {b : Nat} {h : HD} {M : MH} {Z : AD} {da db : List D} {x0 x2 x4 x5 x9 x13 : Option D} (S : S08 CH ns t g p pa pb pc s dn b h M) (ha : M ra = some (.obj (.lst da))) (hb : M rb = some (.obj (.lst db))) (la : da.length ≤ 1000) (sa : ra ≠ s) (da' : ra ≠ dn) (sb : rb ≠ s) (db' : rb ≠ dn) (ab : ra ≠ rb)
    (k : ∀ M', S08 CH ns t g p pa pb pc s dn b h M' → Z.nx [x0, some (.ref t), x2, some (.lst (ns.map .int)), x4, x5, some (.ref p), some (.ref s), some (.ref dn), x9, some (.ref ra), some (.ref rb), some .non, x13] M') :
    c4_law_k08 CH Z [x0, some (.ref t), x2, some (.lst (ns.map .int)), x4, x5, some (.ref p), some (.ref s), some (.ref dn), x9, some (.ref ra), some (.ref rb), some .non, x13] M := by
  have ta : t ≠ ra := fun z => by have := S.ft; rw [z, ha] at this; cases this
  have pa' : p ≠ ra := fun z => by have := S.fp; rw [z, ha] at this; cases this
  have tb : t ≠ rb := fun z => by have := S.ft; rw [z, hb] at this; cases this
  have pb' : p ≠ rb := fun z => by have := S.fp; rw [z, hb] at this; cases this
  unfold c4_law_k08
  walk_at "ev"
  have S1 : S08 CH ns t g p pa pb pc s dn b h (up M ra (.obj (.lst (da ++ [.int 1])))) := ⟨by rw [up_ne ta]; exact S.ft, by rw [up_ne pa']; exact S.fp, by rw [up_ne sa.symm]; exact S.fs, by rw [up_ne da'.symm]; exact S.fd, S.sd, S.ok, S.fn⟩
  generalize up M ra (.obj (.lst (da ++ [.int 1]))) = M1 at S1 ⊢
  have S2 : S08 CH ns t g p pa pb pc s dn b h (up M1 rb (.obj (.lst db.reverse))) := ⟨by rw [up_ne tb]; exact S1.ft, by rw [up_ne pb']; exact S1.fp, by rw [up_ne sb.symm]; exact S1.fs, by rw [up_ne db'.symm]; exact S1.fd, S.sd, S.ok, S.fn⟩
  generalize up M1 rb (.obj (.lst db.reverse)) = M2 at S2 ⊢
  refine ⟨p, pa, pb, pc, .ref s, .ref dn, h, B08, L60, by rw [S.fn], S2.fp, S.ok, hrm08, rdL_ref S2.fs, rdL_ref S2.fd, ?_⟩
  walk_at "ev"
  exact k M2 S2
theorem ok_c3_law_k08 {CH : Addr} {ns : List Int} {t g p pa pb pc s dn : Addr} {b : Nat} {h : HD} {M : MH} {Z : AD} {x0 x2 x4 x5 x9 x10 x11 x12 x13 : Option D} (row : Row ns) (S : S08 CH ns t g p pa pb pc s dn (b + 100) h M) (few : h.st.length < 16)
    (k : ∀ (b' : Nat) (h' : HD) M' y10 y11 y12, b ≤ b' → h'.st.length = h.st.length + 1 → S08 CH ns t g p pa pb pc s dn b' h' M' → Z.nx [x0, some (.ref t), x2, some (.lst (ns.map .int)), x4, x5, some (.ref p), some (.ref s), some (.ref dn), x9, y10, y11, y12, x13] M') :
    c3_law_k08 CH Z [x0, some (.ref t), x2, some (.lst (ns.map .int)), x4, x5, some (.ref p), some (.ref s), some (.ref dn), x9, x10, x11, x12, x13] M := by
  have hwl := row.l
  have ts : t ≠ s := fun z => by have := S.ft; rw [z, S.fs] at this; cases this
  have td : t ≠ dn := fun z => by have := S.ft; rw [z, S.fd] at this; cases this
  have ps : p ≠ s := fun z => by have := S.fp; rw [z, S.fs] at this; cases this
  have pd : p ≠ dn := fun z => by have := S.fp; rw [z, S.fd] at this; cases this
  have tp : t ≠ p := fun z => by have := S.ft; rw [z, S.fp] at this; cases this
  obtain ⟨b1, hb1, hb2⟩ : ∃ b1, b + 100 = b1 + 1 + 8 * ns.length + 3 + ns.length + 3 ∧ b ≤ b1 := ⟨b + 93 - 9 * ns.length, by omega, by omega⟩
  have ht0 := S.ft
  rw [hb1] at ht0
  unfold c3_law_k08
  walk_at "ev"
  refine ⟨t, g, b1 + 1 + 8 * ns.length + 3, ns, rfl, ht0, row.ne, by omega, fun bs fbs ra ra0 => ?_⟩
  have ta : t ≠ ra := fun z => by rw [← z, ht0] at ra0; cases ra0
  have pa' : p ≠ ra := fun z => by rw [← z, S.fp] at ra0; cases ra0
  have sa : s ≠ ra := fun z => by rw [← z, S.fs] at ra0; cases ra0
  have da : dn ≠ ra := fun z => by rw [← z, S.fd] at ra0; cases ra0
  have S1 : S08 CH ns t g p pa pb pc s dn (b1 + 1 + 8 * ns.length + 3) h (up (up M t (deck g (b1 + 1 + 8 * ns.length + 3))) ra (.obj (.lst (bs.map .int)))) := ⟨by rw [up_ne ta, up_same], by rw [up_ne pa', up_ne tp.symm]; exact S.fp, by rw [up_ne sa, up_ne ts.symm]; exact S.fs, by rw [up_ne da, up_ne td.symm]; exact S.fd, S.sd, S.ok, S.fn⟩
  have ha1 : up (up M t (deck g (b1 + 1 + 8 * ns.length + 3))) ra (.obj (.lst (bs.map .int))) ra = some (.obj (.lst (bs.map .int))) := up_same
  generalize up (up M t (deck g (b1 + 1 + 8 * ns.length + 3))) ra (.obj (.lst (bs.map .int))) = M1 at S1 ha1 ⊢
  walk_at "ev"
  refine ⟨t, g, b1 + 1, ns, rfl, S1.ft, row.ne, by omega, fun n hn => by have := row.w n hn; omega, fun ys yl hy rb rb0 => ?_⟩
  have tb : t ≠ rb := fun z => by rw [← z, S1.ft] at rb0; cases rb0
  have pb' : p ≠ rb := fun z => by rw [← z, S1.fp] at rb0; cases rb0
  have sb : s ≠ rb := fun z => by rw [← z, S1.fs] at rb0; cases rb0
  have db : dn ≠ rb := fun z => by rw [← z, S1.fd] at rb0; cases rb0
  have ab : ra ≠ rb := fun z => by rw [← z, ha1] at rb0; cases rb0
  have S2 : S08 CH ns t g p pa pb pc s dn (b1 + 1) h (up (up M1 t (deck g (b1 + 1))) rb (.obj (.lst (ys.map frD)))) := ⟨by rw [up_ne tb, up_same], by rw [up_ne pb', up_ne tp.symm]; exact S1.fp, by rw [up_ne sb, up_ne ts.symm]; exact S1.fs, by rw [up_ne db, up_ne td.symm]; exact S1.fd, S.sd, S.ok, S.fn⟩
  have ha2 : up (up M1 t (deck g (b1 + 1))) rb (.obj (.lst (ys.map frD))) ra = some (.obj (.lst (bs.map .int))) := by rw [up_ne ab, up_ne ta.symm]; exact ha1
  have hb3 : up (up M1 t (deck g (b1 + 1))) rb (.obj (.lst (ys.map frD))) rb = some (.obj (.lst (ys.map frD))) := up_same
  generalize up (up M1 t (deck g (b1 + 1))) rb (.obj (.lst (ys.map frD))) = M2 at S2 ha2 hb3 ⊢
  have hyw : WOk B08 L60 ys := Amt.wok hy (by omega)
  have ok := S.ok
  have e0 := S.fn
  subst e0
  obtain ⟨w1, w2, w3⟩ := ok.now
  have nsm := w3.smS (hrm08.rm (i := h.st.length) (by omega))
  have ysm := hyw.smS (rm_row (by decide)).2
  obtain ⟨f1, f2, f3⟩ := ok.fell yl hyw
  obtain ⟨R1, R2⟩ := hrm08.rm1 (i := h.st.length) few
  have hsl : h.ws.length = h.st.length + 1 := ok.wl
  have al : atI (h.ws.map watD) (-1) = some (watD h.now) := ws_last w1 ok.wl
  have hs2 := S2.fs
  have hp2 := S2.fp
  have hd2 := S2.fd
  have fl := fbs.length
  have rdb : rdS M2 (.ref rb) = some (ys.map frD) := rdS_of (rdL_ref hb3)
  have rda : rdS M2 (.ref ra) = some (bs.map .int) := rdS_of (rdL_ref ha2)
  have lsz : (h.ws.map watD).length < sizeLine := by rw [List.length_map, sizeLine_eq, hsl]; omega
  have lsz2 : (h.st.map stepD).length < sizeLine := by rw [List.length_map, sizeLine_eq]; omega
  walk_at "ev"
  refine ⟨_, _, h.now, ys, rfl, rfl, rdb, f1, by omega, nsm.1, ysm.1, ?_⟩
  refine ⟨_, _, h.ns, putR h.now ys, bs, B08 * (h.st.length + 1 + 1), L60 * L72 ^ h.st.length, L72, rfl, rfl, rda, ok.row, f2, fbs, ok.lcm, R1, R2, f3, ?_⟩
  refine iAppend ?_ hs2 lsz
  have ht3 : up M2 s (.obj (.lst (h.ws.map watD ++ [.lst ((settle h.ns (putR h.now ys) bs).map frD)]))) t = some (deck g (b1 + 1)) := by rw [up_ne ts]; exact S2.ft
  have hp3 : up M2 s (.obj (.lst (h.ws.map watD ++ [.lst ((settle h.ns (putR h.now ys) bs).map frD)]))) p = some (hBox CH pa pb pc h) := by rw [up_ne ps]; exact S2.fp
  have hs3 : up M2 s (.obj (.lst (h.ws.map watD ++ [.lst ((settle h.ns (putR h.now ys) bs).map frD)]))) s = some (.obj (.lst (h.ws.map watD ++ [.lst ((settle h.ns (putR h.now ys) bs).map frD)]))) := up_same
  have hd3 : up M2 s (.obj (.lst (h.ws.map watD ++ [.lst ((settle h.ns (putR h.now ys) bs).map frD)]))) dn = some (.obj (.lst (h.st.map stepD))) := by rw [up_ne S.sd.symm]; exact S2.fd
  have ha3 : up M2 s (.obj (.lst (h.ws.map watD ++ [.lst ((settle h.ns (putR h.now ys) bs).map frD)]))) ra = some (.obj (.lst (bs.map .int))) := by rw [up_ne sa.symm]; exact ha2
  have hb4 : up M2 s (.obj (.lst (h.ws.map watD ++ [.lst ((settle h.ns (putR h.now ys) bs).map frD)]))) rb = some (.obj (.lst (ys.map frD))) := by rw [up_ne sb.symm]; exact hb3
  generalize up M2 s (.obj (.lst (h.ws.map watD ++ [.lst ((settle h.ns (putR h.now ys) bs).map frD)]))) = M3 at ht3 hp3 hs3 hd3 ha3 hb4 ⊢
  refine iKMt (ds := h.st.map stepD) ?_ hd3
  walk_at "ev"
  refine iSorted (fun os p1 p2 => ?_) (rdS_of (rdL_ref ha3))
  walk_at "ev"
  have lc := ok.lcm
  have es : settle h.ns (putR h.now ys) os = settle h.ns (putR h.now ys) bs := settle_perm ok.row f2 fbs lc f3 p1
  have ew : h.ws.map watD ++ [D.lst ((settle h.ns (putR h.now ys) bs).map frD)] = (h.add os ys).ws.map watD := by
    rw [← es]
    show _ = (h.ws ++ [settle h.ns (putR h.now ys) os]).map watD
    rw [List.map_append]; rfl
  have ed : h.st.map stepD ++ [D.tup [D.lst (os.map .int), D.lst (ys.map frD)]] = (h.add os ys).st.map stepD := by
    show _ = (h.st ++ [(os, ys)]).map stepD
    rw [List.map_append]; rfl
  have oka : HOk B08 L60 (h.add os ys) := ok.add (fbs.perm p1) p2 yl hyw few
  have elen : (h.add os ys).st.length = h.st.length + 1 := by
    show (h.st ++ [_]).length = _
    rw [List.length_append]; rfl
  rw [ew] at hs3
  rw [ed]
  have ht4 : up M3 dn (.obj (.lst ((h.add os ys).st.map stepD))) t = some (deck g (b1 + 1)) := by rw [up_ne td]; exact ht3
  have hp4 : up M3 dn (.obj (.lst ((h.add os ys).st.map stepD))) p = some (hBox CH pa pb pc h) := by rw [up_ne pd]; exact hp3
  have hs4 : up M3 dn (.obj (.lst ((h.add os ys).st.map stepD))) s = some (.obj (.lst ((h.add os ys).ws.map watD))) := by rw [up_ne S.sd]; exact hs3
  have hd4 : up M3 dn (.obj (.lst ((h.add os ys).st.map stepD))) dn = some (.obj (.lst ((h.add os ys).st.map stepD))) := up_same
  have ha4 : up M3 dn (.obj (.lst ((h.add os ys).st.map stepD))) ra = some (.obj (.lst (bs.map .int))) := by rw [up_ne da.symm]; exact ha3
  have hb5 : up M3 dn (.obj (.lst ((h.add os ys).st.map stepD))) rb = some (.obj (.lst (ys.map frD))) := by rw [up_ne db.symm]; exact hb4
  generalize up M3 dn (.obj (.lst ((h.add os ys).st.map stepD))) = M4 at ht4 hp4 hs4 hd4 ha4 hb5 ⊢
  refine ⟨t, g, b1, 2, rfl, ht4, by decide, by decide, fun r r0 r2 => ?_⟩
  have ht5 : up M4 t (deck g b1) t = some (deck g b1) := up_same
  have hp5 : up M4 t (deck g b1) p = some (hBox CH pa pb pc h) := by rw [up_ne tp.symm]; exact hp4
  have hs5 : up M4 t (deck g b1) s = some (.obj (.lst ((h.add os ys).ws.map watD))) := by rw [up_ne ts.symm]; exact hs4
  have hd5 : up M4 t (deck g b1) dn = some (.obj (.lst ((h.add os ys).st.map stepD))) := by rw [up_ne td.symm]; exact hd4
  have ha5 : up M4 t (deck g b1) ra = some (.obj (.lst (bs.map .int))) := by rw [up_ne ta.symm]; exact ha4
  have hb6 : up M4 t (deck g b1) rb = some (.obj (.lst (ys.map frD))) := by rw [up_ne tb.symm]; exact hb5
  generalize up M4 t (deck g b1) = M5 at ht5 hp5 hs5 hd5 ha5 hb6 ⊢
  have step : ∀ bs' : List Int, bs'.Perm bs → bs'.Pairwise (· ≤ ·) → c4_law_k08 CH Z [x0, some (.ref t), x2, some (.lst (h.ns.map .int)), x4, x5, some (.ref p), some (.ref s), some (.ref dn), x9, some (.ref ra), some (.ref rb), some .non, x13] (up M5 p (hBox CH pa pb pc (h.add bs' ys))) := by
    intro bs' pm sr
    have e : bs' = os := sorted_one (pm.trans p1.symm) sr p2
    subst e
    refine ok_c4_law_k08 (da := bs.map .int) (db := ys.map frD) (b := b1) (h := h.add bs' ys) ⟨by rw [up_ne tp]; exact ht5, up_same, by rw [up_ne ps.symm]; exact hs5, by rw [up_ne pd.symm]; exact hd5, S.sd, oka, rfl⟩ (by rw [up_ne pa'.symm]; exact ha5) (by rw [up_ne pb'.symm]; exact hb6) (by rw [List.length_map]; omega) sa.symm da.symm sb.symm db.symm ab fun M' S' => k _ _ M' _ _ _ hb2 elen S'
  walk_at "kv"
  refine iteD (fun hr => ?_) (fun hr => ?_)
  · walk_at "kv"
    exact ⟨p, pa, pb, pc, .ref ra, .ref rb, h, bs, ys, B08, L60, rfl, hp5, rdS_of (rdL_ref ha5), rdS_of (rdL_ref hb6), ok, hrm08, few, fbs, yl, hyw, step⟩
  · walk_at "kv"
    exact ⟨p, pa, pb, pc, .ref ra, .ref rb, h, bs, ys, B08, L60, rfl, hp5, rdS_of (rdL_ref ha5), rdS_of (rdL_ref hb6), ok, hrm08, few, fbs, yl, hyw, step⟩
theorem ok_c2_law_k08 {CH : Addr} {ns : List Int} {t g p pa pb pc u0 u1 : Addr} {b : Nat} {xs : List Rat} {d0 d1 : List D} {M : MH} {Z : AD} {x0 x2 x7 x8 x9 x10 x11 x12 x13 : Option D} (row : Row ns) (ht : M t = some (deck g (b + 1200))) (hp : M p = some (hBox CH pa pb pc ⟨ns, [xs], []⟩)) (ok : HOk B08 L60 ⟨ns, [xs], []⟩) (h0 : M u0 = some (.obj (.lst d0))) (h1 : M u1 = some (.obj (.lst d1))) (l0 : d0.length ≤ 1000) (u01 : u0 ≠ u1)
    (k : ∀ (b' : Nat) M' y7 y8 y9 y10 y11 y12, b ≤ b' → M' t = some (deck g b') → Z.nx [x0, some (.ref t), x2, some (.lst (ns.map .int)), some (.lst (xs.map frD)), some (.lst [.ref u0, .ref u1]), some (.ref p), y7, y8, y9, y10, y11, y12, x13] M') :
    c2_law_k08 CH Z [x0, some (.ref t), x2, some (.lst (ns.map .int)), some (.lst (xs.map frD)), some (.lst [.ref u0, .ref u1]), some (.ref p), x7, x8, x9, x10, x11, x12, x13] M := by
  have t0 : t ≠ u0 := fun z => by rw [z, h0] at ht; cases ht
  have t1 : t ≠ u1 := fun z => by rw [z, h1] at ht; cases ht
  have p0 : p ≠ u0 := fun z => by rw [z, h0] at hp; cases hp
  have p1 : p ≠ u1 := fun z => by rw [z, h1] at hp; cases hp
  have lsz : d0.length < sizeLine := by rw [sizeLine_eq]; omega
  unfold c2_law_k08
  walk_at "ev"
  have ht2 : up (up M u0 (.obj (.lst (d0 ++ [.int 3])))) u1 (.obj (.lst d1.reverse)) t = some (deck g (b + 1200)) := by rw [up_ne t1, up_ne t0]; exact ht
  have hp2 : up (up M u0 (.obj (.lst (d0 ++ [.int 3])))) u1 (.obj (.lst d1.reverse)) p = some (hBox CH pa pb pc ⟨ns, [xs], []⟩) := by rw [up_ne p1, up_ne p0]; exact hp
  generalize up (up M u0 (.obj (.lst (d0 ++ [.int 3])))) u1 (.obj (.lst d1.reverse)) = M2 at ht2 hp2 ⊢
  intro s s0
  have ts : t ≠ s := fun z => by rw [← z, ht2] at s0; cases s0
  have ps : p ≠ s := fun z => by rw [← z, hp2] at s0; cases s0
  walk_at "ev"
  intro dn n0
  have td : t ≠ dn := fun z => by rw [← z, up_ne ts, ht2] at n0; cases n0
  have pd : p ≠ dn := fun z => by rw [← z, up_ne ps, hp2] at n0; cases n0
  have sd : s ≠ dn := fun z => by rw [← z, up_same] at n0; cases n0
  have S0 : S08 CH ns t g p pa pb pc s dn (b + 1200) ⟨ns, [xs], []⟩ (up (up M2 s (.obj (.lst [.lst (xs.map frD)]))) dn (.obj (.lst []))) := ⟨by rw [up_ne td, up_ne ts]; exact ht2, by rw [up_ne pd, up_ne ps]; exact hp2, by rw [up_ne sd, up_same]; rfl, up_same, sd, ok, rfl⟩
  generalize up (up M2 s (.obj (.lst [.lst (xs.map frD)]))) dn (.obj (.lst [])) = M3 at S0 ⊢
  have tp : t ≠ p := fun z => by have := S0.ft; rw [z, S0.fp] at this; cases this
  walk_at "ev"
  refine ⟨t, g, b + 1199, 11, rfl, S0.ft, by decide, by decide, fun r r0 r1 => ?_⟩
  have S1 : S08 CH ns t g p pa pb pc s dn (b + 1199) ⟨ns, [xs], []⟩ (up M3 t (deck g (b + 1199))) := ⟨up_same, by rw [up_ne tp.symm]; exact S0.fp, by rw [up_ne ts.symm]; exact S0.fs, by rw [up_ne td.symm]; exact S0.fd, sd, ok, rfl⟩
  generalize up M3 t (deck g (b + 1199)) = M4 at S1 ⊢
  walk_at "ev"
  refine ⟨by omega, ?_⟩
  refine for_go (fun i Γ M' => ∃ (b' : Nat) (h : HD), b + 1199 - 100 * i ≤ b' ∧ h.st.length = i ∧ S08 CH ns t g p pa pb pc s dn b' h M' ∧ ∃ y9 y10 y11 y12, Γ = [x0, some (.ref t), x2, some (.lst (ns.map .int)), some (.lst (xs.map frD)), some (.lst [.ref u0, .ref u1]), some (.ref p), some (.ref s), some (.ref dn), y9, y10, y11, y12, x13]) ⟨_, _, by omega, rfl, S1, _, _, _, _, rfl⟩ ?_ ?_
  · rintro i Γ M' x hx ⟨b', h, hb, hst, S', y9, y10, y11, y12, rfl⟩
    obtain ⟨hi, rfl⟩ := rng_it hx
    refine ⟨trivial, ?_⟩
    obtain ⟨b2, rfl⟩ : ∃ b2, b' = b2 + 100 := ⟨b' - 100, by omega⟩
    exact ok_c3_law_k08 row S' (by omega) fun b3 h' M'' z10 z11 z12 hb3 hst' S'' => ⟨b3, h', by omega, by omega, S'', _, _, _, _, rfl⟩
  · rintro Γ M' ⟨b', h, hb, hst, S', y9, y10, y11, y12, rfl⟩
    refine ⟨trivial, ?_⟩
    rw [rng_len] at hb
    walk_at "ev"
    refine ⟨p, pa, pb, pc, .ref s, .ref dn, h, B08, L60, by rw [S'.fn], S'.fp, S'.ok, hrm08, rdL_ref S'.fs, rdL_ref S'.fd, ?_⟩
    walk_at "ev"
    exact k b' M' _ _ _ _ _ _ (by omega) S'.ft
theorem ok_c1_law_k08 {CH : Addr} {ns : List Int} {t g p pa pb pc u0 u1 : Addr} {b : Nat} {xs : List Rat} {M : MH} {Z : AD} {x0 x2 x7 x8 x9 x10 x11 x12 x13 : Option D} (row : Row ns) (ht : M t = some (deck g (b + 1201))) (hp : M p = some (hBox CH pa pb pc ⟨ns, [xs], []⟩)) (ok : HOk B08 L60 ⟨ns, [xs], []⟩) (h0 : M u0 = some (.obj (.lst (ns.map .int)))) (h1 : M u1 = some (.obj (.lst (xs.map frD)))) (u01 : u0 ≠ u1)
    (k : ∀ (b' : Nat) M' y4 y6 y7 y8 y9 y10 y11 y12, b ≤ b' → M' t = some (deck g b') → Z.nx [x0, some (.ref t), x2, some (.lst (ns.map .int)), y4, some (.lst [.ref u0, .ref u1]), y6, y7, y8, y9, y10, y11, y12, x13] M') :
    c1_law_k08 CH Z [x0, some (.ref t), x2, some (.lst (ns.map .int)), some (.lst (xs.map frD)), some (.lst [.ref u0, .ref u1]), some (.ref p), x7, x8, x9, x10, x11, x12, x13] M := by
  have nl := row.l
  have t0 : t ≠ u0 := fun z => by rw [z, h0] at ht; cases ht
  have t1 : t ≠ u1 := fun z => by rw [z, h1] at ht; cases ht
  have tp : t ≠ p := fun z => by rw [z, hp] at ht; cases ht
  unfold c1_law_k08
  walk_at "ev"
  refine ⟨t, g, b + 1200, 4, rfl, ht, by decide, by decide, fun r r0 r1 => ?_⟩
  have ht2 : up M t (deck g (b + 1200)) t = some (deck g (b + 1200)) := up_same
  have hp2 : up M t (deck g (b + 1200)) p = some (hBox CH pa pb pc ⟨ns, [xs], []⟩) := by rw [up_ne tp.symm]; exact hp
  have h02 : up M t (deck g (b + 1200)) u0 = some (.obj (.lst (ns.map .int))) := by rw [up_ne t0.symm]; exact h0
  have h12 : up M t (deck g (b + 1200)) u1 = some (.obj (.lst (xs.map frD))) := by rw [up_ne t1.symm]; exact h1
  generalize up M t (deck g (b + 1200)) = M1 at ht2 hp2 h02 h12 ⊢
  walk_at "ev"
  refine iteD (fun hr => ?_) (fun hr => ?_)
  · walk_at "ev"
    intro p3 p30
    have zl : (List.replicate ns.length (0 : Rat)).length = ns.length := List.length_replicate
    have zw : WOk B08 L60 (List.replicate ns.length (0 : Rat)) := Amt.wok (fun x hx => by rw [List.eq_of_mem_replicate hx]; exact Amt.zero) (by rw [List.length_replicate]; omega)
    have zz : List.replicate ns.length (0 : Rat) = zerosR ns := by
      unfold zerosR
      rw [List.map_const']
    have u0p : u0 ≠ p3 := fun z => by rw [← z, h02] at p30; cases p30
    have hR : Rm B08 L60 := (rm_row (by decide)).2
    refine ⟨p3, _, _, ns, List.replicate ns.length (0 : Rat), B08, L60, rfl, up_same, rdS_of (rdL_ref (by rw [up_ne u0p]; exact h02)), .inl ⟨rfl, zz⟩, row.ok, zl, zw, hR, fun ra rb rc ha hb' hc' nab nac nbc => ?_⟩
    obtain ⟨f1, fk⟩ := hPut_keep' (C := CH) (h := ⟨ns, [List.replicate ns.length (0 : Rat)], []⟩) p30 ha hb' hc'
    obtain ⟨ft, _⟩ := fk t _ ht2
    obtain ⟨g0, _⟩ := fk u0 _ h02
    obtain ⟨g1, _⟩ := fk u1 _ h12
    clear fk
    generalize hPut (up M1 p3 (.obj (.ins CH []))) p3 CH ra rb rc ⟨ns, [List.replicate ns.length (0 : Rat)], []⟩ = M3 at f1 ft g0 g1 ⊢
    refine ⟨rfl, ?_⟩
    refine lc_st (fun i acc M' => acc = List.replicate i (frD 0) ∧ M' = M3) (by rw [List.length_map]; omega) ?_ ?_ ⟨rfl, rfl⟩
    · rintro i x acc M' hx ha ⟨rfl, eM⟩
      subst M'
      obtain ⟨n, hn', rfl⟩ := map_get hx
      refine ⟨by walk_at "tr", fun kd hkd => ?_⟩
      simp only [wipeG]
      walk_at "ev"
      refine hkd _ _ ⟨?_, rfl⟩
      rw [List.replicate_succ']; rfl
    rintro acc M' ha ⟨rfl, eM⟩
    subst M'
    refine ⟨by walk_at "tr", ?_⟩
    rw [List.length_map, show List.replicate ns.length (frD 0) = (List.replicate ns.length (0 : Rat)).map frD by rw [List.map_replicate]]
    exact ok_c2_law_k08 row ft f1 (HOk.new row.ok row.sum zl zw) g0 g1 (by rw [List.length_map]; omega) u01 fun b' M' z7 z8 z9 z10 z11 z12 hb hm => k b' M' _ _ _ _ _ _ _ _ hb hm
  · walk_at "ev"
    exact ok_c2_law_k08 row ht2 hp2 ok h02 h12 (by rw [List.length_map]; omega) u01 fun b' M' z7 z8 z9 z10 z11 z12 hb hm => k b' M' _ _ _ _ _ _ _ _ hb hm
theorem ok_law_k08 (CH : Addr) : ∀ ds M k x, F_law_k08 ds M k x → b_law_k08 CH { nx := fun _ M' => fin k .non M', rt := fin k } (startG 14 ds) M := by
  rintro ds M k _ ⟨ns, rfl, hn, hk⟩
  walk_at "st"
  unfold b_law_k08
  walk_at "ev"
  refine ⟨ns, 9000, rfl, hn, by decide, fun g t ne hg ht => ?_⟩
  walk_at "ev"
  rw [List.length_map]
  generalize hj : (2 + if ((ns.length : Nat) : Int) < 4 then ((ns.length : Nat) : Int) else 4) = j
  have hj0 : 0 ≤ j ∧ j ≤ 6 := by rw [← hj]; split <;> omega
  refine ⟨by omega, ?_⟩
  refine for_go (fun i Γ M' => ∃ b, 1500 * (6 - i) ≤ b ∧ M' t = some (deck g b) ∧ ∃ x2 x3 x4 x5 x6 x7 x8 x9 y0 y1 y2 y3, Γ = [some (.scr ns), some (.ref t), x2, x3, x4, x5, x6, x7, x8, x9, y0, y1, y2, y3]) ⟨9000, by decide, up_same, _, _, _, _, _, _, _, _, _, _, _, _, rfl⟩ ?_ ?_
  · rintro i0 Γ M' x hx ⟨b, hb, hM, x2, x3, x4, x5, x6, x7, x8, x9, y0, y1, y2, y3, rfl⟩
    obtain ⟨hi0, rfl⟩ := rng_it hx
    obtain ⟨b, rfl⟩ : ∃ b2, b = b2 + 1500 := ⟨b - 1500, by omega⟩
    refine ⟨trivial, ?_⟩
    walk_at "ev"
    refine ⟨t, g, b + 1490, 8, rfl, hM, by decide, by decide, fun ws w0' w1' w2' => ?_⟩
    have hrow : Row ws := ⟨w0', w1', w2'⟩
    have hwl := hrow.l
    walk_at "ev"
    refine ⟨t, g, b + 1487 - 8 * ws.length, ws, rfl, ?_, hrow.ne, by omega, fun n hn => by have := hrow.w n hn; omega, fun xs xl hx r9 r90 => ?_⟩
    · rw [up_same]; exact congrArg (fun n => some (deck g n)) (by omega)
    have tr : t ≠ r9 := fun z => by rw [← z, up_same] at r90; cases r90
    walk_at "ev"
    have hM1 : dl (up (up (up M' t (deck g (b + 1490))) t (deck g (b + 1487 - 8 * ws.length))) r9 (.obj (.lst (xs.map frD)))) r9 t = some (deck g (b + 1487 - 8 * ws.length)) := by rw [dl_ne tr, up_ne tr, up_same]
    generalize dl (up (up (up M' t (deck g (b + 1490))) t (deck g (b + 1487 - 8 * ws.length))) r9 (.obj (.lst (xs.map frD)))) r9 = M1 at hM1 ⊢
    have hw : WOk B08 L60 xs := Amt.wok hx (by omega)
    have hR : Rm B08 L60 := (rm_row (by decide)).2
    intro u0 u00 u1 u10
    have u01 : u0 ≠ u1 := fun z => by rw [z, up_same] at u10; cases u10
    rw [up_ne u01.symm] at u10
    have t0 : t ≠ u0 := fun z => by rw [← z, hM1] at u00; cases u00
    have t1 : t ≠ u1 := fun z => by rw [← z, hM1] at u10; cases u10
    have mt : up (up M1 u0 (.obj (.lst (ws.map .int)))) u1 (.obj (.lst (xs.map frD))) t = some (deck g (b + 1487 - 8 * ws.length)) := by rw [up_ne t1, up_ne t0]; exact hM1
    have m0 : up (up M1 u0 (.obj (.lst (ws.map .int)))) u1 (.obj (.lst (xs.map frD))) u0 = some (.obj (.lst (ws.map .int))) := by rw [up_ne u01, up_same]
    have m1 : up (up M1 u0 (.obj (.lst (ws.map .int)))) u1 (.obj (.lst (xs.map frD))) u1 = some (.obj (.lst (xs.map frD))) := up_same
    generalize up (up M1 u0 (.obj (.lst (ws.map .int)))) u1 (.obj (.lst (xs.map frD))) = M2 at mt m0 m1 ⊢
    have mk : ∀ (M3 : MH) (Z : MH → Prop), M3 u0 = some (.obj (.lst (ws.map .int))) → M3 u1 = some (.obj (.lst (xs.map frD))) → ∀ p, M3 p = none → (∀ M4 pa pb pc, M4 p = some (hBox CH pa pb pc ⟨ws, [xs], []⟩) → (∀ x v, M3 x = some v → M4 x = some v) → Z M4) → F_History_init CH [.ref p, .ref u0, .ref u1] (up M3 p (.obj (.ins CH []))) (fun d M5 => d = .non ∧ Z M5) noX := by
      intro M3 Z n0 n1 p p0 kz
      have q0 : u0 ≠ p := fun z => by rw [← z, n0] at p0; cases p0
      have q1 : u1 ≠ p := fun z => by rw [← z, n1] at p0; cases p0
      refine ⟨p, _, _, ws, xs, B08, L60, rfl, up_same, rdS_of (rdL_ref (by rw [up_ne q0]; exact n0)), .inr (rdL_ref (by rw [up_ne q1]; exact n1)), hrow.ok, xl, hw, hR, fun pa pb pc ha hb' hc' nab nac nbc => ?_⟩
      obtain ⟨f1, fk⟩ := hPut_keep' (C := CH) (h := ⟨ws, [xs], []⟩) p0 ha hb' hc'
      exact ⟨rfl, kz _ pa pb pc f1 fun x v hx => (fk x v hx).1⟩
    walk_at "ev"
    intro p p0
    refine mk M2 _ m0 m1 p p0 fun M4 pa pb pc e0 ek => ?_
    have kt := ek t _ mt
    have k0 := ek u0 _ m0
    have k1 := ek u1 _ m1
    clear ek
    obtain ⟨bb, hbb⟩ : ∃ bb, b + 1487 - 8 * ws.length = bb + 1201 + 1 ∧ b + 200 ≤ bb := ⟨b + 285 - 8 * ws.length, by omega, by omega⟩
    rw [hbb.1] at kt
    have tp : t ≠ p := fun z => by rw [z, e0] at kt; cases kt
    have t0' : t ≠ u0 := t0
    walk_at "ev"
    refine ⟨t, g, bb + 1201, 3, rfl, kt, by decide, by decide, fun r r0 r1 => ?_⟩
    have lt : up M4 t (deck g (bb + 1201)) t = some (deck g (bb + 1201)) := up_same
    have lp : up M4 t (deck g (bb + 1201)) p = some (hBox CH pa pb pc ⟨ws, [xs], []⟩) := by rw [up_ne tp.symm]; exact e0
    have l0 : up M4 t (deck g (bb + 1201)) u0 = some (.obj (.lst (ws.map .int))) := by rw [up_ne t0.symm]; exact k0
    have l1 : up M4 t (deck g (bb + 1201)) u1 = some (.obj (.lst (xs.map frD))) := by rw [up_ne t1.symm]; exact k1
    generalize up M4 t (deck g (bb + 1201)) = M6 at lt lp l0 l1 ⊢
    have okn : HOk B08 L60 ⟨ws, [xs], []⟩ := HOk.new hrow.ok hrow.sum xl hw
    walk_at "ev"
    refine iteD (fun hr => ?_) (fun hr => ?_)
    · walk_at "ev"
      intro p2 p20
      refine mk M6 _ l0 l1 p2 p20 fun M7 qa qb qc e2 ek => ?_
      exact ok_c1_law_k08 hrow (ek t _ lt) e2 okn (ek u0 _ l0) (ek u1 _ l1) u01 fun b' M' z4 z6 z7 z8 z9 z10 z11 z12 hb' hm => ⟨b', by omega, hm, _, _, _, _, _, _, _, _, _, _, _, _, rfl⟩
    · walk_at "ev"
      exact ok_c1_law_k08 hrow lt lp okn l0 l1 u01 fun b' M' z4 z6 z7 z8 z9 z10 z11 z12 hb' hm => ⟨b', by omega, hm, _, _, _, _, _, _, _, _, _, _, _, _, rfl⟩
  · rintro Γ M' ⟨b, hb, hM, x2, x3, x4, x5, x6, x7, x8, x9, y0, y1, y2, y3, rfl⟩
    refine ⟨trivial, ?_⟩
    walk_at "ev"
    exact fin.of (hk _)
end M
namespace M
open PySem L2
def topS (i : Nat) : Stmt := PySem.Challenge.pw_flapwater_k08_histories_step_by_step.main.body.getD i (.Pass ⟨0, 0, 0, 0⟩)
abbrev s_law_deck : Stmt := topS 25
theorem sc_law_deck : FnScope ["script", "great", "fold", "cell"] ["script"] (defScope s_law_deck) := ⟨rfl, rfl, rfl, by decide +kernel, rfl, by decide +kernel, by decide +kernel⟩
abbrev s_law_take : Stmt := topS 26
theorem sc_law_take : FnScope ["deck", "many", "drawn", "turn", "mixed"] ["deck", "many"] (defScope s_law_take) := ⟨rfl, rfl, rfl, by decide +kernel, rfl, by decide +kernel, by decide +kernel⟩
abbrev s_law_tanks : Stmt := topS 33
theorem sc_law_tanks : FnScope ["deck", "most", "many", "kind", "tank"] ["deck", "most"] (defScope s_law_tanks) := ⟨rfl, rfl, rfl, by decide +kernel, rfl, by decide +kernel, by decide +kernel⟩
abbrev s_law_low_v2 : Stmt := topS 27
theorem sc_law_low_v2 : FnScope ["top", "bottom", "one", "other"] ["top", "bottom"] (defScope s_law_low_v2) := ⟨rfl, rfl, rfl, by decide +kernel, rfl, by decide +kernel, by decide +kernel⟩
abbrev s_law_amount_v3 : Stmt := topS 34
theorem sc_law_amount_v3 : FnScope ["deck", "some", "kind"] ["deck"] (defScope s_law_amount_v3) := ⟨rfl, rfl, rfl, by decide +kernel, rfl, by decide +kernel, by decide +kernel⟩
abbrev s_law_fall_m : Stmt := topS 35
theorem sc_law_fall_m : FnScope ["deck", "tanks", "kind", "found", "spot", "wide", "tank"] ["deck", "tanks"] (defScope s_law_fall_m) := ⟨rfl, rfl, rfl, by decide +kernel, rfl, by decide +kernel, by decide +kernel⟩
abbrev s_need_floors : Stmt := topS 14
theorem sc_need_floors : FnScope ["floors", "number", "floor"] ["floors"] (defScope s_need_floors) := ⟨rfl, rfl, rfl, by decide +kernel, rfl, by decide +kernel, by decide +kernel⟩
abbrev s_is_below : Stmt := topS 12
theorem sc_is_below : FnScope ["one", "other"] ["one", "other"] (defScope s_is_below) := ⟨rfl, rfl, rfl, by decide +kernel, rfl, by decide +kernel, by decide +kernel⟩
abbrev s_need_water : Stmt := topS 15
theorem sc_need_water : FnScope ["floors", "water", "number", "amount"] ["floors", "water"] (defScope s_need_water) := ⟨rfl, rfl, rfl, by decide +kernel, rfl, by decide +kernel, by decide +kernel⟩
abbrev s_History_init : Stmt := inClass (topS 23) 0
theorem sc_History_init : FnScope ["self", "floors", "water", "first", "floor"] ["self", "floors", "water"] (defScope s_History_init) := ⟨rfl, rfl, rfl, by decide +kernel, rfl, by decide +kernel, by decide +kernel⟩
abbrev s_law_shut_m : Stmt := topS 36
theorem sc_law_shut_m : FnScope ["deck", "tanks", "left", "most", "turn"] ["deck", "tanks"] (defScope s_law_shut_m) := ⟨rfl, rfl, rfl, by decide +kernel, rfl, by decide +kernel, by decide +kernel⟩
abbrev s_law_sum_v1 : Stmt := topS 28
theorem sc_law_sum_v1 : FnScope ["one", "other"] ["one", "other"] (defScope s_law_sum_v1) := ⟨rfl, rfl, rfl, by decide +kernel, rfl, by decide +kernel, by decide +kernel⟩
abbrev s_law_heap_v1 : Stmt := topS 29
theorem sc_law_heap_v1 : FnScope ["amounts", "found", "amount"] ["amounts"] (defScope s_law_heap_v1) := ⟨rfl, rfl, rfl, by decide +kernel, rfl, by decide +kernel, by decide +kernel⟩
abbrev s_law_slope : Stmt := topS 31
theorem sc_law_slope : FnScope ["one", "other", "wide"] ["one", "other", "wide"] (defScope s_law_slope) := ⟨rfl, rfl, rfl, by decide +kernel, rfl, by decide +kernel, by decide +kernel⟩
abbrev s_law_rest_v2 : Stmt := topS 32
theorem sc_law_rest_v2 : FnScope ["tanks", "amounts", "shut", "heap", "spots", "wide", "found", "at", "end", "best", "corner", "goal", "slope"] ["tanks", "amounts", "shut"] (defScope s_law_rest_v2) := ⟨rfl, rfl, rfl, by decide +kernel, rfl, by decide +kernel, by decide +kernel⟩
abbrev s_law_both_g : Stmt := topS 30
theorem sc_law_both_g : FnScope ["some", "others", "one", "other"] ["some", "others"] (defScope s_law_both_g) := ⟨rfl, rfl, rfl, by decide +kernel, rfl, by decide +kernel, by decide +kernel⟩
abbrev s_need_flaps : Stmt := topS 16
theorem sc_need_flaps : FnScope ["floors", "bolted", "number", "flap"] ["floors", "bolted"] (defScope s_need_flaps) := ⟨rfl, rfl, rfl, by decide +kernel, rfl, by decide +kernel, by decide +kernel⟩
abbrev s_lowest : Stmt := topS 9
theorem sc_lowest : FnScope ["top", "bottom", "one", "other"] ["top", "bottom"] (defScope s_lowest) := ⟨rfl, rfl, rfl, by decide +kernel, rfl, by decide +kernel, by decide +kernel⟩
abbrev s_add : Stmt := topS 10
theorem sc_add : FnScope ["one", "other"] ["one", "other"] (defScope s_add) := ⟨rfl, rfl, rfl, by decide +kernel, rfl, by decide +kernel, by decide +kernel⟩
abbrev s_stretches : Stmt := topS 18
theorem sc_stretches : FnScope ["floors", "bolted", "cuts"] ["floors", "bolted"] (defScope s_stretches) := ⟨rfl, rfl, rfl, by decide +kernel, rfl, by decide +kernel, by decide +kernel⟩
abbrev s_by : Stmt := topS 11
theorem sc_by : FnScope ["one", "whole"] ["one", "whole"] (defScope s_by) := ⟨rfl, rfl, rfl, by decide +kernel, rfl, by decide +kernel, by decide +kernel⟩
abbrev s_pools_of : Stmt := topS 19
theorem sc_pools_of : FnScope ["floors", "water", "found", "floor", "amount", "wide", "more"] ["floors", "water"] (defScope s_pools_of) := ⟨rfl, rfl, rfl, by decide +kernel, rfl, by decide +kernel, by decide +kernel⟩
abbrev s_rest_of : Stmt := topS 20
theorem sc_rest_of : FnScope ["floors", "water", "found", "at", "floor", "amount", "wide"] ["floors", "water"] (defScope s_rest_of) := ⟨rfl, rfl, rfl, by decide +kernel, rfl, by decide +kernel, by decide +kernel⟩
abbrev s_settled : Stmt := topS 21
theorem sc_settled : FnScope ["floors", "water", "bolted", "found", "first", "last"] ["floors", "water", "bolted"] (defScope s_settled) := ⟨rfl, rfl, rfl, by decide +kernel, rfl, by decide +kernel, by decide +kernel⟩
abbrev s_History_step : Stmt := inClass (topS 23) 2
theorem sc_History_step : FnScope ["self", "bolted", "rain", "now", "fallen", "one", "other"] ["self", "bolted", "rain"] (defScope s_History_step) := ⟨rfl, rfl, rfl, by decide +kernel, rfl, by decide +kernel, by decide +kernel⟩
abbrev s_law_same_v1 : Stmt := topS 37
theorem sc_law_same_v1 : FnScope ["found", "due", "one", "other"] ["found", "due"] (defScope s_law_same_v1) := ⟨rfl, rfl, rfl, by decide +kernel, rfl, by decide +kernel, by decide +kernel⟩
abbrev s_History_water_m : Stmt := inClass (topS 23) 6
theorem sc_History_water_m : FnScope ["self", "number", "behind"] ["self", "number"] (defScope s_History_water_m) := ⟨rfl, rfl, rfl, by decide +kernel, rfl, by decide +kernel, by decide +kernel⟩
abbrev s_History_steps_m : Stmt := inClass (topS 23) 4
theorem sc_History_steps_m : FnScope ["self", "bolted", "rain"] ["self"] (defScope s_History_steps_m) := ⟨rfl, rfl, rfl, by decide +kernel, rfl, by decide +kernel, by decide +kernel⟩
abbrev s_heaped_up : Stmt := topS 17
theorem sc_heaped_up : FnScope ["water", "found", "amount"] ["water"] (defScope s_heaped_up) := ⟨rfl, rfl, rfl, by decide +kernel, rfl, by decide +kernel, by decide +kernel⟩
abbrev s_History_left : Stmt := inClass (topS 23) 7
theorem sc_History_left : FnScope ["self", "k"] ["self", "k"] (defScope s_History_left) := ⟨rfl, rfl, rfl, by decide +kernel, rfl, by decide +kernel, by decide +kernel⟩
abbrev s_History_floors_m : Stmt := inClass (topS 23) 5
theorem sc_History_floors_m : FnScope ["self"] ["self"] (defScope s_History_floors_m) := ⟨rfl, rfl, rfl, by decide +kernel, rfl, by decide +kernel, by decide +kernel⟩
abbrev s_law_right_v1 : Stmt := topS 38
theorem sc_law_right_v1 : FnScope ["made", "tanks", "stands", "done", "spot", "some", "rows", "at", "shut", "fell"] ["made", "tanks", "stands", "done"] (defScope s_law_right_v1) := ⟨rfl, rfl, rfl, by decide +kernel, rfl, by decide +kernel, by decide +kernel⟩
abbrev s_law_k08 : Stmt := topS 39
theorem sc_law_k08 : FnScope ["script", "deck", "lap", "tanks", "first", "handed", "made", "stands", "done", "turn", "shut", "fell", "told", "wide"] ["script"] (defScope s_law_k08) := ⟨rfl, rfl, rfl, by decide +kernel, rfl, by decide +kernel, by decide +kernel⟩
structure Txt (K : PySem.W.Frag) (mg : Str → Option Value) where
  CH : Addr
  cl : Cls K CH
  nF_floors_held : NoAttr K CH "floors_held"
  nF_steps_held : NoAttr K CH "steps_held"
  nF_waters_held : NoAttr K CH "waters_held"
  mg_History : mg "History" = some (.ref CH)
  f_law_deck : Addr
  fd_law_deck : FuncData
  F_law_deck : Fun K "_law_deck" "_law_deck" s_law_deck f_law_deck fd_law_deck
  m_law_deck : mg "_law_deck" = some (.ref f_law_deck)
  b_law_deck : Binds K fd_law_deck ["script"] []
  f_law_take : Addr
  fd_law_take : FuncData
  F_law_take : Fun K "_law_take" "_law_take" s_law_take f_law_take fd_law_take
  m_law_take : mg "_law_take" = some (.ref f_law_take)
  b_law_take : Binds K fd_law_take ["deck", "many"] []
  f_law_tanks : Addr
  fd_law_tanks : FuncData
  F_law_tanks : Fun K "_law_tanks" "_law_tanks" s_law_tanks f_law_tanks fd_law_tanks
  m_law_tanks : mg "_law_tanks" = some (.ref f_law_tanks)
  b_law_tanks : Binds K fd_law_tanks ["deck", "most"] []
  f_law_low_v2 : Addr
  fd_law_low_v2 : FuncData
  F_law_low_v2 : Fun K "_law_low" "_law_low" s_law_low_v2 f_law_low_v2 fd_law_low_v2
  m_law_low_v2 : mg "_law_low" = some (.ref f_law_low_v2)
  b_law_low_v2 : Binds K fd_law_low_v2 ["top", "bottom"] []
  f_law_amount_v3 : Addr
  fd_law_amount_v3 : FuncData
  F_law_amount_v3 : Fun K "_law_amount" "_law_amount" s_law_amount_v3 f_law_amount_v3 fd_law_amount_v3
  m_law_amount_v3 : mg "_law_amount" = some (.ref f_law_amount_v3)
  b_law_amount_v3 : Binds K fd_law_amount_v3 ["deck"] []
  f_law_fall_m : Addr
  fd_law_fall_m : FuncData
  F_law_fall_m : Fun K "_law_fall" "_law_fall" s_law_fall_m f_law_fall_m fd_law_fall_m
  m_law_fall_m : mg "_law_fall" = some (.ref f_law_fall_m)
  b_law_fall_m : Binds K fd_law_fall_m ["deck", "tanks"] []
  f_need_floors : Addr
  fd_need_floors : FuncData
  F_need_floors : Fun K "need_floors" "need_floors" s_need_floors f_need_floors fd_need_floors
  m_need_floors : mg "need_floors" = some (.ref f_need_floors)
  b_need_floors : Binds K fd_need_floors ["floors"] []
  f_is_below : Addr
  fd_is_below : FuncData
  F_is_below : Fun K "is_below" "is_below" s_is_below f_is_below fd_is_below
  m_is_below : mg "is_below" = some (.ref f_is_below)
  b_is_below : Binds K fd_is_below ["one", "other"] []
  f_need_water : Addr
  fd_need_water : FuncData
  F_need_water : Fun K "need_water" "need_water" s_need_water f_need_water fd_need_water
  m_need_water : mg "need_water" = some (.ref f_need_water)
  b_need_water : Binds K fd_need_water ["floors", "water"] []
  f_History_init : Addr
  fd_History_init : FuncData
  F_History_init : FunT K "__init__" "History.__init__" s_History_init f_History_init fd_History_init [.none]
  b_History_init : Binds K fd_History_init ["self", "floors", "water"] []
  bd1_History_init : Binds K fd_History_init ["self", "floors", "water"] [.none]
  df1_History_init : Dfl K [.non] [.non] [.none]
  f_law_shut_m : Addr
  fd_law_shut_m : FuncData
  F_law_shut_m : Fun K "_law_shut" "_law_shut" s_law_shut_m f_law_shut_m fd_law_shut_m
  m_law_shut_m : mg "_law_shut" = some (.ref f_law_shut_m)
  b_law_shut_m : Binds K fd_law_shut_m ["deck", "tanks"] []
  f_law_sum_v1 : Addr
  fd_law_sum_v1 : FuncData
  F_law_sum_v1 : Fun K "_law_sum" "_law_sum" s_law_sum_v1 f_law_sum_v1 fd_law_sum_v1
  m_law_sum_v1 : mg "_law_sum" = some (.ref f_law_sum_v1)
  b_law_sum_v1 : Binds K fd_law_sum_v1 ["one", "other"] []
  f_law_heap_v1 : Addr
  fd_law_heap_v1 : FuncData
  F_law_heap_v1 : Fun K "_law_heap" "_law_heap" s_law_heap_v1 f_law_heap_v1 fd_law_heap_v1
  m_law_heap_v1 : mg "_law_heap" = some (.ref f_law_heap_v1)
  b_law_heap_v1 : Binds K fd_law_heap_v1 ["amounts"] []
  f_law_slope : Addr
  fd_law_slope : FuncData
  F_law_slope : Fun K "_law_slope" "_law_slope" s_law_slope f_law_slope fd_law_slope
  m_law_slope : mg "_law_slope" = some (.ref f_law_slope)
  b_law_slope : Binds K fd_law_slope ["one", "other", "wide"] []
  f_law_rest_v2 : Addr
  fd_law_rest_v2 : FuncData
  F_law_rest_v2 : Fun K "_law_rest" "_law_rest" s_law_rest_v2 f_law_rest_v2 fd_law_rest_v2
  m_law_rest_v2 : mg "_law_rest" = some (.ref f_law_rest_v2)
  b_law_rest_v2 : Binds K fd_law_rest_v2 ["tanks", "amounts", "shut"] []
  f_law_both_g : Addr
  fd_law_both_g : FuncData
  F_law_both_g : Fun K "_law_both" "_law_both" s_law_both_g f_law_both_g fd_law_both_g
  m_law_both_g : mg "_law_both" = some (.ref f_law_both_g)
  b_law_both_g : Binds K fd_law_both_g ["some", "others"] []
  f_need_flaps : Addr
  fd_need_flaps : FuncData
  F_need_flaps : Fun K "need_flaps" "need_flaps" s_need_flaps f_need_flaps fd_need_flaps
  m_need_flaps : mg "need_flaps" = some (.ref f_need_flaps)
  b_need_flaps : Binds K fd_need_flaps ["floors", "bolted"] []
  f_lowest : Addr
  fd_lowest : FuncData
  F_lowest : Fun K "lowest" "lowest" s_lowest f_lowest fd_lowest
  m_lowest : mg "lowest" = some (.ref f_lowest)
  b_lowest : Binds K fd_lowest ["top", "bottom"] []
  f_add : Addr
  fd_add : FuncData
  F_add : Fun K "add" "add" s_add f_add fd_add
  m_add : mg "add" = some (.ref f_add)
  b_add : Binds K fd_add ["one", "other"] []
  f_stretches : Addr
  fd_stretches : FuncData
  F_stretches : Fun K "stretches" "stretches" s_stretches f_stretches fd_stretches
  m_stretches : mg "stretches" = some (.ref f_stretches)
  b_stretches : Binds K fd_stretches ["floors", "bolted"] []
  f_by : Addr
  fd_by : FuncData
  F_by : Fun K "by" "by" s_by f_by fd_by
  m_by : mg "by" = some (.ref f_by)
  b_by : Binds K fd_by ["one", "whole"] []
  f_pools_of : Addr
  fd_pools_of : FuncData
  F_pools_of : Fun K "pools_of" "pools_of" s_pools_of f_pools_of fd_pools_of
  m_pools_of : mg "pools_of" = some (.ref f_pools_of)
  b_pools_of : Binds K fd_pools_of ["floors", "water"] []
  f_rest_of : Addr
  fd_rest_of : FuncData
  F_rest_of : Fun K "rest_of" "rest_of" s_rest_of f_rest_of fd_rest_of
  m_rest_of : mg "rest_of" = some (.ref f_rest_of)
  b_rest_of : Binds K fd_rest_of ["floors", "water"] []
  e0_settled : Addr
  f_settled : Addr
  fd_settled : FuncData
  F_settled : FunT K "settled" "settled" s_settled f_settled fd_settled [.ref e0_settled]
  m_settled : mg "settled" = some (.ref f_settled)
  b_settled : Binds K fd_settled ["floors", "water", "bolted"] []
  bd1_settled : Binds K fd_settled ["floors", "water", "bolted"] [.ref e0_settled]
  df1_settled : Dfl K [(.tup [])] [.ref e0_settled] [.ref e0_settled]
  f_History_step : Addr
  fd_History_step : FuncData
  F_History_step : Fun K "step" "History.step" s_History_step f_History_step fd_History_step
  b_History_step : Binds K fd_History_step ["self", "bolted", "rain"] []
  f_law_same_v1 : Addr
  fd_law_same_v1 : FuncData
  F_law_same_v1 : Fun K "_law_same" "_law_same" s_law_same_v1 f_law_same_v1 fd_law_same_v1
  m_law_same_v1 : mg "_law_same" = some (.ref f_law_same_v1)
  b_law_same_v1 : Binds K fd_law_same_v1 ["found", "due"] []
  f_History_water_m : Addr
  fd_History_water_m : FuncData
  F_History_water_m : FunT K "water" "History.water" s_History_water_m f_History_water_m fd_History_water_m [.none]
  b_History_water_m : Binds K fd_History_water_m ["self", "number"] []
  bd1_History_water_m : Binds K fd_History_water_m ["self", "number"] [.none]
  df1_History_water_m : Dfl K [.non] [.non] [.none]
  f_History_steps_m : Addr
  fd_History_steps_m : FuncData
  F_History_steps_m : Fun K "steps" "History.steps" s_History_steps_m f_History_steps_m fd_History_steps_m
  b_History_steps_m : Binds K fd_History_steps_m ["self"] []
  f_heaped_up : Addr
  fd_heaped_up : FuncData
  F_heaped_up : Fun K "heaped_up" "heaped_up" s_heaped_up f_heaped_up fd_heaped_up
  m_heaped_up : mg "heaped_up" = some (.ref f_heaped_up)
  b_heaped_up : Binds K fd_heaped_up ["water"] []
  f_History_left : Addr
  fd_History_left : FuncData
  F_History_left : Fun K "left" "History.left" s_History_left f_History_left fd_History_left
  b_History_left : Binds K fd_History_left ["self", "k"] []
  f_History_floors_m : Addr
  fd_History_floors_m : FuncData
  F_History_floors_m : Fun K "floors" "History.floors" s_History_floors_m f_History_floors_m fd_History_floors_m
  b_History_floors_m : Binds K fd_History_floors_m ["self"] []
  f_law_right_v1 : Addr
  fd_law_right_v1 : FuncData
  F_law_right_v1 : Fun K "_law_right" "_law_right" s_law_right_v1 f_law_right_v1 fd_law_right_v1
  m_law_right_v1 : mg "_law_right" = some (.ref f_law_right_v1)
  b_law_right_v1 : Binds K fd_law_right_v1 ["made", "tanks", "stands", "done"] []
  f_law_k08 : Addr
  fd_law_k08 : FuncData
  F_law_k08 : Fun K "law" "law" s_law_k08 f_law_k08 fd_law_k08
  m_law_k08 : mg "law" = some (.ref f_law_k08)
  b_law_k08 : Binds K fd_law_k08 ["script"] []
  mkH : Mk K CH f_History_init
  mt_floors : Meth K CH "floors" f_History_floors_m
  mt_left : Meth K CH "left" f_History_left
  mt_step : Meth K CH "step" f_History_step
  mt_steps : Meth K CH "steps" f_History_steps_m
  mt_water : Meth K CH "water" f_History_water_m
  kb_History_left_1_k : BK K fd_History_left ["self", "k"] 1 ["k"] [0, 1] []
  kb_History_water_m_1_number : BK K fd_History_water_m ["self", "number"] 1 ["number"] [0, 1] []
  kb_History_init_1_water_floors : BK K fd_History_init ["self", "floors", "water"] 1 ["water", "floors"] [0, 2, 1] []
  kb_History_init_1_floors : BK K fd_History_init ["self", "floors", "water"] 1 ["floors"] [0, 1, 2] [.none]
  kb_History_step_1_rain_bolted : BK K fd_History_step ["self", "bolted", "rain"] 1 ["rain", "bolted"] [0, 2, 1] []
  n_abs : mg "abs" = none
  n_all : mg "all" = none
  n_bool : mg "bool" = none
  n_enumerate : mg "enumerate" = none
  n_isinstance : mg "isinstance" = none
  n_len : mg "len" = none
  n_list : mg "list" = none
  n_min : mg "min" = none
  n_range : mg "range" = none
  n_sorted : mg "sorted" = none
  n_tuple : mg "tuple" = none
  n_zip : mg "zip" = none
  c_NOUGHT : GlC K mg "NOUGHT" (.tup [(.int 0), (.int 1)])
section
variable {P : Program} {w : World} {K : PySem.W.Frag} {mg : Str → Option Value} {base : Heap}
theorem g_law_deck (T : Txt K mg) : FnOk P w K mg base CX0 1 T.f_law_deck T.fd_law_deck ["script"] (liftF K F_law_deck) := by
  have S := sc_law_deck
  exact fn_ok (k := 0) T.F_law_deck S len_law_deck (fun cdv A outer s H E hr =>
    (ss_cons (s_set (i := 1) (e_lst true a_nil) S.nd)
  (ss_cons (s_set (i := 2) ec_int S.nd)
  (ss_cons (s_for (i_list (ev 0)) (g_name (i := 3) S.nd)
  (ss_cons (s_set (i := 2) (e_mod (e_add false (e_mul (ev 2) ec_int) (ev 3)) ec_int) S.nd)
  (ss_one (s_if (t_ge (e_abs T.n_abs (a_cons (ev 3) a_nil)) (e_pow ec_int ec_int))
  (ss_one (s_expr (e_insert (ev 1) (a_cons ec_int (a_cons (e_sub (e_abs T.n_abs (a_cons (ev 3) a_nil)) (e_pow ec_int ec_int)) a_nil)))))
  ss_nil))) rfl PassesOwn.never)
  (ss_one (s_ret (e_lst true (a_cons (ev 1) (a_cons (ev 2) (a_cons ec_int a_nil)))))))))) ok_law_deck
theorem g_law_take (T : Txt K mg) : FnOk P w K mg base CX0 1 T.f_law_take T.fd_law_take ["deck", "many"] (liftF K F_law_take) := by
  have S := sc_law_take
  exact fn_ok (k := 0) T.F_law_take S len_law_take (fun cdv A outer s H E hr =>
    (ss_open 0 (ss_cons (s_while (w_and (t_ne hr (e_ix (ev 0) ec_int) (e_lst false a_nil)) (w_and1 (t_lt (e_ix (e_ix (ev 0) ec_int) (e_neg ec_int)) ec_int))).pt
  (ss_one (s_expr (e_pop (e_ix (ev 0) ec_int)))) PassesOwn.never)
  (ss_cons (s_if (t_ne hr (e_ix (ev 0) ec_int) (e_lst false a_nil))
  (ss_cons (s_set (i := 2) (e_mod (e_ix (e_ix (ev 0) ec_int) (e_neg ec_int)) (ev 1)) S.nd)
  (ss_cons (s_asg (e_fdiv (e_ix (e_ix (ev 0) ec_int) (e_neg ec_int)) (ev 1)) (g_ix (e_ix (ev 0) ec_int) (e_neg ec_int)))
  (ss_one (s_ret (ev 2)))))
  ss_nil)
  (ss_cons (s_asg (e_add false (e_ix (ev 0) ec_int) ec_int) (g_ix (ev 0) ec_int))
  (ss_cons (s_set (i := 3) (e_ix (ev 0) ec_int) S.nd)
  (ss_cons (s_set (i := 4) (e_add false (e_mul (e_add false (e_ix (ev 0) ec_int) ec_int) (e_pow (e_add false (ev 3) ec_int) ec_int)) (e_mul ec_int (ev 3))) S.nd)
  (ss_one (s_ret (e_mod (e_fdiv (e_mod (e_pow (e_mod (ev 4) ec_int) ec_int) ec_int) ec_int) (ev 1))))))))))) ok_law_take
theorem g_law_tanks (T : Txt K mg) : FnOk P w K mg base CX0 2 T.f_law_tanks T.fd_law_tanks ["deck", "most"] (liftF K F_law_tanks) := by
  have S := sc_law_tanks
  have G_law_take := g_law_take (P := P) (w := w) (base := base) T
  exact fn_ok (k := 1) T.F_law_tanks S len_law_tanks (fun cdv A outer s H E hr =>
    (ss_cons (s_asg (e_tup (a_cons (e_add false ec_int (e_call G_law_take hr (by decide) T.m_law_take T.F_law_take.kp T.b_law_take Dfl.nil (a_cons (ev 0) (a_cons (ev 1) a_nil)))) (a_cons (e_call G_law_take hr (by decide) T.m_law_take T.F_law_take.kp T.b_law_take Dfl.nil (a_cons (ev 0) (a_cons ec_int a_nil))) a_nil))) (g_tup (n := 2) (gs_cons (g_name (i := 2) S.nd) (gs_cons (g_name (i := 3) S.nd) gs_nil)) rfl))
  (ss_one (s_ret (e_lc false (own := [("tank", 4)]) rfl S.nd (blkOk_by (own := [("tank", 4)]) (by first | decide +kernel | rfl)) (i_range1 T.n_range (a_cons (ev 2) a_nil)) (fun _ _ _ _ _ => (pg_name (i := 4) S.nd rfl (by first | exact Or.inl rfl | exact Or.inr rfl))) (okw_name (by decide)) (fun _ _ _ _ _ => ts_nil) (fun _ _ _ _ _ => (e_add false ec_int (e_call G_law_take hr (by decide) T.m_law_take T.F_law_take.kp T.b_law_take Dfl.nil (a_cons (ev 0) (a_cons (e_ix (e_lst false (a_cons ec_int (a_cons ec_int (a_cons ec_int a_nil)))) (ev 3)) a_nil)))))))))) ok_law_tanks
theorem g_law_low_v2 (T : Txt K mg) : FnOk P w K mg base CX0 1 T.f_law_low_v2 T.fd_law_low_v2 ["top", "bottom"] (liftF K F_law_low_v2) := by
  have S := sc_law_low_v2
  exact fn_ok (k := 0) T.F_law_low_v2 S len_law_low_v2 (fun cdv A outer s H E hr =>
    (ss_cons (s_par (i := 2) (j := 3) (a_cons (e_abs T.n_abs (a_cons (ev 0) a_nil)) (a_cons (ev 1) a_nil)) rfl S.nd)
  (ss_cons (s_while (t_ne hr (ev 3) ec_int)
  (ss_one (s_par (i := 2) (j := 3) (a_cons (ev 3) (a_cons (e_mod (ev 2) (ev 3)) a_nil)) rfl S.nd)) PassesOwn.never)
  (ss_one (s_ret (e_tup (a_cons (e_fdiv (ev 0) (ev 2)) (a_cons (e_fdiv (ev 1) (ev 2)) a_nil)))))))) ok_law_low_v2
theorem g_law_amount_v3 (T : Txt K mg) : FnOk P w K mg base CX0 2 T.f_law_amount_v3 T.fd_law_amount_v3 ["deck"] (liftF K F_law_amount_v3) := by
  have S := sc_law_amount_v3
  have G_law_take := g_law_take (P := P) (w := w) (base := base) T
  have G_law_low_v2 := g_law_low_v2 (P := P) (w := w) (base := base) T
  exact fn_ok (k := 1) T.F_law_amount_v3 S len_law_amount_v3 (fun cdv A outer s H E hr =>
    (ss_cons (s_set (i := 1) (e_lst false (a_cons ec_int (a_cons (e_call G_law_take hr (by decide) T.m_law_take T.F_law_take.kp T.b_law_take Dfl.nil (a_cons (ev 0) (a_cons ec_int a_nil))) (a_cons (e_call G_law_take hr (by decide) T.m_law_take T.F_law_take.kp T.b_law_take Dfl.nil (a_cons (ev 0) (a_cons ec_int a_nil))) (a_cons (e_add false (e_mul (e_call G_law_take hr (by decide) T.m_law_take T.F_law_take.kp T.b_law_take Dfl.nil (a_cons (ev 0) (a_cons (e_pow ec_int ec_int) a_nil))) (e_pow ec_int ec_int)) (e_call G_law_take hr (by decide) T.m_law_take T.F_law_take.kp T.b_law_take Dfl.nil (a_cons (ev 0) (a_cons (e_pow ec_int ec_int) a_nil)))) a_nil))))) S.nd)
  (ss_cons (s_set (i := 2) (e_call G_law_take hr (by decide) T.m_law_take T.F_law_take.kp T.b_law_take Dfl.nil (a_cons (ev 0) (a_cons ec_int a_nil))) S.nd)
  (ss_one (s_ret (e_call G_law_low_v2 hr (by decide) T.m_law_low_v2 T.F_law_low_v2.kp T.b_law_low_v2 Dfl.nil (a_cons (e_ix (ev 1) (ev 2)) (a_cons (e_ix (e_lst false (a_cons ec_int (a_cons ec_int (a_cons (e_add false ec_int (e_call G_law_take hr (by decide) T.m_law_take T.F_law_take.kp T.b_law_take Dfl.nil (a_cons (ev 0) (a_cons ec_int a_nil)))) (a_cons (e_add false ec_int (e_call G_law_take hr (by decide) T.m_law_take T.F_law_take.kp T.b_law_take Dfl.nil (a_cons (ev 0) (a_cons ec_int a_nil)))) a_nil))))) (ev 2)) a_nil)))))))) ok_law_amount_v3
theorem g_law_fall_m (T : Txt K mg) : FnOk P w K mg base CX0 3 T.f_law_fall_m T.fd_law_fall_m ["deck", "tanks"] (liftF K F_law_fall_m) := by
  have S := sc_law_fall_m
  have G_law_take := g_law_take (P := P) (w := w) (base := base) T
  have G_law_amount_v3 := g_law_amount_v3 (P := P) (w := w) (base := base) T
  exact fn_ok (k := 2) T.F_law_fall_m S len_law_fall_m (fun cdv A outer s H E hr =>
    (ss_cons (s_set (i := 2) (e_call G_law_take hr (by decide) T.m_law_take T.F_law_take.kp T.b_law_take Dfl.nil (a_cons (ev 0) (a_cons ec_int a_nil))) S.nd)
  (ss_cons (s_if (t_eq hr (ev 2) ec_int)
  (ss_one (s_ret (e_lc true (own := [("wide", 5)]) rfl S.nd (blkOk_by (own := [("wide", 5)]) (by first | decide +kernel | rfl)) (i_list (ev 1)) (fun _ _ _ _ _ => (pg_name (i := 5) S.nd rfl (by first | exact Or.inl rfl | exact Or.inr rfl))) (okw_name (by decide)) (fun _ _ _ _ _ => ts_nil) (fun _ _ _ _ _ => (e_tup (a_cons ec_int (a_cons ec_int a_nil)))))))
  ss_nil)
  (ss_cons (s_set (i := 3) (e_lc true (own := [("wide", 5)]) rfl S.nd (blkOk_by (own := [("wide", 5)]) (by first | decide +kernel | rfl)) (i_list (ev 1)) (fun _ _ _ _ _ => (pg_name (i := 5) S.nd rfl (by first | exact Or.inl rfl | exact Or.inr rfl))) (okw_name (by decide)) (fun _ _ _ _ _ => ts_nil) (fun _ _ _ _ _ => (e_call G_law_amount_v3 hr (by decide) T.m_law_amount_v3 T.F_law_amount_v3.kp T.b_law_amount_v3 Dfl.nil (a_cons (ev 0) a_nil)))) S.nd)
  (ss_cons (s_if (t_lt (ev 2) ec_int)
  (ss_cons (s_set (i := 4) (e_ix (e_lst false (a_cons ec_int (a_cons (e_sub (e_len T.n_len (a_cons (ev 1) a_nil)) ec_int) (a_cons (e_call G_law_take hr (by decide) T.m_law_take T.F_law_take.kp T.b_law_take Dfl.nil (a_cons (ev 0) (a_cons (e_len T.n_len (a_cons (ev 1) a_nil)) a_nil))) a_nil)))) (e_call G_law_take hr (by decide) T.m_law_take T.F_law_take.kp T.b_law_take Dfl.nil (a_cons (ev 0) (a_cons ec_int a_nil)))) S.nd)
  (ss_one (s_set (i := 3) (e_lc true (own := [("tank", 6)]) rfl S.nd (blkOk_by (own := [("tank", 6)]) (by first | decide +kernel | rfl)) (i_range1 T.n_range (a_cons (e_len T.n_len (a_cons (ev 1) a_nil)) a_nil)) (fun _ _ _ _ _ => (pg_name (i := 6) S.nd rfl (by first | exact Or.inl rfl | exact Or.inr rfl))) (okw_name (by decide)) (fun _ _ _ _ _ => ts_nil) (fun _ _ _ _ _ => (e_if (t_eq hr (ev 6) (ev 4)) (e_ix (ev 3) (ev 6)) (e_tup (a_cons ec_int (a_cons ec_int a_nil)))))) S.nd)))
  ss_nil)
  (ss_cons (s_if (w_and (t_lt (ev 2) ec_int) (w_and1 (t_gt (ev 2) ec_int))).pt
  (ss_one (s_set (i := 3) (e_lc true (own := [("wide", 5)]) rfl S.nd (blkOk_by (own := [("wide", 5)]) (by first | decide +kernel | rfl)) (i_list (ev 1)) (fun _ _ _ _ _ => (pg_name (i := 5) S.nd rfl (by first | exact Or.inl rfl | exact Or.inr rfl))) (okw_name (by decide)) (fun _ _ _ _ _ => ts_nil) (fun _ _ _ _ _ => (e_tup (a_cons (e_mul (ev 5) (e_call G_law_take hr (by decide) T.m_law_take T.F_law_take.kp T.b_law_take Dfl.nil (a_cons (ev 0) (a_cons ec_int a_nil)))) (a_cons ec_int a_nil))))) S.nd))
  ss_nil)
  (ss_one (s_ret (ev 3))))))))) ok_law_fall_m
theorem g_need_floors (T : Txt K mg) : FnOk P w K mg base CX0 1 T.f_need_floors T.fd_need_floors ["floors"] (liftF K F_need_floors) := by
  have S := sc_need_floors
  exact fn_ok (k := 0) T.F_need_floors S len_need_floors (fun cdv A outer s H E hr =>
    (ss_cons (s_if (t_eq hr (e_len T.n_len (a_cons (ev 0) a_nil)) ec_int)
  (ss_one s_never)
  ss_nil)
  (ss_one (s_for (i_enum T.n_enumerate (a_cons (ev 0) a_nil)) (g_tup (n := 2) (gs_cons (g_name (i := 1) S.nd) (gs_cons (g_name (i := 2) S.nd) gs_nil)) rfl)
  (ss_one (s_if (t_lt (ev 2) ec_int)
  (ss_one s_never)
  ss_nil)) rfl PassesOwn.never)))) ok_need_floors
theorem g_is_below (T : Txt K mg) : FnOk P w K mg base CX0 1 T.f_is_below T.fd_is_below ["one", "other"] (liftF K F_is_below) := by
  have S := sc_is_below
  exact fn_ok (k := 0) T.F_is_below S len_is_below (fun cdv A outer s H E hr =>
    (ss_one (s_ret (e_lt (e_mul (e_ix (ev 0) ec_int) (e_ix (ev 1) ec_int)) (e_mul (e_ix (ev 1) ec_int) (e_ix (ev 0) ec_int)))))) ok_is_below
theorem g_need_water (T : Txt K mg) : FnOk P w K mg base CX0 2 T.f_need_water T.fd_need_water ["floors", "water"] (liftF K F_need_water) := by
  have S := sc_need_water
  have G_is_below := g_is_below (P := P) (w := w) (base := base) T
  exact fn_ok (k := 1) T.F_need_water S len_need_water (fun cdv A outer s H E hr =>
    (ss_cons (s_if (t_ne hr (e_len T.n_len (a_cons (ev 1) a_nil)) (e_len T.n_len (a_cons (ev 0) a_nil)))
  (ss_one s_never)
  ss_nil)
  (ss_one (s_for (i_enum T.n_enumerate (a_cons (ev 1) a_nil)) (g_tup (n := 2) (gs_cons (g_name (i := 2) S.nd) (gs_cons (g_name (i := 3) S.nd) gs_nil)) rfl)
  (ss_one (s_if (t_val (e_call G_is_below hr (by decide) T.m_is_below T.F_is_below.kp T.b_is_below Dfl.nil (a_cons (ev 3) (a_cons (eg T.c_NOUGHT) a_nil))))
  (ss_one s_never)
  ss_nil)) rfl PassesOwn.never)))) ok_need_water
theorem g_History_init (T : Txt K mg) : FnOk P w K mg base CX0 3 T.f_History_init T.fd_History_init ["self", "floors", "water"] (liftF K (F_History_init T.CH)) := by
  have S := sc_History_init
  have G_need_floors := g_need_floors (P := P) (w := w) (base := base) T
  have G_need_water := g_need_water (P := P) (w := w) (base := base) T
  exact fn_okT (k := 2) T.F_History_init S (len_History_init T.CH) (fun cdv A outer s H E hr =>
    (ss_cons (s_expr (e_call G_need_floors hr (by decide) T.m_need_floors T.F_need_floors.kp T.b_need_floors Dfl.nil (a_cons (ev 1) a_nil)))
  (ss_cons (s_set (i := 3) (e_if (t_isN (ev 2) ec_non) (e_lc false (own := [("floor", 4)]) rfl S.nd (blkOk_by (own := [("floor", 4)]) (by first | decide +kernel | rfl)) (i_list (ev 1)) (fun _ _ _ _ _ => (pg_name (i := 4) S.nd rfl (by first | exact Or.inl rfl | exact Or.inr rfl))) (okw_name (by decide)) (fun _ _ _ _ _ => ts_nil) (fun _ _ _ _ _ => (eg T.c_NOUGHT))) (e_list false T.n_list (a_cons (ev 2) a_nil))) S.nd)
  (ss_cons (s_expr (e_call G_need_water hr (by decide) T.m_need_water T.F_need_water.kp T.b_need_water Dfl.nil (a_cons (ev 1) (a_cons (ev 3) a_nil))))
  (ss_cons (s_fld T.cl T.nF_floors_held (ev 0) (e_list true T.n_list (a_cons (ev 1) a_nil)))
  (ss_cons (s_fld T.cl T.nF_waters_held (ev 0) (e_lst true (a_cons (ev 3) a_nil)))
  (ss_one (s_fld T.cl T.nF_steps_held (ev 0) (e_lst true a_nil))))))))) (ok_History_init T.CH)
theorem g_law_shut_m (T : Txt K mg) : FnOk P w K mg base CX0 2 T.f_law_shut_m T.fd_law_shut_m ["deck", "tanks"] (liftF K F_law_shut_m) := by
  have S := sc_law_shut_m
  have G_law_take := g_law_take (P := P) (w := w) (base := base) T
  exact fn_ok (k := 1) T.F_law_shut_m S len_law_shut_m (fun cdv A outer s H E hr =>
    (ss_cons (s_set (i := 2) (e_lrange2 true rfl T.n_list T.n_range ec_int (e_len T.n_len (a_cons (ev 1) a_nil))) S.nd)
  (ss_cons (s_set (i := 3) (e_ix (e_lst false (a_cons ec_int (a_cons (e_len T.n_len (a_cons (ev 2) a_nil)) (a_cons (e_call G_law_take hr (by decide) T.m_law_take T.F_law_take.kp T.b_law_take Dfl.nil (a_cons (ev 0) (a_cons (e_len T.n_len (a_cons (ev 1) a_nil)) a_nil))) (a_cons (e_call G_law_take hr (by decide) T.m_law_take T.F_law_take.kp T.b_law_take Dfl.nil (a_cons (ev 0) (a_cons (e_len T.n_len (a_cons (ev 1) a_nil)) a_nil))) a_nil))))) (e_call G_law_take hr (by decide) T.m_law_take T.F_law_take.kp T.b_law_take Dfl.nil (a_cons (ev 0) (a_cons ec_int a_nil)))) S.nd)
  (ss_one (s_ret (e_lc true (own := [("turn", 4)]) rfl S.nd (blkOk_by (own := [("turn", 4)]) (by first | decide +kernel | rfl)) (i_range1 T.n_range (a_cons (ev 3) a_nil)) (fun _ _ _ _ _ => (pg_name (i := 4) S.nd rfl (by first | exact Or.inl rfl | exact Or.inr rfl))) (okw_name (by decide)) (fun _ _ _ _ _ => ts_nil) (fun _ _ _ _ _ => (e_popI (ev 2) (a_cons (e_call G_law_take hr (by decide) T.m_law_take T.F_law_take.kp T.b_law_take Dfl.nil (a_cons (ev 0) (a_cons (e_len T.n_len (a_cons (ev 2) a_nil)) a_nil))) a_nil))))))))) ok_law_shut_m
theorem g_law_sum_v1 (T : Txt K mg) : FnOk P w K mg base CX0 2 T.f_law_sum_v1 T.fd_law_sum_v1 ["one", "other"] (liftF K F_law_sum_v1) := by
  have S := sc_law_sum_v1
  have G_law_low_v2 := g_law_low_v2 (P := P) (w := w) (base := base) T
  exact fn_ok (k := 1) T.F_law_sum_v1 S len_law_sum_v1 (fun cdv A outer s H E hr =>
    (ss_one (s_ret (e_call G_law_low_v2 hr (by decide) T.m_law_low_v2 T.F_law_low_v2.kp T.b_law_low_v2 Dfl.nil (a_cons (e_add false (e_mul (e_ix (ev 0) ec_int) (e_ix (ev 1) ec_int)) (e_mul (e_ix (ev 1) ec_int) (e_ix (ev 0) ec_int))) (a_cons (e_mul (e_ix (ev 0) ec_int) (e_ix (ev 1) ec_int)) a_nil)))))) ok_law_sum_v1
theorem g_law_heap_v1 (T : Txt K mg) : FnOk P w K mg base CX0 3 T.f_law_heap_v1 T.fd_law_heap_v1 ["amounts"] (liftF K F_law_heap_v1) := by
  have S := sc_law_heap_v1
  have G_law_sum_v1 := g_law_sum_v1 (P := P) (w := w) (base := base) T
  exact fn_ok (k := 2) T.F_law_heap_v1 S len_law_heap_v1 (fun cdv A outer s H E hr =>
    (ss_cons (s_set (i := 1) (e_lst true (a_cons (e_tup (a_cons ec_int (a_cons ec_int a_nil))) a_nil)) S.nd)
  (ss_cons (s_for (i_list (ev 0)) (g_name (i := 2) S.nd)
  (ss_one (s_expr (e_append (ev 1) (a_cons (e_call G_law_sum_v1 hr (by decide) T.m_law_sum_v1 T.F_law_sum_v1.kp T.b_law_sum_v1 Dfl.nil (a_cons (e_ix (ev 1) (e_neg ec_int)) (a_cons (ev 2) a_nil))) a_nil)))) rfl PassesOwn.never)
  (ss_one (s_ret (e_frz (ev 1))))))) ok_law_heap_v1
theorem g_law_slope (T : Txt K mg) : FnOk P w K mg base CX0 2 T.f_law_slope T.fd_law_slope ["one", "other", "wide"] (liftF K F_law_slope) := by
  have S := sc_law_slope
  have G_law_low_v2 := g_law_low_v2 (P := P) (w := w) (base := base) T
  exact fn_ok (k := 1) T.F_law_slope S len_law_slope (fun cdv A outer s H E hr =>
    (ss_one (s_ret (e_call G_law_low_v2 hr (by decide) T.m_law_low_v2 T.F_law_low_v2.kp T.b_law_low_v2 Dfl.nil (a_cons (e_sub (e_mul (e_ix (ev 1) ec_int) (e_ix (ev 0) ec_int)) (e_mul (e_ix (ev 0) ec_int) (e_ix (ev 1) ec_int))) (a_cons (e_mul (e_mul (e_ix (ev 0) ec_int) (e_ix (ev 1) ec_int)) (ev 2)) a_nil)))))) ok_law_slope
theorem g_law_rest_v2 (T : Txt K mg) : FnOk P w K mg base CX0 4 T.f_law_rest_v2 T.fd_law_rest_v2 ["tanks", "amounts", "shut"] (liftF K F_law_rest_v2) := by
  have S := sc_law_rest_v2
  have G_law_heap_v1 := g_law_heap_v1 (P := P) (w := w) (base := base) T
  have G_law_slope := g_law_slope (P := P) (w := w) (base := base) T
  have G_law_low_v2 := g_law_low_v2 (P := P) (w := w) (base := base) T
  exact fn_ok (k := 3) T.F_law_rest_v2 S len_law_rest_v2 (fun cdv A outer s H E hr =>
    (ss_cons (s_par (i := 3) (j := 4) (a_cons (e_call G_law_heap_v1 hr (by decide) T.m_law_heap_v1 T.F_law_heap_v1.kp T.b_law_heap_v1 Dfl.nil (a_cons (ev 1) a_nil)) (a_cons (e_lst true (a_cons ec_int a_nil)) a_nil)) rfl S.nd)
  (ss_cons (s_for (i_list (ev 0)) (g_name (i := 5) S.nd)
  (ss_one (s_expr (e_append (ev 4) (a_cons (e_add false (e_ix (ev 4) (e_neg ec_int)) (ev 5)) a_nil)))) rfl PassesOwn.never)
  (ss_cons (s_par (i := 6) (j := 7) (a_cons (e_lst true a_nil) (a_cons ec_int a_nil)) rfl S.nd)
  (ss_cons (s_for (i_list (e_add false (e_sorted false T.n_sorted (a_cons (ev 2) a_nil)) (e_lst false (a_cons (e_len T.n_len (a_cons (ev 0) a_nil)) a_nil)))) (g_name (i := 8) S.nd)
  (ss_one (s_while (t_lt (ev 7) (ev 8))
  (ss_cons (s_asg (e_tup (a_cons ec_non (a_cons (ev 7) a_nil))) (g_tup (n := 2) (gs_cons (g_name (i := 9) S.nd) (gs_cons (g_name (i := 10) S.nd) gs_nil)) rfl))
  (ss_cons (s_for (i_range2 T.n_range (a_cons (e_add false (ev 7) ec_int) (a_cons (e_add false (ev 8) ec_int) a_nil))) (g_name (i := 11) S.nd)
  (ss_cons (s_set (i := 12) (e_call G_law_slope hr (by decide) T.m_law_slope T.F_law_slope.kp T.b_law_slope Dfl.nil (a_cons (e_ix (ev 3) (ev 7)) (a_cons (e_ix (ev 3) (ev 11)) (a_cons (e_sub (e_ix (ev 4) (ev 11)) (e_ix (ev 4) (ev 7))) a_nil)))) S.nd)
  (ss_one (s_if (w_or (t_isN (ev 9) ec_non) (w_or1 (t_le (e_mul (e_ix (ev 12) ec_int) (e_ix (ev 9) ec_int)) (e_mul (e_ix (ev 9) ec_int) (e_ix (ev 12) ec_int))))).pt
  (ss_one (s_asg (e_tup (a_cons (ev 12) (a_cons (ev 11) a_nil))) (g_tup (n := 2) (gs_cons (g_name (i := 9) S.nd) (gs_cons (g_name (i := 10) S.nd) gs_nil)) rfl)))
  ss_nil))) rfl PassesOwn.never)
  (ss_cons (s_expr (e_extend (ev 6) (a_cons (e_lc false (own := [("wide", 5)]) rfl S.nd (blkOk_by (own := [("wide", 5)]) (by first | decide +kernel | rfl)) (i_list (e_cut false (ev 0) (o_some (ev 7)) (o_some (ev 10)))) (fun _ _ _ _ _ => (pg_name (i := 5) S.nd rfl (by first | exact Or.inl rfl | exact Or.inr rfl))) (okw_name (by decide)) (fun _ _ _ _ _ => ts_nil) (fun _ _ _ _ _ => (e_call G_law_low_v2 hr (by decide) T.m_law_low_v2 T.F_law_low_v2.kp T.b_law_low_v2 Dfl.nil (a_cons (e_mul (e_ix (ev 9) ec_int) (ev 5)) (a_cons (e_ix (ev 9) ec_int) a_nil))))) a_nil)))
  (ss_one (s_set (i := 7) (ev 10) S.nd))))) PassesOwn.never)) rfl PassesOwn.never)
  (ss_one (s_ret (e_frz (ev 6))))))))) ok_law_rest_v2
theorem g_law_both_g (T : Txt K mg) : FnOk P w K mg base CX0 3 T.f_law_both_g T.fd_law_both_g ["some", "others"] (liftF K F_law_both_g) := by
  have S := sc_law_both_g
  have G_law_sum_v1 := g_law_sum_v1 (P := P) (w := w) (base := base) T
  exact fn_ok (k := 2) T.F_law_both_g S len_law_both_g (fun cdv A outer s H E hr =>
    (ss_one (s_ret (e_lc false (own := [("one", 2), ("other", 3)]) rfl S.nd (blkOk_by (own := [("one", 2), ("other", 3)]) (by first | decide +kernel | rfl)) (i_zip T.n_zip (a_cons (ev 0) (a_cons (ev 1) a_nil))) (fun _ _ _ _ _ => (pg_tup (n := 2) rfl (pgs_cons (pg_name (i := 2) S.nd rfl (by first | exact Or.inl rfl | exact Or.inr rfl)) (pgs_cons (pg_name (i := 3) S.nd rfl (by first | exact Or.inl rfl | exact Or.inr rfl)) pgs_nil)))) (okw_tup (okws_cons (okw_name (by decide)) (okws_cons (okw_name (by decide)) okws_nil))) (fun _ _ _ _ _ => ts_nil) (fun _ _ _ _ _ => (e_call G_law_sum_v1 hr (by decide) T.m_law_sum_v1 T.F_law_sum_v1.kp T.b_law_sum_v1 Dfl.nil (a_cons (ev 2) (a_cons (ev 3) a_nil)))))))) ok_law_both_g
theorem g_need_flaps (T : Txt K mg) : FnOk P w K mg base CX0 1 T.f_need_flaps T.fd_need_flaps ["floors", "bolted"] (liftF K F_need_flaps) := by
  have S := sc_need_flaps
  exact fn_ok (k := 0) T.F_need_flaps S len_need_flaps (fun cdv A outer s H E hr =>
    (ss_one (s_for (i_enumT T.n_enumerate (a_cons (ev 1) a_nil)) (g_tup (n := 2) (gs_cons (g_name (i := 2) S.nd) (gs_cons (g_name (i := 3) S.nd) gs_nil)) rfl)
  (ss_one (s_if (w_or (t_not (t_ltlt ec_int (ev 3) (e_len T.n_len (a_cons (ev 0) a_nil)))) (w_or1 (t_in (ev 3) (e_cut false (ev 1) o_none (o_some (ev 2)))))).pt
  (ss_one s_never)
  ss_nil)) rfl PassesOwn.never))) ok_need_flaps
theorem g_lowest (T : Txt K mg) : FnOk P w K mg base CX0 1 T.f_lowest T.fd_lowest ["top", "bottom"] (liftF K F_lowest) := by
  have S := sc_lowest
  exact fn_ok (k := 0) T.F_lowest S len_lowest (fun cdv A outer s H E hr =>
    (ss_cons (s_par (i := 2) (j := 3) (a_cons (e_abs T.n_abs (a_cons (ev 0) a_nil)) (a_cons (ev 1) a_nil)) rfl S.nd)
  (ss_cons (s_while (t_gt (ev 2) ec_int)
  (ss_one (s_par (i := 2) (j := 3) (a_cons (e_mod (ev 3) (ev 2)) (a_cons (ev 2) a_nil)) rfl S.nd)) PassesOwn.never)
  (ss_one (s_ret (e_tup (a_cons (e_fdiv (ev 0) (ev 3)) (a_cons (e_fdiv (ev 1) (ev 3)) a_nil)))))))) ok_lowest
theorem g_add (T : Txt K mg) : FnOk P w K mg base CX0 2 T.f_add T.fd_add ["one", "other"] (liftF K F_add) := by
  have S := sc_add
  have G_lowest := g_lowest (P := P) (w := w) (base := base) T
  exact fn_ok (k := 1) T.F_add S len_add (fun cdv A outer s H E hr =>
    (ss_one (s_ret (e_call G_lowest hr (by decide) T.m_lowest T.F_lowest.kp T.b_lowest Dfl.nil (a_cons (e_add false (e_mul (e_ix (ev 0) ec_int) (e_ix (ev 1) ec_int)) (e_mul (e_ix (ev 1) ec_int) (e_ix (ev 0) ec_int))) (a_cons (e_mul (e_ix (ev 0) ec_int) (e_ix (ev 1) ec_int)) a_nil)))))) ok_add
theorem g_stretches (T : Txt K mg) : FnOk P w K mg base CX0 1 T.f_stretches T.fd_stretches ["floors", "bolted"] (liftF K F_stretches) := by
  have S := sc_stretches
  exact fn_ok (k := 0) T.F_stretches S len_stretches (fun cdv A outer s H E hr =>
    (ss_cons (s_set (i := 2) (e_add false (e_add false (e_lst false (a_cons ec_int a_nil)) (e_sortedT false T.n_sorted (a_cons (ev 1) a_nil))) (e_lst false (a_cons (e_len T.n_len (a_cons (ev 0) a_nil)) a_nil))) S.nd)
  (ss_one (s_ret (e_lzip false rfl T.n_list T.n_zip (a_cons (ev 2) (a_cons (e_cut false (ev 2) (o_some ec_int) o_none) a_nil))))))) ok_stretches
theorem g_by (T : Txt K mg) : FnOk P w K mg base CX0 2 T.f_by T.fd_by ["one", "whole"] (liftF K F_by) := by
  have S := sc_by
  have G_lowest := g_lowest (P := P) (w := w) (base := base) T
  exact fn_ok (k := 1) T.F_by S len_by (fun cdv A outer s H E hr =>
    (ss_one (s_ret (e_call G_lowest hr (by decide) T.m_lowest T.F_lowest.kp T.b_lowest Dfl.nil (a_cons (e_ix (ev 0) ec_int) (a_cons (e_mul (e_ix (ev 0) ec_int) (ev 1)) a_nil)))))) ok_by
theorem g_pools_of (T : Txt K mg) : FnOk P w K mg base CX0 3 T.f_pools_of T.fd_pools_of ["floors", "water"] (liftF K F_pools_of) := by
  have S := sc_pools_of
  have G_is_below := g_is_below (P := P) (w := w) (base := base) T
  have G_by := g_by (P := P) (w := w) (base := base) T
  have G_add := g_add (P := P) (w := w) (base := base) T
  exact fn_ok (k := 2) T.F_pools_of S len_pools_of (fun cdv A outer s H E hr =>
    (ss_cons (s_set (i := 2) (e_lst true a_nil) S.nd)
  (ss_cons (s_for (i_zip T.n_zip (a_cons (ev 0) (a_cons (ev 1) a_nil))) (g_tup (n := 2) (gs_cons (g_name (i := 3) S.nd) (gs_cons (g_name (i := 4) S.nd) gs_nil)) rfl)
  (ss_cons (s_while (w_and (t_ne hr (ev 2) (e_lst false a_nil)) (w_and1 (t_val (e_call G_is_below hr (by decide) T.m_is_below T.F_is_below.kp T.b_is_below Dfl.nil (a_cons (e_call G_by hr (by decide) T.m_by T.F_by.kp T.b_by Dfl.nil (a_cons (ev 4) (a_cons (ev 3) a_nil))) (a_cons (e_call G_by hr (by decide) T.m_by T.F_by.kp T.b_by Dfl.nil (a_cons (e_ix (e_ix (ev 2) (e_neg ec_int)) ec_int) (a_cons (e_ix (e_ix (ev 2) (e_neg ec_int)) ec_int) a_nil))) a_nil)))))).pt
  (ss_cons (s_asg (e_pop (ev 2)) (g_tup (n := 2) (gs_cons (g_name (i := 5) S.nd) (gs_cons (g_name (i := 6) S.nd) gs_nil)) rfl))
  (ss_one (s_par (i := 3) (j := 4) (a_cons (e_add false (ev 3) (ev 5)) (a_cons (e_call G_add hr (by decide) T.m_add T.F_add.kp T.b_add Dfl.nil (a_cons (ev 4) (a_cons (ev 6) a_nil))) a_nil)) rfl S.nd))) PassesOwn.never)
  (ss_one (s_expr (e_append (ev 2) (a_cons (e_tup (a_cons (ev 3) (a_cons (ev 4) a_nil))) a_nil))))) rfl PassesOwn.never)
  (ss_one (s_ret (e_frz (ev 2))))))) ok_pools_of
theorem g_rest_of (T : Txt K mg) : FnOk P w K mg base CX0 4 T.f_rest_of T.fd_rest_of ["floors", "water"] (liftF K F_rest_of) := by
  have S := sc_rest_of
  have G_pools_of := g_pools_of (P := P) (w := w) (base := base) T
  have G_lowest := g_lowest (P := P) (w := w) (base := base) T
  exact fn_ok (k := 3) T.F_rest_of S len_rest_of (fun cdv A outer s H E hr =>
    (ss_cons (s_set (i := 2) (e_lst true a_nil) S.nd)
  (ss_cons (s_set (i := 3) ec_int S.nd)
  (ss_cons (s_for (i_list (e_call G_pools_of hr (by decide) T.m_pools_of T.F_pools_of.kp T.b_pools_of Dfl.nil (a_cons (ev 0) (a_cons (ev 1) a_nil)))) (g_tup (n := 2) (gs_cons (g_name (i := 4) S.nd) (gs_cons (g_name (i := 5) S.nd) gs_nil)) rfl)
  (ss_cons (s_set (i := 6) ec_int S.nd)
  (ss_one (s_while (t_lt (ev 6) (ev 4))
  (ss_cons (s_expr (e_append (ev 2) (a_cons (e_call G_lowest hr (by decide) T.m_lowest T.F_lowest.kp T.b_lowest Dfl.nil (a_cons (e_mul (e_ix (ev 5) ec_int) (e_ix (ev 0) (ev 3))) (a_cons (e_mul (e_ix (ev 5) ec_int) (ev 4)) a_nil))) a_nil)))
  (ss_cons (s_aug (i := 6) (e_ix (ev 0) (ev 3)) S.nd)
  (ss_one (s_aug (i := 3) ec_int S.nd)))) PassesOwn.never))) rfl PassesOwn.never)
  (ss_one (s_ret (e_frz (ev 2)))))))) ok_rest_of
theorem g_settled (T : Txt K mg) : FnOk P w K mg base CX0 5 T.f_settled T.fd_settled ["floors", "water", "bolted"] (liftF K F_settled) := by
  have S := sc_settled
  have G_need_floors := g_need_floors (P := P) (w := w) (base := base) T
  have G_need_water := g_need_water (P := P) (w := w) (base := base) T
  have G_need_flaps := g_need_flaps (P := P) (w := w) (base := base) T
  have G_stretches := g_stretches (P := P) (w := w) (base := base) T
  have G_rest_of := g_rest_of (P := P) (w := w) (base := base) T
  exact fn_okT (k := 4) T.F_settled S len_settled (fun cdv A outer s H E hr =>
    (ss_cons (s_expr (e_call G_need_floors hr (by decide) T.m_need_floors T.F_need_floors.kp T.b_need_floors Dfl.nil (a_cons (ev 0) a_nil)))
  (ss_cons (s_expr (e_call G_need_water hr (by decide) T.m_need_water T.F_need_water.kp T.b_need_water Dfl.nil (a_cons (ev 0) (a_cons (ev 1) a_nil))))
  (ss_cons (s_expr (e_call G_need_flaps hr (by decide) T.m_need_flaps T.F_need_flaps.kp T.b_need_flaps Dfl.nil (a_cons (ev 0) (a_cons (ev 2) a_nil))))
  (ss_cons (s_set (i := 3) (e_lst true a_nil) S.nd)
  (ss_cons (s_for (i_list (e_call G_stretches hr (by decide) T.m_stretches T.F_stretches.kp T.b_stretches Dfl.nil (a_cons (ev 0) (a_cons (ev 2) a_nil)))) (g_tup (n := 2) (gs_cons (g_name (i := 4) S.nd) (gs_cons (g_name (i := 5) S.nd) gs_nil)) rfl)
  (ss_one (s_aug (i := 3) (e_call G_rest_of hr (by decide) T.m_rest_of T.F_rest_of.kp T.b_rest_of Dfl.nil (a_cons (e_cut false (ev 0) (o_some (ev 4)) (o_some (ev 5))) (a_cons (e_cut false (ev 1) (o_some (ev 4)) (o_some (ev 5))) a_nil))) S.nd)) rfl PassesOwn.never)
  (ss_one (s_ret (ev 3))))))))) ok_settled
theorem g_History_step (T : Txt K mg) : FnOk P w K mg base CX0 6 T.f_History_step T.fd_History_step ["self", "bolted", "rain"] (liftF K (F_History_step T.CH)) := by
  have S := sc_History_step
  have G_need_flaps := g_need_flaps (P := P) (w := w) (base := base) T
  have G_need_water := g_need_water (P := P) (w := w) (base := base) T
  have G_add := g_add (P := P) (w := w) (base := base) T
  have G_settled := g_settled (P := P) (w := w) (base := base) T
  exact fn_ok (k := 5) T.F_History_step S (len_History_step T.CH) (fun cdv A outer s H E hr =>
    (ss_open 0 (ss_cons (s_set (i := 3) (e_ix (e_fld T.cl T.nF_waters_held (ev 0)) (e_neg ec_int)) S.nd)
  (ss_cons (s_expr (e_call G_need_flaps hr (by decide) T.m_need_flaps T.F_need_flaps.kp T.b_need_flaps Dfl.nil (a_cons (e_fld T.cl T.nF_floors_held (ev 0)) (a_cons (ev 1) a_nil))))
  (ss_cons (s_expr (e_call G_need_water hr (by decide) T.m_need_water T.F_need_water.kp T.b_need_water Dfl.nil (a_cons (e_fld T.cl T.nF_floors_held (ev 0)) (a_cons (ev 2) a_nil))))
  (ss_cons (s_setLc false (i := 4) (own := [("one", 5), ("other", 6)]) rfl S.nd rfl rfl (sw_true rfl rfl rfl (by decide +kernel)) (blkOk_by (own := [("one", 5), ("other", 6)]) (by first | decide +kernel | rfl)) (i_zip T.n_zip (a_cons (ev 3) (a_cons (ev 2) a_nil))) (fun _ _ _ _ _ => (pg_tup (n := 2) rfl (pgs_cons (pg_name (i := 5) S.nd rfl (by first | exact Or.inl rfl | exact Or.inr rfl)) (pgs_cons (pg_name (i := 6) S.nd rfl (by first | exact Or.inl rfl | exact Or.inr rfl)) pgs_nil)))) (okw_tup (okws_cons (okw_name (by decide)) (okws_cons (okw_name (by decide)) okws_nil))) (fun _ _ _ _ _ => ts_nil) (fun _ _ _ _ _ => (e_call G_add hr (by decide) T.m_add T.F_add.kp T.b_add Dfl.nil (a_cons (ev 5) (a_cons (ev 6) a_nil)))))
  (ss_cons (s_expr (e_append (e_fld T.cl T.nF_waters_held (ev 0)) (a_cons (e_frz (e_call G_settled hr (by decide) T.m_settled T.F_settled.kp T.b_settled Dfl.nil (a_cons (e_fld T.cl T.nF_floors_held (ev 0)) (a_cons (ev 4) (a_cons (ev 1) a_nil))))) a_nil)))
  (ss_one (s_expr (e_append (e_fld T.cl T.nF_steps_held (ev 0)) (a_cons (e_tup (a_cons (e_sorted false T.n_sorted (a_cons (ev 1) a_nil)) (a_cons (e_list false T.n_list (a_cons (ev 2) a_nil)) a_nil))) a_nil))))))))))) (ok_History_step T.CH)
theorem gr_law_same_v1 (T : Txt K mg) : ∀ n : Nat, FnOk P w K mg base CX0 (n + 1) T.f_law_same_v1 T.fd_law_same_v1 ["found", "due"] (liftF K (F_sm1 n)) := by
  have S := sc_law_same_v1
  intro n
  induction n with
  | zero => exact M.FnOk.none (by rintro ds M k x ⟨d, e, _, h, _⟩; exact h)
  | succ n ih =>
    have G_law_same_v1 := ih
    exact fn_ok (k := n + 1) T.F_law_same_v1 S (len_law_same_v1 _) (fun cdv A outer s H E hr =>
    (ss_cons (s_if (t_val (e_isiT T.n_isinstance (a_cons (ev 1) (a_cons (e_tup (a_cons (e_ty T.n_list (by decide +kernel)) (a_cons (e_ty T.n_tuple (by decide +kernel)) a_nil))) a_nil))))
  (ss_cons (s_if (w_or (t_ne hr (e_isi T.n_isinstance (a_cons (ev 0) (a_cons (e_ty T.n_list (by decide +kernel)) a_nil))) (e_isi T.n_isinstance (a_cons (ev 1) (a_cons (e_ty T.n_list (by decide +kernel)) a_nil)))) (w_or1 (t_ne hr (e_isi T.n_isinstance (a_cons (ev 0) (a_cons (e_ty T.n_tuple (by decide +kernel)) a_nil))) (e_isi T.n_isinstance (a_cons (ev 1) (a_cons (e_ty T.n_tuple (by decide +kernel)) a_nil)))))).pt
  (ss_one (s_ret ec_bl))
  ss_nil)
  (ss_one (s_ret (e_and (e_eq hr (e_len T.n_len (a_cons (ev 0) a_nil)) (e_len T.n_len (a_cons (ev 1) a_nil))) (e_one (e_all rfl T.n_all (a_cons (e_lc false (own := [("one", 2), ("other", 3)]) rfl S.nd (blkOk_by (own := [("one", 2), ("other", 3)]) (by first | decide +kernel | rfl)) (i_zipA T.n_zip (a_cons (ev 0) (a_cons (ev 1) a_nil))) (fun _ _ _ _ _ => (pg_tup (n := 2) rfl (pgs_cons (pg_name (i := 2) S.nd rfl (by first | exact Or.inl rfl | exact Or.inr rfl)) (pgs_cons (pg_name (i := 3) S.nd rfl (by first | exact Or.inl rfl | exact Or.inr rfl)) pgs_nil)))) (okw_tup (okws_cons (okw_name (by decide)) (okws_cons (okw_name (by decide)) okws_nil))) (fun _ _ _ _ _ => ts_nil) (fun _ _ _ _ _ => (e_call G_law_same_v1 hr (Nat.le_refl _) T.m_law_same_v1 T.F_law_same_v1.kp T.b_law_same_v1 Dfl.nil (a_cons (ev 2) (a_cons (ev 3) a_nil))))) a_nil)))))))
  ss_nil)
  (ss_one (s_ret (e_and (e_eq hr (e_isi T.n_isinstance (a_cons (ev 0) (a_cons (e_ty T.n_bool (by decide +kernel)) a_nil))) (e_isi T.n_isinstance (a_cons (ev 1) (a_cons (e_ty T.n_bool (by decide +kernel)) a_nil)))) (e_one (e_eq hr (ev 0) (ev 1)))))))) (ok_law_same_v1 n)
theorem g_law_same_v1 (T : Txt K mg) : FnOk P w K mg base CX0 9 T.f_law_same_v1 T.fd_law_same_v1 ["found", "due"] (liftF K F_law_same_v1) := gr_law_same_v1 T 8
theorem g_History_water_m (T : Txt K mg) : FnOk P w K mg base CX0 1 T.f_History_water_m T.fd_History_water_m ["self", "number"] (liftF K (F_History_water_m T.CH)) := by
  have S := sc_History_water_m
  exact fn_okT (k := 0) T.F_History_water_m S (len_History_water_m T.CH) (fun cdv A outer s H E hr =>
    (ss_open 0 (ss_cons (s_set (i := 2) (e_if (t_isN (ev 1) ec_non) (e_len T.n_len (a_cons (e_fld T.cl T.nF_steps_held (ev 0)) a_nil)) (ev 1)) S.nd)
  (ss_cons (s_if (t_not (t_lele ec_int (ev 2) (e_len T.n_len (a_cons (e_fld T.cl T.nF_steps_held (ev 0)) a_nil))))
  (ss_one s_never)
  ss_nil)
  (ss_one (s_ret (e_list true T.n_list (a_cons (e_ix (e_fld T.cl T.nF_waters_held (ev 0)) (ev 2)) a_nil)))))))) (ok_History_water_m T.CH)
theorem g_History_steps_m (T : Txt K mg) : FnOk P w K mg base CX0 1 T.f_History_steps_m T.fd_History_steps_m ["self"] (liftF K (F_History_steps_m T.CH)) := by
  have S := sc_History_steps_m
  exact fn_ok (k := 0) T.F_History_steps_m S (len_History_steps_m T.CH) (fun cdv A outer s H E hr =>
    (ss_open 0 (ss_one (s_ret (e_lc true (own := [("bolted", 1), ("rain", 2)]) rfl S.nd (blkOk_by (own := [("bolted", 1), ("rain", 2)]) (by first | decide +kernel | rfl)) (i_list (e_fld T.cl T.nF_steps_held (ev 0))) (fun _ _ _ _ _ => (pg_tup (n := 2) rfl (pgs_cons (pg_name (i := 1) S.nd rfl (by first | exact Or.inl rfl | exact Or.inr rfl)) (pgs_cons (pg_name (i := 2) S.nd rfl (by first | exact Or.inl rfl | exact Or.inr rfl)) pgs_nil)))) (okw_tup (okws_cons (okw_name (by decide)) (okws_cons (okw_name (by decide)) okws_nil))) (fun _ _ _ _ _ => ts_nil) (fun _ _ _ _ _ => (e_tup (a_cons (e_list true T.n_list (a_cons (ev 1) a_nil)) (a_cons (e_list true T.n_list (a_cons (ev 2) a_nil)) a_nil))))))))) (ok_History_steps_m T.CH)
theorem g_heaped_up (T : Txt K mg) : FnOk P w K mg base CX0 3 T.f_heaped_up T.fd_heaped_up ["water"] (liftF K F_heaped_up) := by
  have S := sc_heaped_up
  have G_add := g_add (P := P) (w := w) (base := base) T
  exact fn_ok (k := 2) T.F_heaped_up S len_heaped_up (fun cdv A outer s H E hr =>
    (ss_cons (s_set (i := 1) (e_lst true (a_cons (eg T.c_NOUGHT) a_nil)) S.nd)
  (ss_cons (s_for (i_list (ev 0)) (g_name (i := 2) S.nd)
  (ss_one (s_expr (e_append (ev 1) (a_cons (e_call G_add hr (by decide) T.m_add T.F_add.kp T.b_add Dfl.nil (a_cons (e_ix (ev 1) (e_neg ec_int)) (a_cons (ev 2) a_nil))) a_nil)))) rfl PassesOwn.never)
  (ss_one (s_ret (ev 1)))))) ok_heaped_up
theorem g_History_left (T : Txt K mg) : FnOk P w K mg base CX0 4 T.f_History_left T.fd_History_left ["self", "k"] (liftF K (F_History_left T.CH)) := by
  have S := sc_History_left
  have G_heaped_up := g_heaped_up (P := P) (w := w) (base := base) T
  exact fn_ok (k := 3) T.F_History_left S (len_History_left T.CH) (fun cdv A outer s H E hr =>
    (ss_open 0 (ss_cons (s_if (t_not (t_lele ec_int (ev 1) (e_len T.n_len (a_cons (e_fld T.cl T.nF_floors_held (ev 0)) a_nil))))
  (ss_one s_never)
  ss_nil)
  (ss_one (s_ret (e_ix (e_frz (e_call G_heaped_up hr (by decide) T.m_heaped_up T.F_heaped_up.kp T.b_heaped_up Dfl.nil (a_cons (e_ix (e_fld T.cl T.nF_waters_held (ev 0)) (e_neg ec_int)) a_nil))) (ev 1))))))) (ok_History_left T.CH)
theorem g_History_floors_m (T : Txt K mg) : FnOk P w K mg base CX0 1 T.f_History_floors_m T.fd_History_floors_m ["self"] (liftF K (F_History_floors_m T.CH)) := by
  have S := sc_History_floors_m
  exact fn_ok (k := 0) T.F_History_floors_m S (len_History_floors_m T.CH) (fun cdv A outer s H E hr =>
    (ss_open 0 (ss_one (s_ret (e_list true T.n_list (a_cons (e_fld T.cl T.nF_floors_held (ev 0)) a_nil)))))) (ok_History_floors_m T.CH)
theorem g_law_right_v1 (T : Txt K mg) : FnOk P w K mg base CX0 10 T.f_law_right_v1 T.fd_law_right_v1 ["made", "tanks", "stands", "done"] (liftF K (F_law_right_v1 T.CH)) := by
  have S := sc_law_right_v1
  have G_law_same_v1 := g_law_same_v1 (P := P) (w := w) (base := base) T
  have G_History_water_m := g_History_water_m (P := P) (w := w) (base := base) T
  have G_History_steps_m := g_History_steps_m (P := P) (w := w) (base := base) T
  have G_History_left := g_History_left (P := P) (w := w) (base := base) T
  have G_law_heap_v1 := g_law_heap_v1 (P := P) (w := w) (base := base) T
  have G_History_floors_m := g_History_floors_m (P := P) (w := w) (base := base) T
  exact fn_ok (k := 9) T.F_law_right_v1 S (len_law_right_v1 T.CH) (fun cdv A outer s H E hr =>
    (ss_cons (s_if (w_or (t_not (t_val (e_call G_law_same_v1 hr (by decide) T.m_law_same_v1 T.F_law_same_v1.kp T.b_law_same_v1 Dfl.nil (a_cons (e_meth0 (ev 0) T.cl T.mt_water G_History_water_m hr (by decide) T.bd1_History_water_m T.df1_History_water_m) (a_cons (e_ix (ev 2) (e_neg ec_int)) a_nil))))) (w_or1 (t_not (t_val (e_call G_law_same_v1 hr (by decide) T.m_law_same_v1 T.F_law_same_v1.kp T.b_law_same_v1 Dfl.nil (a_cons (e_meth0 (ev 0) T.cl T.mt_steps G_History_steps_m hr (by decide) T.b_History_steps_m Dfl.nil) (a_cons (ev 3) a_nil))))))).pt
  (ss_one (s_ret ec_bl))
  ss_nil)
  (ss_cons (s_if (t_not (t_val (e_call G_law_same_v1 hr (by decide) T.m_law_same_v1 T.F_law_same_v1.kp T.b_law_same_v1 Dfl.nil (a_cons (e_lc false (own := [("spot", 4)]) rfl S.nd (blkOk_by (own := [("spot", 4)]) (by first | decide +kernel | rfl)) (i_range1 T.n_range (a_cons (e_add false (e_len T.n_len (a_cons (ev 1) a_nil)) ec_int) a_nil)) (fun _ _ _ _ _ => (pg_name (i := 4) S.nd rfl (by first | exact Or.inl rfl | exact Or.inr rfl))) (okw_name (by decide)) (fun _ _ _ _ _ => ts_nil) (fun _ _ _ _ _ => (e_methK0 (ev 0) T.cl T.mt_left G_History_left hr (by decide) T.kb_History_left_1_k Dfl.nil (k_cons (ev 4) k_nil)))) (a_cons (e_call G_law_heap_v1 hr (by decide) T.m_law_heap_v1 T.F_law_heap_v1.kp T.b_law_heap_v1 Dfl.nil (a_cons (e_ix (ev 2) (e_neg ec_int)) a_nil)) a_nil)))))
  (ss_one (s_ret ec_bl))
  ss_nil)
  (ss_cons (s_for (i_range1 T.n_range (a_cons (e_len T.n_len (a_cons (ev 2) a_nil)) a_nil)) (g_name (i := 4) S.nd)
  (ss_one (s_if (t_not (t_val (e_call G_law_same_v1 hr (by decide) T.m_law_same_v1 T.F_law_same_v1.kp T.b_law_same_v1 Dfl.nil (a_cons (e_lst false (a_cons (e_meth (ev 0) T.cl T.mt_water G_History_water_m hr (by decide) T.b_History_water_m Dfl.nil (a_cons (ev 4) a_nil)) (a_cons (e_methK0 (ev 0) T.cl T.mt_water G_History_water_m hr (by decide) T.kb_History_water_m_1_number Dfl.nil (k_cons (ev 4) k_nil)) a_nil))) (a_cons (e_lst false (a_cons (e_ix (ev 2) (ev 4)) (a_cons (e_ix (ev 2) (ev 4)) a_nil))) a_nil)))))
  (ss_one (s_ret ec_bl))
  ss_nil)) rfl PassesOwn.never)
  (ss_cons (s_for (i_list (e_lst false (a_cons (e_meth0 (ev 0) T.cl T.mt_water G_History_water_m hr (by decide) T.bd1_History_water_m T.df1_History_water_m) (a_cons (e_meth0 (ev 0) T.cl T.mt_steps G_History_steps_m hr (by decide) T.b_History_steps_m Dfl.nil) (a_cons (e_meth0 (ev 0) T.cl T.mt_floors G_History_floors_m hr (by decide) T.b_History_floors_m Dfl.nil) (a_cons (e_meth (ev 0) T.cl T.mt_water G_History_water_m hr (by decide) T.b_History_water_m Dfl.nil (a_cons ec_int a_nil)) a_nil)))))) (g_name (i := 5) S.nd)
  (ss_one (s_expr (e_append (ev 5) (a_cons ec_int a_nil)))) rfl PassesOwn.never)
  (ss_cons (s_set (i := 6) (e_meth0 (ev 0) T.cl T.mt_steps G_History_steps_m hr (by decide) T.b_History_steps_m Dfl.nil) S.nd)
  (ss_cons (s_for (i_enum T.n_enumerate (a_cons (ev 6) a_nil)) (g_tup (n := 2) (gs_cons (g_name (i := 7) S.nd) (gs_cons (g_tup (n := 2) (gs_cons (g_name (i := 8) S.nd) (gs_cons (g_name (i := 9) S.nd) gs_nil)) rfl) gs_nil)) rfl)
  (ss_cons (s_expr (e_append (ev 8) (a_cons (ev 7) a_nil)))
  (ss_one (s_expr (e_append (ev 9) (a_cons (e_neg (ev 7)) a_nil))))) rfl PassesOwn.never)
  (ss_cons (s_if (t_ne hr (ev 6) (e_lc false (own := [("at", 7), ("shut", 8), ("fell", 9)]) rfl S.nd (blkOk_by (own := [("at", 7), ("shut", 8), ("fell", 9)]) (by first | decide +kernel | rfl)) (i_enum T.n_enumerate (a_cons (ev 3) a_nil)) (fun _ _ _ _ _ => (pg_tup (n := 2) rfl (pgs_cons (pg_name (i := 7) S.nd rfl (by first | exact Or.inl rfl | exact Or.inr rfl)) (pgs_cons (pg_tup (n := 2) rfl (pgs_cons (pg_name (i := 8) S.nd rfl (by first | exact Or.inl rfl | exact Or.inr rfl)) (pgs_cons (pg_name (i := 9) S.nd rfl (by first | exact Or.inl rfl | exact Or.inr rfl)) pgs_nil))) pgs_nil)))) (okw_tup (okws_cons (okw_name (by decide)) (okws_cons (okw_tup (okws_cons (okw_name (by decide)) (okws_cons (okw_name (by decide)) okws_nil))) okws_nil))) (fun _ _ _ _ _ => ts_nil) (fun _ _ _ _ _ => (e_tup (a_cons (e_add false (ev 8) (e_lst false (a_cons (ev 7) a_nil))) (a_cons (e_add false (ev 9) (e_lst false (a_cons (e_neg (ev 7)) a_nil))) a_nil))))))
  (ss_one (s_ret ec_bl))
  ss_nil)
  (ss_one (s_ret (e_call G_law_same_v1 hr (by decide) T.m_law_same_v1 T.F_law_same_v1.kp T.b_law_same_v1 Dfl.nil (a_cons (e_meth0 (ev 0) T.cl T.mt_floors G_History_floors_m hr (by decide) T.b_History_floors_m Dfl.nil) (a_cons (ev 1) a_nil))))))))))))) (by
    intro ds M k x h9
    have h8 := ok_law_right_v1 T.CH ds M k x h9
    unfold b_law_right_v1 c1_law_right_v1 c2_law_right_v1 at h8
    exact h8)
theorem g_law_k08 (T : Txt K mg) : FnOk P w K mg base CX0 11 T.f_law_k08 T.fd_law_k08 ["script"] (liftF K F_law_k08) := by
  have S := sc_law_k08
  have G_law_deck := g_law_deck (P := P) (w := w) (base := base) T
  have G_law_tanks := g_law_tanks (P := P) (w := w) (base := base) T
  have G_law_fall_m := g_law_fall_m (P := P) (w := w) (base := base) T
  have G_History_init := g_History_init (P := P) (w := w) (base := base) T
  have G_law_take := g_law_take (P := P) (w := w) (base := base) T
  have G_law_shut_m := g_law_shut_m (P := P) (w := w) (base := base) T
  have G_law_rest_v2 := g_law_rest_v2 (P := P) (w := w) (base := base) T
  have G_law_both_g := g_law_both_g (P := P) (w := w) (base := base) T
  have G_History_step := g_History_step (P := P) (w := w) (base := base) T
  have G_law_right_v1 := g_law_right_v1 (P := P) (w := w) (base := base) T
  exact fn_ok (k := 10) T.F_law_k08 S len_law_k08 (fun cdv A outer s H E hr =>
    (ss_cons (s_set (i := 1) (e_call G_law_deck hr (by decide) T.m_law_deck T.F_law_deck.kp T.b_law_deck Dfl.nil (a_cons (ev 0) a_nil)) S.nd)
  (ss_cons (s_for (i_range1 T.n_range (a_cons (e_add false ec_int (e_min2 rfl T.n_min (a_cons ec_int (a_cons (e_len T.n_len (a_cons (ev 0) a_nil)) a_nil)))) a_nil)) (g_name (i := 2) S.nd)
  (ss_cons (s_set (i := 3) (e_call G_law_tanks hr (by decide) T.m_law_tanks T.F_law_tanks.kp T.b_law_tanks Dfl.nil (a_cons (ev 1) (a_cons ec_int a_nil))) S.nd)
  (ss_cons (s_set (i := 4) (e_frz (e_call G_law_fall_m hr (by decide) T.m_law_fall_m T.F_law_fall_m.kp T.b_law_fall_m Dfl.nil (a_cons (ev 1) (a_cons (ev 3) a_nil)))) S.nd)
  (ss_cons (s_set (i := 5) (e_lst false (a_cons (e_list true T.n_list (a_cons (ev 3) a_nil)) (a_cons (e_list true T.n_list (a_cons (ev 4) a_nil)) a_nil))) S.nd)
  (ss_cons (s_set (i := 6) (e_make T.mkH G_History_init hr (by decide) T.mg_History T.b_History_init Dfl.nil (a_cons (e_ix (ev 5) ec_int) (a_cons (e_ix (ev 5) ec_int) a_nil))) S.nd)
  (ss_cons (s_if (t_eq hr (e_call G_law_take hr (by decide) T.m_law_take T.F_law_take.kp T.b_law_take Dfl.nil (a_cons (ev 1) (a_cons ec_int a_nil))) ec_int)
  (ss_one (s_set (i := 6) (e_makeK0 T.mkH G_History_init hr (by decide) T.mg_History T.kb_History_init_1_water_floors Dfl.nil (k_cons (e_ix (ev 5) ec_int) (k_cons (e_ix (ev 5) ec_int) k_nil))) S.nd))
  ss_nil)
  (ss_cons (s_if (t_eq hr (e_call G_law_take hr (by decide) T.m_law_take T.F_law_take.kp T.b_law_take Dfl.nil (a_cons (ev 1) (a_cons ec_int a_nil))) ec_int)
  (ss_one (s_par (i := 6) (j := 4) (a_cons (e_makeK0 T.mkH G_History_init hr (by decide) T.mg_History T.kb_History_init_1_floors T.df1_History_init (k_cons (e_ix (ev 5) ec_int) k_nil)) (a_cons (e_lc false (own := [("wide", 13)]) rfl S.nd (blkOk_by (own := [("wide", 13)]) (by first | decide +kernel | rfl)) (i_list (ev 3)) (fun _ _ _ _ _ => (pg_name (i := 13) S.nd rfl (by first | exact Or.inl rfl | exact Or.inr rfl))) (okw_name (by decide)) (fun _ _ _ _ _ => ts_nil) (fun _ _ _ _ _ => (e_tup (a_cons ec_int (a_cons ec_int a_nil))))) a_nil)) rfl S.nd))
  ss_nil)
  (ss_cons (s_expr (e_append (e_ix (ev 5) ec_int) (a_cons ec_int a_nil)))
  (ss_cons (s_expr (e_reverse (e_ix (ev 5) ec_int)))
  (ss_cons (s_par (i := 7) (j := 8) (a_cons (e_lst true (a_cons (ev 4) a_nil)) (a_cons (e_lst true a_nil) a_nil)) rfl S.nd)
  (ss_cons (s_for (i_range1 T.n_range (a_cons (e_call G_law_take hr (by decide) T.m_law_take T.F_law_take.kp T.b_law_take Dfl.nil (a_cons (ev 1) (a_cons ec_int a_nil))) a_nil)) (g_name (i := 9) S.nd)
  (ss_cons (s_par (i := 10) (j := 11) (a_cons (e_call G_law_shut_m hr (by decide) T.m_law_shut_m T.F_law_shut_m.kp T.b_law_shut_m Dfl.nil (a_cons (ev 1) (a_cons (ev 3) a_nil))) (a_cons (e_call G_law_fall_m hr (by decide) T.m_law_fall_m T.F_law_fall_m.kp T.b_law_fall_m Dfl.nil (a_cons (ev 1) (a_cons (ev 3) a_nil))) a_nil)) rfl S.nd)
  (ss_cons (s_expr (e_append (ev 7) (a_cons (e_call G_law_rest_v2 hr (by decide) T.m_law_rest_v2 T.F_law_rest_v2.kp T.b_law_rest_v2 Dfl.nil (a_cons (ev 3) (a_cons (e_call G_law_both_g hr (by decide) T.m_law_both_g T.F_law_both_g.kp T.b_law_both_g Dfl.nil (a_cons (e_ix (ev 7) (e_neg ec_int)) (a_cons (ev 11) a_nil))) (a_cons (ev 10) a_nil)))) a_nil)))
  (ss_cons (s_expr (e_append (ev 8) (a_cons (e_tup (a_cons (e_sorted false T.n_sorted (a_cons (ev 10) a_nil)) (a_cons (e_list false T.n_list (a_cons (ev 11) a_nil)) a_nil))) a_nil)))
  (ss_cons (s_set (i := 12) (e_if (t_eq hr (e_call G_law_take hr (by decide) T.m_law_take T.F_law_take.kp T.b_law_take Dfl.nil (a_cons (ev 1) (a_cons ec_int a_nil))) ec_int) (e_meth (ev 6) T.cl T.mt_step G_History_step hr (by decide) T.b_History_step Dfl.nil (a_cons (ev 10) (a_cons (ev 11) a_nil))) (e_methK0 (ev 6) T.cl T.mt_step G_History_step hr (by decide) T.kb_History_step_1_rain_bolted Dfl.nil (k_cons (ev 11) (k_cons (ev 10) k_nil)))) S.nd)
  (ss_cons (s_expr (e_append (ev 10) (a_cons ec_int a_nil)))
  (ss_cons (s_expr (e_reverse (ev 11)))
  (ss_one (s_if (w_or (t_notN (ev 12) ec_non) (w_or1 (t_not (t_val (e_call G_law_right_v1 hr (by decide) T.m_law_right_v1 T.F_law_right_v1.kp T.b_law_right_v1 Dfl.nil (a_cons (ev 6) (a_cons (ev 3) (a_cons (ev 7) (a_cons (ev 8) a_nil))))))))).pt
  (ss_one (s_ret ec_bl))
  ss_nil)))))))) rfl PassesOwn.never)
  (ss_one (s_if (t_not (t_val (e_call G_law_right_v1 hr (by decide) T.m_law_right_v1 T.F_law_right_v1.kp T.b_law_right_v1 Dfl.nil (a_cons (ev 6) (a_cons (ev 3) (a_cons (ev 7) (a_cons (ev 8) a_nil)))))))
  (ss_one (s_ret ec_bl))
  ss_nil)))))))))))) rfl PassesOwn.never)
  (ss_one (s_ret ec_bl))))) (by
    intro ds M k x h9
    have h8 := ok_law_k08 T.CH ds M k x h9
    unfold b_law_k08 c1_law_k08 c2_law_k08 c3_law_k08 c4_law_k08 at h8
    exact h8)
end
theorem all_mk {l : PySem.W.OpenLaw} {w : World} {K : PySem.W.Frag} {h : Heap} {mg : Str → Option Value} {fa f_law_deck f_law_take f_law_tanks f_law_low_v2 f_law_amount_v3 f_law_fall_m f_need_floors f_is_below f_need_water f_History_init f_law_shut_m f_law_sum_v1 f_law_heap_v1 f_law_slope f_law_rest_v2 f_law_both_g f_need_flaps f_lowest f_add f_stretches f_by f_pools_of f_rest_of f_settled f_History_step f_law_same_v1 f_History_water_m f_History_steps_m f_heaped_up f_History_left f_History_floors_m f_law_right_v1 f_law_k08 : Addr} (X : K.In h) (G : h.Ns mainGlobals mg) (hfa : mg "law" = some (.ref fa))
    {CH : Addr} (aC : PySem.W.nsIn K mainGlobals "History" = some (some (.ref CH)))
    (pg : PySem.W.plainGet K CH Str.empty = true) (hd : PySem.W.hasDictIn K CH = true) (po : PySem.W.plainOver K CH = true) (sa : PySem.W.findIn K (.ref CH) "__setattr__" = some (some (.builtin "object.__setattr__")))
    (nF_floors_held : PySem.W.findIn K (.ref CH) "floors_held" = some none)
    (nF_steps_held : PySem.W.findIn K (.ref CH) "steps_held" = some none)
    (nF_waters_held : PySem.W.findIn K (.ref CH) "waters_held" = some none)
    (mkC : PySem.W.makesIn K CH = true) (kC : PySem.W.keepIn K (.ref CH) = true)
    {od_law_deck an_law_deck : Option Addr} {sl_law_deck : Array (Option Value)} {oc_law_deck kV_law_deck dc_law_deck pm_law_deck cd_law_deck ct_law_deck : Value}
    (a_law_deck : PySem.W.nsIn K mainGlobals "_law_deck" = some (some (.ref f_law_deck)))
    (l_law_deck : K.lookup f_law_deck = some ⟨oc_law_deck, od_law_deck, .func (PySem.W.fnOf "_law_deck" "_law_deck" (defArgs s_law_deck) (defBody s_law_deck) (defScope s_law_deck) .none kV_law_deck dc_law_deck pm_law_deck an_law_deck cd_law_deck ct_law_deck), sl_law_deck⟩) (c_law_deck : PySem.W.codeIn K cd_law_deck "_law_deck" = true) (k_law_deck : PySem.W.keepIn K (.ref f_law_deck) = true)
    {od_law_take an_law_take : Option Addr} {sl_law_take : Array (Option Value)} {oc_law_take kV_law_take dc_law_take pm_law_take cd_law_take ct_law_take : Value}
    (a_law_take : PySem.W.nsIn K mainGlobals "_law_take" = some (some (.ref f_law_take)))
    (l_law_take : K.lookup f_law_take = some ⟨oc_law_take, od_law_take, .func (PySem.W.fnOf "_law_take" "_law_take" (defArgs s_law_take) (defBody s_law_take) (defScope s_law_take) .none kV_law_take dc_law_take pm_law_take an_law_take cd_law_take ct_law_take), sl_law_take⟩) (c_law_take : PySem.W.codeIn K cd_law_take "_law_take" = true) (k_law_take : PySem.W.keepIn K (.ref f_law_take) = true)
    {od_law_tanks an_law_tanks : Option Addr} {sl_law_tanks : Array (Option Value)} {oc_law_tanks kV_law_tanks dc_law_tanks pm_law_tanks cd_law_tanks ct_law_tanks : Value}
    (a_law_tanks : PySem.W.nsIn K mainGlobals "_law_tanks" = some (some (.ref f_law_tanks)))
    (l_law_tanks : K.lookup f_law_tanks = some ⟨oc_law_tanks, od_law_tanks, .func (PySem.W.fnOf "_law_tanks" "_law_tanks" (defArgs s_law_tanks) (defBody s_law_tanks) (defScope s_law_tanks) .none kV_law_tanks dc_law_tanks pm_law_tanks an_law_tanks cd_law_tanks ct_law_tanks), sl_law_tanks⟩) (c_law_tanks : PySem.W.codeIn K cd_law_tanks "_law_tanks" = true) (k_law_tanks : PySem.W.keepIn K (.ref f_law_tanks) = true)
    {od_law_low_v2 an_law_low_v2 : Option Addr} {sl_law_low_v2 : Array (Option Value)} {oc_law_low_v2 kV_law_low_v2 dc_law_low_v2 pm_law_low_v2 cd_law_low_v2 ct_law_low_v2 : Value}
    (a_law_low_v2 : PySem.W.nsIn K mainGlobals "_law_low" = some (some (.ref f_law_low_v2)))
    (l_law_low_v2 : K.lookup f_law_low_v2 = some ⟨oc_law_low_v2, od_law_low_v2, .func (PySem.W.fnOf "_law_low" "_law_low" (defArgs s_law_low_v2) (defBody s_law_low_v2) (defScope s_law_low_v2) .none kV_law_low_v2 dc_law_low_v2 pm_law_low_v2 an_law_low_v2 cd_law_low_v2 ct_law_low_v2), sl_law_low_v2⟩) (c_law_low_v2 : PySem.W.codeIn K cd_law_low_v2 "_law_low" = true) (k_law_low_v2 : PySem.W.keepIn K (.ref f_law_low_v2) = true)
    {od_law_amount_v3 an_law_amount_v3 : Option Addr} {sl_law_amount_v3 : Array (Option Value)} {oc_law_amount_v3 kV_law_amount_v3 dc_law_amount_v3 pm_law_amount_v3 cd_law_amount_v3 ct_law_amount_v3 : Value}
    (a_law_amount_v3 : PySem.W.nsIn K mainGlobals "_law_amount" = some (some (.ref f_law_amount_v3)))
    (l_law_amount_v3 : K.lookup f_law_amount_v3 = some ⟨oc_law_amount_v3, od_law_amount_v3, .func (PySem.W.fnOf "_law_amount" "_law_amount" (defArgs s_law_amount_v3) (defBody s_law_amount_v3) (defScope s_law_amount_v3) .none kV_law_amount_v3 dc_law_amount_v3 pm_law_amount_v3 an_law_amount_v3 cd_law_amount_v3 ct_law_amount_v3), sl_law_amount_v3⟩) (c_law_amount_v3 : PySem.W.codeIn K cd_law_amount_v3 "_law_amount" = true) (k_law_amount_v3 : PySem.W.keepIn K (.ref f_law_amount_v3) = true)
    {od_law_fall_m an_law_fall_m : Option Addr} {sl_law_fall_m : Array (Option Value)} {oc_law_fall_m kV_law_fall_m dc_law_fall_m pm_law_fall_m cd_law_fall_m ct_law_fall_m : Value}
    (a_law_fall_m : PySem.W.nsIn K mainGlobals "_law_fall" = some (some (.ref f_law_fall_m)))
    (l_law_fall_m : K.lookup f_law_fall_m = some ⟨oc_law_fall_m, od_law_fall_m, .func (PySem.W.fnOf "_law_fall" "_law_fall" (defArgs s_law_fall_m) (defBody s_law_fall_m) (defScope s_law_fall_m) .none kV_law_fall_m dc_law_fall_m pm_law_fall_m an_law_fall_m cd_law_fall_m ct_law_fall_m), sl_law_fall_m⟩) (c_law_fall_m : PySem.W.codeIn K cd_law_fall_m "_law_fall" = true) (k_law_fall_m : PySem.W.keepIn K (.ref f_law_fall_m) = true)
    {od_need_floors an_need_floors : Option Addr} {sl_need_floors : Array (Option Value)} {oc_need_floors kV_need_floors dc_need_floors pm_need_floors cd_need_floors ct_need_floors : Value}
    (a_need_floors : PySem.W.nsIn K mainGlobals "need_floors" = some (some (.ref f_need_floors)))
    (l_need_floors : K.lookup f_need_floors = some ⟨oc_need_floors, od_need_floors, .func (PySem.W.fnOf "need_floors" "need_floors" (defArgs s_need_floors) (defBody s_need_floors) (defScope s_need_floors) .none kV_need_floors dc_need_floors pm_need_floors an_need_floors cd_need_floors ct_need_floors), sl_need_floors⟩) (c_need_floors : PySem.W.codeIn K cd_need_floors "need_floors" = true) (k_need_floors : PySem.W.keepIn K (.ref f_need_floors) = true)
    {od_is_below an_is_below : Option Addr} {sl_is_below : Array (Option Value)} {oc_is_below kV_is_below dc_is_below pm_is_below cd_is_below ct_is_below : Value}
    (a_is_below : PySem.W.nsIn K mainGlobals "is_below" = some (some (.ref f_is_below)))
    (l_is_below : K.lookup f_is_below = some ⟨oc_is_below, od_is_below, .func (PySem.W.fnOf "is_below" "is_below" (defArgs s_is_below) (defBody s_is_below) (defScope s_is_below) .none kV_is_below dc_is_below pm_is_below an_is_below cd_is_below ct_is_below), sl_is_below⟩) (c_is_below : PySem.W.codeIn K cd_is_below "is_below" = true) (k_is_below : PySem.W.keepIn K (.ref f_is_below) = true)
    {od_need_water an_need_water : Option Addr} {sl_need_water : Array (Option Value)} {oc_need_water kV_need_water dc_need_water pm_need_water cd_need_water ct_need_water : Value}
    (a_need_water : PySem.W.nsIn K mainGlobals "need_water" = some (some (.ref f_need_water)))
    (l_need_water : K.lookup f_need_water = some ⟨oc_need_water, od_need_water, .func (PySem.W.fnOf "need_water" "need_water" (defArgs s_need_water) (defBody s_need_water) (defScope s_need_water) .none kV_need_water dc_need_water pm_need_water an_need_water cd_need_water ct_need_water), sl_need_water⟩) (c_need_water : PySem.W.codeIn K cd_need_water "need_water" = true) (k_need_water : PySem.W.keepIn K (.ref f_need_water) = true)
    {od_History_init an_History_init : Option Addr} {sl_History_init : Array (Option Value)} {oc_History_init kV_History_init dc_History_init pm_History_init cd_History_init ct_History_init : Value}
    {dT_History_init : Addr} {odT_History_init : Option Addr} {slT_History_init : Array (Option Value)} {nT_History_init : Nat} {ocT_History_init : Value}
    (a_History_init : PySem.W.findIn K (.ref CH) "__init__" = some (some (.ref f_History_init))) (i_History_init : PySem.W.isFn K (.ref f_History_init) = true)
    (l_History_init : K.lookup f_History_init = some ⟨oc_History_init, od_History_init, .func (PySem.W.fnOf "__init__" "History.__init__" (defArgs s_History_init) (defBody s_History_init) (defScope s_History_init) (.ref dT_History_init) kV_History_init dc_History_init pm_History_init an_History_init cd_History_init ct_History_init), sl_History_init⟩) (c_History_init : PySem.W.codeIn K cd_History_init "History.__init__" = true) (k_History_init : PySem.W.keepIn K (.ref f_History_init) = true)
    (hT_History_init : K.lookup dT_History_init = some ⟨ocT_History_init, odT_History_init, .seq #[.none] nT_History_init, slT_History_init⟩)
    {od_law_shut_m an_law_shut_m : Option Addr} {sl_law_shut_m : Array (Option Value)} {oc_law_shut_m kV_law_shut_m dc_law_shut_m pm_law_shut_m cd_law_shut_m ct_law_shut_m : Value}
    (a_law_shut_m : PySem.W.nsIn K mainGlobals "_law_shut" = some (some (.ref f_law_shut_m)))
    (l_law_shut_m : K.lookup f_law_shut_m = some ⟨oc_law_shut_m, od_law_shut_m, .func (PySem.W.fnOf "_law_shut" "_law_shut" (defArgs s_law_shut_m) (defBody s_law_shut_m) (defScope s_law_shut_m) .none kV_law_shut_m dc_law_shut_m pm_law_shut_m an_law_shut_m cd_law_shut_m ct_law_shut_m), sl_law_shut_m⟩) (c_law_shut_m : PySem.W.codeIn K cd_law_shut_m "_law_shut" = true) (k_law_shut_m : PySem.W.keepIn K (.ref f_law_shut_m) = true)
    {od_law_sum_v1 an_law_sum_v1 : Option Addr} {sl_law_sum_v1 : Array (Option Value)} {oc_law_sum_v1 kV_law_sum_v1 dc_law_sum_v1 pm_law_sum_v1 cd_law_sum_v1 ct_law_sum_v1 : Value}
    (a_law_sum_v1 : PySem.W.nsIn K mainGlobals "_law_sum" = some (some (.ref f_law_sum_v1)))
    (l_law_sum_v1 : K.lookup f_law_sum_v1 = some ⟨oc_law_sum_v1, od_law_sum_v1, .func (PySem.W.fnOf "_law_sum" "_law_sum" (defArgs s_law_sum_v1) (defBody s_law_sum_v1) (defScope s_law_sum_v1) .none kV_law_sum_v1 dc_law_sum_v1 pm_law_sum_v1 an_law_sum_v1 cd_law_sum_v1 ct_law_sum_v1), sl_law_sum_v1⟩) (c_law_sum_v1 : PySem.W.codeIn K cd_law_sum_v1 "_law_sum" = true) (k_law_sum_v1 : PySem.W.keepIn K (.ref f_law_sum_v1) = true)
    {od_law_heap_v1 an_law_heap_v1 : Option Addr} {sl_law_heap_v1 : Array (Option Value)} {oc_law_heap_v1 kV_law_heap_v1 dc_law_heap_v1 pm_law_heap_v1 cd_law_heap_v1 ct_law_heap_v1 : Value}
    (a_law_heap_v1 : PySem.W.nsIn K mainGlobals "_law_heap" = some (some (.ref f_law_heap_v1)))
    (l_law_heap_v1 : K.lookup f_law_heap_v1 = some ⟨oc_law_heap_v1, od_law_heap_v1, .func (PySem.W.fnOf "_law_heap" "_law_heap" (defArgs s_law_heap_v1) (defBody s_law_heap_v1) (defScope s_law_heap_v1) .none kV_law_heap_v1 dc_law_heap_v1 pm_law_heap_v1 an_law_heap_v1 cd_law_heap_v1 ct_law_heap_v1), sl_law_heap_v1⟩) (c_law_heap_v1 : PySem.W.codeIn K cd_law_heap_v1 "_law_heap" = true) (k_law_heap_v1 : PySem.W.keepIn K (.ref f_law_heap_v1) = true)
    {od_law_slope an_law_slope : Option Addr} {sl_law_slope : Array (Option Value)} {oc_law_slope kV_law_slope dc_law_slope pm_law_slope cd_law_slope ct_law_slope : Value}
    (a_law_slope : PySem.W.nsIn K mainGlobals "_law_slope" = some (some (.ref f_law_slope)))
    (l_law_slope : K.lookup f_law_slope = some ⟨oc_law_slope, od_law_slope, .func (PySem.W.fnOf "_law_slope" "_law_slope" (defArgs s_law_slope) (defBody s_law_slope) (defScope s_law_slope) .none kV_law_slope dc_law_slope pm_law_slope an_law_slope cd_law_slope ct_law_slope), sl_law_slope⟩) (c_law_slope : PySem.W.codeIn K cd_law_slope "_law_slope" = true) (k_law_slope : PySem.W.keepIn K (.ref f_law_slope) = true)
    {od_law_rest_v2 an_law_rest_v2 : Option Addr} {sl_law_rest_v2 : Array (Option Value)} {oc_law_rest_v2 kV_law_rest_v2 dc_law_rest_v2 pm_law_rest_v2 cd_law_rest_v2 ct_law_rest_v2 : Value}
    (a_law_rest_v2 : PySem.W.nsIn K mainGlobals "_law_rest" = some (some (.ref f_law_rest_v2)))
    (l_law_rest_v2 : K.lookup f_law_rest_v2 = some ⟨oc_law_rest_v2, od_law_rest_v2, .func (PySem.W.fnOf "_law_rest" "_law_rest" (defArgs s_law_rest_v2) (defBody s_law_rest_v2) (defScope s_law_rest_v2) .none kV_law_rest_v2 dc_law_rest_v2 pm_law_rest_v2 an_law_rest_v2 cd_law_rest_v2 ct_law_rest_v2), sl_law_rest_v2⟩) (c_law_rest_v2 : PySem.W.codeIn K cd_law_rest_v2 "_law_rest" = true) (k_law_rest_v2 : PySem.W.keepIn K (.ref f_law_rest_v2) = true)
    {od_law_both_g an_law_both_g : Option Addr} {sl_law_both_g : Array (Option Value)} {oc_law_both_g kV_law_both_g dc_law_both_g pm_law_both_g cd_law_both_g ct_law_both_g : Value}
    (a_law_both_g : PySem.W.nsIn K mainGlobals "_law_both" = some (some (.ref f_law_both_g)))
    (l_law_both_g : K.lookup f_law_both_g = some ⟨oc_law_both_g, od_law_both_g, .func (PySem.W.fnOf "_law_both" "_law_both" (defArgs s_law_both_g) (defBody s_law_both_g) (defScope s_law_both_g) .none kV_law_both_g dc_law_both_g pm_law_both_g an_law_both_g cd_law_both_g ct_law_both_g), sl_law_both_g⟩) (c_law_both_g : PySem.W.codeIn K cd_law_both_g "_law_both" = true) (k_law_both_g : PySem.W.keepIn K (.ref f_law_both_g) = true)
    {od_need_flaps an_need_flaps : Option Addr} {sl_need_flaps : Array (Option Value)} {oc_need_flaps kV_need_flaps dc_need_flaps pm_need_flaps cd_need_flaps ct_need_flaps : Value}
    (a_need_flaps : PySem.W.nsIn K mainGlobals "need_flaps" = some (some (.ref f_need_flaps)))
    (l_need_flaps : K.lookup f_need_flaps = some ⟨oc_need_flaps, od_need_flaps, .func (PySem.W.fnOf "need_flaps" "need_flaps" (defArgs s_need_flaps) (defBody s_need_flaps) (defScope s_need_flaps) .none kV_need_flaps dc_need_flaps pm_need_flaps an_need_flaps cd_need_flaps ct_need_flaps), sl_need_flaps⟩) (c_need_flaps : PySem.W.codeIn K cd_need_flaps "need_flaps" = true) (k_need_flaps : PySem.W.keepIn K (.ref f_need_flaps) = true)
    {od_lowest an_lowest : Option Addr} {sl_lowest : Array (Option Value)} {oc_lowest kV_lowest dc_lowest pm_lowest cd_lowest ct_lowest : Value}
    (a_lowest : PySem.W.nsIn K mainGlobals "lowest" = some (some (.ref f_lowest)))
    (l_lowest : K.lookup f_lowest = some ⟨oc_lowest, od_lowest, .func (PySem.W.fnOf "lowest" "lowest" (defArgs s_lowest) (defBody s_lowest) (defScope s_lowest) .none kV_lowest dc_lowest pm_lowest an_lowest cd_lowest ct_lowest), sl_lowest⟩) (c_lowest : PySem.W.codeIn K cd_lowest "lowest" = true) (k_lowest : PySem.W.keepIn K (.ref f_lowest) = true)
    {od_add an_add : Option Addr} {sl_add : Array (Option Value)} {oc_add kV_add dc_add pm_add cd_add ct_add : Value}
    (a_add : PySem.W.nsIn K mainGlobals "add" = some (some (.ref f_add)))
    (l_add : K.lookup f_add = some ⟨oc_add, od_add, .func (PySem.W.fnOf "add" "add" (defArgs s_add) (defBody s_add) (defScope s_add) .none kV_add dc_add pm_add an_add cd_add ct_add), sl_add⟩) (c_add : PySem.W.codeIn K cd_add "add" = true) (k_add : PySem.W.keepIn K (.ref f_add) = true)
    {od_stretches an_stretches : Option Addr} {sl_stretches : Array (Option Value)} {oc_stretches kV_stretches dc_stretches pm_stretches cd_stretches ct_stretches : Value}
    (a_stretches : PySem.W.nsIn K mainGlobals "stretches" = some (some (.ref f_stretches)))
    (l_stretches : K.lookup f_stretches = some ⟨oc_stretches, od_stretches, .func (PySem.W.fnOf "stretches" "stretches" (defArgs s_stretches) (defBody s_stretches) (defScope s_stretches) .none kV_stretches dc_stretches pm_stretches an_stretches cd_stretches ct_stretches), sl_stretches⟩) (c_stretches : PySem.W.codeIn K cd_stretches "stretches" = true) (k_stretches : PySem.W.keepIn K (.ref f_stretches) = true)
    {od_by an_by : Option Addr} {sl_by : Array (Option Value)} {oc_by kV_by dc_by pm_by cd_by ct_by : Value}
    (a_by : PySem.W.nsIn K mainGlobals "by" = some (some (.ref f_by)))
    (l_by : K.lookup f_by = some ⟨oc_by, od_by, .func (PySem.W.fnOf "by" "by" (defArgs s_by) (defBody s_by) (defScope s_by) .none kV_by dc_by pm_by an_by cd_by ct_by), sl_by⟩) (c_by : PySem.W.codeIn K cd_by "by" = true) (k_by : PySem.W.keepIn K (.ref f_by) = true)
    {od_pools_of an_pools_of : Option Addr} {sl_pools_of : Array (Option Value)} {oc_pools_of kV_pools_of dc_pools_of pm_pools_of cd_pools_of ct_pools_of : Value}
    (a_pools_of : PySem.W.nsIn K mainGlobals "pools_of" = some (some (.ref f_pools_of)))
    (l_pools_of : K.lookup f_pools_of = some ⟨oc_pools_of, od_pools_of, .func (PySem.W.fnOf "pools_of" "pools_of" (defArgs s_pools_of) (defBody s_pools_of) (defScope s_pools_of) .none kV_pools_of dc_pools_of pm_pools_of an_pools_of cd_pools_of ct_pools_of), sl_pools_of⟩) (c_pools_of : PySem.W.codeIn K cd_pools_of "pools_of" = true) (k_pools_of : PySem.W.keepIn K (.ref f_pools_of) = true)
    {od_rest_of an_rest_of : Option Addr} {sl_rest_of : Array (Option Value)} {oc_rest_of kV_rest_of dc_rest_of pm_rest_of cd_rest_of ct_rest_of : Value}
    (a_rest_of : PySem.W.nsIn K mainGlobals "rest_of" = some (some (.ref f_rest_of)))
    (l_rest_of : K.lookup f_rest_of = some ⟨oc_rest_of, od_rest_of, .func (PySem.W.fnOf "rest_of" "rest_of" (defArgs s_rest_of) (defBody s_rest_of) (defScope s_rest_of) .none kV_rest_of dc_rest_of pm_rest_of an_rest_of cd_rest_of ct_rest_of), sl_rest_of⟩) (c_rest_of : PySem.W.codeIn K cd_rest_of "rest_of" = true) (k_rest_of : PySem.W.keepIn K (.ref f_rest_of) = true)
    {od_settled an_settled : Option Addr} {sl_settled : Array (Option Value)} {oc_settled kV_settled dc_settled pm_settled cd_settled ct_settled : Value}
    {dT_settled : Addr} {odT_settled : Option Addr} {slT_settled : Array (Option Value)} {nT_settled : Nat} {ocT_settled : Value}
    {e0_settled : Addr} {ode0_settled : Option Addr} {ne0_settled : Nat} {sle0_settled : Array (Option Value)}
    (a_settled : PySem.W.nsIn K mainGlobals "settled" = some (some (.ref f_settled)))
    (l_settled : K.lookup f_settled = some ⟨oc_settled, od_settled, .func (PySem.W.fnOf "settled" "settled" (defArgs s_settled) (defBody s_settled) (defScope s_settled) (.ref dT_settled) kV_settled dc_settled pm_settled an_settled cd_settled ct_settled), sl_settled⟩) (c_settled : PySem.W.codeIn K cd_settled "settled" = true) (k_settled : PySem.W.keepIn K (.ref f_settled) = true)
    (hT_settled : K.lookup dT_settled = some ⟨ocT_settled, odT_settled, .seq #[.ref e0_settled] nT_settled, slT_settled⟩)
    (he0_settled : K.lookup e0_settled = some ⟨.type "tuple", ode0_settled, .seq #[] ne0_settled, sle0_settled⟩)
    {od_History_step an_History_step : Option Addr} {sl_History_step : Array (Option Value)} {oc_History_step kV_History_step dc_History_step pm_History_step cd_History_step ct_History_step : Value}
    (a_History_step : PySem.W.findIn K (.ref CH) "step" = some (some (.ref f_History_step))) (i_History_step : PySem.W.isFn K (.ref f_History_step) = true)
    (l_History_step : K.lookup f_History_step = some ⟨oc_History_step, od_History_step, .func (PySem.W.fnOf "step" "History.step" (defArgs s_History_step) (defBody s_History_step) (defScope s_History_step) .none kV_History_step dc_History_step pm_History_step an_History_step cd_History_step ct_History_step), sl_History_step⟩) (c_History_step : PySem.W.codeIn K cd_History_step "History.step" = true) (k_History_step : PySem.W.keepIn K (.ref f_History_step) = true)
    {od_law_same_v1 an_law_same_v1 : Option Addr} {sl_law_same_v1 : Array (Option Value)} {oc_law_same_v1 kV_law_same_v1 dc_law_same_v1 pm_law_same_v1 cd_law_same_v1 ct_law_same_v1 : Value}
    (a_law_same_v1 : PySem.W.nsIn K mainGlobals "_law_same" = some (some (.ref f_law_same_v1)))
    (l_law_same_v1 : K.lookup f_law_same_v1 = some ⟨oc_law_same_v1, od_law_same_v1, .func (PySem.W.fnOf "_law_same" "_law_same" (defArgs s_law_same_v1) (defBody s_law_same_v1) (defScope s_law_same_v1) .none kV_law_same_v1 dc_law_same_v1 pm_law_same_v1 an_law_same_v1 cd_law_same_v1 ct_law_same_v1), sl_law_same_v1⟩) (c_law_same_v1 : PySem.W.codeIn K cd_law_same_v1 "_law_same" = true) (k_law_same_v1 : PySem.W.keepIn K (.ref f_law_same_v1) = true)
    {od_History_water_m an_History_water_m : Option Addr} {sl_History_water_m : Array (Option Value)} {oc_History_water_m kV_History_water_m dc_History_water_m pm_History_water_m cd_History_water_m ct_History_water_m : Value}
    {dT_History_water_m : Addr} {odT_History_water_m : Option Addr} {slT_History_water_m : Array (Option Value)} {nT_History_water_m : Nat} {ocT_History_water_m : Value}
    (a_History_water_m : PySem.W.findIn K (.ref CH) "water" = some (some (.ref f_History_water_m))) (i_History_water_m : PySem.W.isFn K (.ref f_History_water_m) = true)
    (l_History_water_m : K.lookup f_History_water_m = some ⟨oc_History_water_m, od_History_water_m, .func (PySem.W.fnOf "water" "History.water" (defArgs s_History_water_m) (defBody s_History_water_m) (defScope s_History_water_m) (.ref dT_History_water_m) kV_History_water_m dc_History_water_m pm_History_water_m an_History_water_m cd_History_water_m ct_History_water_m), sl_History_water_m⟩) (c_History_water_m : PySem.W.codeIn K cd_History_water_m "History.water" = true) (k_History_water_m : PySem.W.keepIn K (.ref f_History_water_m) = true)
    (hT_History_water_m : K.lookup dT_History_water_m = some ⟨ocT_History_water_m, odT_History_water_m, .seq #[.none] nT_History_water_m, slT_History_water_m⟩)
    {od_History_steps_m an_History_steps_m : Option Addr} {sl_History_steps_m : Array (Option Value)} {oc_History_steps_m kV_History_steps_m dc_History_steps_m pm_History_steps_m cd_History_steps_m ct_History_steps_m : Value}
    (a_History_steps_m : PySem.W.findIn K (.ref CH) "steps" = some (some (.ref f_History_steps_m))) (i_History_steps_m : PySem.W.isFn K (.ref f_History_steps_m) = true)
    (l_History_steps_m : K.lookup f_History_steps_m = some ⟨oc_History_steps_m, od_History_steps_m, .func (PySem.W.fnOf "steps" "History.steps" (defArgs s_History_steps_m) (defBody s_History_steps_m) (defScope s_History_steps_m) .none kV_History_steps_m dc_History_steps_m pm_History_steps_m an_History_steps_m cd_History_steps_m ct_History_steps_m), sl_History_steps_m⟩) (c_History_steps_m : PySem.W.codeIn K cd_History_steps_m "History.steps" = true) (k_History_steps_m : PySem.W.keepIn K (.ref f_History_steps_m) = true)
    {od_heaped_up an_heaped_up : Option Addr} {sl_heaped_up : Array (Option Value)} {oc_heaped_up kV_heaped_up dc_heaped_up pm_heaped_up cd_heaped_up ct_heaped_up : Value}
    (a_heaped_up : PySem.W.nsIn K mainGlobals "heaped_up" = some (some (.ref f_heaped_up)))
    (l_heaped_up : K.lookup f_heaped_up = some ⟨oc_heaped_up, od_heaped_up, .func (PySem.W.fnOf "heaped_up" "heaped_up" (defArgs s_heaped_up) (defBody s_heaped_up) (defScope s_heaped_up) .none kV_heaped_up dc_heaped_up pm_heaped_up an_heaped_up cd_heaped_up ct_heaped_up), sl_heaped_up⟩) (c_heaped_up : PySem.W.codeIn K cd_heaped_up "heaped_up" = true) (k_heaped_up : PySem.W.keepIn K (.ref f_heaped_up) = true)
    {od_History_left an_History_left : Option Addr} {sl_History_left : Array (Option Value)} {oc_History_left kV_History_left dc_History_left pm_History_left cd_History_left ct_History_left : Value}
    (a_History_left : PySem.W.findIn K (.ref CH) "left" = some (some (.ref f_History_left))) (i_History_left : PySem.W.isFn K (.ref f_History_left) = true)
    (l_History_left : K.lookup f_History_left = some ⟨oc_History_left, od_History_left, .func (PySem.W.fnOf "left" "History.left" (defArgs s_History_left) (defBody s_History_left) (defScope s_History_left) .none kV_History_left dc_History_left pm_History_left an_History_left cd_History_left ct_History_left), sl_History_left⟩) (c_History_left : PySem.W.codeIn K cd_History_left "History.left" = true) (k_History_left : PySem.W.keepIn K (.ref f_History_left) = true)
    {od_History_floors_m an_History_floors_m : Option Addr} {sl_History_floors_m : Array (Option Value)} {oc_History_floors_m kV_History_floors_m dc_History_floors_m pm_History_floors_m cd_History_floors_m ct_History_floors_m : Value}
    (a_History_floors_m : PySem.W.findIn K (.ref CH) "floors" = some (some (.ref f_History_floors_m))) (i_History_floors_m : PySem.W.isFn K (.ref f_History_floors_m) = true)
    (l_History_floors_m : K.lookup f_History_floors_m = some ⟨oc_History_floors_m, od_History_floors_m, .func (PySem.W.fnOf "floors" "History.floors" (defArgs s_History_floors_m) (defBody s_History_floors_m) (defScope s_History_floors_m) .none kV_History_floors_m dc_History_floors_m pm_History_floors_m an_History_floors_m cd_History_floors_m ct_History_floors_m), sl_History_floors_m⟩) (c_History_floors_m : PySem.W.codeIn K cd_History_floors_m "History.floors" = true) (k_History_floors_m : PySem.W.keepIn K (.ref f_History_floors_m) = true)
    {od_law_right_v1 an_law_right_v1 : Option Addr} {sl_law_right_v1 : Array (Option Value)} {oc_law_right_v1 kV_law_right_v1 dc_law_right_v1 pm_law_right_v1 cd_law_right_v1 ct_law_right_v1 : Value}
    (a_law_right_v1 : PySem.W.nsIn K mainGlobals "_law_right" = some (some (.ref f_law_right_v1)))
    (l_law_right_v1 : K.lookup f_law_right_v1 = some ⟨oc_law_right_v1, od_law_right_v1, .func (PySem.W.fnOf "_law_right" "_law_right" (defArgs s_law_right_v1) (defBody s_law_right_v1) (defScope s_law_right_v1) .none kV_law_right_v1 dc_law_right_v1 pm_law_right_v1 an_law_right_v1 cd_law_right_v1 ct_law_right_v1), sl_law_right_v1⟩) (c_law_right_v1 : PySem.W.codeIn K cd_law_right_v1 "_law_right" = true) (k_law_right_v1 : PySem.W.keepIn K (.ref f_law_right_v1) = true)
    {od_law_k08 an_law_k08 : Option Addr} {sl_law_k08 : Array (Option Value)} {oc_law_k08 kV_law_k08 dc_law_k08 pm_law_k08 cd_law_k08 ct_law_k08 : Value}
    (a_law_k08 : PySem.W.nsIn K mainGlobals "law" = some (some (.ref f_law_k08)))
    (l_law_k08 : K.lookup f_law_k08 = some ⟨oc_law_k08, od_law_k08, .func (PySem.W.fnOf "law" "law" (defArgs s_law_k08) (defBody s_law_k08) (defScope s_law_k08) .none kV_law_k08 dc_law_k08 pm_law_k08 an_law_k08 cd_law_k08 ct_law_k08), sl_law_k08⟩) (c_law_k08 : PySem.W.codeIn K cd_law_k08 "law" = true) (k_law_k08 : PySem.W.keepIn K (.ref f_law_k08) = true)
    (n_abs : PySem.W.nsIn K mainGlobals "abs" = some none)
    (n_all : PySem.W.nsIn K mainGlobals "all" = some none)
    (n_bool : PySem.W.nsIn K mainGlobals "bool" = some none)
    (n_enumerate : PySem.W.nsIn K mainGlobals "enumerate" = some none)
    (n_isinstance : PySem.W.nsIn K mainGlobals "isinstance" = some none)
    (n_len : PySem.W.nsIn K mainGlobals "len" = some none)
    (n_list : PySem.W.nsIn K mainGlobals "list" = some none)
    (n_min : PySem.W.nsIn K mainGlobals "min" = some none)
    (n_range : PySem.W.nsIn K mainGlobals "range" = some none)
    (n_sorted : PySem.W.nsIn K mainGlobals "sorted" = some none)
    (n_tuple : PySem.W.nsIn K mainGlobals "tuple" = some none)
    (n_zip : PySem.W.nsIn K mainGlobals "zip" = some none)
    {gc_NOUGHT : Addr} {god_NOUGHT : Option Addr} {gsl_NOUGHT : Array (Option Value)} {gn_NOUGHT : Nat} {gt0_NOUGHT gt1_NOUGHT : Tok} (g_NOUGHT : PySem.W.nsIn K mainGlobals "NOUGHT" = some (some (.ref gc_NOUGHT))) (h_NOUGHT : K.lookup gc_NOUGHT = some ⟨.type "tuple", god_NOUGHT, .seq #[.int 0 gt0_NOUGHT, .int 1 gt1_NOUGHT] gn_NOUGHT, gsl_NOUGHT⟩)
    : ∃ fd : FuncData, (∀ (s : Shared) (v : Value), BindsTo s fd ⟨[v], []⟩ [("script", v)]) ∧ ∀ base : Heap, K.In base → base.Ns mainGlobals mg → FnOk l.prog w K mg base CX0 11 fa fd ["script"] (liftF K F_law_k08) := by
  have e := hfa.symm.trans (PySem.W.mg_of X G a_law_k08)
  cases e
  have F_law_deck := fun_mk (st := s_law_deck) l_law_deck c_law_deck k_law_deck
  have b_law_deck := F_law_deck.binds (ps := ["script"]) fun _ _ _ _ _ _ us hl => match us, hl with | [_], _ => rfl
  have F_law_take := fun_mk (st := s_law_take) l_law_take c_law_take k_law_take
  have b_law_take := F_law_take.binds (ps := ["deck", "many"]) fun _ _ _ _ _ _ us hl => match us, hl with | [_, _], _ => rfl
  have F_law_tanks := fun_mk (st := s_law_tanks) l_law_tanks c_law_tanks k_law_tanks
  have b_law_tanks := F_law_tanks.binds (ps := ["deck", "most"]) fun _ _ _ _ _ _ us hl => match us, hl with | [_, _], _ => rfl
  have F_law_low_v2 := fun_mk (st := s_law_low_v2) l_law_low_v2 c_law_low_v2 k_law_low_v2
  have b_law_low_v2 := F_law_low_v2.binds (ps := ["top", "bottom"]) fun _ _ _ _ _ _ us hl => match us, hl with | [_, _], _ => rfl
  have F_law_amount_v3 := fun_mk (st := s_law_amount_v3) l_law_amount_v3 c_law_amount_v3 k_law_amount_v3
  have b_law_amount_v3 := F_law_amount_v3.binds (ps := ["deck"]) fun _ _ _ _ _ _ us hl => match us, hl with | [_], _ => rfl
  have F_law_fall_m := fun_mk (st := s_law_fall_m) l_law_fall_m c_law_fall_m k_law_fall_m
  have b_law_fall_m := F_law_fall_m.binds (ps := ["deck", "tanks"]) fun _ _ _ _ _ _ us hl => match us, hl with | [_, _], _ => rfl
  have F_need_floors := fun_mk (st := s_need_floors) l_need_floors c_need_floors k_need_floors
  have b_need_floors := F_need_floors.binds (ps := ["floors"]) fun _ _ _ _ _ _ us hl => match us, hl with | [_], _ => rfl
  have F_is_below := fun_mk (st := s_is_below) l_is_below c_is_below k_is_below
  have b_is_below := F_is_below.binds (ps := ["one", "other"]) fun _ _ _ _ _ _ us hl => match us, hl with | [_, _], _ => rfl
  have F_need_water := fun_mk (st := s_need_water) l_need_water c_need_water k_need_water
  have b_need_water := F_need_water.binds (ps := ["floors", "water"]) fun _ _ _ _ _ _ us hl => match us, hl with | [_, _], _ => rfl
  have F_History_init := funT_mk (st := s_History_init) (its := [.none]) l_History_init c_History_init k_History_init hT_History_init rfl
  have b_History_init := FunT.binds (ps := ["self", "floors", "water"]) (ds := []) 3 rfl F_History_init fun _ _ _ _ _ _ _ us hl => match us, hl with | [_, _, _], _ => ⟨_, rfl, rfl⟩
  have bd1_History_init := FunT.binds (ps := ["self", "floors", "water"]) (ds := [.none]) 2 rfl F_History_init fun _ _ _ _ _ _ _ us hl => match us, hl with | [_, _], _ => ⟨_, rfl, rfl⟩
  have F_law_shut_m := fun_mk (st := s_law_shut_m) l_law_shut_m c_law_shut_m k_law_shut_m
  have b_law_shut_m := F_law_shut_m.binds (ps := ["deck", "tanks"]) fun _ _ _ _ _ _ us hl => match us, hl with | [_, _], _ => rfl
  have F_law_sum_v1 := fun_mk (st := s_law_sum_v1) l_law_sum_v1 c_law_sum_v1 k_law_sum_v1
  have b_law_sum_v1 := F_law_sum_v1.binds (ps := ["one", "other"]) fun _ _ _ _ _ _ us hl => match us, hl with | [_, _], _ => rfl
  have F_law_heap_v1 := fun_mk (st := s_law_heap_v1) l_law_heap_v1 c_law_heap_v1 k_law_heap_v1
  have b_law_heap_v1 := F_law_heap_v1.binds (ps := ["amounts"]) fun _ _ _ _ _ _ us hl => match us, hl with | [_], _ => rfl
  have F_law_slope := fun_mk (st := s_law_slope) l_law_slope c_law_slope k_law_slope
  have b_law_slope := F_law_slope.binds (ps := ["one", "other", "wide"]) fun _ _ _ _ _ _ us hl => match us, hl with | [_, _, _], _ => rfl
  have F_law_rest_v2 := fun_mk (st := s_law_rest_v2) l_law_rest_v2 c_law_rest_v2 k_law_rest_v2
  have b_law_rest_v2 := F_law_rest_v2.binds (ps := ["tanks", "amounts", "shut"]) fun _ _ _ _ _ _ us hl => match us, hl with | [_, _, _], _ => rfl
  have F_law_both_g := fun_mk (st := s_law_both_g) l_law_both_g c_law_both_g k_law_both_g
  have b_law_both_g := F_law_both_g.binds (ps := ["some", "others"]) fun _ _ _ _ _ _ us hl => match us, hl with | [_, _], _ => rfl
  have F_need_flaps := fun_mk (st := s_need_flaps) l_need_flaps c_need_flaps k_need_flaps
  have b_need_flaps := F_need_flaps.binds (ps := ["floors", "bolted"]) fun _ _ _ _ _ _ us hl => match us, hl with | [_, _], _ => rfl
  have F_lowest := fun_mk (st := s_lowest) l_lowest c_lowest k_lowest
  have b_lowest := F_lowest.binds (ps := ["top", "bottom"]) fun _ _ _ _ _ _ us hl => match us, hl with | [_, _], _ => rfl
  have F_add := fun_mk (st := s_add) l_add c_add k_add
  have b_add := F_add.binds (ps := ["one", "other"]) fun _ _ _ _ _ _ us hl => match us, hl with | [_, _], _ => rfl
  have F_stretches := fun_mk (st := s_stretches) l_stretches c_stretches k_stretches
  have b_stretches := F_stretches.binds (ps := ["floors", "bolted"]) fun _ _ _ _ _ _ us hl => match us, hl with | [_, _], _ => rfl
  have F_by := fun_mk (st := s_by) l_by c_by k_by
  have b_by := F_by.binds (ps := ["one", "whole"]) fun _ _ _ _ _ _ us hl => match us, hl with | [_, _], _ => rfl
  have F_pools_of := fun_mk (st := s_pools_of) l_pools_of c_pools_of k_pools_of
  have b_pools_of := F_pools_of.binds (ps := ["floors", "water"]) fun _ _ _ _ _ _ us hl => match us, hl with | [_, _], _ => rfl
  have F_rest_of := fun_mk (st := s_rest_of) l_rest_of c_rest_of k_rest_of
  have b_rest_of := F_rest_of.binds (ps := ["floors", "water"]) fun _ _ _ _ _ _ us hl => match us, hl with | [_, _], _ => rfl
  have F_settled := funT_mk (st := s_settled) (its := [.ref e0_settled]) l_settled c_settled k_settled hT_settled rfl
  have b_settled := FunT.binds (ps := ["floors", "water", "bolted"]) (ds := []) 3 rfl F_settled fun _ _ _ _ _ _ _ us hl => match us, hl with | [_, _, _], _ => ⟨_, rfl, rfl⟩
  have bd1_settled := FunT.binds (ps := ["floors", "water", "bolted"]) (ds := [.ref e0_settled]) 2 rfl F_settled fun _ _ _ _ _ _ _ us hl => match us, hl with | [_, _], _ => ⟨_, rfl, rfl⟩
  have F_History_step := fun_mk (st := s_History_step) l_History_step c_History_step k_History_step
  have b_History_step := F_History_step.binds (ps := ["self", "bolted", "rain"]) fun _ _ _ _ _ _ us hl => match us, hl with | [_, _, _], _ => rfl
  have F_law_same_v1 := fun_mk (st := s_law_same_v1) l_law_same_v1 c_law_same_v1 k_law_same_v1
  have b_law_same_v1 := F_law_same_v1.binds (ps := ["found", "due"]) fun _ _ _ _ _ _ us hl => match us, hl with | [_, _], _ => rfl
  have F_History_water_m := funT_mk (st := s_History_water_m) (its := [.none]) l_History_water_m c_History_water_m k_History_water_m hT_History_water_m rfl
  have b_History_water_m := FunT.binds (ps := ["self", "number"]) (ds := []) 2 rfl F_History_water_m fun _ _ _ _ _ _ _ us hl => match us, hl with | [_, _], _ => ⟨_, rfl, rfl⟩
  have bd1_History_water_m := FunT.binds (ps := ["self", "number"]) (ds := [.none]) 1 rfl F_History_water_m fun _ _ _ _ _ _ _ us hl => match us, hl with | [_], _ => ⟨_, rfl, rfl⟩
  have F_History_steps_m := fun_mk (st := s_History_steps_m) l_History_steps_m c_History_steps_m k_History_steps_m
  have b_History_steps_m := F_History_steps_m.binds (ps := ["self"]) fun _ _ _ _ _ _ us hl => match us, hl with | [_], _ => rfl
  have F_heaped_up := fun_mk (st := s_heaped_up) l_heaped_up c_heaped_up k_heaped_up
  have b_heaped_up := F_heaped_up.binds (ps := ["water"]) fun _ _ _ _ _ _ us hl => match us, hl with | [_], _ => rfl
  have F_History_left := fun_mk (st := s_History_left) l_History_left c_History_left k_History_left
  have b_History_left := F_History_left.binds (ps := ["self", "k"]) fun _ _ _ _ _ _ us hl => match us, hl with | [_, _], _ => rfl
  have F_History_floors_m := fun_mk (st := s_History_floors_m) l_History_floors_m c_History_floors_m k_History_floors_m
  have b_History_floors_m := F_History_floors_m.binds (ps := ["self"]) fun _ _ _ _ _ _ us hl => match us, hl with | [_], _ => rfl
  have F_law_right_v1 := fun_mk (st := s_law_right_v1) l_law_right_v1 c_law_right_v1 k_law_right_v1
  have b_law_right_v1 := F_law_right_v1.binds (ps := ["made", "tanks", "stands", "done"]) fun _ _ _ _ _ _ us hl => match us, hl with | [_, _, _, _], _ => rfl
  have F_law_k08 := fun_mk (st := s_law_k08) l_law_k08 c_law_k08 k_law_k08
  have b_law_k08 := F_law_k08.binds (ps := ["script"]) fun _ _ _ _ _ _ us hl => match us, hl with | [_], _ => rfl
  let T : Txt K mg := {
    CH := CH,
    cl := ⟨pg, hd, po, sa⟩,
    nF_floors_held := nF_floors_held,
    nF_steps_held := nF_steps_held,
    nF_waters_held := nF_waters_held,
    mg_History := PySem.W.mg_of X G aC,
    mkH := ⟨mkC, a_History_init, i_History_init, kC⟩,
    mt_floors := ⟨a_History_floors_m, i_History_floors_m, k_History_floors_m⟩,
    mt_left := ⟨a_History_left, i_History_left, k_History_left⟩,
    mt_step := ⟨a_History_step, i_History_step, k_History_step⟩,
    mt_steps := ⟨a_History_steps_m, i_History_steps_m, k_History_steps_m⟩,
    mt_water := ⟨a_History_water_m, i_History_water_m, k_History_water_m⟩,
    f_law_deck := f_law_deck,
    fd_law_deck := _,
    F_law_deck := F_law_deck,
    m_law_deck := PySem.W.mg_of X G a_law_deck,
    b_law_deck := b_law_deck,
    f_law_take := f_law_take,
    fd_law_take := _,
    F_law_take := F_law_take,
    m_law_take := PySem.W.mg_of X G a_law_take,
    b_law_take := b_law_take,
    f_law_tanks := f_law_tanks,
    fd_law_tanks := _,
    F_law_tanks := F_law_tanks,
    m_law_tanks := PySem.W.mg_of X G a_law_tanks,
    b_law_tanks := b_law_tanks,
    f_law_low_v2 := f_law_low_v2,
    fd_law_low_v2 := _,
    F_law_low_v2 := F_law_low_v2,
    m_law_low_v2 := PySem.W.mg_of X G a_law_low_v2,
    b_law_low_v2 := b_law_low_v2,
    f_law_amount_v3 := f_law_amount_v3,
    fd_law_amount_v3 := _,
    F_law_amount_v3 := F_law_amount_v3,
    m_law_amount_v3 := PySem.W.mg_of X G a_law_amount_v3,
    b_law_amount_v3 := b_law_amount_v3,
    f_law_fall_m := f_law_fall_m,
    fd_law_fall_m := _,
    F_law_fall_m := F_law_fall_m,
    m_law_fall_m := PySem.W.mg_of X G a_law_fall_m,
    b_law_fall_m := b_law_fall_m,
    f_need_floors := f_need_floors,
    fd_need_floors := _,
    F_need_floors := F_need_floors,
    m_need_floors := PySem.W.mg_of X G a_need_floors,
    b_need_floors := b_need_floors,
    f_is_below := f_is_below,
    fd_is_below := _,
    F_is_below := F_is_below,
    m_is_below := PySem.W.mg_of X G a_is_below,
    b_is_below := b_is_below,
    f_need_water := f_need_water,
    fd_need_water := _,
    F_need_water := F_need_water,
    m_need_water := PySem.W.mg_of X G a_need_water,
    b_need_water := b_need_water,
    bd1_History_init := bd1_History_init,
    df1_History_init := Dfl.non,
    f_History_init := f_History_init,
    fd_History_init := _,
    F_History_init := F_History_init,
    b_History_init := b_History_init,
    f_law_shut_m := f_law_shut_m,
    fd_law_shut_m := _,
    F_law_shut_m := F_law_shut_m,
    m_law_shut_m := PySem.W.mg_of X G a_law_shut_m,
    b_law_shut_m := b_law_shut_m,
    f_law_sum_v1 := f_law_sum_v1,
    fd_law_sum_v1 := _,
    F_law_sum_v1 := F_law_sum_v1,
    m_law_sum_v1 := PySem.W.mg_of X G a_law_sum_v1,
    b_law_sum_v1 := b_law_sum_v1,
    f_law_heap_v1 := f_law_heap_v1,
    fd_law_heap_v1 := _,
    F_law_heap_v1 := F_law_heap_v1,
    m_law_heap_v1 := PySem.W.mg_of X G a_law_heap_v1,
    b_law_heap_v1 := b_law_heap_v1,
    f_law_slope := f_law_slope,
    fd_law_slope := _,
    F_law_slope := F_law_slope,
    m_law_slope := PySem.W.mg_of X G a_law_slope,
    b_law_slope := b_law_slope,
    f_law_rest_v2 := f_law_rest_v2,
    fd_law_rest_v2 := _,
    F_law_rest_v2 := F_law_rest_v2,
    m_law_rest_v2 := PySem.W.mg_of X G a_law_rest_v2,
    b_law_rest_v2 := b_law_rest_v2,
    f_law_both_g := f_law_both_g,
    fd_law_both_g := _,
    F_law_both_g := F_law_both_g,
    m_law_both_g := PySem.W.mg_of X G a_law_both_g,
    b_law_both_g := b_law_both_g,
    f_need_flaps := f_need_flaps,
    fd_need_flaps := _,
    F_need_flaps := F_need_flaps,
    m_need_flaps := PySem.W.mg_of X G a_need_flaps,
    b_need_flaps := b_need_flaps,
    f_lowest := f_lowest,
    fd_lowest := _,
    F_lowest := F_lowest,
    m_lowest := PySem.W.mg_of X G a_lowest,
    b_lowest := b_lowest,
    f_add := f_add,
    fd_add := _,
    F_add := F_add,
    m_add := PySem.W.mg_of X G a_add,
    b_add := b_add,
    f_stretches := f_stretches,
    fd_stretches := _,
    F_stretches := F_stretches,
    m_stretches := PySem.W.mg_of X G a_stretches,
    b_stretches := b_stretches,
    f_by := f_by,
    fd_by := _,
    F_by := F_by,
    m_by := PySem.W.mg_of X G a_by,
    b_by := b_by,
    f_pools_of := f_pools_of,
    fd_pools_of := _,
    F_pools_of := F_pools_of,
    m_pools_of := PySem.W.mg_of X G a_pools_of,
    b_pools_of := b_pools_of,
    f_rest_of := f_rest_of,
    fd_rest_of := _,
    F_rest_of := F_rest_of,
    m_rest_of := PySem.W.mg_of X G a_rest_of,
    b_rest_of := b_rest_of,
    bd1_settled := bd1_settled,
    df1_settled := Dfl.tup0 he0_settled,
    e0_settled := e0_settled,
    f_settled := f_settled,
    fd_settled := _,
    F_settled := F_settled,
    m_settled := PySem.W.mg_of X G a_settled,
    b_settled := b_settled,
    f_History_step := f_History_step,
    fd_History_step := _,
    F_History_step := F_History_step,
    b_History_step := b_History_step,
    f_law_same_v1 := f_law_same_v1,
    fd_law_same_v1 := _,
    F_law_same_v1 := F_law_same_v1,
    m_law_same_v1 := PySem.W.mg_of X G a_law_same_v1,
    b_law_same_v1 := b_law_same_v1,
    bd1_History_water_m := bd1_History_water_m,
    df1_History_water_m := Dfl.non,
    f_History_water_m := f_History_water_m,
    fd_History_water_m := _,
    F_History_water_m := F_History_water_m,
    b_History_water_m := b_History_water_m,
    f_History_steps_m := f_History_steps_m,
    fd_History_steps_m := _,
    F_History_steps_m := F_History_steps_m,
    b_History_steps_m := b_History_steps_m,
    f_heaped_up := f_heaped_up,
    fd_heaped_up := _,
    F_heaped_up := F_heaped_up,
    m_heaped_up := PySem.W.mg_of X G a_heaped_up,
    b_heaped_up := b_heaped_up,
    f_History_left := f_History_left,
    fd_History_left := _,
    F_History_left := F_History_left,
    b_History_left := b_History_left,
    f_History_floors_m := f_History_floors_m,
    fd_History_floors_m := _,
    F_History_floors_m := F_History_floors_m,
    b_History_floors_m := b_History_floors_m,
    f_law_right_v1 := f_law_right_v1,
    fd_law_right_v1 := _,
    F_law_right_v1 := F_law_right_v1,
    m_law_right_v1 := PySem.W.mg_of X G a_law_right_v1,
    b_law_right_v1 := b_law_right_v1,
    f_law_k08 := fa,
    fd_law_k08 := _,
    F_law_k08 := F_law_k08,
    m_law_k08 := PySem.W.mg_of X G a_law_k08,
    b_law_k08 := b_law_k08,
    kb_History_left_1_k := ⟨fun s us ws _ h1 h2 => match us, ws, h1, h2 with | [_], [_], _, _ => .of_eq rfl⟩,
    kb_History_water_m_1_number := F_History_water_m.bk fun _ _ _ _ _ _ _ us ws h1 h2 => match us, ws, h1, h2 with | [_], [_], _, _ => ⟨_, rfl, rfl⟩,
    kb_History_init_1_water_floors := F_History_init.bk fun _ _ _ _ _ _ _ us ws h1 h2 => match us, ws, h1, h2 with | [_], [_, _], _, _ => ⟨_, rfl, rfl⟩,
    kb_History_init_1_floors := F_History_init.bk fun _ _ _ _ _ _ _ us ws h1 h2 => match us, ws, h1, h2 with | [_], [_], _, _ => ⟨_, rfl, rfl⟩,
    kb_History_step_1_rain_bolted := ⟨fun s us ws _ h1 h2 => match us, ws, h1, h2 with | [_], [_, _], _, _ => .of_eq rfl⟩,
    n_abs := PySem.W.mg_none_of X G n_abs,
    n_all := PySem.W.mg_none_of X G n_all,
    n_bool := PySem.W.mg_none_of X G n_bool,
    n_enumerate := PySem.W.mg_none_of X G n_enumerate,
    n_isinstance := PySem.W.mg_none_of X G n_isinstance,
    n_len := PySem.W.mg_none_of X G n_len,
    n_list := PySem.W.mg_none_of X G n_list,
    n_min := PySem.W.mg_none_of X G n_min,
    n_range := PySem.W.mg_none_of X G n_range,
    n_sorted := PySem.W.mg_none_of X G n_sorted,
    n_tuple := PySem.W.mg_none_of X G n_tuple,
    n_zip := PySem.W.mg_none_of X G n_zip,
    c_NOUGHT := GlC.pair (PySem.W.mg_of X G g_NOUGHT) h_NOUGHT }
  exact ⟨T.fd_law_k08, fun s v => .of_eq rfl, fun base _ _ => g_law_k08 T⟩
theorem walk {l : PySem.W.OpenLaw} {q : Program} {loose : List Str} {XP : (Str → Option Value) → Heap → Prop} {YP : World → Heap → Prop} {d : DefRec} {K : Params → PySem.W.Frag} (hn : l.most = some 63) (hdf : d.params.defaults = [])
    (hY : ∀ (w : World) (h : Heap), YP w h → (K w.params).In h)
    (F : ∀ (w : World) (mg : Str → Option Value) (fa : Addr) (h : Heap), (K w.params).In h → h.Ns mainGlobals mg → mg d.name = some (.ref fa) →
      ∃ fd : FuncData, (∀ (s : Shared) (u : Value), BindsTo s fd ⟨[u], []⟩ [("script", u)]) ∧ ∀ base : Heap, (K w.params).In base → base.Ns mainGlobals mg → FnOk l.prog w (K w.params) mg base CX0 11 fa fd ["script"] (liftF (K w.params) F_law_k08)) :
    PySem.W.WalkO q loose XP YP l.row.toRowW d [] (fun f vs => PySem.call f vs) :=
  L2.walk_of (n := 63) (k := 11) (x := "script") (CX := fun _ => CX0) (sp := fun w => liftF (K w.params) F_law_k08) hn (by decide) hdf ⟨rfl, by decide, by decide⟩ hY F (fun w _ a ns hl _ hS => law_start (fun k M h => ⟨ns, rfl, hl, h⟩) hS) fun _ _ _ _ _ z => z
end M
open PySem PySem.W PyProof.Rows in
theorem PySem.Challenge.cw_flapwater_k08_histories_step_by_step_holds : PySem.Challenge.rw_flapwater_k08_histories_step_by_step.Holds := by
  w_on; o_law; k_head; (case hw => w_witness2)
  k_fill
  refine M.walk (l := PySem.Challenge.rw_flapwater_k08_histories_step_by_step) rfl rfl (fun w h Y => PySem.W.kIn_of Y) ?F
  case F =>
    intro w mg fa h KX G hmg
    refine' M.all_mk KX G hmg ?aC ?pg ?hd ?po ?sa ?nF_floors_held ?nF_steps_held ?nF_waters_held ?mkC ?kC ?a_law_deck ?l_law_deck ?c_law_deck ?k_law_deck ?a_law_take ?l_law_take ?c_law_take ?k_law_take ?a_law_tanks ?l_law_tanks ?c_law_tanks ?k_law_tanks ?a_law_low_v2 ?l_law_low_v2 ?c_law_low_v2 ?k_law_low_v2 ?a_law_amount_v3 ?l_law_amount_v3 ?c_law_amount_v3 ?k_law_amount_v3 ?a_law_fall_m ?l_law_fall_m ?c_law_fall_m ?k_law_fall_m ?a_need_floors ?l_need_floors ?c_need_floors ?k_need_floors ?a_is_below ?l_is_below ?c_is_below ?k_is_below ?a_need_water ?l_need_water ?c_need_water ?k_need_water ?a_History_init ?i_History_init ?l_History_init ?c_History_init ?k_History_init ?hT_History_init ?a_law_shut_m ?l_law_shut_m ?c_law_shut_m ?k_law_shut_m ?a_law_sum_v1 ?l_law_sum_v1 ?c_law_sum_v1 ?k_law_sum_v1 ?a_law_heap_v1 ?l_law_heap_v1 ?c_law_heap_v1 ?k_law_heap_v1 ?a_law_slope ?l_law_slope ?c_law_slope ?k_law_slope ?a_law_rest_v2 ?l_law_rest_v2 ?c_law_rest_v2 ?k_law_rest_v2 ?a_law_both_g ?l_law_both_g ?c_law_both_g ?k_law_both_g ?a_need_flaps ?l_need_flaps ?c_need_flaps ?k_need_flaps ?a_lowest ?l_lowest ?c_lowest ?k_lowest ?a_add ?l_add ?c_add ?k_add ?a_stretches ?l_stretches ?c_stretches ?k_stretches ?a_by ?l_by ?c_by ?k_by ?a_pools_of ?l_pools_of ?c_pools_of ?k_pools_of ?a_rest_of ?l_rest_of ?c_rest_of ?k_rest_of ?a_settled ?l_settled ?c_settled ?k_settled ?hT_settled ?he0_settled ?a_History_step ?i_History_step ?l_History_step ?c_History_step ?k_History_step ?a_law_same_v1 ?l_law_same_v1 ?c_law_same_v1 ?k_law_same_v1 ?a_History_water_m ?i_History_water_m ?l_History_water_m ?c_History_water_m ?k_History_water_m ?hT_History_water_m ?a_History_steps_m ?i_History_steps_m ?l_History_steps_m ?c_History_steps_m ?k_History_steps_m ?a_heaped_up ?l_heaped_up ?c_heaped_up ?k_heaped_up ?a_History_left ?i_History_left ?l_History_left ?c_History_left ?k_History_left ?a_History_floors_m ?i_History_floors_m ?l_History_floors_m ?c_History_floors_m ?k_History_floors_m ?a_law_right_v1 ?l_law_right_v1 ?c_law_right_v1 ?k_law_right_v1 ?a_law_k08 ?l_law_k08 ?c_law_k08 ?k_law_k08 ?n_abs ?n_all ?n_bool ?n_enumerate ?n_isinstance ?n_len ?n_list ?n_min ?n_range ?n_sorted ?n_tuple ?n_zip ?g_NOUGHT ?h_NOUGHT
    (case aC => k_is)
    (case pg => k_is)
    (case hd => k_is)
    (case po => k_is)
    (case sa => k_is)
    (case nF_floors_held => k_is)
    (case nF_steps_held => k_is)
    (case nF_waters_held => k_is)
    (case mkC => k_is)
    (case kC => k_is)
    (case a_law_deck => k_is)
    (case l_law_deck => k_is)
    (case c_law_deck => k_is)
    (case k_law_deck => k_is)
    (case a_law_take => k_is)
    (case l_law_take => k_is)
    (case c_law_take => k_is)
    (case k_law_take => k_is)
    (case a_law_tanks => k_is)
    (case l_law_tanks => k_is)
    (case c_law_tanks => k_is)
    (case k_law_tanks => k_is)
    (case a_law_low_v2 => k_is)
    (case l_law_low_v2 => k_is)
    (case c_law_low_v2 => k_is)
    (case k_law_low_v2 => k_is)
    (case a_law_amount_v3 => k_is)
    (case l_law_amount_v3 => k_is)
    (case c_law_amount_v3 => k_is)
    (case k_law_amount_v3 => k_is)
    (case a_law_fall_m => k_is)
    (case l_law_fall_m => k_is)
    (case c_law_fall_m => k_is)
    (case k_law_fall_m => k_is)
    (case a_need_floors => k_is)
    (case l_need_floors => k_is)
    (case c_need_floors => k_is)
    (case k_need_floors => k_is)
    (case a_is_below => k_is)
    (case l_is_below => k_is)
    (case c_is_below => k_is)
    (case k_is_below => k_is)
    (case a_need_water => k_is)
    (case l_need_water => k_is)
    (case c_need_water => k_is)
    (case k_need_water => k_is)
    (case a_History_init => k_is)
    (case i_History_init => k_is)
    (case l_History_init => k_is)
    (case c_History_init => k_is)
    (case k_History_init => k_is)
    (case hT_History_init => k_is)
    (case a_law_shut_m => k_is)
    (case l_law_shut_m => k_is)
    (case c_law_shut_m => k_is)
    (case k_law_shut_m => k_is)
    (case a_law_sum_v1 => k_is)
    (case l_law_sum_v1 => k_is)
    (case c_law_sum_v1 => k_is)
    (case k_law_sum_v1 => k_is)
    (case a_law_heap_v1 => k_is)
    (case l_law_heap_v1 => k_is)
    (case c_law_heap_v1 => k_is)
    (case k_law_heap_v1 => k_is)
    (case a_law_slope => k_is)
    (case l_law_slope => k_is)
    (case c_law_slope => k_is)
    (case k_law_slope => k_is)
    (case a_law_rest_v2 => k_is)
    (case l_law_rest_v2 => k_is)
    (case c_law_rest_v2 => k_is)
    (case k_law_rest_v2 => k_is)
    (case a_law_both_g => k_is)
    (case l_law_both_g => k_is)
    (case c_law_both_g => k_is)
    (case k_law_both_g => k_is)
    (case a_need_flaps => k_is)
    (case l_need_flaps => k_is)
    (case c_need_flaps => k_is)
    (case k_need_flaps => k_is)
    (case a_lowest => k_is)
    (case l_lowest => k_is)
    (case c_lowest => k_is)
    (case k_lowest => k_is)
    (case a_add => k_is)
    (case l_add => k_is)
    (case c_add => k_is)
    (case k_add => k_is)
    (case a_stretches => k_is)
    (case l_stretches => k_is)
    (case c_stretches => k_is)
    (case k_stretches => k_is)
    (case a_by => k_is)
    (case l_by => k_is)
    (case c_by => k_is)
    (case k_by => k_is)
    (case a_pools_of => k_is)
    (case l_pools_of => k_is)
    (case c_pools_of => k_is)
    (case k_pools_of => k_is)
    (case a_rest_of => k_is)
    (case l_rest_of => k_is)
    (case c_rest_of => k_is)
    (case k_rest_of => k_is)
    (case a_settled => k_is)
    (case l_settled => k_is)
    (case c_settled => k_is)
    (case k_settled => k_is)
    (case hT_settled => k_is)
    (case he0_settled => k_is)
    (case a_History_step => k_is)
    (case i_History_step => k_is)
    (case l_History_step => k_is)
    (case c_History_step => k_is)
    (case k_History_step => k_is)
    (case a_law_same_v1 => k_is)
    (case l_law_same_v1 => k_is)
    (case c_law_same_v1 => k_is)
    (case k_law_same_v1 => k_is)
    (case a_History_water_m => k_is)
    (case i_History_water_m => k_is)
    (case l_History_water_m => k_is)
    (case c_History_water_m => k_is)
    (case k_History_water_m => k_is)
    (case hT_History_water_m => k_is)
    (case a_History_steps_m => k_is)
    (case i_History_steps_m => k_is)
    (case l_History_steps_m => k_is)
    (case c_History_steps_m => k_is)
    (case k_History_steps_m => k_is)
    (case a_heaped_up => k_is)
    (case l_heaped_up => k_is)
    (case c_heaped_up => k_is)
    (case k_heaped_up => k_is)
    (case a_History_left => k_is)
    (case i_History_left => k_is)
    (case l_History_left => k_is)
    (case c_History_left => k_is)
    (case k_History_left => k_is)
    (case a_History_floors_m => k_is)
    (case i_History_floors_m => k_is)
    (case l_History_floors_m => k_is)
    (case c_History_floors_m => k_is)
    (case k_History_floors_m => k_is)
    (case a_law_right_v1 => k_is)
    (case l_law_right_v1 => k_is)
    (case c_law_right_v1 => k_is)
    (case k_law_right_v1 => k_is)
    (case a_law_k08 => k_is)
    (case l_law_k08 => k_is)
    (case c_law_k08 => k_is)
    (case k_law_k08 => k_is)
    (case n_abs => k_is)
    (case n_all => k_is)
    (case n_bool => k_is)
    (case n_enumerate => k_is)
    (case n_isinstance => k_is)
    (case n_len => k_is)
    (case n_list => k_is)
    (case n_min => k_is)
    (case n_range => k_is)
    (case n_sorted => k_is)
    (case n_tuple => k_is)
    (case n_zip => k_is)
    (case g_NOUGHT => k_is)
    (case h_NOUGHT => k_is)
