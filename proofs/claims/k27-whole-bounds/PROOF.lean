import PyProof.Rows.All
import Wide.All
import OpenK.AllK
import Wide.FinOn
import HandS.ForMost
import HandS.More
import HandS.IsInst
import HandS.TupAny
import HandS.Style
import HandS.Conv
import HandS.Sort
import HandS.SortOrd
import HandS.SortRule
import HandS.SortInts
import HandS.Walk
import PyProof.ReprRoads
import HandS.Zip
import KE.GoesEnum
import KE.GoesMore
import KE.KDictZip
import KE.KDictList
import HandS.Zip0
import HandS.ExcValue
import PyProof.ReprLen
import PyProof.FitsInt
import PyProof.Rows.RegStrFacts
import HandS.Ends
import PySem.Challenge.RW_narrowplay_k27_whole_bounds_off_rows
set_option Elab.async false
set_option linter.all false
set_option maxRecDepth 100000
section DLa_
/-! DL, first part: data trees, what represents them in a heap, the store of mutable objects, the state relation. -/
namespace K27
open PySem PySem.Spec PyProof.Rows L2
/-- a datum: what a value stands for; ref: an object of the store -/
inductive Dt where
  | non | bl (b : Bool) | int (i : Int) | str (x : Str) | ref (a : Addr) | tup (xs : List Dt) | lst (xs : List Dt) | dct (kvs : List (Key × Dt)) | pol (ps : List (Int × Int)) | scr (ns : List Int)
def pairD (p : Int × Int) : Dt := .tup [.int p.1, .int p.2]
/-- a tuple whose object is told: no attributes of its own -/
def StT (G : Hp) (a : Addr) (vs : List V) : Prop := ∃ o, G a = some (.frz o (.tup vs)) ∧ o.cls = .type "tuple" ∧ o.dict = none
mutual
/-- v represents the datum, as far as the heap G knows -/
inductive Rep (K : PySem.W.Frag) (G : Hp) : V → Dt → Prop
  | non : Rep K G .non .non
  | bl (b : Bool) : Rep K G (.bl b) (.bl b)
  | int (i : Int) : Rep K G (.int i) (.int i)
  | str (x : Str) : Rep K G (.str x) (.str x)
  | ref (a : Addr) : Rep K G (.ref a) (.ref a)
  | tup {a : Addr} {vs : List V} {ds : List Dt} : SqT K G a vs → RepAll K G vs ds → Rep K G (.ref a) (.tup ds)
  | lst {a : Addr} {vs : List V} {ds : List Dt} : G a = some (.lst vs) → RepAll K G vs ds → Rep K G (.ref a) (.lst ds)
  | dct {a : Addr} {kvs : List (Key × V)} {kds : List (Key × Dt)} : Rd G a (.dK kvs) → RepKV K G kvs kds → Rep K G (.ref a) (.dct kds)
  | pol {a : Addr} {vs : List V} {ps : List (Int × Int)} : StT G a vs → RepAll K G vs (ps.map pairD) → Rep K G (.ref a) (.pol ps)
  | scr {a : Addr} {ns : List Int} : SqL K G a (ns.map V.int) → Rep K G (.ref a) (.scr ns)
inductive RepAll (K : PySem.W.Frag) (G : Hp) : List V → List Dt → Prop
  | nil : RepAll K G [] []
  | cons {v : V} {vs : List V} {d : Dt} {ds : List Dt} : Rep K G v d → RepAll K G vs ds → RepAll K G (v :: vs) (d :: ds)
inductive RepKV (K : PySem.W.Frag) (G : Hp) : List (Key × V) → List (Key × Dt) → Prop
  | nil : RepKV K G [] []
  | cons {k : Key} {v : V} {vs : List (Key × V)} {d : Dt} {ds : List (Key × Dt)} : Rep K G v d → RepKV K G vs ds → RepKV K G ((k, v) :: vs) ((k, d) :: ds)
end
/-- what is known stays known -/
def Ex (H H' : Hp) : Prop := ∀ a o, H a = some o → H' a = some o
theorem Ex.refl (H : Hp) : Ex H H := fun _ _ h => h
theorem Ex.trans {H H1 H2 : Hp} (a : Ex H H1) (b : Ex H1 H2) : Ex H H2 := fun x o h => b x o (a x o h)
theorem Ex.new {H : Hp} {p : Addr} {o : HO} (h : H p = none) : Ex H (upd H p o) := fun a u e => by
  rw [upd_ne (ne_of_none e h)]; exact e
theorem Ex.rd {H H' : Hp} {a : Addr} {u : HO} (e : Ex H H') (h : Rd H a u) : Rd H' a u := by
  rcases h with h | ⟨o, h⟩
  · exact Or.inl (e a _ h)
  · exact Or.inr ⟨o, e a _ h⟩
theorem Ex.sqt {K : PySem.W.Frag} {H H' : Hp} {a : Addr} {xs : List V} (e : Ex H H') (h : SqT K H a xs) : SqT K H' a xs := by
  rcases h with h | h
  · exact Or.inl (e.rd h)
  · exact Or.inr h
theorem Ex.sql {K : PySem.W.Frag} {H H' : Hp} {a : Addr} {xs : List V} (e : Ex H H') (h : SqL K H a xs) : SqL K H' a xs := by
  rcases h with h | h
  · exact Or.inl (e.rd h)
  · exact Or.inr h
theorem Ex.back {H H' : Hp} {p : Addr} (e : Ex H H') (h : H' p = none) : H p = none := by
  cases h1 : H p with
  | none => rfl
  | some o => rw [e p o h1] at h; cases h
/-- both grow by the same new object -/
theorem Ex.both {G H : Hp} {p : Addr} {o : HO} (e : Ex G H) : Ex (upd G p o) (upd H p o) := fun a u h => by
  by_cases hp : a = p
  · subst hp; rw [upd_same] at h ⊢; exact h
  · rw [upd_ne hp] at h ⊢; exact e a u h
theorem Ex.stt {H H' : Hp} {a : Addr} {xs : List V} (e : Ex H H') (h : StT H a xs) : StT H' a xs := let ⟨o, h1, h2⟩ := h; ⟨o, e _ _ h1, h2⟩
theorem StT.sqt {K : PySem.W.Frag} {H : Hp} {a : Addr} {xs : List V} (h : StT H a xs) : SqT K H a xs := let ⟨o, h1, _⟩ := h; .inl (.inr ⟨o, h1⟩)
mutual
theorem Rep.mono {K : PySem.W.Frag} {G G' : Hp} (e : Ex G G') : ∀ {v : V} {d : Dt}, Rep K G v d → Rep K G' v d
  | _, _, .non => .non
  | _, _, .bl b => .bl b
  | _, _, .int i => .int i
  | _, _, .str x => .str x
  | _, _, .ref a => .ref a
  | _, _, .tup h r => .tup (e.sqt h) (RepAll.mono e r)
  | _, _, .lst h r => .lst (e _ _ h) (RepAll.mono e r)
  | _, _, .dct h r => .dct (e.rd h) (RepKV.mono e r)
  | _, _, .pol h r => .pol (e.stt h) (RepAll.mono e r)
  | _, _, .scr h => .scr (e.sql h)
theorem RepAll.mono {K : PySem.W.Frag} {G G' : Hp} (e : Ex G G') : ∀ {vs : List V} {ds : List Dt}, RepAll K G vs ds → RepAll K G' vs ds
  | _, _, .nil => .nil
  | _, _, .cons r t => .cons (Rep.mono e r) (RepAll.mono e t)
theorem RepKV.mono {K : PySem.W.Frag} {G G' : Hp} (e : Ex G G') : ∀ {vs : List (Key × V)} {ds : List (Key × Dt)}, RepKV K G vs ds → RepKV K G' vs ds
  | _, _, .nil => .nil
  | _, _, .cons r t => .cons (Rep.mono e r) (RepKV.mono e t)
end
/-- such a tuple is a tuple -/
theorem Rep.un {K : PySem.W.Frag} {G : Hp} {v : V} {ps : List (Int × Int)} (r : Rep K G v (.pol ps)) : Rep K G v (.tup (ps.map pairD)) := by
  cases r with
  | pol h r => exact .tup h.sqt r
section
variable {K : PySem.W.Frag} {G : Hp}
theorem RepAll.length : ∀ {vs : List V} {ds : List Dt}, RepAll K G vs ds → vs.length = ds.length
  | _, _, .nil => rfl
  | _, _, .cons _ t => by rw [List.length_cons, List.length_cons, RepAll.length t]
theorem RepAll.get : ∀ {vs : List V} {ds : List Dt} {i : Nat} {d : Dt}, RepAll K G vs ds → ds[i]? = some d → ∃ v, vs[i]? = some v ∧ Rep K G v d
  | _, _, _, _, .nil, e => by simp at e
  | _, _, 0, _, .cons r _, e => by simp at e; subst e; exact ⟨_, rfl, r⟩
  | _, _, i + 1, _, .cons _ t, e => by
    obtain ⟨v, h1, h2⟩ := RepAll.get (i := i) t (by simpa using e)
    exact ⟨v, by simpa using h1, h2⟩
theorem RepAll.append : ∀ {vs ws : List V} {ds es : List Dt}, RepAll K G vs ds → RepAll K G ws es → RepAll K G (vs ++ ws) (ds ++ es)
  | _, _, _, _, .nil, s => s
  | _, _, _, _, .cons r t, s => .cons r (RepAll.append t s)
theorem RepAll.one {v : V} {d : Dt} (r : Rep K G v d) : RepAll K G [v] [d] := .cons r .nil
theorem RepAll.take : ∀ {vs : List V} {ds : List Dt} (n : Nat), RepAll K G vs ds → RepAll K G (vs.take n) (ds.take n)
  | _, _, 0, _ => .nil
  | _, _, _ + 1, .nil => .nil
  | _, _, n + 1, .cons r t => .cons r (RepAll.take n t)
theorem RepAll.drop : ∀ {vs : List V} {ds : List Dt} (n : Nat), RepAll K G vs ds → RepAll K G (vs.drop n) (ds.drop n)
  | _, _, 0, r => r
  | _, _, _ + 1, .nil => .nil
  | _, _, n + 1, .cons _ t => RepAll.drop n t
theorem RepAll.set : ∀ {vs : List V} {ds : List Dt} (n : Nat) {v : V} {d : Dt}, Rep K G v d → RepAll K G vs ds → RepAll K G (vs.set n v) (ds.set n d)
  | _, _, _, _, _, _, .nil => .nil
  | _, _, 0, _, _, r, .cons _ t => .cons r t
  | _, _, n + 1, _, _, r, .cons q t => .cons q (RepAll.set n r t)
theorem RepAll.reverse : ∀ {vs : List V} {ds : List Dt}, RepAll K G vs ds → RepAll K G vs.reverse ds.reverse
  | _, _, .nil => .nil
  | _, _, .cons r t => by
    rw [List.reverse_cons, List.reverse_cons]
    exact (RepAll.reverse t).append (.one r)
theorem RepAll.dropLast : ∀ {vs : List V} {ds : List Dt}, RepAll K G vs ds → RepAll K G vs.dropLast ds.dropLast
  | _, _, .nil => .nil
  | _, _, .cons _ .nil => .nil
  | _, _, .cons r (.cons q t) => .cons r (RepAll.dropLast (.cons q t))
theorem RepAll.ints : ∀ {vs : List V} {ns : List Int}, RepAll K G vs (ns.map .int) → vs = ns.map V.int
  | _, [], .nil => rfl
  | _, n :: ns, .cons r t => by
    cases r
    rw [RepAll.ints t]; rfl
theorem RepAll.of_ints : ∀ ns : List Int, RepAll K G (ns.map V.int) (ns.map .int)
  | [] => .nil
  | n :: ns => .cons (.int n) (RepAll.of_ints ns)
theorem RepAll.bls : ∀ {vs : List V} {ns : List Bool}, RepAll K G vs (ns.map .bl) → vs = ns.map V.bl
  | _, [], .nil => rfl
  | _, n :: ns, .cons r t => by
    cases r
    rw [RepAll.bls t]; rfl
/-- a datum's table -/
def valD (kvs : List (Key × Dt)) (k : Key) : Option Dt := (kvs.find? fun kv => decide (kv.1 = k)).map (·.2)
def putD (kvs : List (Key × Dt)) (k : Key) (v : Dt) : List (Key × Dt) :=
  if (kvs.any fun kv => decide (kv.1 = k)) = true then kvs.map (fun kv => if kv.1 = k then (kv.1, v) else kv) else kvs ++ [(k, v)]
def RepO (K : PySem.W.Frag) (G : Hp) : Option V → Option Dt → Prop
  | some v, some d => Rep K G v d
  | none, none => True
  | _, _ => False
theorem RepKV.val : ∀ {vs : List (Key × V)} {ds : List (Key × Dt)} (k : Key), RepKV K G vs ds → RepO K G (valV vs k) (valD ds k)
  | _, _, k, .nil => trivial
  | _, _, k, .cons (k := k') (v := v) (vs := vs) (d := d) (ds := ds) r t => by
    by_cases h : k' = k
    · subst h
      rw [valV_pos (p := (k', v)) rfl]
      unfold valD
      rw [List.find?_cons_of_pos (by simp)]
      exact r
    · rw [valV_neg (p := (k', v)) h]
      unfold valD
      rw [List.find?_cons_of_neg (by simp [h])]
      exact RepKV.val k t
theorem RepKV.any : ∀ {vs : List (Key × V)} {ds : List (Key × Dt)} (k : Key), RepKV K G vs ds → (vs.any fun kv => decide (kv.1 = k)) = (ds.any fun kv => decide (kv.1 = k))
  | _, _, k, .nil => rfl
  | _, _, k, .cons r t => by rw [List.any_cons, List.any_cons, RepKV.any k t]
theorem RepKV.repl {v : V} {d : Dt} (r : Rep K G v d) : ∀ {vs : List (Key × V)} {ds : List (Key × Dt)} (k : Key), RepKV K G vs ds →
    RepKV K G (vs.map fun kv => if kv.1 = k then (kv.1, v) else kv) (ds.map fun kv => if kv.1 = k then (kv.1, d) else kv)
  | _, _, k, .nil => .nil
  | _, _, k, .cons (k := k') q t => by
    rw [List.map_cons, List.map_cons]
    by_cases h : k' = k
    · rw [if_pos (show (k', _).1 = k from h), if_pos (show (k', _).1 = k from h)]
      exact .cons r (RepKV.repl r k t)
    · rw [if_neg (show ¬ (k', _).1 = k from h), if_neg (show ¬ (k', _).1 = k from h)]
      exact .cons q (RepKV.repl r k t)
theorem RepKV.append : ∀ {vs ws : List (Key × V)} {ds es : List (Key × Dt)}, RepKV K G vs ds → RepKV K G ws es → RepKV K G (vs ++ ws) (ds ++ es)
  | _, _, _, _, .nil, s => s
  | _, _, _, _, .cons r t, s => .cons r (RepKV.append t s)
theorem RepKV.put {vs : List (Key × V)} {ds : List (Key × Dt)} (k : Key) {v : V} {d : Dt} (t : RepKV K G vs ds) (r : Rep K G v d) : RepKV K G (putK vs k v) (putD ds k d) := by
  unfold putK putD
  rw [RepKV.any k t]
  split
  · exact RepKV.repl r k t
  · exact t.append (.cons r .nil)
theorem RepKV.length : ∀ {vs : List (Key × V)} {ds : List (Key × Dt)}, RepKV K G vs ds → vs.length = ds.length
  | _, _, .nil => rfl
  | _, _, .cons _ t => by rw [List.length_cons, List.length_cons, RepKV.length t]
theorem RepKV.get : ∀ {vs : List (Key × V)} {ds : List (Key × Dt)} {i : Nat} {k : Key} {d : Dt}, RepKV K G vs ds → ds[i]? = some (k, d) → ∃ v, vs[i]? = some (k, v) ∧ Rep K G v d
  | _, _, _, _, _, .nil, e => by simp at e
  | _, _, 0, _, _, .cons r _, e => by simp at e; obtain ⟨rfl, rfl⟩ := e; exact ⟨_, rfl, r⟩
  | _, _, i + 1, _, _, .cons _ t, e => by
    obtain ⟨v, h1, h2⟩ := RepKV.get (i := i) t (by simpa using e)
    exact ⟨v, by simpa using h1, h2⟩
theorem RepKV.keys : ∀ {vs : List (Key × V)} {ds : List (Key × Dt)}, RepKV K G vs ds → vs.map (·.1) = ds.map (·.1)
  | _, _, .nil => rfl
  | _, _, .cons _ t => by rw [List.map_cons, List.map_cons, RepKV.keys t]
end
/-! ### the store of mutable objects -/
abbrev Sto := Addr → Option Dt
def Sto.set (μ : Sto) (a : Addr) (x : Dt) : Sto := fun b => if b = a then some x else μ b
def Sto.del (μ : Sto) (a : Addr) : Sto := fun b => if b = a then none else μ b
theorem Sto.set_same {μ : Sto} {a : Addr} {x : Dt} : (μ.set a x) a = some x := if_pos rfl
theorem Sto.set_ne {μ : Sto} {a b : Addr} {x : Dt} (h : b ≠ a) : (μ.set a x) b = μ b := if_neg h
theorem Sto.set_set {μ : Sto} {a : Addr} {x y : Dt} : (μ.set a x).set a y = μ.set a y := by
  funext b; unfold Sto.set; split <;> rfl
theorem Sto.set_eq {μ : Sto} {a : Addr} {x : Dt} (h : μ a = some x) : μ.set a x = μ := by
  funext b; unfold Sto.set; split
  · next e => rw [e, h]
  · rfl
theorem Sto.del_set {μ : Sto} {a : Addr} {x : Dt} (h : μ a = none) : (μ.set a x).del a = μ := by
  funext b
  by_cases e : b = a
  · subst e; exact (if_pos rfl).trans h.symm
  · exact (if_neg e).trans (if_neg e)
theorem Sto.set_comm {μ : Sto} {a b : Addr} {x y : Dt} (h : a ≠ b) : (μ.set a x).set b y = (μ.set b y).set a x := by
  funext c; unfold Sto.set
  by_cases h1 : c = b
  · subst h1; rw [if_pos rfl, if_neg (fun e => h e.symm), if_pos rfl]
  · rw [if_neg h1, if_neg h1]
theorem Sto.del_comm {μ : Sto} {a b : Addr} {x : Dt} (h : a ≠ b) : (μ.set a x).del b = (μ.del b).set a x := by
  funext c; unfold Sto.set Sto.del
  by_cases h1 : c = b
  · subst h1; rw [if_pos rfl, if_neg (fun e => h e.symm), if_pos rfl]
  · rw [if_neg h1, if_neg h1]
/-- the object holds the content -/
def Holds (K : PySem.W.Frag) (G : Hp) (o : HO) : Dt → Prop
  | .lst ds => ∃ vs, o = .lst vs ∧ RepAll K G vs ds
  | .dct ds => ∃ vs, o = .dK vs ∧ RepKV K G vs ds
  | _ => False
theorem Holds.l {K : PySem.W.Frag} {G : Hp} {vs : List V} {ds : List Dt} (r : RepAll K G vs ds) : Holds K G (.lst vs) (.lst ds) := ⟨vs, rfl, r⟩
theorem Holds.d {K : PySem.W.Frag} {G : Hp} {vs : List (Key × V)} {ds : List (Key × Dt)} (r : RepKV K G vs ds) : Holds K G (.dK vs) (.dct ds) := ⟨vs, rfl, r⟩
theorem Holds.mono {K : PySem.W.Frag} {G G' : Hp} {o : HO} {x : Dt} (e : Ex G G') (h : Holds K G o x) : Holds K G' o x := by
  cases x with
  | lst ds => obtain ⟨vs, h1, h2⟩ := h; exact ⟨vs, h1, h2.mono e⟩
  | dct ds => obtain ⟨vs, h1, h2⟩ := h; exact ⟨vs, h1, h2.mono e⟩
  | non => exact h
  | bl b => exact h
  | int i => exact h
  | str x => exact h
  | ref a => exact h
  | tup xs => exact h
  | pol xs => exact h
  | scr xs => exact h
def Mo (K : PySem.W.Frag) (G H : Hp) (μ : Sto) : Prop := ∀ a x, μ a = some x → G a = none ∧ ∃ o, H a = some o ∧ Holds K G o x
/-- G: what is known; H: what stands; μ: the store -/
structure Hm (K : PySem.W.Frag) (G H : Hp) (μ : Sto) : Prop where
  ex : Ex G H
  mo : Mo K G H μ
/-- known things stay, hidden things stay as they were -/
structure Fr (G H : Hp) (μ : Sto) (G' H' : Hp) (μ' : Sto) : Prop where
  ex : Ex G G'
  hid : ∀ a o, H a = some o → G a = none → μ a = none → H' a = some o ∧ G' a = none ∧ μ' a = none
theorem Fr.refl (G H : Hp) (μ : Sto) : Fr G H μ G H μ := ⟨Ex.refl G, fun _ _ h g m => ⟨h, g, m⟩⟩
theorem Fr.trans {G H : Hp} {μ : Sto} {G1 H1 : Hp} {μ1 : Sto} {G2 H2 : Hp} {μ2 : Sto} (a : Fr G H μ G1 H1 μ1) (b : Fr G1 H1 μ1 G2 H2 μ2) : Fr G H μ G2 H2 μ2 :=
  ⟨a.ex.trans b.ex, fun x o h g m => let ⟨h1, g1, m1⟩ := a.hid x o h g m; b.hid x o h1 g1 m1⟩
/-- the values of the names: a slot without a datum is not spoken of -/
abbrev Env' := List (Option Dt)
structure RepS (K : PySem.W.Frag) (G : Hp) (σ : L2.St) (δ : Env') : Prop where
  len : σ.length = δ.length
  get : ∀ (i : Nat) (d : Dt), δ[i]? = some (some d) → ∃ v, σ[i]? = some (some v) ∧ Rep K G v d
theorem RepS.mono {K : PySem.W.Frag} {G G' : Hp} {σ : L2.St} {δ : Env'} (e : Ex G G') (r : RepS K G σ δ) : RepS K G' σ δ :=
  ⟨r.len, fun i d h => let ⟨v, h1, h2⟩ := r.get i d h; ⟨v, h1, h2.mono e⟩⟩
theorem RepS.set {K : PySem.W.Frag} {G : Hp} {σ : L2.St} {δ : Env'} {i : Nat} {v : V} {d : Dt} (r : RepS K G σ δ) (h : Rep K G v d) : RepS K G (σ.set i (some v)) (δ.set i (some d)) := by
  refine ⟨by rw [List.length_set, List.length_set, r.len], fun j d' e => ?_⟩
  by_cases hj : i = j
  · subst hj
    by_cases hl : i < δ.length
    · rw [List.getElem?_set_self hl] at e
      cases e
      exact ⟨v, List.getElem?_set_self (by rw [r.len]; exact hl), h⟩
    · rw [List.set_eq_of_length_le (by omega)] at e
      rw [List.set_eq_of_length_le (by rw [r.len]; omega)]
      exact r.get _ _ e
  · rw [List.getElem?_set_ne hj] at e ⊢
    exact r.get j d' e
/-- a state: known heap, heap, store, slots -/
structure At (K : PySem.W.Frag) (G H : Hp) (μ : Sto) (σ : L2.St) (δ : Env') : Prop extends Hm K G H μ where
  rs : RepS K G σ δ
theorem At.to {K : PySem.W.Frag} {G H : Hp} {μ : Sto} {σ : L2.St} {δ : Env'} {G' H' : Hp} {μ' : Sto} (a : At K G H μ σ δ) (h : Hm K G' H' μ') (f : Fr G H μ G' H' μ') : At K G' H' μ' σ δ :=
  ⟨h, a.rs.mono f.ex⟩
section
variable {K : PySem.W.Frag} {G H : Hp} {μ : Sto}
/-- a new object that becomes known -/
theorem Hm.new {p : Addr} {o : HO} (h : Hm K G H μ) (hp : H p = none) : Hm K (upd G p o) (upd H p o) μ ∧ Fr G H μ (upd G p o) (upd H p o) μ := by
  have hg : G p = none := h.ex.back hp
  refine ⟨⟨h.ex.both, fun a x e => ?_⟩, Ex.new hg, fun a u e1 e2 e3 => ?_⟩
  · obtain ⟨e1, u, e2, e3⟩ := h.mo a x e
    have hne : a ≠ p := ne_of_none e2 hp
    exact ⟨by rw [upd_ne hne]; exact e1, u, by rw [upd_ne hne]; exact e2, e3.mono (Ex.new hg)⟩
  · have hne : a ≠ p := ne_of_none e1 hp
    exact ⟨by rw [upd_ne hne]; exact e1, by rw [upd_ne hne]; exact e2, e3⟩
/-- a new object of the store -/
theorem Hm.newM {p : Addr} {o : HO} {x : Dt} (h : Hm K G H μ) (hp : H p = none) (hx : Holds K G o x) : Hm K G (upd H p o) (μ.set p x) ∧ Fr G H μ G (upd H p o) (μ.set p x) := by
  have hg : G p = none := h.ex.back hp
  refine ⟨⟨h.ex.trans (Ex.new hp), fun a y e => ?_⟩, Ex.refl _, fun a u e1 e2 e3 => ?_⟩
  · by_cases hne : a = p
    · subst hne
      rw [Sto.set_same] at e
      cases e
      exact ⟨hg, o, upd_same, hx⟩
    · rw [Sto.set_ne hne] at e
      obtain ⟨e1, u, e2, e3⟩ := h.mo a y e
      exact ⟨e1, u, by rw [upd_ne hne]; exact e2, e3⟩
  · have hne : a ≠ p := ne_of_none e1 hp
    exact ⟨by rw [upd_ne hne]; exact e1, e2, by rw [Sto.set_ne hne]; exact e3⟩
/-- an object of the store is written -/
theorem Hm.wr {p : Addr} {o : HO} {x y : Dt} (h : Hm K G H μ) (hp : μ p = some x) (hx : Holds K G o y) : Hm K G (upd H p o) (μ.set p y) ∧ Fr G H μ G (upd H p o) (μ.set p y) := by
  obtain ⟨hg, u0, hu0, _⟩ := h.mo p x hp
  refine ⟨⟨fun a u e => ?_, fun a z e => ?_⟩, Ex.refl _, fun a u e1 e2 e3 => ?_⟩
  · have hne : a ≠ p := ne_of_none e hg
    rw [upd_ne hne]; exact h.ex a u e
  · by_cases hne : a = p
    · subst hne
      rw [Sto.set_same] at e
      cases e
      exact ⟨hg, o, upd_same, hx⟩
    · rw [Sto.set_ne hne] at e
      obtain ⟨e1, u, e2, e3⟩ := h.mo a z e
      exact ⟨e1, u, by rw [upd_ne hne]; exact e2, e3⟩
  · have hne : a ≠ p := fun e => by subst e; rw [hp] at e3; cases e3
    exact ⟨by rw [upd_ne hne]; exact e1, e2, by rw [Sto.set_ne hne]; exact e3⟩
/-- a lesser store -/
theorem Hm.less {μ' : Sto} (h : Hm K G H μ) (hs : ∀ a x, μ' a = some x → μ a = some x) : Hm K G H μ' := ⟨h.ex, fun a x e => h.mo a x (hs a x e)⟩
theorem Fr.less {μ1 : Sto} {G' H' : Hp} {μ' : Sto} (hs : ∀ a x, μ1 a = some x → μ a = some x) (f : Fr G H μ1 G' H' μ') : Fr G H μ G' H' μ' :=
  ⟨f.ex, fun a o e1 e2 e3 => f.hid a o e1 e2 (by
    cases q : μ1 a with
    | none => rfl
    | some x => rw [hs a x q] at e3; cases e3)⟩
/-- what G' knows beyond G is where H had nothing, or p -/
theorem Hm.pub {p : Addr} {x : Dt} (h : Hm K G H μ) (hp : μ p = some x) : ∃ G', Hm K G' H (μ.del p) ∧ Fr G H μ G' H (μ.del p) ∧ Rep K G' (.ref p) x := by
  obtain ⟨hg, o, ho, hx⟩ := h.mo p x hp
  have eG : Ex G (upd G p o) := Ex.new hg
  refine ⟨upd G p o, ⟨fun a u e => ?_, fun a y e => ?_⟩, ⟨eG, fun a u e1 e2 e3 => ?_⟩, ?_⟩
  · by_cases hne : a = p
    · subst hne; rw [upd_same] at e; cases e; exact ho
    · rw [upd_ne hne] at e; exact h.ex a u e
  · by_cases hne : a = p
    · subst hne; unfold Sto.del at e; rw [if_pos rfl] at e; cases e
    · unfold Sto.del at e; rw [if_neg hne] at e
      obtain ⟨e1, u, e2, e3⟩ := h.mo a y e
      exact ⟨by rw [upd_ne hne]; exact e1, u, e2, e3.mono eG⟩
  · have hne : a ≠ p := fun e => by subst e; rw [hp] at e3; cases e3
    exact ⟨e1, by rw [upd_ne hne]; exact e2, by unfold Sto.del; rw [if_neg hne]; exact e3⟩
  · cases x with
    | lst ds => obtain ⟨vs, rfl, h2⟩ := hx; exact .lst upd_same (h2.mono eG)
    | dct ds => obtain ⟨vs, rfl, h2⟩ := hx; exact .dct (.inl upd_same) (h2.mono eG)
    | non => exact hx.elim
    | bl b => exact hx.elim
    | int i => exact hx.elim
    | str x => exact hx.elim
    | ref a => exact hx.elim
    | tup xs => exact hx.elim
    | pol xs => exact hx.elim
    | scr xs => exact hx.elim
end
end K27
end DLa_
section DLb_
/-! DL, second part: judgements over data, rules for expressions and tests. -/
namespace K27
open PySem PySem.Spec PyProof.Rows L2
/-! ### semantic readings -/
def wE (X : Cx) (e : Expr) : TE := fun σ H Q => ∀ pins s, Inv X pins σ H s → wpAny (model X.prog X.w) X.A (eval e X.env) (EP X pins σ Q) X.xe s
def wT (X : Cx) (e : Expr) : TT := fun σ H Q => ∀ pins s, Inv X pins σ H s → wpAny (model X.prog X.w) X.A (isTrue e X.env (eval e X.env)) (TP X pins σ Q) X.xe s
def wW (X : Cx) (e : Expr) : TT := fun σ H Q => ∀ whole pins s, Inv X pins σ H s → wpAny (model X.prog X.w) X.A (isTrue e X.env whole) (TP X pins σ Q) X.xe s
def wA (X : Cx) (es : List Expr) : TA := fun σ H Q => ∀ pos pins s, Inv X pins σ H s → wpAny (model X.prog X.w) X.A (spliced (backTo pos (starEach es X.env))) (AP X pins σ Q) X.xe s
def wK (X : Cx) (ks : List Keyword) : TA := fun σ H Q => ∀ pos pins s, Inv X pins σ H s → wpAny (model X.prog X.w) X.A (evalAll ((backToKw pos (keywordEach ks X.env)).map (·.2))) (AP X pins σ Q) X.xe s
def wO (X : Cx) (e : Option Expr) : TO := fun σ H Q => ∀ pins s, Inv X pins σ H s → wpAny (model X.prog X.w) X.A (evalPart e X.env) (fun u s' => ∃ o H', Inv X pins σ H' s' ∧ IsPart u o ∧ Q o H') X.xe s
theorem pe_w {X : Cx} {e : Expr} : PE X e (wE X e) := ⟨fun pins s _ _ _ I h => h pins s I⟩
theorem pt_w {X : Cx} {e : Expr} : PT X e (wT X e) := ⟨fun pins s _ _ _ I h => h pins s I⟩
theorem pw_w {X : Cx} {e : Expr} : PW X e (wW X e) := ⟨fun whole pins s _ _ _ I h => h whole pins s I⟩
theorem pa_w {X : Cx} {es : List Expr} : PA X es (wA X es) := ⟨fun pos pins s _ _ _ I h => h pos pins s I⟩
theorem pk_w {X : Cx} {es : List Keyword} : PK X es (wK X es) := ⟨fun pos pins s _ _ _ I h => h pos pins s I⟩
theorem po_w {X : Cx} {e : Option Expr} : PO X e (wO X e) := ⟨fun pins s _ _ _ I h => h pins s I⟩
theorem wE_of {X : Cx} {e : Expr} {t : TE} (h : PE X e t) {σ : L2.St} {H : Hp} {Q : VK} (q : t σ H Q) : wE X e σ H Q := fun pins s I => h.run pins s σ H Q I q
theorem wT_of {X : Cx} {e : Expr} {t : TT} (h : PT X e t) {σ : L2.St} {H : Hp} {Q : Bool → Hp → Prop} (q : t σ H Q) : wT X e σ H Q := fun pins s I => h.run pins s σ H Q I q
theorem wW_of {X : Cx} {e : Expr} {t : TT} (h : PW X e t) {σ : L2.St} {H : Hp} {Q : Bool → Hp → Prop} (q : t σ H Q) : wW X e σ H Q := fun whole pins s I => h.run whole pins s σ H Q I q
theorem wA_of {X : Cx} {es : List Expr} {t : TA} (h : PA X es t) {σ : L2.St} {H : Hp} {Q : List V → Hp → Prop} (q : t σ H Q) : wA X es σ H Q := fun pos pins s I => h.run pos pins s σ H Q I q
theorem wK_of {X : Cx} {es : List Keyword} {t : TA} (h : PK X es t) {σ : L2.St} {H : Hp} {Q : List V → Hp → Prop} (q : t σ H Q) : wK X es σ H Q := fun pos pins s I => h.run pos pins s σ H Q I q
theorem wO_of {X : Cx} {e : Option Expr} {t : TO} (h : PO X e t) {σ : L2.St} {H : Hp} {Q : Option Int → Hp → Prop} (q : t σ H Q) : wO X e σ H Q := fun pins s I => h.run pins s σ H Q I q
/-! ### judgements over data -/
abbrev QE := Dt → Sto → Prop
/-- what a value's end is to give -/
def KE (K : PySem.W.Frag) (G H : Hp) (μ : Sto) (Q : QE) (QQ : VK) : Prop := ∀ v d G' H' μ', Hm K G' H' μ' → Fr G H μ G' H' μ' → Rep K G' v d → Q d μ' → QQ v H'
def KT (K : PySem.W.Frag) (G H : Hp) (μ : Sto) (Q : Bool → Sto → Prop) (QQ : Bool → Hp → Prop) : Prop := ∀ b G' H' μ', Hm K G' H' μ' → Fr G H μ G' H' μ' → Q b μ' → QQ b H'
def KA (K : PySem.W.Frag) (G H : Hp) (μ : Sto) (Q : List Dt → Sto → Prop) (QQ : List V → Hp → Prop) : Prop := ∀ vs ds G' H' μ', Hm K G' H' μ' → Fr G H μ G' H' μ' → RepAll K G' vs ds → Q ds μ' → QQ vs H'
def KO (K : PySem.W.Frag) (G H : Hp) (μ : Sto) (Q : Option Int → Sto → Prop) (QQ : Option Int → Hp → Prop) : Prop := ∀ o G' H' μ', Hm K G' H' μ' → Fr G H μ G' H' μ' → Q o μ' → QQ o H'
def JE (X : Cx) (e : Expr) (δ : Env') (μ : Sto) (Q : QE) : Prop := ∀ σ G H QQ, At X.K G H μ σ δ → KE X.K G H μ Q QQ → wE X e σ H QQ
def JT (X : Cx) (e : Expr) (δ : Env') (μ : Sto) (Q : Bool → Sto → Prop) : Prop := ∀ σ G H QQ, At X.K G H μ σ δ → KT X.K G H μ Q QQ → wT X e σ H QQ
def JW (X : Cx) (e : Expr) (δ : Env') (μ : Sto) (Q : Bool → Sto → Prop) : Prop := ∀ σ G H QQ, At X.K G H μ σ δ → KT X.K G H μ Q QQ → wW X e σ H QQ
def JA (X : Cx) (es : List Expr) (δ : Env') (μ : Sto) (Q : List Dt → Sto → Prop) : Prop := ∀ σ G H QQ, At X.K G H μ σ δ → KA X.K G H μ Q QQ → wA X es σ H QQ
def JK (X : Cx) (es : List Keyword) (δ : Env') (μ : Sto) (Q : List Dt → Sto → Prop) : Prop := ∀ σ G H QQ, At X.K G H μ σ δ → KA X.K G H μ Q QQ → wK X es σ H QQ
def JO (X : Cx) (e : Option Expr) (δ : Env') (μ : Sto) (Q : Option Int → Sto → Prop) : Prop := ∀ σ G H QQ, At X.K G H μ σ δ → KO X.K G H μ Q QQ → wO X e σ H QQ
section
variable {K : PySem.W.Frag} {G H G1 H1 : Hp} {μ μ1 : Sto}
theorem KE.after {Q : QE} {QQ : VK} (k : KE K G H μ Q QQ) (f : Fr G H μ G1 H1 μ1) : KE K G1 H1 μ1 Q QQ := fun v d G' H' μ' hm fr r q => k v d G' H' μ' hm (f.trans fr) r q
theorem KT.after {Q : Bool → Sto → Prop} {QQ : Bool → Hp → Prop} (k : KT K G H μ Q QQ) (f : Fr G H μ G1 H1 μ1) : KT K G1 H1 μ1 Q QQ := fun b G' H' μ' hm fr q => k b G' H' μ' hm (f.trans fr) q
theorem KA.after {Q : List Dt → Sto → Prop} {QQ : List V → Hp → Prop} (k : KA K G H μ Q QQ) (f : Fr G H μ G1 H1 μ1) : KA K G1 H1 μ1 Q QQ := fun v d G' H' μ' hm fr r q => k v d G' H' μ' hm (f.trans fr) r q
theorem KO.after {Q : Option Int → Sto → Prop} {QQ : Option Int → Hp → Prop} (k : KO K G H μ Q QQ) (f : Fr G H μ G1 H1 μ1) : KO K G1 H1 μ1 Q QQ := fun b G' H' μ' hm fr q => k b G' H' μ' hm (f.trans fr) q
/-- the end itself: nothing new -/
theorem KE.here {Q : QE} {QQ : VK} {v : V} {d : Dt} (k : KE K G H μ Q QQ) (h : Hm K G H μ) (r : Rep K G v d) (q : Q d μ) : QQ v H := k v d G H μ h (Fr.refl _ _ _) r q
/-- a new known object -/
theorem KE.fresh {Q : QE} {QQ : VK} {d : Dt} {p : Addr} {o : HO} (k : KE K G H μ Q QQ) (h : Hm K G H μ) (hp : H p = none) (r : Rep K (upd G p o) (.ref p) d) (q : Q d μ) : QQ (.ref p) (upd H p o) :=
  let z := h.new (o := o) hp; k _ _ _ _ _ z.1 z.2 r q
/-- a new object of the store -/
theorem KE.freshM {Q : QE} {QQ : VK} {x : Dt} {p : Addr} {o : HO} (k : KE K G H μ Q QQ) (h : Hm K G H μ) (hp : H p = none) (r : Holds K G o x) (q : ∀ p, μ p = none → Q (.ref p) (μ.set p x)) : QQ (.ref p) (upd H p o) :=
  let z := h.newM (o := o) hp r; k _ _ _ _ _ z.1 z.2 (.ref p) (q p (by
    cases e : μ p with
    | none => rfl
    | some y =>
      obtain ⟨_, o', h2, _⟩ := h.mo p y e
      rw [hp] at h2; cases h2))
end
section
variable {X : Cx} {e a b c : Expr} {es : List Expr} {δ : Env'} {μ : Sto} {pos : Pos}
theorem JE.imp {Q Q' : QE} (h : JE X e δ μ Q) (q : ∀ d μ', Q d μ' → Q' d μ') : JE X e δ μ Q' := fun σ G H QQ at_ k => h σ G H QQ at_ fun v d G' H' μ' hm fr r z => k v d G' H' μ' hm fr r (q d μ' z)
theorem JT.imp {Q Q' : Bool → Sto → Prop} (h : JT X e δ μ Q) (q : ∀ d μ', Q d μ' → Q' d μ') : JT X e δ μ Q' := fun σ G H QQ at_ k => h σ G H QQ at_ fun d G' H' μ' hm fr z => k d G' H' μ' hm fr (q d μ' z)
theorem JA.imp {Q Q' : List Dt → Sto → Prop} (h : JA X es δ μ Q) (q : ∀ d μ', Q d μ' → Q' d μ') : JA X es δ μ Q' := fun σ G H QQ at_ k => h σ G H QQ at_ fun v d G' H' μ' hm fr r z => k v d G' H' μ' hm fr r (q d μ' z)
/-! ### names, constants -/
theorem je_var {Q : QE} {x : Str} {d : Dt} (i : Nat) (hN : X.N[i]? = some x) (hv : Vis X.env.scope x) (h : δ[i]? = some (some d)) (q : Q d μ) (hd : (x == ("__debug__" : Str)) = false := by decide) (hcd : (x == ("__classdict__" : Str)) = false := by decide) : JE X (.Name x pos) δ μ Q := fun σ G H QQ a k => by
  obtain ⟨v, h1, h2⟩ := a.rs.get i d h
  exact wE_of (pe_var hN hv hd hcd) ⟨v, h1, k.here a.toHm h2 q⟩
theorem je_int {Q : QE} {i : Int} {j : Nat} (q : Q (.int i) μ) : JE X (.Constant (.int i) j pos) δ μ Q := fun σ G H QQ a k => wE_of pe_int (k.here a.toHm (.int i) q)
theorem je_bl {Q : QE} {i : Bool} {j : Nat} (q : Q (.bl i) μ) : JE X (.Constant (.bool i) j pos) δ μ Q := fun σ G H QQ a k => wE_of pe_bl (k.here a.toHm (.bl i) q)
theorem je_str {Q : QE} {i : Str} {j : Nat} (q : Q (.str i) μ) : JE X (.Constant (.str i) j pos) δ μ Q := fun σ G H QQ a k => wE_of pe_str (k.here a.toHm (.str i) q)
theorem je_non {Q : QE} {j : Nat} (q : Q .non μ) : JE X (.Constant .none j pos) δ μ Q := fun σ G H QQ a k => wE_of pe_non (k.here a.toHm .non q)
/-- a module's constant that stands in the written part -/
theorem je_glob {Q : QE} {x : Str} {v : V} {u : Value} {d : Dt} (hg : Gl X x) (hm : X.mg x = some u) (r : RelV v u) (hr : ∀ G, Rep X.K G v d) (q : Q d μ) (hd : (x == ("__debug__" : Str)) = false := by decide) : JE X (.Name x pos) δ μ Q :=
  fun σ G H QQ a k => wE_of (pe_glob hg hm r hd) (k.here a.toHm (hr G) q)
/-! ### operators -/
def OpD (K : PySem.W.Frag) (r : R2) (f : Dt → Dt → Sto → QE → Prop) : Prop := ∀ G H μ v w x y Q QQ, Hm K G H μ → Rep K G v x → Rep K G w y → f x y μ Q → KE K G H μ Q QQ → r v w H QQ
theorem je_two {t : R2 → TE → TE → TE} {r : R2} {f : Dt → Dt → Sto → QE → Prop} {Q : QE} (hd : OpD X.K r f) (hw : ∀ σ H QQ, tOp r (wE X a) (wE X b) σ H QQ → wE X e σ H QQ)
    (h : JE X a δ μ fun x μ1 => JE X b δ μ1 fun y μ2 => f x y μ2 Q) : JE X e δ μ Q := fun σ G H QQ at_ k => hw σ H QQ <|
  h σ G H _ at_ fun v x G1 H1 μ1 hm1 f1 r1 q1 => q1 σ G1 H1 _ (at_.to hm1 f1) fun w y G2 H2 μ2 hm2 f2 r2 q2 => hd G2 H2 μ2 v w x y Q QQ hm2 (r1.mono f2.ex) r2 q2 ((k.after f1).after f2)
theorem je_op {op : Operator} {r : R2} {f : Dt → Dt → Sto → QE → Prop} {Q : QE} (ho : OpR X (binaryOp op) r) (hd : OpD X.K r f) (h : JE X a δ μ fun x μ1 => JE X b δ μ1 fun y μ2 => f x y μ2 Q) : JE X (.BinOp a op b pos) δ μ Q :=
  je_two (t := tOp) hd (fun _ _ _ z => wE_of (pe_op ho pe_w pe_w) z) h
theorem je_cmp {op : CmpOp} {r : R2} {f : Dt → Dt → Sto → QE → Prop} {Q : QE} (ho : OpR X (compareOp op) r) (hd : OpD X.K r f) (hm : behindInMarks op b = false) (h : JE X a δ μ fun x μ1 => JE X b δ μ1 fun y μ2 => f x y μ2 Q) : JE X (.Compare a [op] [b] pos) δ μ Q :=
  je_two (t := tOp) hd (fun _ _ _ z => wE_of (pe_cmpR ho pe_w pe_w hm) z) h
theorem je_ixR {r : R2} {f : Dt → Dt → Sto → QE → Prop} {Q : QE} (hr : IxR X r) (hd : OpD X.K r f) (hs : PlainIx b) (h : JE X a δ μ fun x μ1 => JE X b δ μ1 fun y μ2 => f x y μ2 Q) : JE X (.Subscript a b pos) δ μ Q :=
  je_two (t := tOp) hd (fun _ _ _ z => wE_of (pe_ix hr pe_w pe_w hs) z) h
/-- two whole numbers, under a condition -/
def fI (C : Int → Int → Prop) (g : Int → Int → Dt) : Dt → Dt → Sto → QE → Prop := fun x y μ Q => ∃ i j, x = .int i ∧ y = .int j ∧ C i j ∧ Q (g i j) μ
def fI0 (g : Int → Int → Dt) : Dt → Dt → Sto → QE → Prop := fun x y μ Q => ∃ i j, x = .int i ∧ y = .int j ∧ Q (g i j) μ
theorem od_I {K : PySem.W.Frag} {C : Int → Int → Prop} {g : Int → Int → Int} : OpD K (rI C fun i j => .int (g i j)) (fI C fun i j => .int (g i j)) := fun G H μ v w x y Q QQ hm rx ry ⟨i, j, e1, e2, c, q⟩ k => by
  subst e1; subst e2; cases rx; cases ry
  exact ⟨i, j, rfl, rfl, c, k.here hm (.int _) q⟩
theorem od_I0 {K : PySem.W.Frag} {g : Int → Int → Int} : OpD K (rI0 fun i j => .int (g i j)) (fI0 fun i j => .int (g i j)) := fun G H μ v w x y Q QQ hm rx ry ⟨i, j, e1, e2, q⟩ k => by
  subst e1; subst e2; cases rx; cases ry
  exact ⟨i, j, rfl, rfl, k.here hm (.int _) q⟩
theorem od_B0 {K : PySem.W.Frag} {g : Int → Int → Bool} : OpD K (rI0 fun i j => .bl (g i j)) (fI0 fun i j => .bl (g i j)) := fun G H μ v w x y Q QQ hm rx ry ⟨i, j, e1, e2, q⟩ k => by
  subst e1; subst e2; cases rx; cases ry
  exact ⟨i, j, rfl, rfl, k.here hm (.bl _) q⟩
section
variable {Q : QE}
theorem je_add (h : JE X a δ μ fun x μ1 => JE X b δ μ1 fun y μ2 => ∃ i j, x = .int i ∧ y = .int j ∧ Q (.int (i + j)) μ2) : JE X (.BinOp a .Add b pos) δ μ Q := je_op op_add od_I0 h
theorem je_sub (h : JE X a δ μ fun x μ1 => JE X b δ μ1 fun y μ2 => ∃ i j, x = .int i ∧ y = .int j ∧ Q (.int (i - j)) μ2) : JE X (.BinOp a .Sub b pos) δ μ Q := je_op op_sub od_I0 h
theorem je_mul (h : JE X a δ μ fun x μ1 => JE X b δ μ1 fun y μ2 => ∃ i j, x = .int i ∧ y = .int j ∧ CMul i j ∧ Q (.int (i * j)) μ2) : JE X (.BinOp a .Mult b pos) δ μ Q := je_op op_mul od_I h
theorem je_mod (h : JE X a δ μ fun x μ1 => JE X b δ μ1 fun y μ2 => ∃ i j, x = .int i ∧ y = .int j ∧ 0 < j ∧ Q (.int (i % j)) μ2) : JE X (.BinOp a .Mod b pos) δ μ Q := je_op op_mod od_I h
theorem je_div (h : JE X a δ μ fun x μ1 => JE X b δ μ1 fun y μ2 => ∃ i j, x = .int i ∧ y = .int j ∧ CDiv i j ∧ Q (.int (i / j)) μ2) : JE X (.BinOp a .FloorDiv b pos) δ μ Q := je_op op_fdiv od_I h
theorem je_pow (h : JE X a δ μ fun x μ1 => JE X b δ μ1 fun y μ2 => ∃ i j, x = .int i ∧ y = .int j ∧ CPow i j ∧ Q (.int (i ^ j.toNat)) μ2) : JE X (.BinOp a .Pow b pos) δ μ Q := je_op op_pow od_I h
theorem je_band (h : JE X a δ μ fun x μ1 => JE X b δ μ1 fun y μ2 => ∃ i j, x = .int i ∧ y = .int j ∧ Q (.int (Builtin.bitAnd i j)) μ2) : JE X (.BinOp a .BitAnd b pos) δ μ Q := je_op op_and od_I0 h
theorem je_lt (h : JE X a δ μ fun x μ1 => JE X b δ μ1 fun y μ2 => ∃ i j, x = .int i ∧ y = .int j ∧ Q (.bl (decide (i < j))) μ2) : JE X (.Compare a [.Lt] [b] pos) δ μ Q := je_cmp op_lt od_B0 (nomark _) h
theorem je_le (h : JE X a δ μ fun x μ1 => JE X b δ μ1 fun y μ2 => ∃ i j, x = .int i ∧ y = .int j ∧ Q (.bl (decide (i ≤ j))) μ2) : JE X (.Compare a [.LtE] [b] pos) δ μ Q := je_cmp op_le od_B0 (nomark _) h
theorem je_gt (h : JE X a δ μ fun x μ1 => JE X b δ μ1 fun y μ2 => ∃ i j, x = .int i ∧ y = .int j ∧ Q (.bl (decide (j < i))) μ2) : JE X (.Compare a [.Gt] [b] pos) δ μ Q := je_cmp op_gt od_B0 (nomark _) h
theorem je_ge (h : JE X a δ μ fun x μ1 => JE X b δ μ1 fun y μ2 => ∃ i j, x = .int i ∧ y = .int j ∧ Q (.bl (decide (j ≤ i))) μ2) : JE X (.Compare a [.GtE] [b] pos) δ μ Q := je_cmp op_ge od_B0 (nomark _) h
end
/-! #### == of data -/
mutual
def Dt.py : Dt → PyData
  | .non => .none
  | .bl b => .bool b
  | .int i => .int i
  | .str x => .str x
  | .ref _ => .none
  | .tup xs => .tuple (Dt.pys xs)
  | .lst xs => .list (Dt.pys xs)
  | .dct _ => .none
  | .pol ps => .tuple (ps.map fun p => .tuple [.int p.1, .int p.2])
  | .scr _ => .none
def Dt.pys : List Dt → List PyData
  | [] => []
  | x :: r => x.py :: Dt.pys r
end
theorem pys_pairs : ∀ ps : List (Int × Int), Dt.pys (ps.map pairD) = ps.map fun p => .tuple [.int p.1, .int p.2]
  | [] => rfl
  | p :: ps => by
    rw [List.map_cons, List.map_cons, ← pys_pairs ps]
    rfl
mutual
/-- no store's object, no dict within -/
def Dt.pure : Dt → Bool
  | .ref _ => false
  | .dct _ => false
  | .scr _ => false
  | .tup xs => Dt.pures xs
  | .lst xs => Dt.pures xs
  | _ => true
def Dt.pures : List Dt → Bool
  | [] => true
  | x :: r => x.pure && Dt.pures r
end
theorem sql_of {K : PySem.W.Frag} {H : Hp} {a : Addr} {xs : List V} (h : H a = some (.lst xs)) : SqL K H a xs := Or.inl (Or.inl h)
theorem sqt_of {K : PySem.W.Frag} {H : Hp} {a : Addr} {xs : List V} (h : H a = some (.tup xs)) : SqT K H a xs := Or.inl (Or.inl h)
theorem pures_pairs : ∀ ps : List (Int × Int), Dt.pures (ps.map pairD) = true
  | [] => rfl
  | p :: ps => by
    rw [List.map_cons]
    show ((pairD p).pure && Dt.pures (ps.map pairD)) = true
    rw [pures_pairs ps]; rfl
mutual
theorem Rep.dp {K : PySem.W.Frag} {G : Hp} : ∀ {v : V} {d : Dt}, Rep K G v d → d.pure = true → Dp K G v d.py
  | _, _, .non, _ => .non
  | _, _, .bl b, _ => .bl b
  | _, _, .int i, _ => .int i
  | _, _, .str x, _ => .str x
  | _, _, .ref _, h => by simp [Dt.pure] at h
  | _, _, .tup h r, p => .tup h (RepAll.dp r (by simpa [Dt.pure] using p))
  | _, _, .lst h r, p => .lst (sql_of h) (RepAll.dp r (by simpa [Dt.pure] using p))
  | _, _, .dct _ _, h => by simp [Dt.pure] at h
  | _, _, .scr _, h => by simp [Dt.pure] at h
  | _, _, .pol h r, _ => by
    have r' := RepAll.dp r (pures_pairs _)
    rw [pys_pairs] at r'
    exact .tup h.sqt r'
theorem RepAll.dp {K : PySem.W.Frag} {G : Hp} : ∀ {vs : List V} {ds : List Dt}, RepAll K G vs ds → Dt.pures ds = true → DpAll K G vs (Dt.pys ds)
  | _, _, .nil, _ => .nil
  | _, _, .cons r t, p => by
    have p' := Bool.and_eq_true_iff.mp (show (_ && _) = true from p)
    exact .cons (Rep.dp r p'.1) (RepAll.dp t p'.2)
end
mutual
theorem dp_mono {K : PySem.W.Frag} {G H : Hp} (e : Ex G H) : ∀ {v : V} {d : PyData}, Dp K G v d → Dp K H v d
  | _, _, .non => .non
  | _, _, .bl b => .bl b
  | _, _, .int i => .int i
  | _, _, .str x => .str x
  | _, _, .lst h r => .lst (e.sql h) (dpall_mono e r)
  | _, _, .tup h r => .tup (e.sqt h) (dpall_mono e r)
theorem dpall_mono {K : PySem.W.Frag} {G H : Hp} (e : Ex G H) : ∀ {vs : List V} {ds : List PyData}, DpAll K G vs ds → DpAll K H vs ds
  | _, _, .nil => .nil
  | _, _, .cons r t => .cons (dp_mono e r) (dpall_mono e t)
end
/-- fit to be compared -/
def Fit (x : Dt) : Prop := x.pure = true ∧ SeqAt.shaped x.py = true
def fEq (neg : Bool) : Dt → Dt → Sto → QE → Prop := fun x y μ Q => Fit x ∧ Fit y ∧ Q (.bl (if neg then !PyData.eqv x.py y.py else PyData.eqv x.py y.py)) μ
theorem od_eqD {K : PySem.W.Frag} : OpD K (rEqD K) (fEq false) := fun G H μ v w x y Q QQ hm rx ry ⟨f1, f2, q⟩ k =>
  ⟨_, _, dp_mono hm.ex (rx.dp f1.1), dp_mono hm.ex (ry.dp f2.1), f1.2, f2.2, k.here hm (.bl _) q⟩
theorem od_neD {K : PySem.W.Frag} : OpD K (rNeD K) (fEq true) := fun G H μ v w x y Q QQ hm rx ry ⟨f1, f2, q⟩ k =>
  ⟨_, _, dp_mono hm.ex (rx.dp f1.1), dp_mono hm.ex (ry.dp f2.1), f1.2, f2.2, k.here hm (.bl _) q⟩
theorem je_eqD {Q : QE} (hu : X.A.units + 64 < cLine) (h : JE X a δ μ fun x μ1 => JE X b δ μ1 fun y μ2 => Fit x ∧ Fit y ∧ Q (.bl (PyData.eqv x.py y.py)) μ2) : JE X (.Compare a [.Eq] [b] pos) δ μ Q := je_cmp (op_eqD hu) od_eqD (nomark _) h
theorem je_neD {Q : QE} (hu : X.A.units + 64 < cLine) (h : JE X a δ μ fun x μ1 => JE X b δ μ1 fun y μ2 => Fit x ∧ Fit y ∧ Q (.bl (!PyData.eqv x.py y.py)) μ2) : JE X (.Compare a [.NotEq] [b] pos) δ μ Q := je_cmp (op_neD hu) od_neD (nomark _) h
/-- two numbers, two texts -/
def fEqS (neg : Bool) : Dt → Dt → Sto → QE → Prop := fun x y μ Q => (∃ i j, x = .int i ∧ y = .int j ∧ Q (.bl (if neg then !decide (i = j) else decide (i = j))) μ) ∨ (∃ i j, x = .str i ∧ y = .str j ∧ Q (.bl (if neg then !decide (i = j) else decide (i = j))) μ)
theorem decV_int {i j : Int} : decide (V.int i = V.int j) = decide (i = j) := by
  by_cases h : i = j
  · subst h; simp
  · rw [decide_eq_false h, decide_eq_false (fun e => h (V.int.inj e))]
theorem decV_str {i j : Str} : decide (V.str i = V.str j) = decide (i = j) := by
  by_cases h : i = j
  · subst h; simp
  · rw [decide_eq_false h, decide_eq_false (fun e => h (V.str.inj e))]
theorem od_eq {K : PySem.W.Frag} : OpD K rEq (fEqS false) := fun G H μ v w x y Q QQ hm rx ry h k => by
  rcases h with ⟨i, j, rfl, rfl, q⟩ | ⟨i, j, rfl, rfl, q⟩ <;> cases rx <;> cases ry
  · exact ⟨rfl, by rw [decV_int]; exact k.here hm (.bl _) q⟩
  · exact ⟨rfl, by rw [decV_str]; exact k.here hm (.bl _) q⟩
theorem od_ne {K : PySem.W.Frag} : OpD K rNe (fEqS true) := fun G H μ v w x y Q QQ hm rx ry h k => by
  rcases h with ⟨i, j, rfl, rfl, q⟩ | ⟨i, j, rfl, rfl, q⟩ <;> cases rx <;> cases ry
  · exact ⟨rfl, by rw [decV_int]; exact k.here hm (.bl _) q⟩
  · exact ⟨rfl, by rw [decV_str]; exact k.here hm (.bl _) q⟩
section
variable {Q : QE}
theorem je_eqI (h : JE X a δ μ fun x μ1 => JE X b δ μ1 fun y μ2 => ∃ i j, x = .int i ∧ y = .int j ∧ Q (.bl (decide (i = j))) μ2) : JE X (.Compare a [.Eq] [b] pos) δ μ Q :=
  je_cmp op_eq od_eq (nomark _) (h.imp fun x μ1 h => h.imp fun y μ2 h => .inl h)
theorem je_eqS (h : JE X a δ μ fun x μ1 => JE X b δ μ1 fun y μ2 => ∃ i j, x = .str i ∧ y = .str j ∧ Q (.bl (decide (i = j))) μ2) : JE X (.Compare a [.Eq] [b] pos) δ μ Q :=
  je_cmp op_eq od_eq (nomark _) (h.imp fun x μ1 h => h.imp fun y μ2 h => .inr h)
theorem je_neI (h : JE X a δ μ fun x μ1 => JE X b δ μ1 fun y μ2 => ∃ i j, x = .int i ∧ y = .int j ∧ Q (.bl (!decide (i = j))) μ2) : JE X (.Compare a [.NotEq] [b] pos) δ μ Q :=
  je_cmp op_ne od_ne (nomark _) (h.imp fun x μ1 h => h.imp fun y μ2 h => .inl h)
theorem je_neS (h : JE X a δ μ fun x μ1 => JE X b δ μ1 fun y μ2 => ∃ i j, x = .str i ∧ y = .str j ∧ Q (.bl (!decide (i = j))) μ2) : JE X (.Compare a [.NotEq] [b] pos) δ μ Q :=
  je_cmp op_ne od_ne (nomark _) (h.imp fun x μ1 h => h.imp fun y μ2 h => .inr h)
end
/-- a < b of texts -/
theorem je_ltS {Q : QE} (h : JE X a δ μ fun x μ1 => JE X b δ μ1 fun y μ2 => ∃ i j, x = .str i ∧ y = .str j ∧ Q (.bl (decide (i.cps.toList < j.cps.toList))) μ2) : JE X (.Compare a [.Lt] [b] pos) δ μ Q :=
  je_cmp (f := fun x y μ Q => ∃ i j, x = .str i ∧ y = .str j ∧ Q (.bl (decide (i.cps.toList < j.cps.toList))) μ) op_lt_str (fun G H μ v w x y Q QQ hm rx ry ⟨i, j, e1, e2, q⟩ k => by
    subst e1; subst e2; cases rx; cases ry
    exact ⟨i, j, rfl, rfl, k.here hm (.bl _) q⟩) (nomark _) h
/-- one sign in a text -/
theorem je_inS {Q : QE} (hm : behindInMarks .In b = false) (h : JE X a δ μ fun x μ1 => JE X b δ μ1 fun y μ2 => ∃ (c : Nat) (z : Str), x = .str ⟨#[c]⟩ ∧ y = .str z ∧ Q (.bl (decide (c ∈ z.cps.toList))) μ2) : JE X (.Compare a [.In] [b] pos) δ μ Q :=
  je_cmp (f := fun x y μ Q => ∃ (c : Nat) (z : Str), x = .str ⟨#[c]⟩ ∧ y = .str z ∧ Q (.bl (decide (c ∈ z.cps.toList))) μ) op_in_sign (fun G H μ v w x y Q QQ hm rx ry ⟨i, j, e1, e2, q⟩ k => by
    subst e1; subst e2; cases rx; cases ry
    exact ⟨i, j, rfl, rfl, k.here hm (.bl _) q⟩) hm h
/-- is not, of truth values -/
theorem je_isnotB {Q : QE} (h : JE X a δ μ fun x μ1 => JE X b δ μ1 fun y μ2 => ∃ i j, x = .bl i ∧ y = .bl j ∧ Q (.bl (!decide (i = j))) μ2) : JE X (.Compare a [.IsNot] [b] pos) δ μ Q :=
  je_cmp (f := fun x y μ Q => ∃ i j, x = .bl i ∧ y = .bl j ∧ Q (.bl (!decide (i = j))) μ) op_notBl (fun G H μ v w x y Q QQ hm rx ry ⟨i, j, e1, e2, q⟩ k => by
    subst e1; subst e2; cases rx; cases ry
    exact ⟨i, j, rfl, rfl, k.here hm (.bl _) q⟩) (nomark _) h
/-- is None, is not None -/
theorem je_isnotN {Q : QE} (h : JE X a δ μ fun x μ1 => ∃ k, (match x with | .non => true | _ => false) = k ∧ Q (.bl (!k)) μ1) {j : Nat} {p : Pos} : JE X (.Compare a [.IsNot] [.Constant .none j p] pos) δ μ Q :=
  je_cmp (f := fun x y μ Q => y = .non ∧ ∃ k, (match x with | .non => true | _ => false) = k ∧ Q (.bl (!k)) μ) op_notN (fun G H μ v w x y Q QQ hm rx ry ⟨e1, kk, e2, q⟩ k => by
    subst e1; cases ry
    refine ⟨rfl, ?_⟩
    have e3 : decide (v = V.non) = kk := by
      rw [← e2]
      cases rx <;> rfl
    rw [e3]
    exact k.here hm (.bl _) q) (nomark _) (h.imp fun x μ1 z => je_non ⟨rfl, z⟩)
/-! #### in, not in a list or tuple of flat things -/
def flatD : Dt → Bool
  | .non | .bl _ | .int _ | .str _ => true
  | _ => false
def Dt.v : Dt → V
  | .non => .non
  | .bl b => .bl b
  | .int i => .int i
  | .str x => .str x
  | _ => .non
theorem Rep.flat {K : PySem.W.Frag} {G : Hp} {v : V} {d : Dt} (r : Rep K G v d) (h : flatD d = true) : v = d.v ∧ flatV v = true := by
  cases r <;> first | exact ⟨rfl, rfl⟩ | cases h
theorem RepAll.flat {K : PySem.W.Frag} {G : Hp} : ∀ {vs : List V} {ds : List Dt}, RepAll K G vs ds → ds.all flatD = true → vs = ds.map Dt.v ∧ vs.all flatV = true
  | _, _, .nil, _ => ⟨rfl, rfl⟩
  | _, _, .cons r t, h => by
    rw [List.all_cons, Bool.and_eq_true_iff] at h
    obtain ⟨h1, h2⟩ := r.flat h.1
    obtain ⟨h3, h4⟩ := RepAll.flat t h.2
    exact ⟨by rw [List.map_cons, ← h1, ← h3], by rw [List.all_cons, h2, h4]; rfl⟩
def fIn : Dt → Dt → Sto → QE → Prop := fun x y μ Q => ∃ ds, y = .tup ds ∧ flatD x = true ∧ ds.all flatD = true ∧ Q (.bl (inV x.v (ds.map Dt.v))) μ
theorem od_in {K : PySem.W.Frag} : OpD K (rIn K false) fIn := fun G H μ v w x y Q QQ hm rx ry ⟨ds, e, f1, f2, q⟩ k => by
  subst e
  obtain ⟨rfl, hx⟩ := rx.flat f1
  cases ry with
  | tup h r =>
    obtain ⟨rfl, h2⟩ := r.flat f2
    exact ⟨_, _, rfl, .inr (hm.ex.sqt h), hx, h2, k.here hm (.bl _) q⟩
theorem je_inT {Q : QE} (hm : behindInMarks .In b = false) (h : JE X a δ μ fun x μ1 => JE X b δ μ1 fun y μ2 => ∃ ds, y = .tup ds ∧ flatD x = true ∧ ds.all flatD = true ∧ Q (.bl (inV x.v (ds.map Dt.v))) μ2) : JE X (.Compare a [.In] [b] pos) δ μ Q :=
  je_cmp op_in_seq od_in hm h
end
end K27
end DLb_
section DLc_
/-! DL, third part: tests, arguments, displays, subscripts, built-in calls, methods. -/
namespace K27
open PySem PySem.Spec PyProof.Rows L2
section
variable {X : Cx} {e a b c : Expr} {es : List Expr} {δ : Env'} {μ : Sto} {pos : Pos}
/-! ### tests -/
theorem jt_val {Q : Bool → Sto → Prop} (h : JE X e δ μ fun d μ' => ∃ b, d = .bl b ∧ Q b μ') (he : ∀ whole, isTrue e X.env whole = (do let v ← whole; standAt e.pos; holding [v] (truthy v)) := by intro _; rfl) : JT X e δ μ Q :=
  fun σ G H QQ at_ k => wT_of (pt_val pe_w he) (h σ G H _ at_ fun v d G' H' μ' hm fr r ⟨b, e1, q⟩ => by
    subst e1; cases r
    exact ⟨b, rfl, k b G' H' μ' hm fr q⟩)
theorem jt_not {Q : Bool → Sto → Prop} (h : JT X a δ μ fun b μ' => Q (!b) μ') : JT X (.UnaryOp .Not a pos) δ μ Q :=
  fun σ G H QQ at_ k => wT_of (pt_not pt_w) (h σ G H _ at_ fun b G' H' μ' hm fr q => k _ G' H' μ' hm fr q)
theorem jt_w {Q : Bool → Sto → Prop} (h : JW X e δ μ Q) : JT X e δ μ Q := fun σ G H QQ at_ k => wT_of (PW.pt pw_w) (h σ G H QQ at_ k)
theorem jw_and1 {Q : Bool → Sto → Prop} (h : JT X a δ μ Q) : JW X (.BoolOp .And [a] pos) δ μ Q := fun σ G H QQ at_ k => wW_of (pw_and1 pt_w) (h σ G H QQ at_ k)
theorem jw_or1 {Q : Bool → Sto → Prop} (h : JT X a δ μ Q) : JW X (.BoolOp .Or [a] pos) δ μ Q := fun σ G H QQ at_ k => wW_of (pw_or1 pt_w) (h σ G H QQ at_ k)
theorem jw_and {Q : Bool → Sto → Prop} {r : List Expr} (h : JT X a δ μ fun x μ1 => (x = true → JW X (.BoolOp .And (b :: r) pos) δ μ1 Q) ∧ (x = false → Q false μ1)) : JW X (.BoolOp .And (a :: b :: r) pos) δ μ Q :=
  fun σ G H QQ at_ k => wW_of (pw_and pt_w pw_w) (h σ G H _ at_ fun x G1 H1 μ1 hm f1 q => by
    cases x with
    | true => exact iteT (q.1 rfl σ G1 H1 QQ (at_.to hm f1) (k.after f1))
    | false => exact iteF (k false G1 H1 μ1 hm f1 (q.2 rfl)))
theorem jw_or {Q : Bool → Sto → Prop} {r : List Expr} (h : JT X a δ μ fun x μ1 => (x = true → Q true μ1) ∧ (x = false → JW X (.BoolOp .Or (b :: r) pos) δ μ1 Q)) : JW X (.BoolOp .Or (a :: b :: r) pos) δ μ Q :=
  fun σ G H QQ at_ k => wW_of (pw_or pt_w pw_w) (h σ G H _ at_ fun x G1 H1 μ1 hm f1 q => by
    cases x with
    | true => exact iteT (k true G1 H1 μ1 hm f1 (q.1 rfl))
    | false => exact iteF (q.2 rfl σ G1 H1 QQ (at_.to hm f1) (k.after f1)))
theorem je_ifexp {Q : QE} (h : JT X c δ μ fun x μ1 => (x = true → JE X a δ μ1 Q) ∧ (x = false → JE X b δ μ1 Q)) : JE X (.IfExp c a b pos) δ μ Q :=
  fun σ G H QQ at_ k => wE_of (pe_ifExp pt_w pe_w pe_w) (h σ G H _ at_ fun x G1 H1 μ1 hm f1 q => by
    cases x with
    | true => exact iteT (q.1 rfl σ G1 H1 QQ (at_.to hm f1) (k.after f1))
    | false => exact iteF (q.2 rfl σ G1 H1 QQ (at_.to hm f1) (k.after f1)))
/-! ### and, or, not as values -/
theorem je_one {Q : QE} {op : BoolOp} (h : JE X a δ μ Q) : JE X (.BoolOp op [a] pos) δ μ Q := fun σ G H QQ at_ k => wE_of (pe_one pe_w) (h σ G H QQ at_ k)
theorem je_and {Q : QE} {r : List Expr} (h : JE X a δ μ fun d μ1 => ∃ x, d = .bl x ∧ (x = true → JE X (.BoolOp .And (b :: r) pos) δ μ1 Q) ∧ (x = false → Q (.bl false) μ1)) : JE X (.BoolOp .And (a :: b :: r) pos) δ μ Q :=
  fun σ G H QQ at_ k => wE_of (pe_and pe_w pe_w) (h σ G H _ at_ fun v d G1 H1 μ1 hm f1 rr ⟨x, e1, q⟩ => by
    subst e1; cases rr
    refine ⟨x, rfl, ?_⟩
    cases x with
    | true => exact iteT (q.1 rfl σ G1 H1 QQ (at_.to hm f1) (k.after f1))
    | false => exact iteF ((k.after f1).here hm (.bl false) (q.2 rfl)))
theorem je_or {Q : QE} {r : List Expr} (h : JE X a δ μ fun d μ1 => ∃ x, d = .bl x ∧ (x = true → Q (.bl true) μ1) ∧ (x = false → JE X (.BoolOp .Or (b :: r) pos) δ μ1 Q)) : JE X (.BoolOp .Or (a :: b :: r) pos) δ μ Q :=
  fun σ G H QQ at_ k => wE_of (pe_or pe_w pe_w) (h σ G H _ at_ fun v d G1 H1 μ1 hm f1 rr ⟨x, e1, q⟩ => by
    subst e1; cases rr
    refine ⟨x, rfl, ?_⟩
    cases x with
    | true => exact iteT ((k.after f1).here hm (.bl true) (q.1 rfl))
    | false => exact iteF (q.2 rfl σ G1 H1 QQ (at_.to hm f1) (k.after f1)))
theorem je_not {Q : QE} (h : JE X a δ μ fun d μ1 => ∃ x, d = .bl x ∧ Q (.bl (!x)) μ1) : JE X (.UnaryOp .Not a pos) δ μ Q :=
  fun σ G H QQ at_ k => wE_of (pe_not pe_w) (h σ G H _ at_ fun v d G1 H1 μ1 hm f1 rr ⟨x, e1, q⟩ => by
    subst e1; cases rr
    exact ⟨x, rfl, (k.after f1).here hm (.bl _) q⟩)
theorem je_neg {Q : QE} (h : JE X a δ μ fun d μ1 => ∃ i, d = .int i ∧ Q (.int (-i)) μ1) : JE X (.UnaryOp .USub a pos) δ μ Q :=
  fun σ G H QQ at_ k => wE_of (pe_un un_neg pe_w) (h σ G H _ at_ fun v d G1 H1 μ1 hm f1 rr ⟨x, e1, q⟩ => by
    subst e1; cases rr
    exact ⟨x, rfl, (k.after f1).here hm (.int _) q⟩)
/-! ### a < b < c, a < b <= c of whole numbers -/
theorem je_chain {Q : QE} {op op' : CmpOp} {g g' : Int → Int → Bool} (ho : OpR X (compareOp op) (rI0 fun i j => .bl (g i j))) (ho' : OpR X (compareOp op') (rI0 fun i j => .bl (g' i j)))
    (h : JE X a δ μ fun x μ1 => JE X b δ μ1 fun y μ2 => ∃ i j, x = .int i ∧ y = .int j ∧ (g i j = true → JE X c δ μ2 fun z μ3 => ∃ l, z = .int l ∧ Q (.bl (g' j l)) μ3) ∧ (g i j = false → Q (.bl false) μ2))
    (hm : lastMarks [op, op'] [b, c] = false := by with_unfolding_all rfl) : JE X (.Compare a [op, op'] [b, c] pos) δ μ Q :=
  fun σ G H QQ at_ k => wE_of (pe_chain ho ho' pe_w pe_w pe_w hm) (h σ G H _ at_ fun v x G1 H1 μ1 hm1 f1 r1 q1 => q1 σ G1 H1 _ (at_.to hm1 f1) fun w y G2 H2 μ2 hm2 f2 r2 ⟨i, j, e1, e2, q2⟩ => by
    subst e1; subst e2; cases r1; cases r2
    refine ⟨i, j, rfl, rfl, g i j, rfl, ?_⟩
    cases hg : g i j with
    | true =>
      refine iteT (q2.1 hg σ G2 H2 _ ((at_.to hm1 f1).to hm2 f2) fun u z G3 H3 μ3 hm3 f3 r3 ⟨l, e3, q3⟩ => ?_)
      subst e3; cases r3
      exact ⟨j, l, rfl, rfl, (((k.after f1).after f2).after f3).here hm3 (.bl _) q3⟩
    | false => exact iteF (((k.after f1).after f2).here hm2 (.bl false) (q2.2 hg)))
theorem je_ltlt {Q : QE} (h : JE X a δ μ fun x μ1 => JE X b δ μ1 fun y μ2 => ∃ i j, x = .int i ∧ y = .int j ∧ (decide (i < j) = true → JE X c δ μ2 fun z μ3 => ∃ l, z = .int l ∧ Q (.bl (decide (j < l))) μ3) ∧ (decide (i < j) = false → Q (.bl false) μ2))
    (hm : lastMarks [.Lt, .Lt] [b, c] = false := by with_unfolding_all rfl) : JE X (.Compare a [.Lt, .Lt] [b, c] pos) δ μ Q := je_chain op_lt op_lt h hm
theorem je_ltle {Q : QE} (h : JE X a δ μ fun x μ1 => JE X b δ μ1 fun y μ2 => ∃ i j, x = .int i ∧ y = .int j ∧ (decide (i < j) = true → JE X c δ μ2 fun z μ3 => ∃ l, z = .int l ∧ Q (.bl (decide (j ≤ l))) μ3) ∧ (decide (i < j) = false → Q (.bl false) μ2))
    (hm : lastMarks [.Lt, .LtE] [b, c] = false := by with_unfolding_all rfl) : JE X (.Compare a [.Lt, .LtE] [b, c] pos) δ μ Q := je_chain op_lt op_le h hm
/-! ### argument lists -/
theorem ja_nil {Q : List Dt → Sto → Prop} (q : Q [] μ) : JA X [] δ μ Q := fun σ G H QQ at_ k => wA_of pa_nil (k [] [] G H μ at_.toHm (Fr.refl _ _ _) .nil q)
theorem ja_cons {Q : List Dt → Sto → Prop} (h : JE X e δ μ fun x μ1 => JA X es δ μ1 fun ds μ2 => Q (x :: ds) μ2) (hs : starEach (e :: es) X.env = (false, eval e X.env) :: starEach es X.env := by rfl) : JA X (e :: es) δ μ Q :=
  fun σ G H QQ at_ k => wA_of (pa_cons pe_w pa_w hs) (h σ G H _ at_ fun v x G1 H1 μ1 hm1 f1 r1 q1 => q1 σ G1 H1 _ (at_.to hm1 f1) fun vs ds G2 H2 μ2 hm2 f2 r2 q2 =>
    ((k.after f1).after f2) _ _ G2 H2 μ2 hm2 (Fr.refl _ _ _) (.cons (r1.mono f2.ex) r2) q2)
theorem jk_nil {Q : List Dt → Sto → Prop} (q : Q [] μ) : JK X [] δ μ Q := fun σ G H QQ at_ k => wK_of pk_nil (k [] [] G H μ at_.toHm (Fr.refl _ _ _) .nil q)
theorem jk_cons {Q : List Dt → Sto → Prop} {ks : List Keyword} {nm : Option Str} {kp : Pos} (h : JE X e δ μ fun x μ1 => JK X ks δ μ1 fun ds μ2 => Q (x :: ds) μ2) : JK X (⟨nm, e, kp⟩ :: ks) δ μ Q :=
  fun σ G H QQ at_ k => wK_of (pk_cons pe_w pk_w) (h σ G H _ at_ fun v x G1 H1 μ1 hm1 f1 r1 q1 => q1 σ G1 H1 _ (at_.to hm1 f1) fun vs ds G2 H2 μ2 hm2 f2 r2 q2 =>
    ((k.after f1).after f2) _ _ G2 H2 μ2 hm2 (Fr.refl _ _ _) (.cons (r1.mono f2.ex) r2) q2)
/-! ### displays -/
theorem je_tup {Q : QE} {j : Nat} (h : JA X es δ μ fun ds μ1 => ds.length ≤ sizeLine ∧ Q (.tup ds) μ1) : JE X (.Tuple es j pos) δ μ Q :=
  fun σ G H QQ at_ k => wE_of (pe_tup pa_w) (h σ G H _ at_ fun vs ds G1 H1 μ1 hm f1 r q => ⟨by rw [r.length]; exact q.1, fun p hp =>
    (k.after f1).fresh hm hp (.tup (sqt_of upd_same) (r.mono (Ex.new (hm.ex.back hp)))) q.2⟩)
/-- a list that is only read from here on -/
theorem je_lst {Q : QE} (h : JA X es δ μ fun ds μ1 => ds.length ≤ sizeLine ∧ Q (.lst ds) μ1) : JE X (.List es pos) δ μ Q :=
  fun σ G H QQ at_ k => wE_of (pe_lst pa_w) (h σ G H _ at_ fun vs ds G1 H1 μ1 hm f1 r q => ⟨by rw [r.length]; exact q.1, fun p hp =>
    (k.after f1).fresh hm hp (.lst upd_same (r.mono (Ex.new (hm.ex.back hp)))) q.2⟩)
/-- a list of the store -/
theorem je_lstM {Q : QE} (h : JA X es δ μ fun ds μ1 => ds.length ≤ sizeLine ∧ ∀ p, μ1 p = none → Q (.ref p) (μ1.set p (.lst ds))) : JE X (.List es pos) δ μ Q :=
  fun σ G H QQ at_ k => wE_of (pe_lst pa_w) (h σ G H _ at_ fun vs ds G1 H1 μ1 hm f1 r q => ⟨by rw [r.length]; exact q.1, fun p hp =>
    (k.after f1).freshM hm hp (.l r) q.2⟩)
theorem je_dictM {Q : QE} (h : ∀ p, μ p = none → Q (.ref p) (μ.set p (.dct []))) : JE X (.Dict [] [] pos) δ μ Q :=
  fun σ G H QQ at_ k => wE_of pe_dnewK fun p hp => k.freshM at_.toHm hp (.d .nil) h
/-! ### what is read as a list, a tuple, a dict -/
def SeqL (μ : Sto) (d : Dt) (xs : List Dt) : Prop := d = .lst xs ∨ ∃ c, d = .ref c ∧ μ c = some (.lst xs)
/-- a tuple, whatever is told of its object -/
def TupV (d : Dt) (xs : List Dt) : Prop := d = .tup xs ∨ ∃ ps, d = .pol ps ∧ xs = ps.map pairD
def SeqA (μ : Sto) (d : Dt) (xs : List Dt) : Prop := TupV d xs ∨ SeqL μ d xs
theorem TupV.at_ {K : PySem.W.Frag} {G : Hp} {v : V} {d : Dt} {xs : List Dt} (s : TupV d xs) (r : Rep K G v d) : Rep K G v (.tup xs) := by
  rcases s with rfl | ⟨ps, rfl, rfl⟩
  · exact r
  · exact r.un
def DctV (μ : Sto) (d : Dt) (xs : List (Key × Dt)) : Prop := d = .dct xs ∨ ∃ c, d = .ref c ∧ μ c = some (.dct xs)
theorem SeqL.at_ {K : PySem.W.Frag} {G H : Hp} {μ : Sto} {v : V} {d : Dt} {xs : List Dt} (s : SeqL μ d xs) (hm : Hm K G H μ) (r : Rep K G v d) : ∃ p vs, v = .ref p ∧ H p = some (.lst vs) ∧ RepAll K G vs xs := by
  rcases s with rfl | ⟨c, rfl, h⟩
  · cases r with
    | lst h r => exact ⟨_, _, rfl, hm.ex _ _ h, r⟩
  · cases r
    obtain ⟨_, o, h2, vs, rfl, h3⟩ := hm.mo c _ h
    exact ⟨c, vs, rfl, h2, h3⟩
theorem SeqA.at_ {K : PySem.W.Frag} {G H : Hp} {μ : Sto} {v : V} {d : Dt} {xs : List Dt} (s : SeqA μ d xs) (hm : Hm K G H μ) (r : Rep K G v d) : ∃ p vs, v = .ref p ∧ (SqL K H p vs ∨ SqT K H p vs) ∧ RepAll K G vs xs := by
  rcases s with s | s
  · cases s.at_ r with
    | tup h r => exact ⟨_, _, rfl, .inr (hm.ex.sqt h), r⟩
  · obtain ⟨p, vs, h1, h2, h3⟩ := s.at_ hm r
    exact ⟨p, vs, h1, .inl (sql_of h2), h3⟩
theorem DctV.at_ {K : PySem.W.Frag} {G H : Hp} {μ : Sto} {v : V} {d : Dt} {xs : List (Key × Dt)} (s : DctV μ d xs) (hm : Hm K G H μ) (r : Rep K G v d) : ∃ p vs, v = .ref p ∧ Rd H p (.dK vs) ∧ RepKV K G vs xs := by
  rcases s with rfl | ⟨c, rfl, h⟩
  · cases r with
    | dct h r => exact ⟨_, _, rfl, hm.ex.rd h, r⟩
  · cases r
    obtain ⟨_, o, h2, vs, rfl, h3⟩ := hm.mo c _ h
    exact ⟨c, vs, rfl, .inl h2, h3⟩
theorem atI_rep {K : PySem.W.Frag} {G : Hp} {vs : List V} {ds : List Dt} {i : Int} {d : Dt} (r : RepAll K G vs ds) (h : atI ds i = some d) : ∃ v, atI vs i = some v ∧ Rep K G v d := by
  unfold atI at h ⊢
  rw [r.length]
  cases e : ixN ds.length i with
  | none => rw [e] at h; cases h
  | some j =>
    rw [e] at h
    exact r.get h
/-! ### subscripts -/
theorem je_ix {Q : QE} (hs : PlainIx b) (h : JE X a δ μ fun x μ1 => JE X b δ μ1 fun y μ2 => ∃ xs i d, SeqA μ2 x xs ∧ y = .int i ∧ atI xs i = some d ∧ Q d μ2) : JE X (.Subscript a b pos) δ μ Q :=
  je_ixR (f := fun x y μ Q => ∃ xs i d, SeqA μ x xs ∧ y = .int i ∧ atI xs i = some d ∧ Q d μ) (IxR.or ix_list ix_tup) (fun G H μ v w x y Q QQ hm rx ry ⟨xs, i, d, s, e, hi, q⟩ k => by
    subst e; cases ry
    obtain ⟨p, vs, rfl, h1, h2⟩ := s.at_ hm rx
    obtain ⟨u, h3, h4⟩ := atI_rep h2 hi
    rcases h1 with h1 | h1
    · exact .inl ⟨p, vs, i, u, rfl, rfl, h1, h3, k.here hm h4 q⟩
    · exact .inr ⟨p, vs, i, u, rfl, rfl, h1, h3, k.here hm h4 q⟩) hs h
/-- a sign of a text -/
theorem je_ixS {Q : QE} (hs : PlainIx b) (h : JE X a δ μ fun x μ1 => JE X b δ μ1 fun y μ2 => ∃ z i c, x = .str z ∧ y = .int i ∧ z.length ≤ sizeLine ∧ atI z.cps.toList i = some c ∧ Q (.str ⟨#[c]⟩) μ2) : JE X (.Subscript a b pos) δ μ Q :=
  je_ixR (f := fun x y μ Q => ∃ z i c, x = .str z ∧ y = .int i ∧ z.length ≤ sizeLine ∧ atI z.cps.toList i = some c ∧ Q (.str ⟨#[c]⟩) μ) ix_str (fun G H μ v w x y Q QQ hm rx ry ⟨z, i, c, e1, e2, hl, hi, q⟩ k => by
    subst e1; subst e2; cases rx; cases ry
    exact ⟨z, i, c, rfl, rfl, hl, hi, k.here hm (.str _) q⟩) hs h
/-- a list, a tuple or a text -/
theorem je_ixA {Q : QE} (hs : PlainIx b) (h : JE X a δ μ fun x μ1 => JE X b δ μ1 fun y μ2 => (∃ xs i d, SeqA μ2 x xs ∧ y = .int i ∧ atI xs i = some d ∧ Q d μ2) ∨ (∃ z i c, x = .str z ∧ y = .int i ∧ z.length ≤ sizeLine ∧ atI z.cps.toList i = some c ∧ Q (.str ⟨#[c]⟩) μ2)) : JE X (.Subscript a b pos) δ μ Q :=
  je_ixR (f := fun x y μ2 Q => (∃ xs i d, SeqA μ2 x xs ∧ y = .int i ∧ atI xs i = some d ∧ Q d μ2) ∨ (∃ z i c, x = .str z ∧ y = .int i ∧ z.length ≤ sizeLine ∧ atI z.cps.toList i = some c ∧ Q (.str ⟨#[c]⟩) μ2)) ix_seq (fun G H μ v w x y Q QQ hm rx ry h k => by
    rcases h with ⟨xs, i, d, s, e, hi, q⟩ | ⟨z, i, c, e1, e2, hl, hi, q⟩
    · subst e; cases ry
      obtain ⟨p, vs, rfl, h1, h2⟩ := s.at_ hm rx
      obtain ⟨u, h3, h4⟩ := atI_rep h2 hi
      rcases h1 with h1 | h1
      · exact .inl ⟨p, vs, i, u, rfl, rfl, h1, h3, k.here hm h4 q⟩
      · exact .inr (.inl ⟨p, vs, i, u, rfl, rfl, h1, h3, k.here hm h4 q⟩)
    · subst e1; subst e2; cases rx; cases ry
      exact .inr (.inr ⟨z, i, c, rfl, rfl, hl, hi, k.here hm (.str _) q⟩)) hs h
/-- d[k] of a dict -/
theorem je_dget {Q : QE} (hu : X.A.units + 1 < cLine) (hs : NoSl b) (h : JE X a δ μ fun x μ1 => JE X b δ μ1 fun y μ2 => ∃ kvs k d, DctV μ2 x kvs ∧ (y = .int k ∨ False) ∧ valD kvs (.inl k) = some d ∧ Q d μ2) : JE X (.Subscript a b pos) δ μ Q :=
  fun σ G H QQ at_ k => wE_of (pe_dget hu pe_w pe_w hs) (h σ G H _ at_ fun v x G1 H1 μ1 hm1 f1 r1 q1 => q1 σ G1 H1 _ (at_.to hm1 f1) fun w y G2 H2 μ2 hm2 f2 r2 ⟨kvs, n, d, s, e, hv, q⟩ => by
    rcases e with rfl | e
    · cases r2
      obtain ⟨p, vs, rfl, h1, h2⟩ := s.at_ hm2 (r1.mono f2.ex)
      have h3 := h2.val (.inl n)
      rw [hv] at h3
      cases e4 : valV vs (.inl n) with
      | none => rw [e4] at h3; exact h3.elim
      | some u =>
        rw [e4] at h3
        exact ⟨p, u, rfl, .inl ⟨vs, .inl n, h1, rfl, e4.symm⟩, ((k.after f1).after f2).here hm2 h3 q⟩
    · exact e.elim)
/-- d['..'] of a dict -/
theorem je_dgetS {Q : QE} (hu : X.A.units + 1 < cLine) (hs : NoSl b) (h : JE X a δ μ fun x μ1 => JE X b δ μ1 fun y μ2 => ∃ kvs k d, DctV μ2 x kvs ∧ y = .str k ∧ valD kvs (.inr k) = some d ∧ Q d μ2) : JE X (.Subscript a b pos) δ μ Q :=
  fun σ G H QQ at_ k => wE_of (pe_dget hu pe_w pe_w hs) (h σ G H _ at_ fun v x G1 H1 μ1 hm1 f1 r1 q1 => q1 σ G1 H1 _ (at_.to hm1 f1) fun w y G2 H2 μ2 hm2 f2 r2 ⟨kvs, n, d, s, e, hv, q⟩ => by
    subst e; cases r2
    obtain ⟨p, vs, rfl, h1, h2⟩ := s.at_ hm2 (r1.mono f2.ex)
    have h3 := h2.val (.inr n)
    rw [hv] at h3
    cases e4 : valV vs (.inr n) with
    | none => rw [e4] at h3; exact h3.elim
    | some u =>
      rw [e4] at h3
      exact ⟨p, u, rfl, .inl ⟨vs, .inr n, h1, rfl, e4.symm⟩, ((k.after f1).after f2).here hm2 h3 q⟩)
/-- '..' in d -/
theorem je_dinS {Q : QE} (hu : X.A.units + 1 < cLine) (hb : behindInMarks .In b = false) (h : JE X a δ μ fun y μ1 => JE X b δ μ1 fun x μ2 => ∃ kvs k, DctV μ2 x kvs ∧ y = .str k ∧ Q (.bl (valD kvs (.inr k)).isSome) μ2) : JE X (.Compare a [.In] [b] pos) δ μ Q :=
  fun σ G H QQ at_ k => wE_of (pe_cmp (pc_din hu pe_w pe_w) hb) (h σ G H _ at_ fun v x G1 H1 μ1 hm1 f1 r1 q1 => q1 σ G1 H1 _ (at_.to hm1 f1) fun w y G2 H2 μ2 hm2 f2 r2 ⟨kvs, n, s, e, q⟩ => by
    subst e; cases r1
    obtain ⟨p, vs, rfl, h1, h2⟩ := s.at_ hm2 r2
    have h3 := h2.val (.inr n)
    refine ⟨p, _, rfl, .inl ⟨vs, .inr n, h1, rfl, rfl⟩, ((k.after f1).after f2).here hm2 (.bl _) ?_⟩
    have e5 : (valV vs (.inr n)).isSome = (valD kvs (.inr n)).isSome := by
      cases e4 : valV vs (.inr n) <;> cases e6 : valD kvs (.inr n) <;> rw [e4, e6] at h3 <;> first | rfl | exact h3.elim
    rw [e5]; exact q)
/-- d.get(k, x) -/
theorem je_get {Q : QE} {o f : Expr} {apos : Pos} (hu : X.A.units + 1 < cLine) (m : M2 X o "get" apos e f pos) (h : JE X o δ μ fun x μ1 => (∃ kvs0, DctV μ1 x kvs0) ∧ JE X e δ μ1 fun y μ2 => JE X f δ μ2 fun z μ3 => ∃ kvs k, DctV μ3 x kvs ∧ y = .int k ∧ Q ((valD kvs (.inl k)).getD z) μ3) :
    JE X (.Call (.Attribute o "get" apos) [e, f] [] pos) δ μ Q :=
  fun σ G H QQ at_ k => wE_of (pe_dget2 hu pe_w pe_w pe_w m) (h σ G H _ at_ fun v x G1 H1 μ1 hm1 f1 r1 ⟨⟨kvs0, s0⟩, q1⟩ => by
    obtain ⟨p0, vs0, rfl, h0, _⟩ := s0.at_ hm1 r1
    refine ⟨p0, rfl, .inl ⟨vs0, h0⟩, q1 σ G1 H1 _ (at_.to hm1 f1) fun w y G2 H2 μ2 hm2 f2 r2 q2 => q2 σ G2 H2 _ ((at_.to hm1 f1).to hm2 f2) fun u z G3 H3 μ3 hm3 f3 r3 ⟨kvs, n, s, e, q⟩ => ?_⟩
    subst e; cases r2
    obtain ⟨p, vs, e7, h1, h2⟩ := s.at_ hm3 (r1.mono (f2.ex.trans f3.ex))
    cases e7
    have h3 := h2.val (.inl n)
    refine ⟨_, .inl ⟨vs, .inl n, h1, rfl, rfl⟩, (((k.after f1).after f2).after f3).here hm3 (d := (valD kvs (.inl n)).getD z) ?_ q⟩
    cases e4 : valV vs (.inl n) <;> cases e6 : valD kvs (.inl n) <;> rw [e4, e6] at h3
    · exact r3
    · exact h3.elim
    · exact h3.elim
    · exact h3)
/-! ### slices -/
theorem jo_none {Q : Option Int → Sto → Prop} (q : Q none μ) : JO X none δ μ Q := fun σ G H QQ at_ k => wO_of po_none (k none G H μ at_.toHm (Fr.refl _ _ _) q)
theorem jo_some {Q : Option Int → Sto → Prop} (h : JE X e δ μ fun d μ1 => ∃ i, d = .int i ∧ Q (some i) μ1) : JO X (some e) δ μ Q :=
  fun σ G H QQ at_ k => wO_of (po_some pe_w) (h σ G H _ at_ fun v d G1 H1 μ1 hm f1 r ⟨i, e1, q⟩ => by
    subst e1; cases r
    exact ⟨i, rfl, k (some i) G1 H1 μ1 hm f1 q⟩)
def cutD (xs : List Dt) (lo hi : Option Int) : List Dt := (xs.drop (HT.sIx xs.length 0 lo)).take (HT.sIx xs.length xs.length hi - HT.sIx xs.length 0 lo)
theorem RepAll.cut {K : PySem.W.Frag} {G : Hp} {vs : List V} {ds : List Dt} (r : RepAll K G vs ds) (lo hi : Option Int) : RepAll K G (cutV vs lo hi) (cutD ds lo hi) := by
  unfold cutV cutD
  rw [r.length]
  exact (r.drop _).take _
theorem cutD_whole {xs : List Dt} {lo hi : Option Int} (h : HT.sIx xs.length 0 lo = 0 ∧ HT.sIx xs.length xs.length hi = xs.length) : cutD xs lo hi = xs := by
  unfold cutD
  rw [h.1, h.2, List.drop_zero, Nat.sub_zero, List.take_length]
/-- t[lo:hi] of a tuple -/
theorem je_slT {Q : QE} {lo hi : Option Expr} {p2 : Pos} (h : JE X a δ μ fun x μ1 => JO X lo δ μ1 fun l μ2 => JO X hi δ μ2 fun u μ3 => ∃ xs, TupV x xs ∧ Q (.tup (cutD xs l u)) μ3) : JE X (.Subscript a (.Slice lo hi none p2) pos) δ μ Q :=
  fun σ G H QQ at_ k => wE_of (pe_slice sl_tupA pe_w po_w po_w) (h σ G H _ at_ fun v x G1 H1 μ1 hm1 f1 r1 q1 => q1 σ G1 H1 _ (at_.to hm1 f1) fun l G2 H2 μ2 hm2 f2 q2 => q2 σ G2 H2 _ ((at_.to hm1 f1).to hm2 f2) fun u G3 H3 μ3 hm3 f3 ⟨xs, e1, q⟩ => by
    cases e1.at_ (r1.mono (f2.ex.trans f3.ex)) with
    | tup hs r =>
      have e2 := r.length
      refine ⟨_, _, rfl, hm3.ex.sqt hs, fun hw => ?_, fun hw p hp => ?_⟩
      · rw [e2] at hw
        refine (((k.after f1).after f2).after f3).here hm3 (.tup hs r) ?_
        rw [cutD_whole hw] at q
        exact q
      · exact (((k.after f1).after f2).after f3).fresh hm3 hp (.tup (sqt_of upd_same) ((r.cut l u).mono (Ex.new (hm3.ex.back hp)))) q)
/-- xs[lo:hi] of a list: a new one, only read -/
theorem je_slL {Q : QE} {lo hi : Option Expr} {p2 : Pos} (h : JE X a δ μ fun x μ1 => JO X lo δ μ1 fun l μ2 => JO X hi δ μ2 fun u μ3 => ∃ xs, SeqL μ3 x xs ∧ Q (.lst (cutD xs l u)) μ3) : JE X (.Subscript a (.Slice lo hi none p2) pos) δ μ Q :=
  fun σ G H QQ at_ k => wE_of (pe_slice sl_list pe_w po_w po_w) (h σ G H _ at_ fun v x G1 H1 μ1 hm1 f1 r1 q1 => q1 σ G1 H1 _ (at_.to hm1 f1) fun l G2 H2 μ2 hm2 f2 q2 => q2 σ G2 H2 _ ((at_.to hm1 f1).to hm2 f2) fun u G3 H3 μ3 hm3 f3 ⟨xs, s, q⟩ => by
    obtain ⟨p, vs, rfl, h1, h2⟩ := s.at_ hm3 (r1.mono (f2.ex.trans f3.ex))
    exact ⟨p, vs, rfl, sql_of h1, fun p hp => (((k.after f1).after f2).after f3).fresh hm3 hp (.lst upd_same ((h2.cut l u).mono (Ex.new (hm3.ex.back hp)))) q⟩)
/-- the script's part: a new list, only read -/
theorem je_slScr {Q : QE} {lo hi : Option Expr} {p2 : Pos} (h : JE X a δ μ fun x μ1 => JO X lo δ μ1 fun l μ2 => JO X hi δ μ2 fun u μ3 => ∃ ns : List Int, x = .scr ns ∧ Q (.lst (cutD (ns.map .int) l u)) μ3) : JE X (.Subscript a (.Slice lo hi none p2) pos) δ μ Q :=
  fun σ G H QQ at_ k => wE_of (pe_slice sl_list pe_w po_w po_w) (h σ G H _ at_ fun v x G1 H1 μ1 hm1 f1 r1 q1 => q1 σ G1 H1 _ (at_.to hm1 f1) fun l G2 H2 μ2 hm2 f2 q2 => q2 σ G2 H2 _ ((at_.to hm1 f1).to hm2 f2) fun u G3 H3 μ3 hm3 f3 ⟨ns, e, q⟩ => by
    subst e
    cases r1 with
    | scr h1 =>
      exact ⟨_, _, rfl, hm3.ex.sql ((f2.ex.trans f3.ex).sql h1), fun p hp => (((k.after f1).after f2).after f3).fresh hm3 hp (.lst upd_same (((RepAll.of_ints ns).cut l u).mono (Ex.new (hm3.ex.back hp)))) q⟩)
/-- xs[::-1] of a list: a new one of the store -/
theorem je_revM {Q : QE} {kk : Nat} {p1 p2 p3 : Pos} (h : JE X a δ μ fun x μ1 => ∃ xs, SeqL μ1 x xs ∧ ∀ p, μ1 p = none → Q (.ref p) (μ1.set p (.lst xs.reverse))) : JE X (.Subscript a (.Slice none none (some (.UnaryOp .USub (.Constant (.int 1) kk p1) p2)) p3) pos) δ μ Q :=
  fun σ G H QQ at_ k => wE_of (pe_revL pe_w) (h σ G H _ at_ fun v x G1 H1 μ1 hm1 f1 r1 ⟨xs, s, q⟩ => by
    obtain ⟨p, vs, rfl, h1, h2⟩ := s.at_ hm1 r1
    exact ⟨p, vs, rfl, sql_of h1, fun p hp => (k.after f1).freshM hm1 hp (.l h2.reverse) q⟩)
/-! ### sums of tuples, of lists -/
theorem je_catT {Q : QE} (h : JE X a δ μ fun x μ1 => JE X b δ μ1 fun y μ2 => ∃ xs ys, x = .tup xs ∧ y = .tup ys ∧ xs.length + ys.length ≤ sizeLine ∧ Q (.tup (xs ++ ys)) μ2) : JE X (.BinOp a .Add b pos) δ μ Q :=
  je_op (f := fun x y μ Q => ∃ xs ys, x = .tup xs ∧ y = .tup ys ∧ xs.length + ys.length ≤ sizeLine ∧ Q (.tup (xs ++ ys)) μ) op_catA (fun G H μ v w x y Q QQ hm rx ry ⟨xs, ys, e1, e2, hl, q⟩ k => by
    subst e1; subst e2
    cases rx with
    | tup h1 r1 =>
      cases ry with
      | tup h2 r2 =>
        refine ⟨_, _, _, _, rfl, rfl, hm.ex.sqt h1, hm.ex.sqt h2, by rw [r1.length, r2.length]; exact hl, fun e => ?_, fun _ e => ?_, fun _ _ p hp => ?_⟩
        · subst e; cases r1
          exact k.here hm (.tup h2 r2) q
        · subst e; cases r2
          refine k.here hm (.tup h1 r1) ?_
          rw [List.append_nil] at q; exact q
        · exact k.fresh hm hp (.tup (sqt_of upd_same) ((r1.append r2).mono (Ex.new (hm.ex.back hp)))) q) h
theorem je_catM {Q : QE} (h : JE X a δ μ fun x μ1 => JE X b δ μ1 fun y μ2 => ∃ xs ys, SeqL μ2 x xs ∧ SeqL μ2 y ys ∧ xs.length + ys.length ≤ sizeLine ∧ ∀ p, μ2 p = none → Q (.ref p) (μ2.set p (.lst (xs ++ ys)))) : JE X (.BinOp a .Add b pos) δ μ Q :=
  je_op (f := fun x y μ2 Q => ∃ xs ys, SeqL μ2 x xs ∧ SeqL μ2 y ys ∧ xs.length + ys.length ≤ sizeLine ∧ ∀ p, μ2 p = none → Q (.ref p) (μ2.set p (.lst (xs ++ ys)))) op_cat (fun G H μ v w x y Q QQ hm rx ry ⟨xs, ys, e1, e2, hl, q⟩ k => by
    obtain ⟨p, vs, rfl, h1, h2⟩ := e1.at_ hm rx
    obtain ⟨p', vs', rfl, h1', h2'⟩ := e2.at_ hm ry
    exact ⟨p, p', vs, vs', rfl, rfl, h1, h1', by rw [h2.length, h2'.length]; exact hl, fun p hp => k.freshM hm hp (.l (h2.append h2')) q⟩) h
theorem je_catL {Q : QE} (h : JE X a δ μ fun x μ1 => JE X b δ μ1 fun y μ2 => ∃ xs ys, SeqL μ2 x xs ∧ SeqL μ2 y ys ∧ xs.length + ys.length ≤ sizeLine ∧ Q (.lst (xs ++ ys)) μ2) : JE X (.BinOp a .Add b pos) δ μ Q :=
  je_op (f := fun x y μ2 Q => ∃ xs ys, SeqL μ2 x xs ∧ SeqL μ2 y ys ∧ xs.length + ys.length ≤ sizeLine ∧ Q (.lst (xs ++ ys)) μ2) op_cat (fun G H μ v w x y Q QQ hm rx ry ⟨xs, ys, e1, e2, hl, q⟩ k => by
    obtain ⟨p, vs, rfl, h1, h2⟩ := e1.at_ hm rx
    obtain ⟨p', vs', rfl, h1', h2'⟩ := e2.at_ hm ry
    exact ⟨p, p', vs, vs', rfl, rfl, h1, h1', by rw [h2.length, h2'.length]; exact hl, fun p hp => k.fresh hm hp (.lst upd_same ((h2.append h2').mono (Ex.new (hm.ex.back hp)))) q⟩) h
/-! ### calls of built-ins -/
def CallD (K : PySem.W.Frag) (r : List V → Hp → VK → Prop) (f : List Dt → Sto → QE → Prop) : Prop := ∀ G H μ vs ds Q QQ, Hm K G H μ → RepAll K G vs ds → f ds μ Q → KE K G H μ Q QQ → r vs H QQ
theorem je_callB {Q : QE} {x : Str} {id : String} {p : Pos} {r : List V → Hp → VK → Prop} {f : List Dt → Sto → QE → Prop} (hc : CallR X (.builtin id) r) (hd : CallD X.K r f) (hg : Gl X x) (hm : X.mg x = none) (hv : bootBuiltins x = some (.builtin id))
    (h : JA X (e :: es) δ μ fun ds μ1 => f ds μ1 Q) (hn : x ≠ "__name__" := by decide) (hdb : (x == ("__debug__" : Str)) = false := by decide)
    (he : starEach (e :: es) X.env = (false, eval e X.env) :: starEach es X.env := by rfl) (hpl : (backTo pos (starEach es X.env)).any (·.1) = false := by rfl) : JE X (.Call (.Name x p) (e :: es) [] pos) δ μ Q :=
  fun σ G H QQ at_ k => wE_of (pe_callB hc hg hm hv pa_w hn hdb he hpl) (h σ G H _ at_ fun vs ds G1 H1 μ1 hm1 f1 r1 q => hd G1 H1 μ1 vs ds Q QQ hm1 r1 q (k.after f1))
theorem je_callTy {Q : QE} {x : Str} {id : String} {p : Pos} {r : List V → Hp → VK → Prop} {f : List Dt → Sto → QE → Prop} (hc : CallR X (.type id) r) (hd : CallD X.K r f) (hg : Gl X x) (hm : X.mg x = none) (hv : bootBuiltins x = some (.type id))
    (h : JA X (e :: es) δ μ fun ds μ1 => f ds μ1 Q) (hn : x ≠ "__name__" := by decide) (hdb : (x == ("__debug__" : Str)) = false := by decide)
    (he : starEach (e :: es) X.env = (false, eval e X.env) :: starEach es X.env := by rfl) (hpl : (backTo pos (starEach es X.env)).any (·.1) = false := by rfl) : JE X (.Call (.Name x p) (e :: es) [] pos) δ μ Q :=
  fun σ G H QQ at_ k => wE_of (pe_callTy hc hg hm hv pa_w hn hdb he hpl) (h σ G H _ at_ fun vs ds G1 H1 μ1 hm1 f1 r1 q => hd G1 H1 μ1 vs ds Q QQ hm1 r1 q (k.after f1))
/-- len of a text, a list, a tuple -/
def LenD (μ : Sto) (d : Dt) (n : Nat) : Prop := (∃ z, d = .str z ∧ z.length ≤ sizeLine ∧ n = z.length) ∨ ∃ xs, SeqA μ d xs ∧ n = xs.length
def fLen : List Dt → Sto → QE → Prop := fun ds μ Q => ∃ d n, ds = [d] ∧ LenD μ d n ∧ Q (.int n) μ
theorem RepAll.inv1 {K : PySem.W.Frag} {G : Hp} {vs : List V} {d : Dt} (r : RepAll K G vs [d]) : ∃ v, vs = [v] ∧ Rep K G v d := by
  cases r with
  | cons r t => cases t; exact ⟨_, rfl, r⟩
theorem RepAll.inv2 {K : PySem.W.Frag} {G : Hp} {vs : List V} {d d' : Dt} (r : RepAll K G vs [d, d']) : ∃ v v', vs = [v, v'] ∧ Rep K G v d ∧ Rep K G v' d' := by
  cases r with
  | cons r t =>
    obtain ⟨v', rfl, r'⟩ := t.inv1
    exact ⟨_, _, rfl, r, r'⟩
theorem cd_len {K : PySem.W.Frag} : CallD K (fun xs H Q => ∃ x n, xs = [x] ∧ LenV K x H n ∧ Q (.int n) H) fLen := fun G H μ vs ds Q QQ hm r ⟨d, n, e, hl, q⟩ k => by
  subst e
  obtain ⟨v, rfl, rv⟩ := r.inv1
  refine ⟨v, n, rfl, ?_, k.here hm (.int _) q⟩
  rcases hl with ⟨z, rfl, h1, h2⟩ | ⟨xs, s, h2⟩
  · cases rv; exact ⟨h1, h2⟩
  · obtain ⟨p, ws, rfl, h3, h4⟩ := s.at_ hm rv
    rcases h3 with h3 | h3
    · exact .inl ⟨ws, h3, by rw [h4.length]; exact h2⟩
    · exact .inr ⟨ws, h3, by rw [h4.length]; exact h2⟩
theorem je_len {Q : QE} {p : Pos} (hg : Gl X "len") (hm : X.mg "len" = none) (h : JE X e δ μ fun d μ1 => ∃ n : Nat, LenD μ1 d n ∧ Q (.int n) μ1) (he : starEach [e] X.env = (false, eval e X.env) :: starEach [] X.env := by rfl) : JE X (.Call (.Name "len" p) [e] [] pos) δ μ Q :=
  je_callB call_len cd_len hg hm PySem.boot_len (ja_cons (h.imp fun d μ1 ⟨n, h1, h2⟩ => ja_nil ⟨d, n, rfl, h1, h2⟩) he) (he := he)
theorem je_max2 {Q : QE} {p : Pos} {f : Expr} (hc : X.calm = true) (hg : Gl X "max") (hm : X.mg "max" = none) (h : JA X [e, f] δ μ fun ds μ1 => ∃ i j, ds = [.int i, .int j] ∧ Q (.int (if j > i then j else i)) μ1)
    (he : starEach [e, f] X.env = (false, eval e X.env) :: starEach [f] X.env := by rfl) (hpl : (backTo pos (starEach [f] X.env)).any (·.1) = false := by rfl) : JE X (.Call (.Name "max" p) [e, f] [] pos) δ μ Q :=
  je_callB (f := fun ds μ Q => ∃ i j, ds = [.int i, .int j] ∧ Q (.int (if j > i then j else i)) μ) (call_max2 hc) (fun G H μ vs ds Q QQ hm r ⟨i, j, e, q⟩ k => by
    subst e
    obtain ⟨v, w, rfl, r1, r2⟩ := r.inv2
    cases r1; cases r2
    exact ⟨i, j, rfl, k.here hm (.int _) q⟩) hg hm (by decide +kernel) h (he := he) (hpl := hpl)
theorem je_int1 {Q : QE} {p : Pos} (hg : Gl X "int") (hm : X.mg "int" = none) (h : JE X e δ μ fun d μ1 => ∃ i, d = .int i ∧ Q (.int i) μ1) (he : starEach [e] X.env = (false, eval e X.env) :: starEach [] X.env := by rfl) : JE X (.Call (.Name "int" p) [e] [] pos) δ μ Q :=
  je_callTy (f := fun ds μ Q => ∃ i, ds = [.int i] ∧ Q (.int i) μ) call_int1 (fun G H μ vs ds Q QQ hm r ⟨i, e, q⟩ k => by
    subst e
    obtain ⟨v, rfl, r1⟩ := r.inv1
    cases r1
    exact .inl ⟨i, rfl, k.here hm (.int _) q⟩) hg hm (by decide +kernel) (ja_cons (h.imp fun d μ1 ⟨i, e1, q⟩ => ja_nil ⟨i, by rw [e1], q⟩) he) (he := he)
/-- list(xs): a new list, only read -/
theorem je_listL {Q : QE} {p : Pos} (hg : Gl X "list") (hm : X.mg "list" = none) (h : JE X e δ μ fun d μ1 => ∃ xs, SeqA μ1 d xs ∧ Q (.lst xs) μ1) (he : starEach [e] X.env = (false, eval e X.env) :: starEach [] X.env := by rfl) : JE X (.Call (.Name "list" p) [e] [] pos) δ μ Q :=
  je_callTy (f := fun ds μ Q => ∃ d xs, ds = [d] ∧ SeqA μ d xs ∧ Q (.lst xs) μ) call_list_of (fun G H μ vs ds Q QQ hm r ⟨d, xs, e, s, q⟩ k => by
    subst e
    obtain ⟨v, rfl, r1⟩ := r.inv1
    obtain ⟨p, ws, rfl, h3, h4⟩ := s.at_ hm r1
    exact ⟨p, ws, rfl, h3, fun l hl => k.fresh hm hl (.lst upd_same (h4.mono (Ex.new (hm.ex.back hl)))) q⟩) hg hm (by decide +kernel) (ja_cons (h.imp fun d μ1 ⟨xs, s, q⟩ => ja_nil ⟨d, xs, rfl, s, q⟩) he) (he := he)
def keyD : Key → Dt
  | .inl i => .int i
  | .inr x => .str x
theorem RepAll.keys {K : PySem.W.Frag} {G : Hp} : ∀ {vs : List (Key × V)} {ds : List (Key × Dt)}, RepKV K G vs ds → RepAll K G (vs.map fun kv => kV kv.1) (ds.map fun kv => keyD kv.1)
  | _, _, .nil => .nil
  | _, _, .cons (k := k) r t => .cons (by cases k; exact .int _; exact .str _) (RepAll.keys t)
/-- list(d), d a dict of the store -/
theorem je_listD {Q : QE} {p : Pos} (hc : X.calm = true) (hg : Gl X "list") (hm : X.mg "list" = none) (h : JE X e δ μ fun d μ1 => ∃ c kvs, d = .ref c ∧ μ1 c = some (.dct kvs) ∧ Q (.lst (kvs.map fun kv => keyD kv.1)) μ1) (he : starEach [e] X.env = (false, eval e X.env) :: starEach [] X.env := by rfl) : JE X (.Call (.Name "list" p) [e] [] pos) δ μ Q :=
  je_callTy (f := fun ds μ Q => ∃ c kvs, ds = [.ref c] ∧ μ c = some (.dct kvs) ∧ Q (.lst (kvs.map fun kv => keyD kv.1)) μ) (call_list_dK hc) (fun G H μ vs ds Q QQ hm r ⟨c, kvs, e, s, q⟩ k => by
    subst e
    obtain ⟨v, rfl, r1⟩ := r.inv1
    cases r1
    obtain ⟨_, o, h2, ws, rfl, h3⟩ := hm.mo c _ s
    exact ⟨c, ws, rfl, h2, fun l hl => k.fresh hm hl (.lst upd_same ((RepAll.keys h3).mono (Ex.new (hm.ex.back hl)))) q⟩) hg hm (by decide +kernel) (ja_cons (h.imp fun d μ1 ⟨c, kvs, e1, s, q⟩ => ja_nil ⟨c, kvs, by rw [e1], s, q⟩) he) (he := he)
/-- tuple(xs) of a list: a new tuple -/
theorem je_tuple {Q : QE} {p : Pos} (hg : Gl X "tuple") (hm : X.mg "tuple" = none) (h : JE X e δ μ fun d μ1 => ∃ xs, SeqL μ1 d xs ∧ Q (.tup xs) μ1) (he : starEach [e] X.env = (false, eval e X.env) :: starEach [] X.env := by rfl) : JE X (.Call (.Name "tuple" p) [e] [] pos) δ μ Q :=
  je_callTy (f := fun ds μ Q => ∃ d xs, ds = [d] ∧ SeqL μ d xs ∧ Q (.tup xs) μ) call_tuple_of (fun G H μ vs ds Q QQ hm r ⟨d, xs, e, s, q⟩ k => by
    subst e
    obtain ⟨v, rfl, r1⟩ := r.inv1
    obtain ⟨p, ws, rfl, h3, h4⟩ := s.at_ hm r1
    exact ⟨p, ws, rfl, .inl ⟨sql_of h3, fun l hl => k.fresh hm hl (.tup (sqt_of upd_same) (h4.mono (Ex.new (hm.ex.back hl)))) q⟩⟩) hg hm (by decide +kernel) (ja_cons (h.imp fun d μ1 ⟨xs, s, q⟩ => ja_nil ⟨d, xs, rfl, s, q⟩) he) (he := he)
theorem je_all {Q : QE} {p : Pos} (hc : X.calm = true) (hg : Gl X "all") (hm : X.mg "all" = none) (h : JE X e δ μ fun d μ1 => ∃ bs : List Bool, d = .lst (bs.map .bl) ∧ Q (.bl (bs.all id)) μ1) (he : starEach [e] X.env = (false, eval e X.env) :: starEach [] X.env := by rfl) : JE X (.Call (.Name "all" p) [e] [] pos) δ μ Q :=
  je_callB (f := fun ds μ Q => ∃ bs : List Bool, ds = [.lst (bs.map .bl)] ∧ Q (.bl (bs.all id)) μ) (cr_all hc) (fun G H μ vs ds Q QQ hm r ⟨bs, e, q⟩ k => by
    subst e
    obtain ⟨v, rfl, r1⟩ := r.inv1
    cases r1 with
    | lst h r =>
      rw [r.bls] at h
      exact ⟨_, bs, rfl, sql_of (hm.ex _ _ h), k.here hm (.bl _) q⟩) hg hm (by decide +kernel) (ja_cons (h.imp fun d μ1 ⟨bs, e1, q⟩ => ja_nil ⟨bs, by rw [e1], q⟩) he) (he := he)
theorem je_any {Q : QE} {p : Pos} (hc : X.calm = true) (hg : Gl X "any") (hm : X.mg "any" = none) (h : JE X e δ μ fun d μ1 => ∃ bs : List Bool, d = .lst (bs.map .bl) ∧ Q (.bl (bs.any id)) μ1) (he : starEach [e] X.env = (false, eval e X.env) :: starEach [] X.env := by rfl) : JE X (.Call (.Name "any" p) [e] [] pos) δ μ Q :=
  je_callB (f := fun ds μ Q => ∃ bs : List Bool, ds = [.lst (bs.map .bl)] ∧ Q (.bl (bs.any id)) μ) (cr_any hc) (fun G H μ vs ds Q QQ hm r ⟨bs, e, q⟩ k => by
    subst e
    obtain ⟨v, rfl, r1⟩ := r.inv1
    cases r1 with
    | lst h r =>
      rw [r.bls] at h
      exact ⟨_, bs, rfl, sql_of (hm.ex _ _ h), k.here hm (.bl _) q⟩) hg hm (by decide +kernel) (ja_cons (h.imp fun d μ1 ⟨bs, e1, q⟩ => ja_nil ⟨bs, by rw [e1], q⟩) he) (he := he)
theorem je_sum {Q : QE} {p : Pos} (hc : X.calm = true) (hg : Gl X "sum") (hm : X.mg "sum" = none) (h : JE X e δ μ fun d μ1 => ∃ ns : List Int, d = .lst (ns.map .int) ∧ Q (.int ns.sum) μ1) (he : starEach [e] X.env = (false, eval e X.env) :: starEach [] X.env := by rfl) : JE X (.Call (.Name "sum" p) [e] [] pos) δ μ Q :=
  je_callB (f := fun ds μ Q => ∃ ns : List Int, ds = [.lst (ns.map .int)] ∧ Q (.int ns.sum) μ) (cr_sum hc) (fun G H μ vs ds Q QQ hm r ⟨bs, e, q⟩ k => by
    subst e
    obtain ⟨v, rfl, r1⟩ := r.inv1
    cases r1 with
    | lst h r =>
      rw [r.ints] at h
      exact ⟨_, bs, rfl, sql_of (hm.ex _ _ h), k.here hm (.int _) q⟩) hg hm (by decide +kernel) (ja_cons (h.imp fun d μ1 ⟨bs, e1, q⟩ => ja_nil ⟨bs, by rw [e1], q⟩) he) (he := he)
/-- sorted(xs), whole numbers -/
theorem je_sortedI {Q : QE} {p : Pos} (hg : Gl X "sorted") (hm : X.mg "sorted" = none) (h : JE X e δ μ fun d μ1 => ∃ ns : List Int, d = .lst (ns.map .int) ∧ ∀ ns' : List Int, ns'.Perm ns → ns'.Pairwise (· ≤ ·) → Q (.lst (ns'.map .int)) μ1) (he : starEach [e] X.env = (false, eval e X.env) :: starEach [] X.env := by rfl) : JE X (.Call (.Name "sorted" p) [e] [] pos) δ μ Q :=
  je_callB (f := fun ds μ Q => ∃ ns : List Int, ds = [.lst (ns.map .int)] ∧ ∀ ns' : List Int, ns'.Perm ns → ns'.Pairwise (· ≤ ·) → Q (.lst (ns'.map .int)) μ) cr_sortedI (fun G H μ vs ds Q QQ hm r ⟨bs, e, q⟩ k => by
    subst e
    obtain ⟨v, rfl, r1⟩ := r.inv1
    cases r1 with
    | lst h r =>
      rw [r.ints] at h
      exact ⟨_, bs, rfl, sql_of (hm.ex _ _ h), fun ns' p hp1 hp2 hp => k.fresh hm hp (.lst upd_same (RepAll.of_ints _)) (q ns' hp1 hp2)⟩) hg hm (by decide +kernel) (ja_cons (h.imp fun d μ1 ⟨bs, e1, q⟩ => ja_nil ⟨bs, by rw [e1], q⟩) he) (he := he)
end
end K27
end DLc_
section DLd_
/-! DL, fourth part: methods of lists, stores into dicts, isinstance, sorted of pairs, repr, dicts of the written part. -/
namespace K27
open PySem PySem.Spec PyProof.Rows L2
section
variable {X : Cx} {e a b c o : Expr} {es : List Expr} {δ : Env'} {μ : Sto} {pos apos : Pos}
/-! ### methods -/
/-- the store's list at c -/
theorem Hm.lstAt {K : PySem.W.Frag} {G H : Hp} {μ : Sto} (hm : Hm K G H μ) {c : Addr} {xs : List Dt} (h : μ c = some (.lst xs)) : ∃ vs, H c = some (.lst vs) ∧ RepAll K G vs xs := by
  obtain ⟨_, o, h2, vs, rfl, h3⟩ := hm.mo c _ h
  exact ⟨vs, h2, h3⟩
theorem Hm.dctAt {K : PySem.W.Frag} {G H : Hp} {μ : Sto} (hm : Hm K G H μ) {c : Addr} {xs : List (Key × Dt)} (h : μ c = some (.dct xs)) : ∃ vs, H c = some (.dK vs) ∧ RepKV K G vs xs := by
  obtain ⟨_, o, h2, vs, rfl, h3⟩ := hm.mo c _ h
  exact ⟨vs, h2, h3⟩
/-- xs.append(e) -/
theorem je_append {Q : QE} (h : JE X o δ μ fun x μ1 => ∃ c, x = .ref c ∧ (∃ xs0, μ1 c = some (.lst xs0)) ∧ JE X e δ μ1 fun y μ2 => ∃ xs, μ2 c = some (.lst xs) ∧ xs.length < sizeLine ∧ Q .non (μ2.set c (.lst (xs ++ [y]))))
    (hbase : attributeBase o "append" X.env (eval o X.env) = eval o X.env := by rfl)
    (hfew : ((backTo pos (starEach (e :: []) X.env)).all (fun x => !x.1) && (backToKw pos (keywordEach [] X.env)).all (fun x => x.1.isSome)
      && decide ((e :: []).length + ([] : List Keyword).length + (if ([] : List Keyword).isEmpty then 0 else 1) < 30)) = true := by rfl)
    (hline : (apos.endLine == pos.line) = true := by rfl) (hs : starEach (e :: []) X.env = (false, eval e X.env) :: starEach [] X.env := by rfl) (hplain : (backTo pos (starEach [] X.env)).any (·.1) = false := by rfl) :
    JE X (.Call (.Attribute o "append" apos) [e] [] pos) δ μ Q :=
  fun σ G H QQ at_ k => wE_of (pe_bm PySem.F.plainAttrs_list PySem.F.slot_list_append PySem.F.type_list_append mt_append pe_w (pa_cons pe_w pa_nil hs) hbase hfew hline hs hplain)
    (h σ G H _ at_ fun v x G1 H1 μ1 hm1 f1 r1 ⟨c, e1, ⟨xs0, h0⟩, q1⟩ => by
      subst e1; cases r1
      obtain ⟨vs0, h00, _⟩ := hm1.lstAt h0
      refine ⟨.inl ⟨rfl, _, sql_of h00⟩, q1 σ G1 H1 _ (at_.to hm1 f1) fun w y G2 H2 μ2 hm2 f2 r2 ⟨xs, h2, hl, q⟩ => ?_⟩
      obtain ⟨vs, h3, h4⟩ := hm2.lstAt h2
      refine ⟨c, vs, w, rfl, rfl, h3, by rw [h4.length]; exact hl, ?_⟩
      obtain ⟨z1, z2⟩ := hm2.wr (o := .lst (vs ++ [w])) h2 (.l (h4.append (.one r2)))
      exact ((k.after f1).after f2) _ _ _ _ _ z1 z2 .non q)
/-- xs.extend(ys), ys a list that is not xs -/
theorem je_extend {Q : QE} (h : JE X o δ μ fun x μ1 => ∃ c, x = .ref c ∧ (∃ xs0, μ1 c = some (.lst xs0)) ∧ JE X e δ μ1 fun y μ2 => ∃ xs ys, μ2 c = some (.lst xs) ∧ SeqL μ2 y ys ∧ xs.length + ys.length ≤ sizeLine ∧ Q .non (μ2.set c (.lst (xs ++ ys))))
    (hbase : attributeBase o "extend" X.env (eval o X.env) = eval o X.env := by rfl)
    (hfew : ((backTo pos (starEach (e :: []) X.env)).all (fun x => !x.1) && (backToKw pos (keywordEach [] X.env)).all (fun x => x.1.isSome)
      && decide ((e :: []).length + ([] : List Keyword).length + (if ([] : List Keyword).isEmpty then 0 else 1) < 30)) = true := by rfl)
    (hline : (apos.endLine == pos.line) = true := by rfl) (hs : starEach (e :: []) X.env = (false, eval e X.env) :: starEach [] X.env := by rfl) (hplain : (backTo pos (starEach [] X.env)).any (·.1) = false := by rfl) :
    JE X (.Call (.Attribute o "extend" apos) [e] [] pos) δ μ Q :=
  fun σ G H QQ at_ k => wE_of (pe_bm PySem.F.plainAttrs_list PySem.F.slot_list_extend PySem.F.type_list_extend mt_extend pe_w (pa_cons pe_w pa_nil hs) hbase hfew hline hs hplain)
    (h σ G H _ at_ fun v x G1 H1 μ1 hm1 f1 r1 ⟨c, e1, ⟨xs0, h0⟩, q1⟩ => by
      subst e1; cases r1
      obtain ⟨vs0, h00, _⟩ := hm1.lstAt h0
      refine ⟨.inl ⟨rfl, _, sql_of h00⟩, q1 σ G1 H1 _ (at_.to hm1 f1) fun w y G2 H2 μ2 hm2 f2 r2 ⟨xs, ys, h2, s, hl, q⟩ => ?_⟩
      obtain ⟨vs, h3, h4⟩ := hm2.lstAt h2
      obtain ⟨p, ws, rfl, h5, h6⟩ := s.at_ hm2 r2
      refine ⟨c, p, vs, ws, rfl, rfl, h3, h5, by rw [h4.length, h6.length]; exact hl, ?_⟩
      obtain ⟨z1, z2⟩ := hm2.wr (o := .lst (vs ++ ws)) h2 (.l (h4.append h6))
      exact ((k.after f1).after f2) _ _ _ _ _ z1 z2 .non q)
/-- xs.pop() -/
theorem je_pop {Q : QE} (h : JE X o δ μ fun x μ1 => ∃ c xs d, x = .ref c ∧ μ1 c = some (.lst xs) ∧ xs[xs.length - 1]? = some d ∧ Q d (μ1.set c (.lst xs.dropLast)))
    (hbase : attributeBase o "pop" X.env (eval o X.env) = eval o X.env := by rfl) (hline : (apos.endLine == pos.line) = true := by rfl) : JE X (.Call (.Attribute o "pop" apos) [] [] pos) δ μ Q :=
  fun σ G H QQ at_ k => wE_of (pe_bm0 PySem.F.plainAttrs_list PySem.F.slot_list_pop PySem.F.type_list_pop mt_pop pe_w hbase hline)
    (h σ G H _ at_ fun v x G1 H1 μ1 hm1 f1 r1 ⟨c, xs, d, e1, h1, hd, q⟩ => by
      subst e1; cases r1
      obtain ⟨vs, h3, h4⟩ := hm1.lstAt h1
      obtain ⟨u, h5, h6⟩ := h4.get hd
      refine ⟨.inl ⟨rfl, _, sql_of h3⟩, c, vs, u, rfl, rfl, h3, by rw [h4.length]; exact h5, ?_⟩
      obtain ⟨z1, z2⟩ := hm1.wr (o := .lst vs.dropLast) h1 (.l h4.dropLast)
      exact (k.after f1) _ _ _ _ _ z1 z2 h6 q)
/-! ### isinstance -/
def tyD : Dt → String
  | .non => "NoneType"
  | .bl _ => "bool"
  | .int _ => "int"
  | .str _ => "str"
  | .ref _ => "?"
  | .tup _ => "tuple"
  | .lst _ => "list"
  | .dct _ => "dict"
  | .pol _ => "tuple"
  | .scr _ => "list"
theorem ty_of {K : PySem.W.Frag} {G H : Hp} {μ : Sto} {v : V} {d : Dt} (hm : Hm K G H μ) (r : Rep K G v d) (hr : ∀ a, d ≠ .ref a) : TyX K H v (.type (tyD d)) := by
  cases r with
  | non => exact .base .non
  | bl b => exact .base (.bl b)
  | int i => exact .base (.int i)
  | str x => exact .base (.str x)
  | ref a => exact absurd rfl (hr a)
  | tup h r =>
    rcases hm.ex.sqt h with (h | ⟨o, h⟩) | ⟨o, its, n, h1, h2, _⟩
    · exact .base (.tup h)
    · exact .fTuple h
    · exact .kTuple h1 h2
  | lst h r => exact .base (.lst (hm.ex _ _ h))
  | scr h =>
    rcases hm.ex.sql h with (h | ⟨o, h⟩) | ⟨o, its, n, h1, h2, _⟩
    · exact .base (.lst h)
    · exact .base (.frz h)
    · exact .kList h1 h2
  | dct h r =>
    rcases hm.ex.rd h with h | ⟨o, h⟩
    · exact .base (.dK h)
    · exact .fDict h
  | pol h r =>
    obtain ⟨o, h, _⟩ := h
    exact .fTuple (hm.ex _ _ h)
theorem je_isi {Q : QE} {T : String} {x : Str} {p p2 : Pos} (hg : Gl X "isinstance") (hm : X.mg "isinstance" = none) (hgT : Gl X x) (hmT : X.mg x = none) (hvT : bootBuiltins x = some (.type T))
    (h : JE X e δ μ fun d μ1 => (∀ a, d ≠ .ref a) ∧ ∃ r, kitB (tyD d) T = some r ∧ Q (.bl r) μ1) (hn : x ≠ "__name__" := by decide) (hdb : (x == ("__debug__" : Str)) = false := by decide)
    (h1 : starEach [e, .Name x p2] X.env = (false, eval e X.env) :: starEach [.Name x p2] X.env := by rfl) (h2 : starEach [Expr.Name x p2] X.env = (false, eval (.Name x p2) X.env) :: starEach [] X.env := by rfl)
    (hpl : (backTo pos (starEach [Expr.Name x p2] X.env)).any (·.1) = false := by rfl) : JE X (.Call (.Name "isinstance" p) [e, .Name x p2] [] pos) δ μ Q :=
  fun σ G H QQ at_ k => wE_of (pe_callB call_isi hg hm (by decide +kernel) (pa_cons pe_w (pa_cons (pe_bltn (v := .ty T) hgT hmT hvT rfl hn hdb) pa_nil h2) h1) (by decide) (by decide) h1 hpl)
    (h σ G H _ at_ fun v d G1 H1 μ1 hm1 f1 r1 ⟨hr, r, hk, q⟩ => ⟨v, .ty T, _, .type T, r, rfl, .ty T, ty_of hm1 r1 hr, kit_ty hk, (k.after f1).here hm1 (.bl r) q⟩)
theorem kit_ii : kitB "int" "int" = some true := by decide +kernel
theorem kit_ib : kitB "int" "bool" = some false := by decide +kernel
theorem kit_tt : kitB "tuple" "tuple" = some true := by decide +kernel
theorem kit_ss : kitB "str" "str" = some true := by decide +kernel
/-! ### sorted of pairs of whole numbers -/
def IsP (K : PySem.W.Frag) (H : Hp) (x : V) (p : Int × Int) : Prop := ∃ t, x = .ref t ∧ SqT K H t [.int p.1, .int p.2]
def rSortT (K : PySem.W.Frag) : List V → Hp → VK → Prop := fun vs H Q => ∃ (a : Addr) (xs : List V) (ps : List (Int × Int)) (F : V → Int × Int → Prop), vs = [.ref a] ∧ SqL K H a xs ∧ (∀ x p, F x p → IsP K H x p) ∧ Paired F xs ps ∧
  ∀ ys qs d, Paired F ys qs → qs.Perm ps → qs.Pairwise (fun p q => SrtO.lexB q p = false) → H d = none → Q (.ref d) (upd H d (.lst ys))
theorem paired_mem {α β : Type} {F : α → β → Prop} : ∀ {l : List α} {m : List β}, Paired F l m → ∀ x ∈ l, ∃ y, F x y
  | _, _, .nil, x, h => absurd h (by simp)
  | _, _, .cons r t, x, h => by
    rcases List.mem_cons.mp h with rfl | h
    · exact ⟨_, r⟩
    · exact paired_mem t x h
theorem paired_map {α β : Type} {F : α → β → Prop} (k : α → β) : ∀ {l : List α} {m : List β}, (∀ x ∈ l, ∀ y, F x y → y = k x) → Paired F l m → m = l.map k
  | _, _, _, .nil => rfl
  | _, _, hk, .cons r t => by
    rw [List.map_cons, hk _ List.mem_cons_self _ r, paired_map k (fun x hx => hk x (List.mem_cons_of_mem _ hx)) t]
theorem paired_of {α β : Type} {F : α → β → Prop} (k : α → β) : ∀ {l : List α}, (∀ x ∈ l, F x (k x)) → Paired F l (l.map k)
  | [], _ => .nil
  | x :: l, h => .cons (h x List.mem_cons_self) (paired_of k fun y hy => h y (List.mem_cons_of_mem _ hy))
open Classical in
theorem cr_sortT {X : Cx} : CallR X (.builtin "sorted") (rSortT X.K) := by
  intro pins s σ H vs us Q I r h
  obtain ⟨l, xs, ps, F, rfl, hs, hF, hp, q⟩ := h
  obtain ⟨its, rv, pl, hz⟩ := I.list hs
  obtain ⟨w, rfl, rw_⟩ := vals1 r
  obtain rfl : w = Value.ref l := rw_
  have uniq : ∀ x p p', IsP X.K H x p → IsP X.K H x p' → p = p' := fun x p p' ⟨t, e, h⟩ ⟨t', e', h'⟩ => by
    subst e; cases e'
    have z := I.tuple_inj h h'
    injection z with z1 z2
    injection z2 with z2 _
    cases p; cases p'
    simp only [V.int.injEq] at z1 z2
    rw [z1, z2]
  let k : V → Int × Int := fun x => if h : ∃ p, IsP X.K H x p then Classical.choose h else (0, 0)
  have hk : ∀ x p, IsP X.K H x p → p = k x := fun x p hx => by
    have hh : ∃ p, IsP X.K H x p := ⟨p, hx⟩
    show p = dite _ _ _
    rw [dif_pos hh]
    exact uniq x _ _ hx (Classical.choose_spec hh)
  have hinF : ∀ x ∈ xs, F x (k x) := fun x hx => by
    obtain ⟨p, h⟩ := paired_mem hp x hx
    have e := hk x p (hF x p h)
    rw [← e]; exact h
  have hin : ∀ x ∈ xs, IsP X.K H x (k x) := fun x hx => hF x _ (hinF x hx)
  obtain ⟨e1, e2⟩ := refs_back rv fun x m => by
    obtain ⟨t, e, _⟩ := hin x m
    exact ⟨t, e⟩
  have ep : ps = xs.map k := paired_map k (fun x _ y h => hk x y (hF x y h)) hp
  refine SrtO.sorted_pairsO (k := fun u => k (backV u)) pl.isList (by rw [← rv.length]; exact hz) (fun v hv => ?_) fun h' d out h1 h2 kp hd hn => ?_
  · obtain ⟨t, rfl⟩ := e2 v hv
    have hm : V.ref t ∈ xs := by rw [e1]; exact List.mem_map.mpr ⟨_, hv, rfl⟩
    obtain ⟨t', e, ht⟩ := hin _ hm
    cases e
    obtain ⟨its2, r2, ⟨ob, ho, hc, n, hdt⟩, _⟩ := I.tuple ht
    obtain ⟨u1, u2, rfl, ⟨t1, rfl⟩, ⟨t2, rfl⟩⟩ := vals2 r2
    exact ⟨t, ob, t1, t2, n, rfl, ho, hc, hdt⟩
  · have h3 : ∀ u ∈ out, ∃ a, u = Value.ref a := fun u hu => e2 u (h2.perm.mem_iff.mp hu)
    obtain ⟨n, hn⟩ := hn
    have hperm : (out.map backV).Perm xs := by rw [e1]; exact h2.perm.map backV
    have hy : ∀ y ∈ out.map backV, F y (k y) := fun y hy => hinF y (hperm.mem_iff.mp hy)
    refine ⟨.ref d, upd H d (.lst (out.map backV)), I.laid (t' := s.toks) kp hd ⟨?_, out, n, vals_back h3, hn⟩, rfl, q _ ((out.map backV).map k) d (paired_of k hy) ?_ ?_ (I.hok.fresh hd)⟩
    · rw [hperm.length_eq]; exact hz
    · rw [ep]; exact hperm.map k
    · exact List.pairwise_map.mpr (List.pairwise_map.mpr h1)
theorem RepAll.pairs {K : PySem.W.Frag} {G : Hp} : ∀ {vs : List V} {ps : List (Int × Int)}, RepAll K G vs (ps.map pairD) → Paired (IsP K G) vs ps
  | _, [], .nil => .nil
  | _, p :: ps, .cons r t => by
    refine .cons ?_ (RepAll.pairs t)
    cases r with
    | tup h r =>
      obtain ⟨v, w, rfl, r1, r2⟩ := r.inv2
      cases r1; cases r2
      exact ⟨_, rfl, h⟩
theorem RepAll.of_pairs {K : PySem.W.Frag} {H : Hp} : ∀ {vs : List V} {ps : List (Int × Int)}, Paired (IsP K H) vs ps → RepAll K H vs (ps.map pairD)
  | _, _, .nil => .nil
  | _, _, .cons ⟨t, e, h⟩ r => by
    subst e
    exact .cons (.tup h (.cons (.int _) (.cons (.int _) .nil))) (RepAll.of_pairs r)
theorem je_sortedP {Q : QE} {p : Pos} (hg : Gl X "sorted") (hm : X.mg "sorted" = none) (h : JE X e δ μ fun d μ1 => ∃ ps : List (Int × Int), d = .lst (ps.map pairD) ∧ ∀ qs : List (Int × Int), qs.Perm ps → qs.Pairwise (fun p q => SrtO.lexB q p = false) → Q (.lst (qs.map pairD)) μ1) (he : starEach [e] X.env = (false, eval e X.env) :: starEach [] X.env := by rfl) : JE X (.Call (.Name "sorted" p) [e] [] pos) δ μ Q :=
  je_callB (f := fun ds μ Q => ∃ ps : List (Int × Int), ds = [.lst (ps.map pairD)] ∧ ∀ qs : List (Int × Int), qs.Perm ps → qs.Pairwise (fun p q => SrtO.lexB q p = false) → Q (.lst (qs.map pairD)) μ) cr_sortT (fun G H μ vs ds Q QQ hm r ⟨ps, e, q⟩ k => by
    subst e
    obtain ⟨v, rfl, r1⟩ := r.inv1
    cases r1 with
    | lst h r =>
      exact ⟨_, _, ps, IsP X.K G, rfl, sql_of (hm.ex _ _ h), fun x p ⟨t, e, z⟩ => ⟨t, e, hm.ex.sqt z⟩, r.pairs, fun ys qs d h1 h2 h3 hd => k.fresh hm hd (.lst upd_same ((RepAll.of_pairs h1).mono (Ex.new (hm.ex.back hd)))) (q qs h2 h3)⟩) hg hm (by decide +kernel) (ja_cons (h.imp fun d μ1 ⟨bs, e1, q⟩ => ja_nil ⟨bs, by rw [e1], q⟩) he) (he := he)
/-! ### repr -/
mutual
theorem hasDict_py : ∀ d : Dt, d.py.hasDict = false
  | .non => by simp [Dt.py, PyData.hasDict]
  | .bl b => by simp [Dt.py, PyData.hasDict]
  | .int i => by simp [Dt.py, PyData.hasDict]
  | .str x => by simp [Dt.py, PyData.hasDict]
  | .ref a => by simp [Dt.py, PyData.hasDict]
  | .tup xs => by simp only [Dt.py, PyData.hasDict]; exact hasDict_pys xs
  | .lst xs => by simp only [Dt.py, PyData.hasDict]; exact hasDict_pys xs
  | .dct xs => by simp [Dt.py, PyData.hasDict]
  | .scr xs => by simp [Dt.py, PyData.hasDict]
  | .pol ps => by
    simp only [Dt.py, PyData.hasDict]
    induction ps with
    | nil => simp [PyData.hasDictAll]
    | cons p ps ih => simp only [List.map_cons, PyData.hasDictAll, PyData.hasDict, ih, Bool.or_self]
theorem hasDict_pys : ∀ ds : List Dt, PyData.hasDictAll (Dt.pys ds) = false
  | [] => by simp [Dt.pys, PyData.hasDictAll]
  | d :: ds => by simp only [Dt.pys, PyData.hasDictAll]; rw [hasDict_py d, hasDict_pys ds]; rfl
end
/-- what may be shown: a tuple, not too large -/
def Shows (d : Dt) : Prop := (∃ xs, d = .tup xs) ∧ d.pure = true ∧ d.py.showable = true ∧ d.py.depth ≤ 60 ∧ d.py.shown.length ≤ sizeLine
theorem call_reprD {X : Cx} (hg : X.A.guards = some []) (hu : X.A.units + 64 < cLine) : CallR X (.builtin "repr") (fun xs H Q => ∃ v d, xs = [v] ∧ Dp X.K H v d.py ∧ Shows d ∧ Q (.str d.py.shown) H) := by
  intro pins s σ H vs us Q I r h
  obtain ⟨v, d, rfl, hd, ⟨⟨xs, ex⟩, hp, hs, hdep, hsz⟩, q⟩ := h
  obtain ⟨w, rfl, rw_⟩ := vals1 r
  obtain ⟨as, hr⟩ := Dp.reads I d.py v w hd rw_
  subst ex
  have hd' : Dp X.K H v (.tuple (Dt.pys xs)) := by simpa [Dt.py] using hd
  cases hd' with
  | tup h1 h2 =>
    obtain rfl : w = Value.ref _ := rw_
    refine repr_of_reads' hr hs (fun h => ?_) hg (by omega) (fun b o e => e) (fun h' u tk k => ⟨.str _, H, I.kept (t' := tk) k, ⟨u, rfl⟩, q⟩) hsz
    rw [hasDict_py] at h
    cases h
theorem je_repr {Q : QE} {p : Pos} (hgd : X.A.guards = some []) (hu : X.A.units + 64 < cLine) (hg : Gl X "repr") (hm : X.mg "repr" = none) (h : JE X e δ μ fun d μ1 => Shows d ∧ Q (.str d.py.shown) μ1) (he : starEach [e] X.env = (false, eval e X.env) :: starEach [] X.env := by rfl) : JE X (.Call (.Name "repr" p) [e] [] pos) δ μ Q :=
  je_callB (f := fun ds μ Q => ∃ d, ds = [d] ∧ Shows d ∧ Q (.str d.py.shown) μ) (call_reprD hgd hu) (fun G H μ vs ds Q QQ hm r ⟨d, e, s, q⟩ k => by
    subst e
    obtain ⟨v, rfl, r1⟩ := r.inv1
    exact ⟨v, d, rfl, dp_mono hm.ex (r1.dp s.2.1), s, k.here hm (.str _) q⟩) hg hm (by decide +kernel) (ja_cons (h.imp fun d μ1 ⟨s, q⟩ => ja_nil ⟨d, rfl, s, q⟩) he) (he := he)
/-! ### dicts -/
/-- d[k] = v, d of the store -/
theorem Hm.putAt {K : PySem.W.Frag} {G H : Hp} {μ : Sto} (hm : Hm K G H μ) {c : Addr} {xs : List (Key × Dt)} (h : μ c = some (.dct xs)) {k : Key} {v : V} {d : Dt} (r : Rep K G v d) (hl : xs.length < sizeLine) :
    ∃ vs, H c = some (.dK vs) ∧ vs.length < sizeLine ∧ Hm K G (upd H c (.dK (putK vs k v))) (μ.set c (.dct (putD xs k d))) ∧ Fr G H μ G (upd H c (.dK (putK vs k v))) (μ.set c (.dct (putD xs k d))) := by
  obtain ⟨vs, h1, h2⟩ := hm.dctAt h
  obtain ⟨z1, z2⟩ := hm.wr (o := .dK (putK vs k v)) h (.d (h2.put k r))
  exact ⟨vs, h1, by rw [h2.length]; exact hl, z1, z2⟩
/-- dicts with text keys that the module's top has written: what stands at a key -/
structure WDct (K : PySem.W.Frag) (w : World) (d : Addr) (tab : List (Str × Dt)) : Prop where
  at_ : ∃ es n, KDict K w d es n
  get : ∀ z x, tab.lookup z = some x → ∃ v u, PySem.W.nsIn K d z = some (some u) ∧ RelV v u ∧ ∀ G, Rep K G v x
theorem je_wget {Q : QE} {x : Str} {d : Addr} {tab : List (Str × Dt)} {p : Pos} (D : WDct X.K X.w d tab) (hg : Gl X x) (hm : X.mg x = some (.ref d)) (hs : PlainIx b) (h : JE X b δ μ fun y μ1 => ∃ z v, y = .str z ∧ tab.lookup z = some v ∧ Q v μ1)
    (hd : (x == ("__debug__" : Str)) = false := by decide) : JE X (.Subscript (.Name x p) b pos) δ μ Q :=
  fun σ G H QQ at_ k => wE_of (pe_ix ix_kdict (pe_glob (v := .ref d) hg hm rfl hd) pe_w hs) (h σ G H _ at_ fun v y G1 H1 μ1 hm1 f1 r1 ⟨z, vd, e1, hl, q⟩ => by
    subst e1; cases r1
    obtain ⟨es, n, hk⟩ := D.at_
    obtain ⟨v0, u, h1, h2, h3⟩ := D.get z vd hl
    exact ⟨d, z, v0, rfl, rfl, ⟨es, n, u, hk.at_, hk.lit, h1, h2⟩, (k.after f1).here hm1 (h3 _) q⟩)
theorem je_wnotin {Q : QE} {x : Str} {d : Addr} {tab : List (Str × Dt)} {p : Pos} (D : WDct X.K X.w d tab) (hg : Gl X x) (hm : X.mg x = some (.ref d)) (h : JE X a δ μ fun y μ1 => ∃ z v, y = .str z ∧ tab.lookup z = some v ∧ Q (.bl false) μ1)
    (hb : behindInMarks .NotIn (.Name x p) = false := by with_unfolding_all rfl) (hd : (x == ("__debug__" : Str)) = false := by decide) : JE X (.Compare a [.NotIn] [.Name x p] pos) δ μ Q := by
  obtain ⟨es, n, hk⟩ := D.at_
  exact fun σ G H QQ at_ k => wE_of (pe_cmpR (op_notIn_kd hk) pe_w (pe_glob (v := .ref d) hg hm rfl hd) hb) (h σ G H _ at_ fun v y G1 H1 μ1 hm1 f1 r1 ⟨z, vd, e1, hl, q⟩ => by
    subst e1; cases r1
    obtain ⟨v0, u, h1, h2, h3⟩ := D.get z vd hl
    exact ⟨z, _, rfl, rfl, h1, (k.after f1).here hm1 (.bl _) q⟩)
end
end K27
end DLd_
section DLe_
/-! DL, fifth part: statements, loops, comprehensions, defs and their calls. -/
namespace K27
open PySem PySem.Spec PyProof.Rows L2
/-! ### statements -/
structure DE where
  nx : Env' → Sto → Prop
  rt : QE
  bk : Env' → Sto → Prop := fun _ _ => False
  ct : Env' → Sto → Prop := fun _ _ => False
def KN (K : PySem.W.Frag) (G H : Hp) (μ : Sto) (Q : Env' → Sto → Prop) (QQ : L2.St → Hp → Prop) : Prop := ∀ σ' δ' G' H' μ', At K G' H' μ' σ' δ' → Fr G H μ G' H' μ' → Q δ' μ' → QQ σ' H'
structure CK (K : PySem.W.Frag) (G H : Hp) (μ : Sto) (D : DE) (DD : Ends) : Prop where
  nx : KN K G H μ D.nx DD.nx
  rt : KE K G H μ D.rt DD.rt
  bk : KN K G H μ D.bk DD.bk
  ct : KN K G H μ D.ct DD.ct
theorem KN.after {K : PySem.W.Frag} {G H G1 H1 : Hp} {μ μ1 : Sto} {Q : Env' → Sto → Prop} {QQ : L2.St → Hp → Prop} (k : KN K G H μ Q QQ) (f : Fr G H μ G1 H1 μ1) : KN K G1 H1 μ1 Q QQ :=
  fun σ' δ' G' H' μ' a f' q => k σ' δ' G' H' μ' a (f.trans f') q
theorem CK.after {K : PySem.W.Frag} {G H G1 H1 : Hp} {μ μ1 : Sto} {D : DE} {DD : Ends} (k : CK K G H μ D DD) (f : Fr G H μ G1 H1 μ1) : CK K G1 H1 μ1 D DD :=
  ⟨k.nx.after f, k.rt.after f, k.bk.after f, k.ct.after f⟩
def wS (X : Cx) (st : Stmt) : TS := fun D σ H => ∀ pins s, Inv X pins σ H s → wpAny (model X.prog X.w) X.A (exec st X.env) (SP X pins D) X.xe s
def wSs (X : Cx) (st : List Stmt) : TS := fun D σ H => ∀ pins s, Inv X pins σ H s → wpAny (model X.prog X.w) X.A (execs st X.env) (SP X pins D) X.xe s
def wG (X : Cx) (tg : Expr) : TG := fun v σ H Q => ∀ pins s u, Inv X pins σ H s → RelV v u → wpAny (model X.prog X.w) X.A (assign tg X.env u) (fun _ s' => ∃ σ' H', Inv X pins σ' H' s' ∧ Q σ' H') X.xe s
def wI (X : Cx) (tg iter : Expr) : TI := fun σ H R => ∀ pins s, Inv X pins σ H s → wpAny (model X.prog X.w) X.A (eval iter X.env) (fun v s1 => wpAny (model X.prog X.w) X.A (pyIter v) (PIE X pins σ tg R) X.xe s1) X.xe s
theorem ps_w {X : Cx} {st : Stmt} : PS X st (wS X st) := ⟨fun pins s _ _ _ I h => h pins s I⟩
theorem pss_w {X : Cx} {st : List Stmt} : PSs X st (wSs X st) := ⟨fun pins s _ _ _ I h => h pins s I⟩
theorem pg_w {X : Cx} {tg : Expr} : PG X tg (wG X tg) := ⟨fun pins s _ _ _ u _ I r h => h pins s u I r⟩
theorem pi_w {X : Cx} {tg iter : Expr} : PI X tg iter (wI X tg iter) := ⟨fun pins s _ _ _ I h => h pins s I⟩
theorem wS_of {X : Cx} {st : Stmt} {t : TS} (h : PS X st t) {D : Ends} {σ : L2.St} {H : Hp} (q : t D σ H) : wS X st D σ H := fun pins s I => h.run pins s σ H D I q
theorem wSs_of {X : Cx} {st : List Stmt} {t : TS} (h : PSs X st t) {D : Ends} {σ : L2.St} {H : Hp} (q : t D σ H) : wSs X st D σ H := fun pins s I => h.run pins s σ H D I q
theorem wG_of {X : Cx} {tg : Expr} {t : TG} (h : PG X tg t) {v : V} {σ : L2.St} {H : Hp} {Q : L2.St → Hp → Prop} (q : t v σ H Q) : wG X tg v σ H Q := fun pins s u I r => h.run pins s σ H v u Q I r q
theorem wI_of {X : Cx} {tg iter : Expr} {t : TI} (h : PI X tg iter t) {σ : L2.St} {H : Hp} {R : It → Hp → Prop} (q : t σ H R) : wI X tg iter σ H R := fun pins s I => h.run pins s σ H R I q
def JS (X : Cx) (st : Stmt) (δ : Env') (μ : Sto) (D : DE) : Prop := ∀ σ G H DD, At X.K G H μ σ δ → CK X.K G H μ D DD → wS X st DD σ H
def JSs (X : Cx) (st : List Stmt) (δ : Env') (μ : Sto) (D : DE) : Prop := ∀ σ G H DD, At X.K G H μ σ δ → CK X.K G H μ D DD → wSs X st DD σ H
def JG (X : Cx) (tg : Expr) (d : Dt) (δ : Env') (μ : Sto) (Q : Env' → Sto → Prop) : Prop := ∀ σ G H v QQ, At X.K G H μ σ δ → Rep X.K G v d → KN X.K G H μ Q QQ → wG X tg v σ H QQ
def JGs (X : Cx) (tgs : List Expr) (ds : List Dt) (δ : Env') (μ : Sto) (Q : Env' → Sto → Prop) : Prop := ∀ pins s σ G H vs us QQ, Inv X pins σ H s → Vals vs us → At X.K G H μ σ δ → RepAll X.K G vs ds → KN X.K G H μ Q QQ →
  wpAny (model X.prog X.w) X.A (assignInOrder ((assignEach tgs X.env).map (·.2)) us) (fun _ s' => ∃ σ' H', Inv X pins σ' H' s' ∧ QQ σ' H') X.xe s
section
variable {X : Cx} {st : Stmt} {sts : List Stmt} {e a b c o tg : Expr} {es : List Expr} {δ : Env'} {μ : Sto} {pos : Pos} {D : DE}
theorem jss_nil (q : D.nx δ μ) : JSs X [] δ μ D := fun σ G H DD at_ k => wSs_of pss_nil (k.nx σ δ G H μ at_ (Fr.refl _ _ _) q)
theorem jss_cons (h : JS X st δ μ { D with nx := fun δ1 μ1 => JSs X sts δ1 μ1 D }) : JSs X (st :: sts) δ μ D := fun σ G H DD at_ k =>
  wSs_of (pss_cons ps_w pss_w) (h σ G H { DD with nx := wSs X sts DD } at_ ⟨fun σ' δ' G' H' μ' a' f' q => q σ' G' H' DD a' (k.after f'), k.rt, k.bk, k.ct⟩)
theorem jss_one (h : JS X st δ μ D) : JSs X [st] δ μ D := fun σ G H DD at_ k => wSs_of (pss_one ps_w) (h σ G H DD at_ k)
theorem js_set {x : Str} {p : Pos} (i : Nat) (hN : X.N.Nodup) (hi : X.N[i]? = some x) (hx : Loc X.env.scope x) (h : JE X e δ μ fun d μ1 => D.nx (δ.set i (some d)) μ1) (hs : swapsWith e (some (.Name x p)) pos.line X.env = pure false := by rfl)
    (hf : X.fn x = true ∨ X.env.scope.names.lookup x = some .local := by first | exact .inl rfl | exact .inr rfl | assumption) : JS X (.Assign [.Name x p] e pos) δ μ D := fun σ G H DD at_ k =>
  wS_of (ps_set hN hi hx pe_w hs hf) (h σ G H _ at_ fun v d G1 H1 μ1 hm f r q => k.nx _ _ G1 H1 μ1 ⟨hm, (at_.rs.mono f.ex).set r⟩ f q)
theorem js_ret (h : JE X e δ μ D.rt) : JS X (.Return (some e) pos) δ μ D := fun σ G H DD at_ k => wS_of (ps_ret pe_w) (h σ G H _ at_ k.rt)
theorem js_expr (h : JE X e δ μ fun _ μ1 => D.nx δ μ1) (hs : swapsWith e none pos.line X.env = pure false := by rfl) : JS X (.Expr e pos) δ μ D := fun σ G H DD at_ k =>
  wS_of (ps_expr pe_w hs) (h σ G H _ at_ fun v d G1 H1 μ1 hm f r q => k.nx _ _ G1 H1 μ1 (at_.to hm f) f q)
theorem js_if {s1 s2 : List Stmt} (h : JT X c δ μ fun x μ1 => (x = true → JSs X s1 δ μ1 D) ∧ (x = false → JSs X s2 δ μ1 D)) : JS X (.If c s1 s2 pos) δ μ D := fun σ G H DD at_ k =>
  wS_of (ps_if pt_w pss_w pss_w) (h σ G H _ at_ fun x G1 H1 μ1 hm f q => by
    cases x with
    | true => exact iteT (q.1 rfl σ G1 H1 DD (at_.to hm f) (k.after f))
    | false => exact iteF (q.2 rfl σ G1 H1 DD (at_.to hm f) (k.after f)))
/-! ### targets -/
theorem jg_name {x : Str} {d : Dt} {Q : Env' → Sto → Prop} (i : Nat) (hN : X.N.Nodup) (hi : X.N[i]? = some x) (hx : Loc X.env.scope x) (q : Q (δ.set i (some d)) μ) (hf : X.fn x = true ∨ X.env.scope.names.lookup x = some .local := by first | exact .inl rfl | exact .inr rfl | assumption) : JG X (.Name x pos) d δ μ Q :=
  fun σ G H v QQ at_ r k => wG_of (pg_name hN hi hx hf) (k _ _ G H μ ⟨at_.toHm, at_.rs.set r⟩ (Fr.refl _ _ _) q)
theorem jgs_nil {Q : Env' → Sto → Prop} (q : Q δ μ) : JGs X [] [] δ μ Q := fun pins s σ G H vs us QQ I rv at_ r k => by
  cases r
  exact pgs_nil.run pins s σ H _ us QQ I rv ⟨rfl, k _ _ G H μ at_ (Fr.refl _ _ _) q⟩
theorem jgs_cons {d : Dt} {ds : List Dt} {Q : Env' → Sto → Prop} (h : JG X e d δ μ fun δ1 μ1 => JGs X es ds δ1 μ1 Q)
    (hs : (assignEach (e :: es) X.env).map (·.2) = assign e X.env :: (assignEach es X.env).map (·.2) := by rfl) : JGs X (e :: es) (d :: ds) δ μ Q := fun pins s σ G H vs us QQ I rv at_ r k => by
  cases r with
  | cons r t =>
    cases rv with
    | cons rv1 rv2 =>
      refine (pgs_cons (t := wG X e) (u := fun vs σ H Q => ∀ pins s us, Inv X pins σ H s → Vals vs us → wpAny (model X.prog X.w) X.A (assignInOrder ((assignEach es X.env).map (·.2)) us) (fun _ s' => ∃ σ' H', Inv X pins σ' H' s' ∧ Q σ' H') X.xe s) pg_w ⟨fun pins s _ _ _ us _ I r h => h pins s us I r⟩ hs).run pins s σ H _ _ QQ I (.cons rv1 rv2) ?_
      exact ⟨_, _, rfl, h σ G H _ _ at_ r fun σ' δ' G' H' μ' a' f' q pins s us I' rv' => q pins s σ' G' H' _ us QQ I' rv' a' (t.mono f'.ex) (k.after f')⟩
theorem jg_tup {j : Nat} {ds : List Dt} {d : Dt} {n : Nat} {Q : Env' → Sto → Prop} (hc : X.calm = true) (hd : TupV d ds) (hl : ds.length = n) (h : JGs X es ds δ μ Q)
    (hn : (assignEach es X.env).length = n := by rfl) (hst : (assignEach es X.env).findIdx? (·.1) = none := by rfl) : JG X (.Tuple es j pos) d δ μ Q := fun σ G H v QQ at_ r k => by
  cases hd.at_ r with
  | tup h1 r1 =>
    refine wG_of (pg_tup (t := fun vs σ H Q => ∀ pins s us, Inv X pins σ H s → Vals vs us → wpAny (model X.prog X.w) X.A (assignInOrder ((assignEach es X.env).map (·.2)) us) (fun _ s' => ∃ σ' H', Inv X pins σ' H' s' ∧ Q σ' H') X.xe s) (n := n) hc ⟨fun pins s _ _ _ us _ I r h => h pins s us I r⟩ hn hst) ?_
    exact ⟨_, _, rfl, at_.ex.sqt h1, by rw [r1.length]; exact hl, fun pins s us I rv => h pins s σ G H _ us QQ I rv at_ r1 k⟩
theorem js_asg (h : JE X e δ μ fun d μ1 => JG X tg d δ μ1 D.nx) (hs : swapsWithSole [tg] e pos.line X.env = pure false := by rfl) (hw : swappedStores [tg] e X.env = pure none := by rfl)
    (h1 : (assignEach [tg] X.env).map (·.2) = [assign tg X.env] := by rfl) : JS X (.Assign [tg] e pos) δ μ D := fun σ G H DD at_ k =>
  wS_of (ps_asg pe_w pg_w hs hw h1) (h σ G H _ at_ fun v d G1 H1 μ1 hm f r q => q σ G1 H1 v _ (at_.to hm f) r (k.nx.after f))
theorem js_par {x y : Str} {px py pt : Pos} {kt k2 pt2} (i j : Nat) (hc : X.calm = true) (hN : X.N.Nodup) (hi : X.N[i]? = some x) (hj : X.N[j]? = some y) (hij : i ≠ j)
    (hx : X.env.scope.names.lookup x = some .local) (hy : X.env.scope.names.lookup y = some .local) (h : JA X [a, b] δ μ fun ds μ1 => ∃ d d', ds = [d, d'] ∧ D.nx ((δ.set i (some d)).set j (some d')) μ1)
    (hw : swappedStores [.Tuple [.Name x px, .Name y py] kt pt] (.Tuple [a, b] k2 pt2) X.env = pure (some [x, y]))
    (hs : swapsWithSole [.Tuple [.Name x px, .Name y py] kt pt] (.Tuple [a, b] k2 pt2) pos.line X.env = pure false := by rfl) :
    JS X (.Assign [.Tuple [.Name x px, .Name y py] kt pt] (.Tuple [a, b] k2 pt2) pos) δ μ D := fun σ G H DD at_ k =>
  wS_of (ps_par hc hN hi hj hij hx hy pa_w hw hs) (h σ G H _ at_ fun vs ds G1 H1 μ1 hm f r ⟨d, d', e1, q⟩ => by
    subst e1
    obtain ⟨v, v', rfl, r1, r2⟩ := r.inv2
    exact ⟨v, v', rfl, k.nx _ _ G1 H1 μ1 ⟨hm, ((at_.rs.mono f.ex).set r1).set r2⟩ f q⟩)
theorem js_par3 {x y z : Str} {px py pz pt : Pos} {kt k2 pt2} (i j l : Nat) (hc : X.calm = true) (hN : X.N.Nodup) (hi : X.N[i]? = some x) (hj : X.N[j]? = some y) (hl : X.N[l]? = some z) (hij : i ≠ j) (hil : i ≠ l) (hjl : j ≠ l)
    (hx : X.env.scope.names.lookup x = some .local) (hy : X.env.scope.names.lookup y = some .local) (hz : X.env.scope.names.lookup z = some .local) (h : JA X [a, b, c] δ μ fun ds μ1 => ∃ d d' d'', ds = [d, d', d''] ∧ D.nx (((δ.set i (some d)).set j (some d')).set l (some d'')) μ1)
    (hw : swappedStores [.Tuple [.Name x px, .Name y py, .Name z pz] kt pt] (.Tuple [a, b, c] k2 pt2) X.env = pure (some [x, y, z]))
    (hs : swapsWithSole [.Tuple [.Name x px, .Name y py, .Name z pz] kt pt] (.Tuple [a, b, c] k2 pt2) pos.line X.env = pure false := by rfl) :
    JS X (.Assign [.Tuple [.Name x px, .Name y py, .Name z pz] kt pt] (.Tuple [a, b, c] k2 pt2) pos) δ μ D := fun σ G H DD at_ k =>
  wS_of (ps_par3 hc hN hi hj hl hij hil hjl hx hy hz pa_w hw hs) (h σ G H _ at_ fun vs ds G1 H1 μ1 hm f r ⟨d, d', d'', e1, q⟩ => by
    subst e1
    cases r with
    | cons r1 r =>
      obtain ⟨v, v', rfl, r2, r3⟩ := r.inv2
      exact ⟨_, v, v', rfl, k.nx _ _ G1 H1 μ1 ⟨hm, (((at_.rs.mono f.ex).set r1).set r2).set r3⟩ f q⟩)
/-- d[k] = v, k a number (or a text), d of the store -/
theorem js_dput (hu : X.A.units + 1 < cLine) {pos' : Pos} (h : JE X e δ μ fun y μ1 => JE X o δ μ1 fun x μ2 => JE X b δ μ2 fun kk μ3 => ∃ c kvs key, x = .ref c ∧ kk = keyD key ∧ μ3 c = some (.dct kvs) ∧ kvs.length < sizeLine ∧ D.nx δ (μ3.set c (.dct (putD kvs key y))))
    (hs : swapsWith e (some (.Subscript o b pos')) pos.line X.env = pure false := by rfl) : JS X (.Assign [.Subscript o b pos'] e pos) δ μ D := fun σ G H DD at_ k =>
  wS_of (ps_dput hu pe_w pe_w pe_w hs) (h σ G H _ at_ fun v y G1 H1 μ1 hm1 f1 r1 q1 => q1 σ G1 H1 _ (at_.to hm1 f1) fun w x G2 H2 μ2 hm2 f2 r2 q2 => q2 σ G2 H2 _ ((at_.to hm1 f1).to hm2 f2) fun u kk G3 H3 μ3 hm3 f3 r3 ⟨c, kvs, key, e1, e2, hc, hl, q⟩ => by
    subst e1; subst e2; cases r2
    obtain ⟨vs, h1, h2, h3, h4⟩ := hm3.putAt hc (k := key) (r1.mono (f2.ex.trans f3.ex)) hl
    have ek : u = kV key := by cases key <;> cases r3 <;> rfl
    subst ek
    have f123 := (f1.trans f2).trans f3
    exact ⟨c, _, rfl, .inl ⟨vs, key, h1, rfl, h2, rfl⟩, k.nx σ δ G3 _ _ ⟨h3, at_.rs.mono f123.ex⟩ (f123.trans h4) q⟩)
/-- xs[i] = v, xs of the store -/
theorem js_setL {pos' : Pos} (h : JE X e δ μ fun y μ1 => JE X o δ μ1 fun x μ2 => JE X b δ μ2 fun kk μ3 => ∃ c xs i j, x = .ref c ∧ kk = .int i ∧ μ3 c = some (.lst xs) ∧ ixN xs.length i = some j ∧ D.nx δ (μ3.set c (.lst (xs.set j y))))
    (hs : swapsWithSole [.Subscript o b pos'] e pos.line X.env = pure false := by rfl) (hw : swappedStores [.Subscript o b pos'] e X.env = pure none := by rfl) (h1 : (assignEach [.Subscript o b pos'] X.env).map (·.2) = [assign (.Subscript o b pos') X.env] := by rfl)
    (ha : ∀ v, assign (.Subscript o b pos') X.env v = (do
      let ov ← holding [v] (eval o X.env)
      let iv ← holding [v, ov] (eval b X.env)
      standAt pos'
      holding [v, ov, iv] (setItem ov iv v)
      release [v, ov, iv] []) := by intro _; rfl) : JS X (.Assign [.Subscript o b pos'] e pos) δ μ D := fun σ G H DD at_ k =>
  wS_of (ps_asg pe_w (pg_sub pe_w pe_w set_list ha) hs hw h1) (h σ G H _ at_ fun v y G1 H1 μ1 hm1 f1 r1 q1 => q1 σ G1 H1 _ (at_.to hm1 f1) fun w x G2 H2 μ2 hm2 f2 r2 q2 => q2 σ G2 H2 _ ((at_.to hm1 f1).to hm2 f2) fun u kk G3 H3 μ3 hm3 f3 r3 ⟨c, xs, i, j, e1, e2, hc, hi, q⟩ => by
    subst e1; subst e2; cases r2; cases r3
    obtain ⟨vs, h2, h3⟩ := hm3.lstAt hc
    obtain ⟨z1, z2⟩ := hm3.wr (o := .lst (vs.set j v)) hc (.l (h3.set j (r1.mono (f2.ex.trans f3.ex))))
    have f123 := (f1.trans f2).trans f3
    exact ⟨c, vs, i, j, rfl, rfl, h2, by rw [h3.length]; exact hi, k.nx σ δ G3 _ _ ⟨z1, at_.rs.mono f123.ex⟩ (f123.trans z2) q⟩)
/-! ### ghosts: a lesser store; an object of the store becomes known -/
theorem jss_less {μ' : Sto} (hs : ∀ a x, μ' a = some x → μ a = some x) (h : JSs X sts δ μ' D) : JSs X sts δ μ D := fun σ G H DD at_ k =>
  h σ G H DD ⟨at_.toHm.less hs, at_.rs⟩ ⟨fun σ' δ' G' H' μ'' a' f' q => k.nx σ' δ' G' H' μ'' a' (f'.less hs) q, fun v d G' H' μ'' hm fr r q => k.rt v d G' H' μ'' hm (fr.less hs) r q,
    fun σ' δ' G' H' μ'' a' f' q => k.bk σ' δ' G' H' μ'' a' (f'.less hs) q, fun σ' δ' G' H' μ'' a' f' q => k.ct σ' δ' G' H' μ'' a' (f'.less hs) q⟩
theorem je_less {Q : QE} {μ' : Sto} (hs : ∀ a x, μ' a = some x → μ a = some x) (h : JE X e δ μ' Q) : JE X e δ μ Q := fun σ G H QQ at_ k =>
  h σ G H QQ ⟨at_.toHm.less hs, at_.rs⟩ fun v d G' H' μ'' hm fr r q => k v d G' H' μ'' hm (fr.less hs) r q
theorem Sto.del_le {μ : Sto} {p : Addr} : ∀ a x, (μ.del p) a = some x → μ a = some x := fun a x h => by
  unfold Sto.del at h
  split at h
  · cases h
  · exact h
/-- the value's end: an object of the store becomes known, or is forgotten -/
theorem je_pub {Q : QE} (h : JE X e δ μ fun d μ1 => (∃ p x, d = .ref p ∧ μ1 p = some x ∧ Q x (μ1.del p))) : JE X e δ μ Q := fun σ G H QQ at_ k =>
  h σ G H QQ at_ fun v d G1 H1 μ1 hm f r ⟨p, x, e1, hp, q⟩ => by
    subst e1; cases r
    obtain ⟨G', z1, z2, z3⟩ := hm.pub hp
    exact (k.after f) _ _ G' H1 _ z1 z2 z3 q
theorem je_drop {Q : QE} (h : JE X e δ μ fun d μ1 => ∃ μ2 : Sto, (∀ a x, μ2 a = some x → μ1 a = some x) ∧ Q d μ2) : JE X e δ μ Q := fun σ G H QQ at_ k =>
  h σ G H QQ at_ fun v d G1 H1 μ1 hm f r ⟨μ2, hs, q⟩ => (k.after f) _ _ G1 H1 μ2 (hm.less hs) (Fr.less (μ1 := μ2) hs (Fr.refl G1 H1 μ2)) r q
/-! ### while -/
theorem js_while {body : List Stmt} (hp : PassesOwn (model X.prog X.w) X.A X.env X.xe) (Iv : Env' → Sto → Prop) (m : Env' → Sto → Nat) (h0 : Iv δ μ)
    (hs : ∀ δ μ, Iv δ μ → JT X c δ μ fun x μ1 => (x = true → JSs X body δ μ1 { D with nx := fun δ2 μ2 => Iv δ2 μ2 ∧ m δ2 μ2 < m δ μ, ct := fun δ2 μ2 => Iv δ2 μ2 ∧ m δ2 μ2 < m δ μ, bk := D.nx }) ∧ (x = false → D.nx δ μ1)) :
    JS X (.While c body [] pos) δ μ D := fun σ G H DD at_ k =>
  wS_of (ps_while hp pt_w pss_w) ⟨fun n σ' H' => ∃ δ' μ' G', At X.K G' H' μ' σ' δ' ∧ Fr G H μ G' H' μ' ∧ Iv δ' μ' ∧ m δ' μ' = n, ⟨_, δ, μ, G, at_, Fr.refl _ _ _, h0, rfl⟩, fun n σ' H' ⟨δ', μ', G', at', f', iv, en⟩ => by
    refine hs δ' μ' iv σ' G' H' _ at' fun x G1 H1 μ1 hm f1 q => ?_
    cases x with
    | true =>
      refine iteT ⟨fun σ2 H2 => ∃ δ2 μ2 G2, At X.K G2 H2 μ2 σ2 δ2 ∧ Fr G H μ G2 H2 μ2 ∧ Iv δ2 μ2 ∧ m δ2 μ2 < n, fun σ2 H2 ⟨δ2, μ2, G2, a2, f2, i2, l2⟩ => ⟨_, l2, δ2, μ2, G2, a2, f2, i2, rfl⟩, ?_⟩
      have ff := f'.trans f1
      refine q.1 rfl σ' G1 H1 _ (at'.to hm f1) ⟨fun σ2 δ2 G2 H2 μ2 a2 f2 q2 => ⟨δ2, μ2, G2, a2, ff.trans f2, q2.1, by rw [← en]; exact q2.2⟩, k.rt.after ff, (k.nx.after ff), fun σ2 δ2 G2 H2 μ2 a2 f2 q2 => ⟨δ2, μ2, G2, a2, ff.trans f2, q2.1, by rw [← en]; exact q2.2⟩⟩
    | false => exact iteF (k.nx _ _ G1 H1 μ1 (at'.to hm f1) (f'.trans f1) (q.2 rfl))⟩
end
/-! ### what is walked -/
/-- the iterator gives the items, one after another, as long as cond holds of the store -/
structure Src (K : PySem.W.Frag) (G0 : Hp) (J : It) (items : List Dt) (cond : Sto → Prop) : Prop where
  step : ∀ i G H μ d, Ex G0 G → Hm K G H μ → cond μ → items[i]? = some d → J.go i H ∧ ∀ v H', J.yld i H v H' → ∃ G', Hm K G' H' μ ∧ Fr G H μ G' H' μ ∧ Rep K G' v d
  stop : ∀ G H μ, Ex G0 G → Hm K G H μ → cond μ → J.stop items.length H
def JI (X : Cx) (tg iter : Expr) (δ : Env') (μ : Sto) (R : List Dt → (Sto → Prop) → Sto → Prop) : Prop := ∀ σ G H RR, At X.K G H μ σ δ →
  (∀ J items cond G' H' μ', Hm X.K G' H' μ' → Fr G H μ G' H' μ' → Src X.K G' J items cond → R items cond μ' → RR J H') → wI X tg iter σ H RR
/-- a loop's turns over the items -/
def forR (X : Cx) (tg : Expr) (body : List Stmt) (cond : Sto → Prop) (D : DE) : List Dt → Env' → Sto → Prop
  | [], δ, μ => cond μ ∧ D.nx δ μ
  | d :: r, δ, μ => cond μ ∧ JG X tg d δ μ fun δ1 μ1 => JSs X body δ1 μ1 { D with nx := fun δ2 μ2 => forR X tg body cond D r δ2 μ2, ct := fun δ2 μ2 => forR X tg body cond D r δ2 μ2, bk := D.nx }
theorem js_for {X : Cx} {tg iter : Expr} {body : List Stmt} {δ : Env'} {μ : Sto} {pos : Pos} {D : DE} (hp : PassesOwn (model X.prog X.w) X.A X.env X.xe) (hc : X.calm = true) (h : JI X tg iter δ μ fun items cond μ1 => forR X tg body cond D items δ μ1)
    (hs : ∀ x, foldedSetIterable iter X.env x = pure x := by intro _; rfl) : JS X (.For tg iter body [] pos) δ μ D := fun σ G H DD at_ k =>
  wS_of (ps_for hp hc pi_w pg_w pss_w hs) (h σ G H _ at_ fun J items cond G1 H1 μ1 hm1 f1 src q1 => by
    refine ⟨fun i m σ' H' => ∃ δ' μ' G', At X.K G' H' μ' σ' δ' ∧ Fr G1 H1 μ1 G' H' μ' ∧ forR X tg body cond D (items.drop i) δ' μ' ∧ i + m = items.length,
      ⟨items.length, δ, μ1, G1, at_.to hm1 f1, Fr.refl _ _ _, by rw [List.drop_zero]; exact q1, Nat.zero_add _⟩, fun i m σ' H' ⟨δ', μ', G', at', f', q, em⟩ => ?_⟩
    by_cases hi : i < items.length
    · rw [List.drop_eq_getElem_cons hi] at q
      obtain ⟨hcond, hg⟩ := q
      obtain ⟨h1, h2⟩ := src.step i G' H' μ' items[i] f'.ex at'.toHm hcond (List.getElem?_eq_getElem hi)
      refine .inr ⟨h1, fun σ2 H2 => ∃ δ2 μ2 G2, At X.K G2 H2 μ2 σ2 δ2 ∧ Fr G1 H1 μ1 G2 H2 μ2 ∧ forR X tg body cond D (items.drop (i + 1)) δ2 μ2, fun σ2 H2 ⟨δ2, μ2, G2, a2, f2, q2⟩ => ⟨m - 1, by omega, δ2, μ2, G2, a2, f2, q2, by omega⟩, fun v H2 hy => ?_⟩
      obtain ⟨G2, hm2, f2, r2⟩ := h2 v H2 hy
      refine hg σ' G2 H2 v _ (at'.to hm2 f2) r2 fun σ3 δ3 G3 H3 μ3 a3 f3 q3 => ?_
      have ff := (f'.trans f2).trans f3
      refine q3 σ3 G3 H3 _ a3 ⟨fun σ4 δ4 G4 H4 μ4 a4 f4 q4 => ⟨δ4, μ4, G4, a4, ff.trans f4, q4⟩, (k.rt.after f1).after ff, (k.nx.after f1).after ff, fun σ4 δ4 G4 H4 μ4 a4 f4 q4 => ⟨δ4, μ4, G4, a4, ff.trans f4, q4⟩⟩
    · rw [List.drop_eq_nil_of_le (by omega)] at q
      obtain ⟨hcond, q⟩ := q
      have ei : i = items.length := by omega
      subst ei
      exact .inl ⟨src.stop G' H' μ' f'.ex at'.toHm hcond, k.nx _ _ G' H' μ' at' (f1.trans f') q⟩)
section
variable {X : Cx} {e a b tg : Expr} {es : List Expr} {δ : Env'} {μ : Sto} {pos : Pos} {R : List Dt → (Sto → Prop) → Sto → Prop}
/-- a tuple -/
theorem src_tup {K : PySem.W.Frag} {G0 : Hp} {p : Addr} {vs : List V} {ds : List Dt} (h : SqT K G0 p vs) (r : RepAll K G0 vs ds) : Src K G0 (Itt K p) ds (fun _ => True) where
  step i G H μ d e hm _ hd := by
    obtain ⟨v, h1, h2⟩ := r.get hd
    have hs := hm.ex.sqt (e.sqt h)
    refine ⟨⟨vs, v, hs, h1⟩, fun v' H' hy => ?_⟩
    obtain ⟨rfl, hy⟩ := hy
    have e1 := hy vs hs
    rw [h1] at e1
    cases e1
    exact ⟨G, hm, Fr.refl _ _ _, h2.mono e⟩
  stop G H μ e hm _ := ⟨vs, hm.ex.sqt (e.sqt h), by rw [r.length]; exact Nat.le_refl _⟩
theorem ji_tup (h : JE X e δ μ fun d μ1 => ∃ ds, TupV d ds ∧ R ds (fun _ => True) μ1) : JI X tg e δ μ R := fun σ G H RR at_ k => wI_of (pi_tup pe_w) (h σ G H _ at_ fun v d G1 H1 μ1 hm f r ⟨ds, e1, q⟩ => by
  cases e1.at_ r with
  | tup h1 r1 => exact ⟨_, rfl, ⟨_, hm.ex.sqt h1⟩, k _ ds _ G1 H1 μ1 hm f (src_tup h1 r1) q⟩)
/-- a list that is known -/
theorem src_lst {K : PySem.W.Frag} {G0 : Hp} {p : Addr} {vs : List V} {ds : List Dt} (h : G0 p = some (.lst vs)) (r : RepAll K G0 vs ds) : Src K G0 (Itl K p) ds (fun _ => True) where
  step i G H μ d e hm _ hd := by
    obtain ⟨v, h1, h2⟩ := r.get hd
    have hs : SqL K H p vs := sql_of (hm.ex _ _ (e _ _ h))
    refine ⟨⟨vs, v, hs, h1⟩, fun v' H' hy => ?_⟩
    obtain ⟨rfl, hy⟩ := hy
    have e1 := hy vs hs
    rw [h1] at e1
    cases e1
    exact ⟨G, hm, Fr.refl _ _ _, h2.mono e⟩
  stop G H μ e hm _ := ⟨vs, sql_of (hm.ex _ _ (e _ _ h)), by rw [r.length]; exact Nat.le_refl _⟩
theorem ji_lst (h : JE X e δ μ fun d μ1 => ∃ ds, d = .lst ds ∧ R ds (fun _ => True) μ1) : JI X tg e δ μ R := fun σ G H RR at_ k => wI_of (pi_list pe_w) (h σ G H _ at_ fun v d G1 H1 μ1 hm f r ⟨ds, e1, q⟩ => by
  subst e1
  cases r with
  | lst h1 r1 => exact ⟨_, rfl, ⟨_, sql_of (hm.ex _ _ h1)⟩, k _ ds _ G1 H1 μ1 hm f (src_lst h1 r1) q⟩)
/-- range(n), range(a, b) -/
def rgD (lo : Int) (n : Nat) : List Dt := (List.range n).map fun i => .int (lo + (i : Nat))
theorem src_rng {K : PySem.W.Frag} {G0 : Hp} {lo : Int} {n : Nat} : Src K G0 (Itr lo n) (rgD lo n) (fun _ => True) where
  step i G H μ d e hm _ hd := by
    unfold rgD at hd
    rw [List.getElem?_map] at hd
    by_cases hi : i < n
    · rw [List.getElem?_range hi] at hd
      cases hd
      exact ⟨hi, fun v H' ⟨e1, e2⟩ => by subst e1; subst e2; exact ⟨G, hm, Fr.refl _ _ _, .int _⟩⟩
    · rw [List.getElem?_eq_none (by rw [List.length_range]; omega)] at hd
      cases hd
  stop G H μ e hm _ := by
    show n ≤ (rgD lo n).length
    unfold rgD
    rw [List.length_map, List.length_range]; exact Nat.le_refl _
theorem ji_range1 {p : Pos} (hg : Gl X "range") (hm : X.mg "range" = none) (h : JE X a δ μ fun d μ1 => ∃ j : Int, d = .int j ∧ -(2 ^ 62) ≤ j ∧ j < 2 ^ 62 ∧ R (rgD 0 j.toNat) (fun _ => True) μ1) (hs : starEach [a] X.env = [(false, eval a X.env)] := by rfl) : JI X tg (.Call (.Name "range" p) [a] [] pos) δ μ R :=
  fun σ G H RR at_ k => wI_of (pi_range1 hg hm pa_w hs) ((show JA X [a] δ μ (fun ds μ1 => ∃ d, ds = [d] ∧ ∃ j : Int, d = .int j ∧ -(2 ^ 62) ≤ j ∧ j < 2 ^ 62 ∧ R (rgD 0 j.toNat) (fun _ => True) μ1) from ja_cons (h.imp fun d μ1 q => ja_nil ⟨d, rfl, q⟩) hs) σ G H _ at_ fun vs ds G1 H1 μ1 hm1 f r ⟨d, e1, j, e2, h1, h2, q⟩ => by
    subst e1; subst e2
    obtain ⟨v, rfl, r2⟩ := r.inv1
    cases r2
    exact ⟨j, rfl, h1, h2, k _ _ _ G1 H1 μ1 hm1 f src_rng q⟩)
theorem ji_range2 {p : Pos} (hg : Gl X "range") (hm : X.mg "range" = none) (h : JA X [a, b] δ μ fun ds μ1 => ∃ i j : Int, ds = [.int i, .int j] ∧ (-(2 ^ 62) ≤ i ∧ i < 2 ^ 62 ∧ -(2 ^ 62) ≤ j ∧ j < 2 ^ 62) ∧ R (rgD i (j - i).toNat) (fun _ => True) μ1)
    (hs : starEach [a, b] X.env = [(false, eval a X.env), (false, eval b X.env)] := by rfl) (hs2 : starEach [b] X.env = [(false, eval b X.env)] := by rfl) : JI X tg (.Call (.Name "range" p) [a, b] [] pos) δ μ R :=
  fun σ G H RR at_ k => wI_of (pi_range2 hg hm pa_w hs hs2) (h σ G H _ at_ fun vs ds G1 H1 μ1 hm1 f r ⟨i, j, e1, h1, q⟩ => by
    subst e1
    obtain ⟨v, w, rfl, r1, r2⟩ := r.inv2
    cases r1; cases r2
    exact ⟨i, j, rfl, h1, k _ _ _ G1 H1 μ1 hm1 f src_rng q⟩)
end
end K27
end DLe_
section DLf_
/-! DL, sixth part: comprehensions, defs and their calls. -/
namespace K27
open PySem PySem.Spec PyProof.Rows L2
/-! ### comprehensions -/
theorem wipe_get (σ : L2.St) (vs : List Nat) (i : Nat) : (wipe σ vs)[i]? = if i ∈ vs then (σ[i]?.map fun _ => none) else σ[i]? := by
  induction vs with
  | nil => simp [wipe]
  | cons v vs ih =>
    show ((wipe σ vs).set v none)[i]? = _
    rw [List.getElem?_set]
    by_cases h : v = i
    · subst h
      rw [if_pos rfl, if_pos List.mem_cons_self]
      by_cases hl : v < (wipe σ vs).length
      · rw [if_pos hl]
        rw [wipe_length] at hl
        rw [List.getElem?_eq_getElem hl]; rfl
      · rw [if_neg hl]
        rw [wipe_length] at hl
        rw [List.getElem?_eq_none (by omega)]; rfl
    · rw [if_neg h, ih]
      by_cases h2 : i ∈ vs
      · rw [if_pos h2, if_pos (List.mem_cons_of_mem _ h2)]
      · rw [if_neg h2, if_neg (fun z => by rcases List.mem_cons.mp z with z | z; exact h z.symm; exact h2 z)]
theorem wipe_set {σ : L2.St} {vs : List Nat} {i : Nat} {v : Option V} (hi : i ∈ vs) : wipe ((wipe σ vs).set i v) vs = wipe σ vs := by
  apply List.ext_getElem?
  intro j
  rw [wipe_get, wipe_get, List.getElem?_set, wipe_get]
  by_cases h : j ∈ vs
  · rw [if_pos h, if_pos h]
    by_cases e : i = j
    · rw [if_pos e]
      by_cases hl : i < (wipe σ vs).length
      · rw [if_pos hl]
        rw [wipe_length] at hl
        subst e
        rw [List.getElem?_eq_getElem hl]; rfl
      · rw [if_neg hl]
        rw [wipe_length] at hl
        subst e
        rw [List.getElem?_eq_none (by omega)]
    · rw [if_neg e]
      cases σ[j]? <;> rfl
  · rw [if_neg h, if_neg h, if_neg (fun e : i = j => h (e ▸ hi))]
theorem wipe_wipe {σ : L2.St} {vs : List Nat} : wipe (wipe σ vs) vs = wipe σ vs := by
  apply List.ext_getElem?
  intro j
  rw [wipe_get, wipe_get]
  by_cases h : j ∈ vs
  · rw [if_pos h, if_pos h]
    cases σ[j]? <;> rfl
  · rw [if_neg h, if_neg h]
/-- two stores that part within vs alone are one when wiped -/
theorem wipe_eq {σ τ : L2.St} {vs : List Nat} (h : ∀ j, j ∉ vs → σ[j]? = τ[j]?) (hl : σ.length = τ.length) : wipe σ vs = wipe τ vs := by
  apply List.ext_getElem?
  intro j
  rw [wipe_get, wipe_get]
  by_cases hj : j ∈ vs
  · rw [if_pos hj, if_pos hj]
    by_cases e : j < σ.length
    · rw [List.getElem?_eq_getElem e, List.getElem?_eq_getElem (by omega)]; rfl
    · rw [List.getElem?_eq_none (by omega), List.getElem?_eq_none (by omega)]
  · rw [if_neg hj, if_neg hj, h j hj]
theorem wipe_set2 {σ : L2.St} {vs : List Nat} {i j : Nat} {v w : Option V} (hi : i ∈ vs) (hj : j ∈ vs) : wipe (((wipe σ vs).set i v).set j w) vs = wipe σ vs := by
  refine Eq.trans (wipe_eq (τ := wipe σ vs) (fun l hl => ?_) (by rw [List.length_set, List.length_set])) wipe_wipe
  rw [List.getElem?_set_ne (fun e => hl (by rw [← e]; exact hj)), List.getElem?_set_ne (fun e => hl (by rw [← e]; exact hi))]
/-- the slots of the block's own names forgotten -/
def wipeD (δ : Env') : List Nat → Env'
  | [] => δ
  | v :: vs => (wipeD δ vs).set v none
theorem RepS.clear {K : PySem.W.Frag} {G : Hp} {σ : L2.St} {δ : Env'} {i : Nat} {s : Option V} (r : RepS K G σ δ) : RepS K G (σ.set i s) (δ.set i none) := by
  refine ⟨by rw [List.length_set, List.length_set, r.len], fun j d' e => ?_⟩
  by_cases hj : i = j
  · subst hj
    by_cases hl : i < δ.length
    · rw [List.getElem?_set_self hl] at e
      cases e
    · rw [List.getElem?_eq_none (by rw [List.length_set]; omega)] at e
      cases e
  · rw [List.getElem?_set_ne hj] at e ⊢
    exact r.get j d' e
theorem RepS.wipe {K : PySem.W.Frag} {G : Hp} {σ : L2.St} {δ : Env'} (r : RepS K G σ δ) : ∀ vs, RepS K G (L2.wipe σ vs) (wipeD δ vs)
  | [] => r
  | v :: vs => RepS.clear (RepS.wipe r vs)
section
variable (X : Cx) (scope : Scope)
/-- in any block of the comprehension -/
def JEb (e : Expr) (δ : Env') (μ : Sto) (Q : QE) : Prop := ∀ (s : Shared) (H : Hp) (C : Addr) (cl : List (Str × Addr)) (fp : List Addr), JE (X.blk s H scope (compEnvC scope cl C X.env) fp) e δ μ Q
def JTb (e : Expr) (δ : Env') (μ : Sto) (Q : Bool → Sto → Prop) : Prop := ∀ (s : Shared) (H : Hp) (C : Addr) (cl : List (Str × Addr)) (fp : List Addr), JT (X.blk s H scope (compEnvC scope cl C X.env) fp) e δ μ Q
/-- the test's reading: none, or one -/
abbrev TstD := Env' → Sto → (Bool → Sto → Prop) → Prop
abbrev AsgD := Dt → Env' → (Env' → Prop) → Prop
/-- a comprehension's turns over the items -/
def lcR (elt : Expr) (asg : AsgD) (tst : TstD) (cond : Sto → Prop) (Q : List Dt → Sto → Prop) (δ : Env') : List Dt → List Dt → Sto → Prop
  | [], acc, μ => cond μ ∧ Q acc μ
  | d :: r, acc, μ => cond μ ∧ acc.length < sizeLine ∧ asg d δ fun δ1 => tst δ1 μ fun b μ2 => (b = true → JEb X scope elt δ1 μ2 fun y μ3 => lcR elt asg tst cond Q δ r (acc ++ [y]) μ3) ∧ (b = false → lcR elt asg tst cond Q δ r acc μ2)
end
def tsYes : TstD := fun _ μ Q => Q true μ
def tsOne (X : Cx) (scope : Scope) (c : Expr) : TstD := fun δ μ Q => JTb X scope c δ μ Q
def asName (i : Nat) : AsgD := fun d δ Q => Q (δ.set i (some d))
def asPair (i j : Nat) : AsgD := fun d δ Q => ∃ a b, d = .tup [a, b] ∧ Q ((δ.set i (some a)).set j (some b))
/-- a hidden list is written -/
theorem Hm.hidwr {K : PySem.W.Frag} {G H : Hp} {μ : Sto} {p : Addr} {o : HO} (h : Hm K G H μ) (hg : G p = none) (hm : μ p = none) : Hm K G (upd H p o) μ := by
  refine ⟨fun a u e => ?_, fun a x e => ?_⟩
  · rw [upd_ne (ne_of_none e hg)]; exact h.ex a u e
  · obtain ⟨e1, u, e2, e3⟩ := h.mo a x e
    have hne : a ≠ p := fun z => by subst z; rw [hm] at e; cases e
    exact ⟨e1, u, by rw [upd_ne hne]; exact e2, e3⟩
/-- a test's reading is sound -/
structure TstOk (X : Cx) (scope : Scope) (tst : TstD) (tt : TT) : Prop where
  run : ∀ (δ : Env') (μ : Sto) (Q : Bool → Sto → Prop) (σ : L2.St) (G H : Hp) (QQ : Bool → Hp → Prop), tst δ μ Q → At X.K G H μ σ δ → KT X.K G H μ Q QQ → tt σ H QQ
theorem tst_yes {X : Cx} {scope : Scope} : TstOk X scope tsYes tYes := ⟨fun δ μ Q σ G H QQ t a k => k true G H μ a.toHm (Fr.refl _ _ _) t⟩
def ttB (X : Cx) (scope : Scope) (c : Expr) : TT := fun σ H Q => ∀ (s : Shared) (H0 : Hp) (C : Addr) (cl : List (Str × Addr)) (fp : List Addr), wT (X.blk s H0 scope (compEnvC scope cl C X.env) fp) c σ H Q
def teB (X : Cx) (scope : Scope) (c : Expr) : TE := fun σ H Q => ∀ (s : Shared) (H0 : Hp) (C : Addr) (cl : List (Str × Addr)) (fp : List Addr), wE (X.blk s H0 scope (compEnvC scope cl C X.env) fp) c σ H Q
theorem tst_one {X : Cx} {scope : Scope} {c : Expr} : TstOk X scope (tsOne X scope c) (ttB X scope c) := ⟨fun δ μ Q σ G H QQ t a k s H0 C cl fp => t s H0 C cl fp σ G H QQ a k⟩
/-- a target's reading is sound: g puts what asg says -/
structure AsgOk (K : PySem.W.Frag) (vs : List Nat) (asg : AsgD) (g : TG) : Prop where
  run : ∀ (d : Dt) (δ : Env') (Q : Env' → Prop) (σ : L2.St) (G H : Hp) (v : V) (QQ : L2.St → Hp → Prop), asg d (wipeD δ vs) Q → Ex G H → RepS K G (wipe σ vs) (wipeD δ vs) → Rep K G v d →
    (∀ σ2 δ2, RepS K G σ2 δ2 → wipe σ2 vs = wipe σ vs → Q δ2 → QQ σ2 H) → g v (wipe σ vs) H QQ
theorem asg_name {K : PySem.W.Frag} {vs : List Nat} {i : Nat} (hi : i ∈ vs) : AsgOk K vs (asName i) (gName i) := ⟨fun d δ Q σ G H v QQ a e r rv k => k _ _ (r.set rv) (wipe_set hi) a⟩
theorem asg_pair {K : PySem.W.Frag} {vs : List Nat} {i j : Nat} (hi : i ∈ vs) (hj : j ∈ vs) : AsgOk K vs (asPair i j) (gTup K 2 (gCons (gName i) (gCons (gName j) gNil))) := ⟨fun d δ Q σ G H v QQ a e r rv k => by
  obtain ⟨x, y, rfl, q⟩ := a
  cases rv with
  | tup h1 r1 =>
    obtain ⟨u, w, rfl, r2, r3⟩ := r1.inv2
    exact ⟨_, _, rfl, e.sqt h1, rfl, u, [w], rfl, w, [], rfl, rfl, k _ _ ((r.set r2).set r3) (wipe_set2 hi hj) q⟩⟩
/-- the reading of a comprehension, from its turns -/
theorem lc_at {X : Cx} {scope : Scope} {elt : Expr} {own : List (Str × Nat)} {asg : AsgD} {tst : TstD} {g : TG} {tt : TT} {wi : TI} {δ : Env'} {μ : Sto} {Q : List Dt → Sto → Prop} (hA : AsgOk X.K (own.map (·.2)) asg g) (hT : TstOk X scope tst tt)
    {σ : L2.St} {G H : Hp} {QQ : VK} (at_ : At X.K G H μ σ δ) (k : KE X.K G H μ (fun d μ1 => ∃ ys, d = .lst ys ∧ Q ys μ1) QQ)
    (h : ∀ RR, (∀ J items cond G' H' μ', Hm X.K G' H' μ' → Fr G H μ G' H' μ' → Src X.K G' J items cond → lcR X scope elt asg tst cond Q (wipeD δ (own.map (·.2))) items [] μ' → RR J H') → wi σ H RR) :
    tLc wi g tt (teB X scope elt) (own.map (·.2)) σ H QQ := by
  refine h _ fun J items cond G1 H1 μ1 hm1 f1 src q1 D hD => ?_
  have gD1 : G1 D = none := hm1.ex.back hD
  have mD1 : μ1 D = none := by
    cases e : μ1 D with
    | none => rfl
    | some y => obtain ⟨_, o', h2, _⟩ := hm1.mo D y e; rw [hD] at h2; cases h2
  -- what holds at turn i: the list so far is hidden
  let Wv : Nat → Hp → Prop := fun i H' => ∃ G' μ' acc vacc, Hm X.K G' H' μ' ∧ Fr G1 H1 μ1 G' H' μ' ∧ H' D = some (.lst vacc) ∧ G' D = none ∧ μ' D = none ∧ RepAll X.K G' vacc acc ∧ RepS X.K G' (wipe σ (own.map (·.2))) (wipeD δ (own.map (·.2))) ∧ lcR X scope elt asg tst cond Q (wipeD δ (own.map (·.2))) (items.drop i) acc μ'
  refine ⟨fun i m H' => Wv i H' ∧ i + m = items.length, ⟨items.length, ⟨G1, μ1, [], [], hm1.hidwr gD1 mD1, ⟨Ex.refl _, fun a o e1 e2 e3 => ⟨?_, e2, e3⟩⟩, upd_same, gD1, mD1, .nil, (at_.rs.mono f1.ex).wipe _, by rw [List.drop_zero]; exact q1⟩, Nat.zero_add _⟩, fun i m H' hW => ?_⟩
  · rw [upd_ne (ne_of_none e1 hD)]; exact e1
  obtain ⟨⟨G', μ', acc, vacc, hm', f', hDl, gD, mD, racc, rs, q⟩, em⟩ := hW
  by_cases hi : i < items.length
  · rw [List.drop_eq_getElem_cons hi] at q
    obtain ⟨hcond, hlen, hq⟩ := q
    obtain ⟨h1, h2⟩ := src.step i G' H' μ' items[i] f'.ex hm' hcond (List.getElem?_eq_getElem hi)
    refine .inr ⟨h1, Wv (i + 1), fun H2 w2 => ⟨m - 1, by omega, w2, by omega⟩, fun v H2 hy => ?_⟩
    obtain ⟨G2, hm2, f2, r2⟩ := h2 v H2 hy
    obtain ⟨hDl2, gD2, mD2⟩ := f2.hid D _ hDl gD mD
    refine hA.run _ _ _ σ G2 H2 v _ hq hm2.ex (rs.mono f2.ex) r2 fun σ2 δ2 rs2 hw hq2 => ⟨hw, ?_⟩
    refine hT.run _ _ _ σ2 G2 H2 _ hq2 ⟨hm2, rs2⟩ fun b G3 H3 μ3 hm3 f3 q3 => ?_
    obtain ⟨hDl3, gD3, mD3⟩ := f3.hid D _ hDl2 gD2 mD2
    have ff3 := (f'.trans f2).trans f3
    cases b with
    | true =>
      refine iteT (fun s H0 C cl fp => q3.1 rfl s H0 C cl fp σ2 G3 H3 _ ⟨hm3, rs2.mono f3.ex⟩ fun y d G4 H4 μ4 hm4 f4 r4 q4 => ?_)
      obtain ⟨hDl4, gD4, mD4⟩ := f4.hid D _ hDl3 gD3 mD3
      have ff4 := ff3.trans f4
      refine ⟨vacc, hDl4, by rw [racc.length]; exact hlen, G4, μ4, acc ++ [d], vacc ++ [y], hm4.hidwr gD4 mD4, ⟨ff4.ex, fun a o e1 e2 e3 => ?_⟩, upd_same, gD4, mD4, (racc.mono ((f2.trans f3).trans f4).ex).append (.one r4), rs.mono ((f2.trans f3).trans f4).ex, q4⟩
      obtain ⟨z1, z2, z3⟩ := ff4.hid a o e1 e2 e3
      exact ⟨by rw [upd_ne (ne_of_none e1 hD)]; exact z1, z2, z3⟩
    | false => exact iteF ⟨G3, μ3, acc, vacc, hm3, ff3, hDl3, gD3, mD3, racc.mono (f2.trans f3).ex, rs.mono (f2.trans f3).ex, q3.2 rfl⟩
  · rw [List.drop_eq_nil_of_le (by omega)] at q
    obtain ⟨hcond, q⟩ := q
    have ei : i = items.length := by omega
    subst ei
    refine .inl ⟨src.stop G' H' μ' f'.ex hm' hcond, ?_⟩
    -- the list becomes known
    have eG : Ex G' (upd G' D (.lst vacc)) := Ex.new gD
    refine k _ (.lst acc) (upd G' D (.lst vacc)) H' μ' ⟨fun a u e => ?_, fun a x e => ?_⟩ (f1.trans ⟨f'.ex.trans eG, fun a o e1 e2 e3 => ?_⟩) (.lst upd_same (racc.mono eG)) ⟨acc, rfl, q⟩
    · by_cases hne : a = D
      · subst hne; rw [upd_same] at e; cases e; exact hDl
      · rw [upd_ne hne] at e; exact hm'.ex a u e
    · obtain ⟨e1, u, e2, e3⟩ := hm'.mo a x e
      have hne : a ≠ D := fun z => by subst z; rw [mD] at e; cases e
      exact ⟨by rw [upd_ne hne]; exact e1, u, e2, e3.mono eG⟩
    · obtain ⟨z1, z2, z3⟩ := f'.hid a o e1 e2 e3
      exact ⟨z1, by rw [upd_ne (ne_of_none e1 hD)]; exact z2, z3⟩
theorem lc_run {X : Cx} {scope : Scope} {tg iter elt : Expr} {own : List (Str × Nat)} {asg : AsgD} {tst : TstD} {g : TG} {tt : TT} {δ : Env'} {μ : Sto} {Q : List Dt → Sto → Prop} (hA : AsgOk X.K (own.map (·.2)) asg g) (hT : TstOk X scope tst tt)
    (h : JI X tg iter δ μ fun items cond μ1 => lcR X scope elt asg tst cond Q (wipeD δ (own.map (·.2))) items [] μ1) {σ : L2.St} {G H : Hp} {QQ : VK} (at_ : At X.K G H μ σ δ) (k : KE X.K G H μ (fun d μ1 => ∃ ys, d = .lst ys ∧ Q ys μ1) QQ) :
    tLc (wI X tg iter) g tt (teB X scope elt) (own.map (·.2)) σ H QQ :=
  lc_at hA hT at_ k fun RR z => h σ G H RR at_ z
section
variable {X : Cx} {scope : Scope} {tg iter elt : Expr} {ifs : List Expr} {own : List (Str × Nat)} {δ : Env'} {μ : Sto} {pos : Pos}
theorem je_lcG {asg : AsgD} {tst : TstD} {g : TG} {tt : TT} {Q : QE} (hc : X.calm = true) (hN : X.N.Nodup) (ok : BlkOk X.N X.env.scope scope own) (hA : AsgOk X.K (own.map (·.2)) asg g) (hT : TstOk X scope tst tt)
    (hg : ∀ (s : Shared) (H : Hp) (C : Addr) (cl : List (Str × Addr)) (fp : List Addr), PG (X.blk s H scope (compEnvC scope cl C X.env) fp) tg g) (ht : ∀ (s : Shared) (H : Hp) (C : Addr) (cl : List (Str × Addr)) (fp : List Addr), PTs (X.blk s H scope (compEnvC scope cl C X.env) fp) ifs tt)
    (h : JI X tg iter δ μ fun items cond μ1 => lcR X scope elt asg tst cond (fun ys μ2 => Q (.lst ys) μ2) (wipeD δ (own.map (·.2))) items [] μ1) (hs : ∀ x, foldedSetIterable iter X.env x = pure x := by intro _; rfl) :
    JE X (.ListComp elt [⟨tg, iter, ifs, 0⟩] scope pos) δ μ Q := fun σ G H QQ at_ k =>
  wE_of (pe_lc (te := teB X scope elt) hc hN pi_w ok hg ht (fun s H C cl fp => ⟨fun pins s' σ' H' Q' I h => h s H C cl fp pins s' I⟩) hs) (lc_run hA hT h at_ fun v d G' H' μ' hm fr r ⟨ys, e, q⟩ => k v d G' H' μ' hm fr r (by rw [e]; exact q))
theorem js_lcG {i : Nat} {y : Str} {py spos : Pos} {asg : AsgD} {tst : TstD} {g : TG} {tt : TT} {D : DE} (hc : X.calm = true) (hN : X.N.Nodup) (hy : X.N[i]? = some y) (hyl : X.env.scope.names.lookup y = some .local)
    (hsw : swapsWith (.ListComp elt [⟨tg, iter, ifs, 0⟩] scope pos) (some (.Name y py)) spos.line X.env = pure true) (ok : BlkOk X.N X.env.scope scope own) (hA : AsgOk X.K (own.map (·.2)) asg g) (hT : TstOk X scope tst tt)
    (hg : ∀ (s : Shared) (H : Hp) (C : Addr) (cl : List (Str × Addr)) (fp : List Addr), PG (X.blk s H scope (compEnvC scope cl C X.env) fp) tg g) (ht : ∀ (s : Shared) (H : Hp) (C : Addr) (cl : List (Str × Addr)) (fp : List Addr), PTs (X.blk s H scope (compEnvC scope cl C X.env) fp) ifs tt)
    (h : JI X tg iter δ μ fun items cond μ1 => lcR X scope elt asg tst cond (fun ys μ2 => D.nx (δ.set i (some (.lst ys))) μ2) (wipeD δ (own.map (·.2))) items [] μ1) (hs : ∀ x, foldedSetIterable iter X.env x = pure x := by intro _; rfl) :
    JS X (.Assign [.Name y py] (.ListComp elt [⟨tg, iter, ifs, 0⟩] scope pos) spos) δ μ D := fun σ G H DD at_ k =>
  wS_of (ps_setLc (te := teB X scope elt) hc hN hy hyl hsw pi_w ok hg ht (fun s H C cl fp => ⟨fun pins s' σ' H' Q' I h => h s H C cl fp pins s' I⟩) hs) (lc_run hA hT h at_ fun v d G' H' μ' hm fr r ⟨ys, e, q⟩ => by
    subst e
    exact k.nx _ _ G' H' μ' ⟨hm, (at_.rs.mono fr.ex).set r⟩ fr q)
end
/-! ### defs and calls -/
/-- a contract: from the arguments and the store, what is given and left -/
abbrev Ct := List Dt → Sto → QE → Prop
def spC (K : PySem.W.Frag) (n : Nat) (C : Ct) : Sp := fun vs H Q _ => vs.length = n ∧ ∃ G μ ds QQ, Hm K G H μ ∧ RepAll K G vs ds ∧ C ds μ QQ ∧ KE K G H μ QQ Q
def envOf (N : List Str) (ds : List Dt) : Env' := ds.map some ++ List.replicate (N.length - ds.length) none
theorem reps_start {K : PySem.W.Frag} {G : Hp} {N : List Str} {vs : List V} {ds : List Dt} (r : RepAll K G vs ds) : RepS K G (L2.start N vs) (envOf N ds) := by
  have hl := r.length
  refine ⟨by unfold L2.start envOf; simp [hl], fun i d e => ?_⟩
  unfold envOf at e
  unfold L2.start
  by_cases hi : i < ds.length
  · rw [List.getElem?_append_left (by simpa using hi), List.getElem?_map] at e
    cases e2 : ds[i]? with
    | none => rw [e2] at e; cases e
    | some d' =>
      rw [e2] at e
      cases e
      obtain ⟨v, h1, h2⟩ := r.get e2
      refine ⟨v, ?_, h2⟩
      rw [List.getElem?_append_left (by rw [List.length_map, hl]; exact hi), List.getElem?_map, h1]; rfl
  · rw [List.getElem?_append_right (by rw [List.length_map]; omega), List.getElem?_replicate] at e
    split at e <;> cases e
section
variable {P : Program} {w : World} {K : PySem.W.Frag} {mg : Str → Option Value} {base : Heap}
abbrev cx (P : Program) (w : World) (K : PySem.W.Frag) (mg : Str → Option Value) (base : Heap) (N : List Str) (x : Str) (st : Stmt) (f : Addr) (cdv : Value) (A : Around) (outer : List Env) (s : Shared) (H : Hp) (E : XK) : Cx :=
  (cxOf CX0 P w K mg base N x (defScope st) f cdv A outer s H E).nox
/-- a def keeps its contract -/
theorem def_ok {x : Str} {st : Stmt} {f : Addr} {fd : FuncData} {N ps : List Str} {k : Nat} {C : Ct} (F : Fun K x x st f fd) (S : FnScope N ps (defScope st))
    (hbody : ∀ (cdv : Value) (A : Around) (outer : List Env) (s : Shared) (H : Hp) (E : XK), Room k (A.deeper (envOfC x (defScope st) s.heap.objs.size f cdv)) →
      ∀ ds μ Q, ds.length = ps.length → C ds μ Q → JSs (cx P w K mg base N x st f cdv A outer s H E) (defBody st) (envOf N ds) μ { nx := fun _ μ' => Q .non μ', rt := Q }) :
    FnOk P w K mg base CX0 (k + 1) f fd ps (spC K ps.length C) := by
  refine F.ok S (fun vs H Q E h => h.1) (fun cdv A outer s H vs Q E hr h => ?_)
  obtain ⟨hl, G, μ, ds, QQ, hm, r, hC, k⟩ := h
  refine ⟨_, pss_w, hbody cdv A outer s H E hr ds μ QQ (by rw [← r.length]; exact hl) hC (L2.start N vs) G H _ ⟨hm, reps_start r⟩ ⟨fun σ' δ' G' H' μ' a' f' q => k .non .non G' H' μ' a'.toHm f' .non q, k, fun _ _ _ _ _ _ _ q => q.elim, fun _ _ _ _ _ _ _ q => q.elim⟩⟩
section
variable {X : Cx} {δ : Env'} {μ : Sto} {e : Expr} {es : List Expr} {pos : Pos}
theorem je_call {k : Nat} {f : Addr} {fd : FuncData} {ps : List Str} {C : Ct} {x : Str} {p : Pos} {Q : QE} (F : FnOk X.prog X.w X.K X.mg X.base CX0 k f fd ps (spC X.K ps.length C)) (hr : Room k X.A) (hg : Gl X x) (hm : X.mg x = some (.ref f)) (hk : PySem.W.keepIn X.K (.ref f) = true) (hb : Binds X.K fd ps [])
    (h : JA X (e :: es) δ μ fun ds μ1 => ds.length = ps.length ∧ C ds μ1 Q) (hdb : (x == ("__debug__" : Str)) = false := by decide) (he : starEach (e :: es) X.env = (false, eval e X.env) :: starEach es X.env := by rfl) (hpl : (backTo pos (starEach es X.env)).any (·.1) = false := by rfl) :
    JE X (.Call (.Name x p) (e :: es) [] pos) δ μ Q := fun σ G H QQ at_ kk =>
  wE_of (pe_call F hr hg hm hk hb .nil (pass0 (X := X)) pa_w hdb he hpl) (h σ G H _ at_ fun vs ds G1 H1 μ1 hm1 f1 r q => by
    show spC X.K ps.length C (vs ++ []) H1 QQ E0
    rw [List.append_nil]
    exact ⟨by rw [r.length]; exact q.1, G1, μ1, ds, Q, hm1, r, q.2, kk.after f1⟩)
theorem ct_imp {C C' : Ct} {k : Nat} {f : Addr} {fd : FuncData} {ps : List Str} (F : FnOk P w K mg base CX0 k f fd ps (spC K ps.length C)) (h : ∀ ds μ Q, C' ds μ Q → C ds μ Q) : FnOk P w K mg base CX0 k f fd ps (spC K ps.length C') :=
  F.imp fun vs H Q E ⟨hl, G, μ, ds, QQ, hm, r, hC, kk⟩ => ⟨hl, G, μ, ds, QQ, hm, r, h _ _ _ hC, kk⟩
end
end
end K27
end DLf_
section DLg_
/-! DL, seventh part: more that is walked: enumerate of tuples and lists, zip of tuples and of texts, a text. -/
namespace K27
open PySem PySem.Spec PyProof.Rows L2
/-! ### enumerate(t), t a tuple -/
def IteT (K : PySem.W.Frag) (a : Addr) : It where
  go i H := ∃ (xs : List V) (x : V), SqT K H a xs ∧ xs[i]? = some x
  yld i H v H' := ∃ (T : Addr) (x : V), v = .ref T ∧ H T = none ∧ H' = upd H T (.tup [.int (i : Nat), x]) ∧ ∀ xs, SqT K H a xs → xs[i]? = some x
  stop i H := ∃ xs : List V, SqT K H a xs ∧ xs.length = i
theorem turn_enumT {P : Program} {w : World} {K : PySem.W.Frag} {elts : List Expr} {kk : Nat} {tpos : Pos} (a en it : Addr) (hai : a ≠ it) :
    Turn P w K (.Tuple elts kk tpos) (IteT K a) [en, it] en (fun i h => (∃ old, IsEnum h en it ((i : Nat) : Int) old) ∧ h.IsTupleIter it a i ∧ en ≠ it) where
  mem := List.mem_cons_self
  obj i h st b hb := by
    obtain ⟨⟨old, h1⟩, ⟨o, h2, _, h3⟩, _⟩ := st
    rcases List.mem_cons.mp hb with rfl | hb
    · exact ⟨_, h1, fun v q => nomatch q⟩
    · rw [List.mem_singleton.mp hb]
      exact ⟨o, h2, fun v q => by rw [h3] at q; cases q⟩
  keep i h h' st k := by
    obtain ⟨⟨old, h1⟩, h2, hne⟩ := st
    exact ⟨⟨old, k en List.mem_cons_self _ h1⟩, h2.at fun o q => k it (List.mem_cons_of_mem _ List.mem_cons_self) o q, hne⟩
  item X e1 e2 e3 hc i pins s σ H E I hf st hg := by
    subst e1 e2 e3
    obtain ⟨⟨old, h1⟩, h2, hne⟩ := st
    obtain ⟨xs, x, hq, hx⟩ := hg
    obtain ⟨its, rv, pt, _⟩ := I.tuple hq
    obtain ⟨u, hu, ru⟩ := rv.get hx
    have hit : IsTup s.heap a its.toArray := pt
    have hEn : en < s.heap.objs.size := Heap.lt_size h1
    have hIt : it < s.heap.objs.size := by obtain ⟨_, q, _⟩ := h2; exact Heap.lt_size q
    have hea : en ≠ a := fun z => by
      obtain ⟨o, ho, hcl, _⟩ := hit
      rw [← z, h1] at ho
      cases ho
      exact absurd hcl (by simp)
    have hlen : i < its.toArray.size := by
      have := (List.getElem?_eq_some_iff.mp hu).1
      simpa using this
    refine wpAny_pyNext_enum_itemC (n := its.toArray.size) (fp := [it, a]) (Draws.tuple (A := X.A.in1) (I.ok.hd hc) it a hai its.toArray) h1 ⟨h2, hit⟩ hlen hne (by simp [hne, hea]) fun y h' tk hP ho hst hT hsz hk => ?_
    have ey : y = u := by
      rw [show its.toArray[i]? = some u by simpa using hu] at hP
      exact (Option.some.inj hP).symm
    subst ey
    refine ⟨_, rfl, wpAny_letOwnedTupleGo_enum ho fun h2' he2 sb => ?_⟩
    have hT2 : h2'.get? s.heap.objs.size = some { cls := .type "tuple", data := .seq #[.int ((i : Nat) : Int) tk, y] } := (sb.2 _ (Nat.ne_of_gt hEn)).trans hT
    have new : ObjOk X.prog X.w (upd H s.heap.objs.size (.tup [.int (i : Nat), x])) h2' s.heap.objs.size (.tup [.int (i : Nat), x]) :=
      ⟨by show 2 ≤ sizeLine; decide, [.int ((i : Nat) : Int) tk, y], .cons ⟨tk, rfl⟩ (.cons ru .nil), ⟨_, hT2, rfl, _, rfl⟩⟩
    have I1 : Inv X pins σ (upd H s.heap.objs.size (.tup [.int (i : Nat), x])) { s with heap := h2', toks := tk + 1 } :=
      I.turnedNew (ch := [en, it]) (fun b ob hb q => (sb.2 b (fun z => hb (by simp [z]))).trans (hk b ob (fun z => hb (by simp [z])) (fun z => hb (by simp [z])) q)) hf (Nat.le_refl _) new
    refine ⟨.ref s.heap.objs.size, _, I1, rfl, ⟨_, x, rfl, I.hok.fresh (Nat.le_refl _), rfl, fun ys hy => by rw [I.tuple_inj hy hq]; exact hx⟩, ⟨⟨y, ?_⟩, hst.1.at fun o q => (sb.2 it (Ne.symm hne)).trans q, hne⟩, fun b hb => ?_⟩
    · rw [show ((i + 1 : Nat) : Int) = ((i : Nat) : Int) + 1 by omega]
      exact he2
    · have hlt : b < s.heap.objs.size := by
        rcases List.mem_cons.mp hb with rfl | hb
        · exact hEn
        · rw [List.mem_singleton.mp hb]; exact hIt
      rw [upd_ne (Nat.ne_of_lt hlt)]
      exact (hf b hb).1
  done X e1 e2 e3 hc i pins s σ H E I hf st hg := by
    subst e1 e2 e3
    obtain ⟨⟨old, h1⟩, h2, hne⟩ := st
    obtain ⟨xs, hq, hx⟩ := hg
    obtain ⟨its, rv, pt, _⟩ := I.tuple hq
    obtain ⟨f0, f1, f2, f3, f4, f5⟩ := hf it (List.mem_cons_of_mem _ List.mem_cons_self)
    have hl : its.toArray.size = i := by
      have := rv.length
      simp only [List.size_toArray]
      omega
    subst hl
    exact wpAny_pyNext_enum_endD (n := its.toArray.size) (fp := [it, a]) (Draws.tuple (A := X.A.in1) (I.ok.hd hc) it a hai its.toArray) h1 ⟨h2, pt⟩ fun h' eb => ⟨rfl, I.turned (t' := s.toks) (fun b o hb q => eb b o hb q) f0 f1 f3 f4 f5⟩
  self A i s Q E st h := by
    obtain ⟨⟨_, h1⟩, _⟩ := st
    exact wpAny_pyIter_enum h1 h
def iEnumT (K : PySem.W.Frag) (ta : TA) : TI := fun σ H R => ta σ H fun vs H1 => ∃ a xs, vs = [.ref a] ∧ SqT K H1 a xs ∧ R (IteT K a) H1
set_option maxHeartbeats 1000000 in
theorem meets_enum1 {v : Value} {ob : Obj} {Hv : Heap → Prop} (B : Begins v ob Hv) :
    Meets (Builtin.«enumerate.__new__» ⟨[.type "enumerate", v], []⟩) (fun _ R s => Hv s.heap ∧
      R (.ok (.ret (.ref (s.heap.push ob).objs.size))) { s with heap := (s.heap.push ob).push { cls := .type "enumerate", data := .fields #[.none, .bool false, .ref s.heap.objs.size, rawInt 0, .none, .none] } }) :=
  .of_wp fun prog w A R s hs => by
    obtain ⟨hp, gs, dr, tks, os⟩ := s
    obtain ⟨hv, hr⟩ := hs
    have hsub := sub_enumerate
    have it1 : ∀ {A' : Around} {E : Value → Shared → Prop} {Q : Value → Shared → Prop}, Q (.ref hp.objs.size) ⟨hp.push ob, gs, dr, tks, os⟩ → wpAny (model prog w) A' (pyIter v) Q E ⟨hp, gs, dr, tks, os⟩ :=
      fun q => B.iter prog w _ _ ⟨hp, gs, dr, tks, os⟩ _ hv q
    wp_walk using it1
    refine wpAny_stack_any fun st => wpAny_pure ?_
    split
    · rename_i c _ _ _ _ _
      cases (c == Value.type "enumerate")
      · wp_walk using it1
        exact ⟨_, rfl, hr⟩
      · wp_walk using it1
        exact ⟨_, rfl, hr⟩
    · wp_walk using it1
      exact ⟨_, rfl, hr⟩
theorem call_enum1 {prog : Program} {w : World} {A : Around} {E : Value → Shared → Prop} {s : Shared} {t : Addr} {its : Array Value} {Q : Value → Shared → Prop} (ht : s.heap.IsTuple t its)
    (h : ∀ h', IsEnum h' (s.heap.objs.size + 1) s.heap.objs.size 0 .none → h'.IsTupleIter s.heap.objs.size t 0 → (∀ b o, s.heap.get? b = some o → h'.get? b = some o) → Q (.ref (s.heap.objs.size + 1)) { s with heap := h' }) :
    wpAny (model prog w) A (call (.type "enumerate") [.ref t]) Q E s := by
  refine callType_new F.called_enumerate (by decide) (F.typeCall_enumerate_1 _) (F.newCall_enumerate_1 _) (fun obj => F.args_object_init_2 obj _) F.entry_enumerate_new (meets_enum1 (begins_tuple t its)) ⟨ht, ?_⟩
  let h1 := s.heap.push { cls := .type "tuple_iterator", data := .fields #[.ref t, .int 0 0] }
  have z1 : h1.objs.size = s.heap.objs.size + 1 := Heap.size_push ..
  have g1 : h1.get? s.heap.objs.size = some { cls := .type "tuple_iterator", data := .fields #[.ref t, .int 0 0] } := Heap.get?_push_size _ rfl
  have g2 := Heap.get?_push_size h1 (o := { cls := .type "enumerate", data := .fields #[.none, .bool false, .ref s.heap.objs.size, rawInt 0, .none, .none] }) rfl
  rw [z1] at g2
  have key := h (h1.push { cls := .type "enumerate", data := .fields #[.none, .bool false, .ref s.heap.objs.size, rawInt 0, .none, .none] }) g2 ⟨_, Heap.get?_push_of_some _ g1, rfl, rfl⟩ fun b o e => Heap.get?_push_of_some _ (Heap.get?_push_of_some _ e)
  show _ ∧ _
  rw [show (s.heap.push { cls := .type "tuple_iterator", data := .fields #[.ref t, .int 0 0] }).objs.size = s.heap.objs.size + 1 from z1]
  exact ⟨⟨_, g2, rfl⟩, key⟩
theorem pi_enumT {X : Cx} {e : Expr} {ta : TA} {p pos tpos : Pos} {elts : List Expr} {kk : Nat} (hg : Gl X "enumerate") (hm : X.mg "enumerate" = none) (ha : PA X [e] ta) (hs : starEach [e] X.env = [(false, eval e X.env)] := by rfl) :
    PI X (.Tuple elts kk tpos) (.Call (.Name "enumerate" p) [e] [] pos) (iEnumT X.K ta) := by
  constructor
  intro pins s σ H R I hta
  refine Call_ (ld_blt I hg hm boot_enumerate (PyProof.Rows.callWith_type1 (thn (ha.run pos pins s σ H _ I hta) ?_) hs rfl))
  rintro us s1 ⟨vs, H1, I1, r1, a, xs, rfl, hq, q⟩
  obtain ⟨u, rfl, ru⟩ := vals1 r1
  obtain rfl : u = Value.ref a := ru
  obtain ⟨its, rv, pt, _⟩ := I1.tuple hq
  have la : a < s1.heap.objs.size := pt.lt
  refine call_enum1 (its := its.toArray) pt fun h' he hit hk => wpAny_pyIter_enum he ?_
  refine ⟨s1.heap.objs.size + 1, [s1.heap.objs.size + 1, s1.heap.objs.size], _, _, H1, rfl, I1.kept (t' := s1.toks) hk, turn_enumT a (s1.heap.objs.size + 1) s1.heap.objs.size (Nat.ne_of_lt la), ⟨⟨.none, he⟩, hit, Nat.succ_ne_self _⟩, fun b hb => ?_, q⟩
  have hle : s1.heap.objs.size ≤ b := by
    rcases List.mem_cons.mp hb with rfl | hb
    · exact Nat.le_succ _
    · rw [List.mem_singleton.mp hb]; exact Nat.le_refl _
  exact I1.fpOk hle (I1.hok.fresh hle)
/-! ### as sources of data -/
def enD (ds : List Dt) : List Dt := ds.mapIdx fun i d => .tup [.int (i : Nat), d]
theorem enD_get {ds : List Dt} {i : Nat} {e : Dt} (h : (enD ds)[i]? = some e) : ∃ d, ds[i]? = some d ∧ e = .tup [.int (i : Nat), d] := by
  unfold enD at h
  rw [List.getElem?_mapIdx] at h
  cases e1 : ds[i]? with
  | none => rw [e1] at h; cases h
  | some d => rw [e1] at h; cases h; exact ⟨d, rfl, rfl⟩
theorem enD_len (ds : List Dt) : (enD ds).length = ds.length := by unfold enD; rw [List.length_mapIdx]
/-- a new pair, made on the way -/
theorem pair_new {K : PySem.W.Frag} {G H : Hp} {μ : Sto} {T : Addr} {x y : V} {a b : Dt} (hm : Hm K G H μ) (hT : H T = none) (rx : Rep K G x a) (ry : Rep K G y b) :
    ∃ G', Hm K G' (upd H T (.tup [x, y])) μ ∧ Fr G H μ G' (upd H T (.tup [x, y])) μ ∧ Rep K G' (.ref T) (.tup [a, b]) := by
  obtain ⟨z1, z2⟩ := hm.new (o := .tup [x, y]) hT
  exact ⟨_, z1, z2, .tup (sqt_of upd_same) (.cons (rx.mono z2.ex) (.cons (ry.mono z2.ex) .nil))⟩
theorem src_enT {K : PySem.W.Frag} {G0 : Hp} {p : Addr} {vs : List V} {ds : List Dt} (h : SqT K G0 p vs) (r : RepAll K G0 vs ds) : Src K G0 (IteT K p) (enD ds) (fun _ => True) where
  step i G H μ d e hm _ hd := by
    obtain ⟨x, hx, rfl⟩ := enD_get hd
    obtain ⟨v, h1, h2⟩ := r.get hx
    have hs := hm.ex.sqt (e.sqt h)
    refine ⟨⟨vs, v, hs, h1⟩, fun v' H' ⟨T, y, e1, hT, e2, hy⟩ => ?_⟩
    subst e1; subst e2
    have e3 := hy vs hs
    rw [h1] at e3
    cases e3
    exact pair_new hm hT (.int _) (h2.mono e)
  stop G H μ e hm _ := ⟨vs, hm.ex.sqt (e.sqt h), by rw [enD_len, r.length]⟩
theorem src_enL {K : PySem.W.Frag} {G0 : Hp} {p : Addr} {vs : List V} {ds : List Dt} (h : G0 p = some (.lst vs)) (r : RepAll K G0 vs ds) : Src K G0 (Ite K p) (enD ds) (fun _ => True) where
  step i G H μ d e hm _ hd := by
    obtain ⟨x, hx, rfl⟩ := enD_get hd
    obtain ⟨v, h1, h2⟩ := r.get hx
    have hs : SqL K H p vs := sql_of (hm.ex _ _ (e _ _ h))
    refine ⟨⟨vs, v, hs, h1⟩, fun v' H' ⟨T, y, e1, hT, e2, hy⟩ => ?_⟩
    subst e1; subst e2
    have e3 := hy vs hs
    rw [h1] at e3
    cases e3
    exact pair_new hm hT (.int _) (h2.mono e)
  stop G H μ e hm _ := ⟨vs, sql_of (hm.ex _ _ (e _ _ h)), by rw [enD_len, r.length]; exact Nat.le_refl _⟩
/-- a list of the store, as long as it stands -/
theorem src_enM {K : PySem.W.Frag} {G0 : Hp} {c : Addr} {ds : List Dt} : Src K G0 (Ite K c) (enD ds) (fun μ => μ c = some (.lst ds)) where
  step i G H μ d e hm hc hd := by
    obtain ⟨x, hx, rfl⟩ := enD_get hd
    obtain ⟨vs, h0, r⟩ := hm.lstAt hc
    obtain ⟨v, h1, h2⟩ := r.get hx
    have hs : SqL K H c vs := sql_of h0
    refine ⟨⟨vs, v, hs, h1⟩, fun v' H' ⟨T, y, e1, hT, e2, hy⟩ => ?_⟩
    subst e1; subst e2
    have e3 := hy vs hs
    rw [h1] at e3
    cases e3
    exact pair_new hm hT (.int _) h2
  stop G H μ e hm hc := by
    obtain ⟨vs, h0, r⟩ := hm.lstAt hc
    exact ⟨vs, sql_of h0, by rw [enD_len, r.length]; exact Nat.le_refl _⟩
theorem src_lstM {K : PySem.W.Frag} {G0 : Hp} {c : Addr} {ds : List Dt} : Src K G0 (Itl K c) ds (fun μ => μ c = some (.lst ds)) where
  step i G H μ d e hm hc hd := by
    obtain ⟨vs, h0, r⟩ := hm.lstAt hc
    obtain ⟨v, h1, h2⟩ := r.get hd
    have hs : SqL K H c vs := sql_of h0
    refine ⟨⟨vs, v, hs, h1⟩, fun v' H' ⟨e1, hy⟩ => ?_⟩
    subst e1
    have e3 := hy vs hs
    rw [h1] at e3
    cases e3
    exact ⟨G, hm, Fr.refl _ _ _, h2⟩
  stop G H μ e hm hc := by
    obtain ⟨vs, h0, r⟩ := hm.lstAt hc
    exact ⟨vs, sql_of h0, by rw [r.length]; exact Nat.le_refl _⟩
section
variable {X : Cx} {e a b tg : Expr} {es elts : List Expr} {kk : Nat} {δ : Env'} {μ : Sto} {pos tpos p : Pos} {R : List Dt → (Sto → Prop) → Sto → Prop}
/-- enumerate of a tuple -/
theorem ji_enT (hg : Gl X "enumerate") (hm : X.mg "enumerate" = none) (h : JE X e δ μ fun d μ1 => ∃ ds, TupV d ds ∧ R (enD ds) (fun _ => True) μ1) (hs : starEach [e] X.env = [(false, eval e X.env)] := by rfl) : JI X (.Tuple elts kk tpos) (.Call (.Name "enumerate" p) [e] [] pos) δ μ R :=
  fun σ G H RR at_ k => wI_of (pi_enumT hg hm (pa_cons pe_w pa_nil hs) hs) (h σ G H _ at_ fun v d G1 H1 μ1 hm1 f r ⟨ds, e1, q⟩ => by
    cases e1.at_ r with
    | tup h1 r1 => exact ⟨_, _, rfl, hm1.ex.sqt h1, k _ _ _ G1 H1 μ1 hm1 f (src_enT h1 r1) q⟩)
/-- enumerate of a list: known, or of the store -/
theorem ji_enL (hg : Gl X "enumerate") (hm : X.mg "enumerate" = none) (h : JE X e δ μ fun d μ1 => (∃ ds, d = .lst ds ∧ R (enD ds) (fun _ => True) μ1) ∨ ∃ c ds, d = .ref c ∧ μ1 c = some (.lst ds) ∧ R (enD ds) (fun μ => μ c = some (.lst ds)) μ1) (hs : starEach [e] X.env = [(false, eval e X.env)] := by rfl) : JI X (.Tuple elts kk tpos) (.Call (.Name "enumerate" p) [e] [] pos) δ μ R :=
  fun σ G H RR at_ k => wI_of (pi_enum hg hm (pa_cons pe_w pa_nil hs) hs) (h σ G H _ at_ fun v d G1 H1 μ1 hm1 f r q => by
    rcases q with ⟨ds, e1, q⟩ | ⟨c, ds, e1, hc, q⟩
    · subst e1
      cases r with
      | lst h1 r1 => exact ⟨_, _, rfl, sql_of (hm1.ex _ _ h1), k _ _ _ G1 H1 μ1 hm1 f (src_enL h1 r1) q⟩
    · subst e1; cases r
      obtain ⟨vs, h0, r1⟩ := hm1.lstAt hc
      exact ⟨_, vs, rfl, sql_of h0, k _ _ _ G1 H1 μ1 hm1 f src_enM q⟩)
/-- a list of the store -/
theorem ji_lstM (h : JE X e δ μ fun d μ1 => ∃ c ds, d = .ref c ∧ μ1 c = some (.lst ds) ∧ R ds (fun μ => μ c = some (.lst ds)) μ1) : JI X tg e δ μ R := fun σ G H RR at_ k => wI_of (pi_list pe_w) (h σ G H _ at_ fun v d G1 H1 μ1 hm f r ⟨c, ds, e1, hc, q⟩ => by
  subst e1; cases r
  obtain ⟨vs, h0, r1⟩ := hm.lstAt hc
  exact ⟨_, rfl, ⟨_, sql_of h0⟩, k _ ds _ G1 H1 μ1 hm f src_lstM q⟩)
/-- zip of two tuples -/
def zipD (xs ys : List Dt) : List Dt := List.zipWith (fun x y => .tup [x, y]) xs ys
theorem zipD_get {xs ys : List Dt} {i : Nat} {e : Dt} (h : (zipD xs ys)[i]? = some e) : ∃ x y, xs[i]? = some x ∧ ys[i]? = some y ∧ e = .tup [x, y] := by
  unfold zipD at h
  rw [List.getElem?_zipWith] at h
  cases e1 : xs[i]? with
  | none => rw [e1] at h; cases h
  | some x =>
    cases e2 : ys[i]? with
    | none => rw [e1, e2] at h; cases h
    | some y => rw [e1, e2] at h; cases h; exact ⟨x, y, rfl, rfl, rfl⟩
theorem zipD_len (xs ys : List Dt) : (zipD xs ys).length = min xs.length ys.length := by unfold zipD; rw [List.length_zipWith]
theorem src_zipT {K : PySem.W.Frag} {G0 : Hp} {p q : Addr} {vs ws : List V} {ds es : List Dt} (h : SqT K G0 p vs) (r : RepAll K G0 vs ds) (h' : SqT K G0 q ws) (r' : RepAll K G0 ws es) : Src K G0 (RZ.ItzT K p q) (zipD ds es) (fun _ => True) where
  step i G H μ d e hm _ hd := by
    obtain ⟨x, y, hx, hy, rfl⟩ := zipD_get hd
    obtain ⟨v, h1, h2⟩ := r.get hx
    obtain ⟨w, h3, h4⟩ := r'.get hy
    have hs := hm.ex.sqt (e.sqt h)
    have hs' := hm.ex.sqt (e.sqt h')
    refine ⟨⟨vs, ws, v, w, hs, hs', h1, h3⟩, fun v' H' ⟨T, x', y', e1, hT, e2, hx', hy'⟩ => ?_⟩
    subst e1; subst e2
    have e3 := hx' vs hs
    rw [h1] at e3
    cases e3
    have e4 := hy' ws hs'
    rw [h3] at e4
    cases e4
    exact pair_new hm hT (h2.mono e) (h4.mono e)
  stop G H μ e hm _ := ⟨vs, ws, hm.ex.sqt (e.sqt h), hm.ex.sqt (e.sqt h'), by rw [zipD_len, r.length, r'.length]; omega⟩
theorem ji_zipT (hg : Gl X "zip") (hm : X.mg "zip" = none) (h : JA X [a, b] δ μ fun vs μ1 => ∃ d e ds es, vs = [d, e] ∧ TupV d ds ∧ TupV e es ∧ R (zipD ds es) (fun _ => True) μ1) (hs : starEach [a, b] X.env = (false, eval a X.env) :: starEach [b] X.env := by rfl) (hpl : (backTo pos (starEach [b] X.env)).any (·.1) = false := by rfl) :
    JI X (.Tuple elts kk tpos) (.Call (.Name "zip" p) [a, b] [] pos) δ μ R :=
  fun σ G H RR at_ k => wI_of (RZ.pi_zipA hg hm pa_w hs hpl) (h σ G H _ at_ fun vs ds G1 H1 μ1 hm1 f r ⟨d, d', xs, ys, e1, t1, t2, q⟩ => by
    subst e1
    obtain ⟨v, w, rfl, r1, r2⟩ := r.inv2
    cases t1.at_ r1 with
    | tup h1 r1 =>
      cases t2.at_ r2 with
      | tup h2 r2 => exact ⟨_, _, _, _, rfl, .inr ⟨hm1.ex.sqt h1, hm1.ex.sqt h2, k _ _ _ G1 H1 μ1 hm1 f (src_zipT h1 r1 h2 r2) q⟩⟩)
/-- a text, sign by sign -/
def sgD (x : Str) : List Dt := x.cps.toList.map fun c => .str ⟨#[c]⟩
theorem src_str {K : PySem.W.Frag} {G0 : Hp} {x : Str} : Src K G0 (Its x) (sgD x) (fun _ => True) where
  step i G H μ d e hm _ hd := by
    unfold sgD at hd
    rw [List.getElem?_map] at hd
    cases e1 : x.cps.toList[i]? with
    | none => rw [e1] at hd; cases hd
    | some c =>
      rw [e1] at hd
      cases hd
      have e2 : x.cps[i]? = some c := by simpa using e1
      refine ⟨(Array.getElem?_eq_some_iff.mp e2).1, fun v H' ⟨e3, c', e4, e5⟩ => ?_⟩
      subst e3; subst e5
      rw [e2] at e4
      cases e4
      exact ⟨G, hm, Fr.refl _ _ _, .str _⟩
  stop G H μ e hm _ := by
    show x.cps.size ≤ (sgD x).length
    unfold sgD
    rw [List.length_map, Array.length_toList]; exact Nat.le_refl _
theorem ji_str (h : JE X e δ μ fun d μ1 => ∃ x, d = .str x ∧ R (sgD x) (fun _ => True) μ1) : JI X tg e δ μ R := fun σ G H RR at_ k => wI_of (pi_str pe_w) (h σ G H _ at_ fun v d G1 H1 μ1 hm f r ⟨x, e1, q⟩ => by
  subst e1; cases r
  exact ⟨x, rfl, k _ _ _ G1 H1 μ1 hm f src_str q⟩)
end
end K27
end DLg_
section DLh_
/-! DL, eighth part: zip of texts. -/
namespace K27
open PySem PySem.Spec PyProof.Rows L2
def Itzs (x y : Str) : It where
  go i _ := i < x.cps.size ∧ i < y.cps.size
  yld i H v H' := ∃ (T : Addr) (c d : Nat), v = .ref T ∧ H T = none ∧ H' = upd H T (.tup [.str ⟨#[c]⟩, .str ⟨#[d]⟩]) ∧ x.cps[i]? = some c ∧ y.cps[i]? = some d
  stop i _ := i = min x.cps.size y.cps.size
theorem str_at {h h' : Heap} {a : Addr} {ty : String} {x : Str} {t : Tok} {i : Nat} (y : h.IsStrIter a ty x t i) (k : ∀ o, h.get? a = some o → h'.get? a = some o) : h'.IsStrIter a ty x t i :=
  let ⟨o, ho, r⟩ := y; ⟨o, k o ho, r⟩
/-- the five records of a zip that was just made, lying apart -/
structure ApS (z TI TO i1 i2 : Addr) : Prop where
  sep : ZipSep2 z TI TO i1 i2 [i1] [i2]
theorem turn_zipS {P : Program} {w : World} {K : PySem.W.Frag} {elts : List Expr} {kk : Nat} {tpos : Pos} {z TI TO i1 i2 : Addr} {x y : Str} {t u : Tok} (S : ZipSep2 z TI TO i1 i2 [i1] [i2]) :
    Turn P w K (.Tuple elts kk tpos) (Itzs x y) [z, TI, TO, i1, i2] z (fun i h => IsZip h z TI TO .none ∧ IsTupOf2 h TI (.ref i1) (.ref i2) ∧ (∃ a b, IsTupOf2 h TO a b) ∧ h.IsStrIter i1 (strIterType x) x t i ∧ h.IsStrIter i2 (strIterType y) y u i) where
  mem := List.mem_cons_self
  obj i h st c hc := by
    obtain ⟨h1, h2, ⟨a, b, h3⟩, ⟨o4, h4, _, d4⟩, ⟨o5, h5, _, d5⟩⟩ := st
    simp only [List.mem_cons, List.not_mem_nil, or_false] at hc
    rcases hc with rfl | rfl | rfl | rfl | rfl
    · exact ⟨_, h1, fun v q => nomatch q⟩
    · exact ⟨_, h2, fun v q => nomatch q⟩
    · exact ⟨_, h3, fun v q => nomatch q⟩
    · exact ⟨o4, h4, fun v q => by rw [d4] at q; cases q⟩
    · exact ⟨o5, h5, fun v q => by rw [d5] at q; cases q⟩
  keep i h h' st k := by
    obtain ⟨h1, h2, ⟨a, b, h3⟩, h4, h5⟩ := st
    exact ⟨k z (by simp) _ h1, k TI (by simp) _ h2, ⟨a, b, k TO (by simp) _ h3⟩, str_at h4 fun o q => k i1 (by simp) o q, str_at h5 fun o q => k i2 (by simp) o q⟩
  item X e1 e2 e3 hc i pins s σ H E I hf st hg := by
    subst e1 e2 e3
    obtain ⟨h1, h2, ⟨a0, b0, h3⟩, h4, h5⟩ := st
    have zl : z < s.heap.objs.size := Heap.lt_size h1
    refine wpAny_pyNext_zipD2_item S (Draws.text (A := X.A.in1) (I.ok.hd hc) i1 x t) (Draws.text (A := X.A.in1) (I.ok.hd hc) i2 y u) h1 h2 h3 h4 h5 hg.1 hg.2 ?_
    rintro v1 v2 h' tk ⟨c, t1, hc1, rfl⟩ ⟨d, t2, hd1, rfl⟩ z' TO' st1 st2 hT hsz hk
    refine ⟨_, rfl, wpAny_letOwnedTupleGo_zip z' fun h'' z'' sb => ?_⟩
    have hT2 : h''.get? s.heap.objs.size = some { cls := .type "tuple", data := .seq #[.str ⟨#[c]⟩ t1, .str ⟨#[d]⟩ t2] } := (sb.2 _ (Nat.ne_of_gt zl)).trans hT
    have new : ObjOk X.prog X.w (upd H s.heap.objs.size (.tup [.str ⟨#[c]⟩, .str ⟨#[d]⟩])) h'' s.heap.objs.size (.tup [.str ⟨#[c]⟩, .str ⟨#[d]⟩]) :=
      ⟨by show 2 ≤ sizeLine; decide, [.str ⟨#[c]⟩ t1, .str ⟨#[d]⟩ t2], .cons ⟨t1, rfl⟩ (.cons ⟨t2, rfl⟩ .nil), ⟨_, hT2, rfl, _, rfl⟩⟩
    have I1 : Inv X pins σ (upd H s.heap.objs.size (.tup [.str ⟨#[c]⟩, .str ⟨#[d]⟩])) { s with heap := h'', toks := tk } :=
      I.turnedNew (ch := [z, TI, TO, i1, i2]) (fun b o hb q => (sb.2 b (fun q' => hb (by simp [q']))).trans (hk b o (fun q' => hb (by simp [q'])) (fun q' => hb (by simp [q'])) (fun q' => hb (by simp [q'])) (fun q' => hb (by simp [q'])) q)) hf (Nat.le_refl _) new
    refine ⟨.ref s.heap.objs.size, _, I1, rfl, ⟨_, c, d, rfl, I.hok.fresh (Nat.le_refl _), rfl, hc1, hd1⟩, ⟨z'', ?_, ⟨_, _, (sb.2 _ S.TOz).trans TO'⟩, ?_, ?_⟩, fun b hb => ?_⟩
    · exact (sb.2 _ S.TIz).trans (hk _ _ S.TIz S.TITO S.TIi1 S.TIi2 h2)
    · exact str_at st1 fun o q => (sb.2 _ (fun e => S.zf1 (by rw [← e]; exact List.mem_cons_self))).trans q
    · exact str_at st2 fun o q => (sb.2 _ (fun e => S.zf2 (by rw [← e]; exact List.mem_cons_self))).trans q
    · have hlt : b < s.heap.objs.size := by
        simp only [List.mem_cons, List.not_mem_nil, or_false] at hb
        rcases hb with rfl | rfl | rfl | rfl | rfl
        · exact zl
        · exact Heap.lt_size h2
        · exact Heap.lt_size h3
        · obtain ⟨_, q, _⟩ := h4; exact Heap.lt_size q
        · obtain ⟨_, q, _⟩ := h5; exact Heap.lt_size q
      rw [upd_ne (Nat.ne_of_lt hlt)]
      exact (hf b hb).1
  done X e1 e2 e3 hc i pins s σ H E I hf st hg := by
    subst e1 e2 e3
    obtain ⟨h1, h2, ⟨a0, b0, h3⟩, h4, h5⟩ := st
    have hi : i = min x.cps.size y.cps.size := hg
    exact wpAny_pyNext_zipD2_end S (Draws.text (A := X.A.in1) (I.ok.hd hc) i1 x t) (Draws.text (A := X.A.in1) (I.ok.hd hc) i2 y u) h1 h2 h3 h4 h5 (by omega) (by omega) (by omega) fun h' tk hk => ⟨rfl, I.turnedL (t' := tk) (ch := [z, TI, TO, i1, i2]) (fun b o hb q =>
      hk b o (fun q' => hb (by simp [q'])) (fun q' => hb (by simp [q'])) (fun q' => hb (by simp [q'])) (fun q' => hb (by simp [q'])) q) hf⟩
  self A i s Q E st h := wpAny_pyIter_zip st.1 h
def iZipS (ta : TA) : TI := fun σ H R => ta σ H fun vs H1 => ∃ x y, vs = [.str x, .str y] ∧ R (Itzs x y) H1
theorem pi_zipS {X : Cx} {e e2 : Expr} {ta : TA} {p pos tpos : Pos} {elts : List Expr} {kk : Nat} (hg : Gl X "zip") (hm : X.mg "zip" = none) (ha : PA X [e, e2] ta)
    (hs : starEach [e, e2] X.env = (false, eval e X.env) :: starEach [e2] X.env := by rfl) (hpl : (backTo pos (starEach [e2] X.env)).any (·.1) = false := by rfl) :
    PI X (.Tuple elts kk tpos) (.Call (.Name "zip" p) [e, e2] [] pos) (iZipS ta) := by
  constructor
  intro pins s σ H R I hta
  refine Call_ (ld_blt I hg hm PyProof.Rows.boot_zip (PyProof.Rows.callWith_type1 (thn (ha.run pos pins s σ H _ I hta) ?_) hs hpl))
  rintro us s1 ⟨vs, H1, I1, r1, x, y, rfl, q⟩
  obtain ⟨v1, v2, rfl, ⟨t1, rfl⟩, ⟨t2, rfl⟩⟩ := vals2 r1
  refine zip_begins2 (begins_text x t1) (begins_text y t2) trivial trivial fun h' hz hTI hTO g1 g2 hsz hk => wpAny_pyIter_zip hz ?_
  refine ⟨s1.heap.objs.size + 4, [s1.heap.objs.size + 4, s1.heap.objs.size + 2, s1.heap.objs.size + 3, s1.heap.objs.size, s1.heap.objs.size + 1], _, _, H1, rfl, I1.kept (t' := s1.toks) hk, turn_zipS (t := t1) (u := t2) (zip_sep2 (N := s1.heap.objs.size) (fp1 := []) (fp2 := []) (fun b hb => absurd hb (by simp)) (fun b hb => absurd hb (by simp))), ⟨hz, hTI, ⟨_, _, hTO⟩, ⟨_, g1, rfl, rfl⟩, ⟨_, g2, rfl, rfl⟩⟩, fun b hb => ?_, q⟩
  have hle : s1.heap.objs.size ≤ b := by
    simp only [List.mem_cons, List.not_mem_nil, or_false] at hb
    rcases hb with rfl | rfl | rfl | rfl | rfl
    · exact Nat.le_add_right _ _
    · exact Nat.le_add_right _ _
    · exact Nat.le_add_right _ _
    · exact Nat.le_refl _
    · exact Nat.le_add_right _ _
  exact I1.fpOk hle (I1.hok.fresh hle)
section
variable {X : Cx} {e a b tg : Expr} {es elts : List Expr} {kk : Nat} {δ : Env'} {μ : Sto} {pos tpos p : Pos} {R : List Dt → (Sto → Prop) → Sto → Prop}
theorem src_zipS {K : PySem.W.Frag} {G0 : Hp} {x y : Str} : Src K G0 (Itzs x y) (zipD (sgD x) (sgD y)) (fun _ => True) where
  step i G H μ d e hm _ hd := by
    obtain ⟨u, v, hu, hv, rfl⟩ := zipD_get hd
    unfold sgD at hu hv
    rw [List.getElem?_map] at hu hv
    cases e1 : x.cps.toList[i]? with
    | none => rw [e1] at hu; cases hu
    | some c =>
      cases e2 : y.cps.toList[i]? with
      | none => rw [e2] at hv; cases hv
      | some d =>
        rw [e1] at hu; rw [e2] at hv
        cases hu; cases hv
        have e3 : x.cps[i]? = some c := by simpa using e1
        have e4 : y.cps[i]? = some d := by simpa using e2
        refine ⟨⟨(Array.getElem?_eq_some_iff.mp e3).1, (Array.getElem?_eq_some_iff.mp e4).1⟩, fun v' H' ⟨T, c', d', e5, hT, e6, e7, e8⟩ => ?_⟩
        subst e5; subst e6
        rw [e3] at e7; rw [e4] at e8
        cases e7; cases e8
        exact pair_new hm hT (.str _) (.str _)
  stop G H μ e hm _ := by
    show (zipD (sgD x) (sgD y)).length = _
    rw [zipD_len]
    unfold sgD
    simp
theorem ji_zipS (hg : Gl X "zip") (hm : X.mg "zip" = none) (h : JA X [a, b] δ μ fun vs μ1 => ∃ x y, vs = [.str x, .str y] ∧ R (zipD (sgD x) (sgD y)) (fun _ => True) μ1) (hs : starEach [a, b] X.env = (false, eval a X.env) :: starEach [b] X.env := by rfl) (hpl : (backTo pos (starEach [b] X.env)).any (·.1) = false := by rfl) :
    JI X (.Tuple elts kk tpos) (.Call (.Name "zip" p) [a, b] [] pos) δ μ R :=
  fun σ G H RR at_ k => wI_of (pi_zipS hg hm pa_w hs hpl) (h σ G H _ at_ fun vs ds G1 H1 μ1 hm1 f r ⟨xs, ys, e1, q⟩ => by
    subst e1
    obtain ⟨v, w, rfl, r1, r2⟩ := r.inv2
    cases r1; cases r2
    exact ⟨xs, ys, rfl, k _ _ _ G1 H1 μ1 hm1 f src_zipS q⟩)
end
end K27
end DLh_
section DLi_
/-! DL, ninth part: tuples whose object is told; dict(..) of pairs; displays; a dict walked under a lock. -/
namespace K27
open PySem PySem.Spec PyProof.Rows L2
/-! ### tuples whose object is told -/
section
variable {X : Cx} {es : List Expr} {e : Expr} {ta : TA} {pos : Pos}
def tTupS (t : TA) : TE := fun σ H Q => t σ H fun xs H1 => xs.length ≤ sizeLine ∧ ∀ p o, H1 p = none → o.cls = .type "tuple" → o.dict = none → Q (.ref p) (upd H1 p (.frz o (.tup xs)))
theorem pe_tupS {j : Nat} (h : PA X es ta) : PE X (.Tuple es j pos) (tTupS ta) := by
  constructor
  intro pins s σ H Q I hq
  refine wpAny_Tuple_spliced (thn (h.run pos pins s σ H _ I hq) ?_)
  rintro us s1 ⟨xs, H1, I1, r, z, q⟩
  refine ⟨by rw [← r.length]; exact z, ?_⟩
  have hf : H1 s1.heap.objs.size = none := I1.hok.fresh (Nat.le_refl _)
  have hnew := Heap.get?_push_size s1.heap (o := { cls := .type "tuple", data := .seq us.toArray }) rfl
  exact ⟨.ref s1.heap.objs.size, _, I1.laid (t' := s1.toks) (o := .frz { cls := .type "tuple", data := .seq us.toArray } (.tup xs)) (fun b u e => Heap.get?_push_of_some _ e) (Nat.le_refl _) ⟨hnew, z, us, r, ⟨_, hnew, rfl, _, rfl⟩⟩, rfl, q _ _ hf rfl rfl⟩
theorem call_tupleS : CallR X (.type "tuple") (fun xs H Q => ∃ p ys, xs = [.ref p] ∧ SqL X.K H p ys ∧ ∀ l o, H l = none → o.cls = .type "tuple" → o.dict = none → Q (.ref l) (upd H l (.frz o (.tup ys)))) := by
  intro pins s σ H xs us Q I r h
  obtain ⟨p, ys, rfl, hq, q⟩ := h
  obtain ⟨u, rfl, rx⟩ := vals1 r
  obtain rfl : u = Value.ref p := rx
  obtain ⟨its, r', pl, hz⟩ := I.list hq
  have hlen := r'.length
  refine call_tuple_list pl.isList (fun h' kp => ?_) (by simp only [List.size_toArray] <;> omega)
  have I1 : Inv X pins σ H { s with heap := h' } := I.kept (t' := s.toks) kp
  have hnew := Heap.get?_push_size h' (o := { cls := .type "tuple", data := .seq its.toArray }) rfl
  exact ⟨.ref h'.objs.size, _, I1.laid (t' := s.toks) (o := .frz { cls := .type "tuple", data := .seq its.toArray } (.tup ys)) (fun b o e => Heap.get?_push_of_some _ e) (Nat.le_refl _) ⟨hnew, hz, its, r', IsTup.new _ _⟩, rfl, q _ _ (I1.hok.fresh (Nat.le_refl _)) rfl rfl⟩
/-! ### a tuple has no attribute 'keys' -/
theorem tuple_keys_none : typeLookup (.type "tuple") "keys" = pure none := am_miss_of_fast (by first | decide +kernel | rfl)
theorem miss_tuple {prog : Program} {w : World} {A : Around} {E : Value → Shared → Prop} {s : Shared} {a : Addr} {o : Obj} {xs : Array Value} {k : Nat} {Q : Option Value → Shared → Prop} (hx : s.heap.get? a = some o) (hc : o.cls = .type "tuple") (hdat : o.data = .seq xs k) (hd : o.dict = none) (hA : A.handled = none)
    (h : ∀ h' tk, (∀ b ob, s.heap.get? b = some ob → h'.get? b = some ob) → Q none { s with heap := h', toks := tk }) : wpAny (model prog w) A (getAttr? (.ref a) "keys") Q E s := by
  obtain ⟨cl, dt, da, sl⟩ := o
  simp only at hc hdat hd
  subst hc hdat hd
  obtain ⟨hp, gs, dr, tks, os⟩ := s
  have hT : ∀ tk', (⟨hp, gs, dr, tk', os⟩ : Shared).TypeIs (.ref a) "tuple" := fun _ => ⟨_, hx, rfl⟩
  have m1 := tuple_keys_none
  have m2 : (["__module__", "__name__", "__qualname__", "__doc__", "__annotations__"] : List Str).contains "keys" = false := by decide +kernel
  have m3 : ("keys" : Str).length + 100 ≤ sizeLine := by first | size_fits | decide +kernel
  have g1 := sub_AttributeError
  have g3 := F.slot_tuple_getattribute.lookup
  have g4 := F.slot_tuple_getattribute.bind (.ref a)
  have g5 := am_tuple_getattr_none
  unfold getAttr? getAttrBy? getAttrBy
  repeat (any_goals (first | assumption | exact hT _ | ((with_reducible show wpAny _ _ (call (Value.builtin "tuple.__getattribute__") _ _) _ _ _); refine call_meets F.slot_tuple_getattribute (hT _) am_entry_tuple_getattribute (F.args_tuple_getattribute_2 _ _) (meets_getattribute_miss_tuple a xs k sl "keys" _ m1 m2 m3) ⟨hx, hA, fun h' tk' ex hx' => ?_⟩) | wp_step))
  obtain ⟨t', u', he⟩ := hx'.there
  show wpAny _ _ (getattributeRaised _ _ _ _ _ _ _) _ _ _
  unfold getattributeRaised
  repeat (any_goals (first | assumption | wp_step))
  all_goals first | exact h _ _ hx'.keeps | (dsimp only; repeat (any_goals (first | assumption | exact h _ _ hx'.keeps | wp_step)))
/-! ### dict(t), t a tuple of pairs -/
theorem upd_loopT {prog : Program} {w : World} {A : Around} {R : Result → Shared → Prop} {S I l : Addr} {items : Array Value} {res : Value} (hh : A.handled = none) (hlI : l ≠ I) (hSI : S ≠ I) (hSl : S ≠ l) :
    ∀ (rest : List (Key × Value)) (i : Nat) (acc : List (Key × Value)) (ix : Int) (t : Tok) (s : Shared), items.size = i + rest.length → acc.length + rest.length ≤ sizeLine →
      (∀ (j : Nat) (q : Key × Value), rest[j]? = some q → ∃ (b : Addr) (u : Value), items[i + j]? = some (.ref b) ∧ b ≠ S ∧ b ≠ I ∧ IsTup s.heap b #[u, q.2] ∧ keyIs q.1 u = true) →
      s.heap.IsTupleIter I l i → s.heap.IsTuple l items → s.heap.DictOf (mixKind prog w) S acc →
      (∀ h' tk, h'.DictOf (mixKind prog w) S (merged acc rest) → (∀ b o, b ≠ S → b ≠ I → s.heap.get? b = some o → h'.get? b = some o) → R (.ok (.ret res)) { s with heap := h', toks := tk }) →
      codeAny (model prog w) A (.builtin "dict.update.loop" ⟨[.ref S, .ref I, .int ix t, res], []⟩) R s
  | [], i, acc, ix, t, s, hsz, hln, ht, hit, hl, hm, hR => by
    refine codeAny_builtin ud_entry ?_
    rw [Around.under_plainId ud_plain _]
    show wpAny _ A.in1 (pyNext (.ref I) >>= _) _ _ s
    refine wpAny_bind (wpAny_pyNext_tuple_end (A := A.in1) hh hit hl (by first | exact Array.getElem?_eq_none (Nat.le_of_eq hsz) | (simp at hsz; simp; omega)) fun h1 he => ?_)
    show wpAny _ A.in1 (Builtin.Dict.addKeywords S [] >>= _) _ _ _
    exact wpAny_bind (wpAny_pure (wpAny_pure (hR h1 s.toks (hm.extBut he hSI) fun b o _ hb e => he b o hb e)))
  | q :: rest, i, acc, ix, t, s, hsz, hln, ht, hit, hl, hm, hR => by
    obtain ⟨b, u, hb, hbS, hbI, htup, hk⟩ := ht 0 q rfl
    rw [List.length_cons] at hsz hln
    refine codeAny_builtin ud_entry ?_
    rw [Around.under_plainId ud_plain _]
    show wpAny _ A.in1 (pyNext (.ref I) >>= _) _ _ s
    refine wpAny_bind (wpAny_pyNext_tuple_item (x := .ref b) hit hl (by simpa using hb) fun h1 hit1 hs1 => ?_)
    have x1 : IsTup h1 b #[u, q.2] := htup.extBut hs1.extBut hbI
    have x2 : h1.IsTuple l items := hl.extBut hs1.extBut hlI
    have x3 : h1.DictOf (mixKind prog w) S acc := hm.extBut hs1.extBut hSI
    obtain ⟨ob, ho, hc, n, hd⟩ := id x1
    show wpAny _ A.in1 (holding [Value.ref b] _ >>= _) _ _ _
    refine wpAny_bind (wpAny_holding (wpAny_bind (wpAny_tryCatch ?_)))
    unfold Builtin.Dict.pairItems
    refine wpAny_bind (wpAny_typeOf (T := "tuple") ⟨ob, ho, hc⟩ ?_)
    rw [if_pos (by first | decide | rfl | simp)]
    refine wpAny_bind (wpAny_seqItems ho hd (wpAny_pure ?_))
    show wpAny _ A.in1 (holding [u, q.2] (dictSet S u q.2)) _ _ _
    refine wpAny_holding (wpAny_dictSet_pairs (knd := mixKind prog w) (k := q.1) hk x3 (fun h2 hm2 hs2 => ?_) (by omega))
    refine wpAny_pure ⟨plainId_quiet ud_plain _, upd_loopT (items := items) hh hlI hSI hSl rest (i + 1) (stored acc q.1 q.2) (ix + 1) 0 _ (show items.size = i + 1 + rest.length by omega) ?_ (fun j q' e => ?_) ?_ ?_ hm2 fun h' tk hd' kk => ?_⟩
    · have := stored_length_le acc q.1 q.2
      omega
    · obtain ⟨c, u', c1, c2, c3, c4, c5⟩ := ht (j + 1) q' (by simpa using e)
      refine ⟨c, u', ?_, c2, c3, (c4.extBut hs1.extBut c3).extBut hs2.extBut c2, c5⟩
      rw [show i + 1 + j = i + (j + 1) by omega]
      exact c1
    · exact hit1.at fun o' e => hs2.extBut I o' (Ne.symm hSI) e
    · exact x2.extBut hs2.extBut (Ne.symm hSl)
    · exact hR h' tk hd' fun c oc h3 h4 e => kk c oc h3 h4 (hs2.extBut c oc h3 (hs1.extBut c oc h4 e))
theorem call_dict_tuple {prog : Program} {w : World} {A : Around} {E : Value → Shared → Prop} {s : Shared} {l : Addr} {ol : Obj} {items : Array Value} {n : Nat} {prs : List (Key × Value)} {Q : Value → Shared → Prop} (hh : A.handled = none) (hl : s.heap.get? l = some ol) (hc : ol.cls = .type "tuple") (hd : ol.dict = none)
    (hdat : ol.data = .seq items n) (hsz : items.size = prs.length) (hln : prs.length ≤ sizeLine)
    (ht : ∀ (j : Nat) (q : Key × Value), prs[j]? = some q → ∃ (b : Addr) (u : Value), items[j]? = some (.ref b) ∧ IsTup s.heap b #[u, q.2] ∧ keyIs q.1 u = true)
    (h : ∀ h' tk, h'.DictOf (mixKind prog w) s.heap.objs.size (merged [] prs) → (∀ b o, s.heap.get? b = some o → h'.get? b = some o) → Q (.ref s.heap.objs.size) { s with heap := h', toks := tk }) :
    wpAny (model prog w) A (call (.type "dict") [.ref l]) Q E s := by
  refine callType_codes (Q₁ := fun obj s₁ => obj = .ref s.heap.objs.size ∧ s₁ = { s with heap := s.heap.push { cls := .type "dict", data := .dict #[] } }) PySem.F.kt_called_dict (PySem.F.kt_typeCall_dict_1 _) PySem.F.entry_dict_init (kt_code_dict_new _ ⟨rfl, rfl⟩) ?_
  rintro obj s₁ ⟨rfl, rfl⟩
  have d0 : (s.heap.push { cls := .type "dict", data := .dict #[] }).DictOf (mixKind prog w) s.heap.objs.size [] := Heap.DictOf.new s.heap
  have k0 : ∀ b o, s.heap.get? b = some o → (s.heap.push { cls := .type "dict", data := .dict #[] }).get? b = some o := fun b o e => Heap.get?_push_of_some _ e
  refine ⟨d0.typeIs, PySem.F.args_dict_init_2 _ _, ?_⟩
  unfold Builtin.«dict.__init__»
  refine wpAny_bind ?_
  unfold Builtin.Dict.selfAndRest
  refine wpAny_bind (wpAny_notOrdered_dict d0.typeIs ?_)
  show wpAny _ _ (pure (s.heap.objs.size, [Value.ref l])) _ _ _
  refine wpAny_pure ?_
  show wpAny _ _ (Builtin.Dict.updateFrom "dict.__init__" s.heap.objs.size (.ref l) [] .none) _ _ _
  unfold Builtin.Dict.updateFrom
  refine wpAny_bind (wpAny_typeOf (T := "tuple") ⟨ol, k0 _ _ hl, hc⟩ ?_)
  rw [if_pos (by first | decide | rfl | simp)]
  refine wpAny_bind (miss_tuple (k0 _ _ hl) hc hdat hd hh fun h1 tk1 hk1 => ?_)
  rw [if_pos (show (none : Option Value).isNone = true from rfl)]
  refine wpAny_bind (wpAny_rule ?_)
  have l1 : h1.IsTuple l items := ⟨ol, hk1 _ _ (k0 _ _ hl), hc, n, hdat⟩
  have S1 : s.heap.objs.size < h1.objs.size := by
    have e : (s.heap.push { cls := .type "dict", data := .dict #[] }).get? s.heap.objs.size = some { cls := .type "dict", data := .dict #[] } := Heap.get?_push_size _ rfl
    exact Heap.lt_size (hk1 _ _ e)
  refine wpAny_bind (wpAny_pyIter_tuple l1 ?_)
  have k2 : ∀ b o, h1.get? b = some o → (h1.push { cls := .type "tuple_iterator", data := .fields #[.ref l, .int 0 0] }).get? b = some o := fun b o e => Heap.get?_push_of_some _ e
  have ll : l < s.heap.objs.size := Heap.lt_size hl
  have key := upd_loopT (prog := prog) (w := w) (A := A.in1) (R := wants (fun r s₂ => r = .none ∧ Q (.ref s.heap.objs.size) s₂) E) (S := s.heap.objs.size) (I := h1.objs.size) (l := l) (items := items) (res := Value.none) hh
    (Nat.ne_of_lt (Nat.lt_trans ll S1)) (Nat.ne_of_lt S1) (Nat.ne_of_gt ll) prs 0 [] 0 0
    { s with heap := h1.push { cls := .type "tuple_iterator", data := .fields #[.ref l, .int 0 0] }, toks := tk1 } (by rw [hsz, Nat.zero_add]) (by rw [List.length_nil, Nat.zero_add]; exact hln)
    (fun j q e => by
      obtain ⟨b, u, e1, e2, e3⟩ := ht j q e
      have hb : b < s.heap.objs.size := e2.lt
      exact ⟨b, u, by rw [Nat.zero_add]; exact e1, Nat.ne_of_lt hb, Nat.ne_of_lt (Nat.lt_trans hb S1), e2.keeps fun c o z => k2 _ _ (hk1 _ _ (k0 _ _ z)), e3⟩)
    ⟨_, Heap.get?_push_size _ rfl, rfl, rfl⟩ (l1.at fun o e => k2 _ _ e) ((d0.at fun o e => hk1 _ _ e).at fun o e => k2 _ _ e)
    (fun h' tk hd' k => ⟨rfl, h h' tk hd' fun b o e => k b o (Nat.ne_of_lt (Heap.lt_size e)) (Nat.ne_of_lt (Nat.lt_trans (Heap.lt_size e) S1)) (k2 _ _ (hk1 _ _ (k0 _ _ e)))⟩)
  first
    | exact wpAny_pure ⟨plainId_quiet ud_plain _, key⟩
    | exact wpAny_bind (wpAny_pure (wpAny_pure ⟨plainId_quiet ud_plain _, key⟩))
theorem call_dictS (hcalm : X.calm = true) : CallR X (.type "dict") (fun xs H Q => ∃ (a : Addr) (ps : List Addr) (kvs : List (Key × V)), xs = [.ref a] ∧ StT H a (ps.map V.ref) ∧ Paired (fun p kv => SqT X.K H p [kV kv.1, kv.2]) ps kvs ∧
    ∀ p, H p = none → Q (.ref p) (upd H p (.dK (mergeK [] kvs)))) := by
  intro pins s σ H xs us Q I r q
  obtain ⟨a, ps, kvs, rfl, ⟨ob, hfz, hcl, hdn⟩, hp, q⟩ := q
  obtain ⟨u, rfl, rx⟩ := vals1 r
  obtain rfl : u = Value.ref a := rx
  obtain ⟨ho, hz, its, rv, ⟨ob2, ho2, _, n, hdat⟩⟩ := I.hok _ _ hfz
  rw [ho] at ho2
  cases ho2
  have ei := refs_at rv
  subst ei
  rw [List.length_map] at hz
  obtain ⟨prs, rel, hl, hpr⟩ := pairs_of I hp
  refine call_dict_tuple (prs := prs) (I.ok.hd hcalm) ho hcl hdn hdat (by simp [hl]) (by rw [hl]; exact hz) (fun j q' e => ?_) fun h' tk hd' k => ?_
  · obtain ⟨b, u, e1, e2, e3⟩ := hpr j q' e
    exact ⟨b, u, by simp [e1], e2, e3⟩
  · have hm : (s.heap.objs.size == sysModules) = false := beq_eq_false_iff_ne.mpr (Nat.ne_of_gt I.big)
    have hlen : (mergeK [] kvs).length ≤ sizeLine := by
      refine Nat.le_trans (length_mergeK kvs []) ?_
      rw [List.length_nil, Nat.zero_add, rel.length, hl]
      exact hz
    exact ⟨.ref s.heap.objs.size, upd H s.heap.objs.size (.dK (mergeK [] kvs)), I.laid (t' := tk) k (Nat.le_refl _) (show ObjOk X.prog X.w _ _ _ (.dK (mergeK [] kvs)) from ⟨hlen, hm, merged [] prs, KV.merge rel .nil, hd'⟩), rfl, q _ (I.hok.fresh (Nat.le_refl _))⟩
end
end K27
end DLi_
section DLj_
/-! DL, tenth part: the same as rules over data. -/
namespace K27
open PySem PySem.Spec PyProof.Rows L2
section
variable {X : Cx} {e a b : Expr} {es : List Expr} {δ : Env'} {μ : Sto} {pos : Pos}
/-- a new tuple that is told -/
theorem KE.freshS {K : PySem.W.Frag} {G H : Hp} {μ : Sto} {Q : QE} {QQ : VK} {vs : List V} {ps : List (Int × Int)} {p : Addr} {o : Obj} (k : KE K G H μ Q QQ) (h : Hm K G H μ) (hp : H p = none) (hc : o.cls = .type "tuple") (hd : o.dict = none) (r : RepAll K G vs (ps.map pairD)) (q : Q (.pol ps) μ) :
    QQ (.ref p) (upd H p (.frz o (.tup vs))) :=
  k.fresh h hp (.pol ⟨o, upd_same, hc, hd⟩ (r.mono (Ex.new (h.ex.back hp)))) q
/-- () -/
theorem je_unit {Q : QE} {j : Nat} (q : Q (.pol []) μ) : JE X (.Tuple [] j pos) δ μ Q :=
  fun σ G H QQ at_ k => wE_of (pe_tupS pa_nil) ⟨Nat.zero_le _, fun p o hp hc hd => k.freshS at_.toHm hp hc hd .nil q⟩
/-- tuple(xs), xs a list of pairs of whole numbers -/
theorem je_tupleP {Q : QE} {p : Pos} (hg : Gl X "tuple") (hm : X.mg "tuple" = none) (h : JE X e δ μ fun d μ1 => ∃ ps, SeqL μ1 d (ps.map pairD) ∧ Q (.pol ps) μ1) (he : starEach [e] X.env = (false, eval e X.env) :: starEach [] X.env := by rfl) : JE X (.Call (.Name "tuple" p) [e] [] pos) δ μ Q :=
  je_callTy (f := fun ds μ Q => ∃ d ps, ds = [d] ∧ SeqL μ d (ps.map pairD) ∧ Q (.pol ps) μ) call_tupleS (fun G H μ vs ds Q QQ hm r ⟨d, ps, e, s, q⟩ k => by
    subst e
    obtain ⟨v, rfl, r1⟩ := r.inv1
    obtain ⟨p, ws, rfl, h3, h4⟩ := s.at_ hm r1
    exact ⟨p, ws, rfl, sql_of h3, fun l o hl hc hd => k.freshS hm hl hc hd h4 q⟩) hg hm (by decide +kernel) (ja_cons (h.imp fun d μ1 ⟨xs, s, q⟩ => ja_nil ⟨d, xs, rfl, s, q⟩) he) (he := he)
/-! ### dict(..) of pairs -/
def kvD (p : Int × Int) : Key × Dt := (.inl p.1, .int p.2)
def kvV (p : Int × Int) : Key × V := (.inl p.1, .int p.2)
def mergeD (ps : List (Int × Int)) : List (Key × Dt) := ps.foldl (fun acc p => putD acc (.inl p.1) (.int p.2)) []
theorem pairs_ref {K : PySem.W.Frag} {G : Hp} : ∀ {vs : List V} {ps : List (Int × Int)}, RepAll K G vs (ps.map pairD) → ∃ as : List Addr, vs = as.map V.ref ∧ Paired (fun t (kv : Key × V) => SqT K G t [kV kv.1, kv.2]) as (ps.map kvV)
  | _, [], .nil => ⟨[], rfl, .nil⟩
  | _, p :: ps, .cons r t => by
    obtain ⟨as, h1, h2⟩ := pairs_ref t
    cases r with
    | tup h r =>
      obtain ⟨v, w, rfl, r1, r2⟩ := r.inv2
      cases r1; cases r2
      exact ⟨_ :: as, by rw [List.map_cons, h1], .cons h h2⟩
theorem paired_imp {α β : Type} {F F' : α → β → Prop} (h : ∀ x y, F x y → F' x y) : ∀ {l : List α} {m : List β}, Paired F l m → Paired F' l m
  | _, _, .nil => .nil
  | _, _, .cons r t => .cons (h _ _ r) (paired_imp h t)
theorem merge_rep {K : PySem.W.Frag} {G : Hp} (ps : List (Int × Int)) : RepKV K G (mergeK [] (ps.map kvV)) (mergeD ps) := by
  unfold mergeK mergeD
  have key : ∀ (ps : List (Int × Int)) (vs : List (Key × V)) (ds : List (Key × Dt)), RepKV K G vs ds → RepKV K G ((ps.map kvV).foldl (fun acc kv => putK acc kv.1 kv.2) vs) (ps.foldl (fun acc p => putD acc (.inl p.1) (.int p.2)) ds) := by
    intro ps
    induction ps with
    | nil => intro vs ds h; exact h
    | cons p ps ih => intro vs ds h; exact ih _ _ (h.put _ (.int _))
  exact key ps [] [] .nil
/-- dict(t), t a told tuple of pairs -/
theorem je_dictP {Q : QE} {p : Pos} (hc : X.calm = true) (hg : Gl X "dict") (hm : X.mg "dict" = none) (h : JE X e δ μ fun d μ1 => ∃ ps, d = .pol ps ∧ ∀ p, μ1 p = none → Q (.ref p) (μ1.set p (.dct (mergeD ps)))) (he : starEach [e] X.env = (false, eval e X.env) :: starEach [] X.env := by rfl) : JE X (.Call (.Name "dict" p) [e] [] pos) δ μ Q :=
  je_callTy (f := fun ds μ Q => ∃ ps, ds = [.pol ps] ∧ ∀ p, μ p = none → Q (.ref p) (μ.set p (.dct (mergeD ps)))) (call_dictS hc) (fun G H μ vs ds Q QQ hm r ⟨ps, e, q⟩ k => by
    subst e
    obtain ⟨v, rfl, r1⟩ := r.inv1
    cases r1 with
    | pol h1 h2 =>
      obtain ⟨as, rfl, h3⟩ := pairs_ref h2
      exact ⟨_, as, _, rfl, hm.ex.stt h1, paired_imp (fun x y z => hm.ex.sqt z) h3, fun p hp => k.freshM hm hp (.d (merge_rep ps)) q⟩) hg hm (by decide +kernel) (ja_cons (h.imp fun d μ1 ⟨ps, e1, q⟩ => ja_nil ⟨ps, by rw [e1], q⟩) he) (he := he)
/-- dict(xs), xs a list of pairs -/
theorem je_dictL {Q : QE} {p : Pos} (hc : X.calm = true) (hg : Gl X "dict") (hm : X.mg "dict" = none) (h : JE X e δ μ fun d μ1 => ∃ ps, SeqL μ1 d (ps.map pairD) ∧ ∀ p, μ1 p = none → Q (.ref p) (μ1.set p (.dct (mergeD ps)))) (he : starEach [e] X.env = (false, eval e X.env) :: starEach [] X.env := by rfl) : JE X (.Call (.Name "dict" p) [e] [] pos) δ μ Q :=
  je_callTy (f := fun ds μ Q => ∃ d ps, ds = [d] ∧ SeqL μ d (ps.map pairD) ∧ ∀ p, μ p = none → Q (.ref p) (μ.set p (.dct (mergeD ps)))) (call_dictP hc) (fun G H μ vs ds Q QQ hm r ⟨d, ps, e, s, q⟩ k => by
    subst e
    obtain ⟨v, rfl, r1⟩ := r.inv1
    obtain ⟨p, ws, rfl, h3, h4⟩ := s.at_ hm r1
    obtain ⟨as, rfl, h5⟩ := pairs_ref h4
    exact ⟨_, as, _, rfl, sql_of h3, paired_imp (fun x y z => hm.ex.sqt z) h5, fun p hp => k.freshM hm hp (.d (merge_rep ps)) q⟩) hg hm (by decide +kernel) (ja_cons (h.imp fun d μ1 ⟨ps, e1, q⟩ => ja_nil ⟨d, ps, rfl, e1, q⟩) he) (he := he)
/-! ### {k: v, ..} -/
/-- the pairs of a display: written text keys, values by the way -/
inductive JP (X : Cx) (δ : Env') : List (Option Expr) → List Expr → List (TE × TE) → Sto → (List (Key × Dt) → Sto → Prop) → Prop
  | nil {μ : Sto} {Q : List (Key × Dt) → Sto → Prop} : Q [] μ → JP X δ [] [] [] μ Q
end
section
variable {X : Cx} {δ : Env'} {μ : Sto} {pos : Pos}
/-- the pairs, from the left -/
def JPs (X : Cx) (δ : Env') : List (Expr × Expr) → Sto → (List (Key × Dt) → Sto → Prop) → Prop
  | [], μ, Q => Q [] μ
  | (k, v) :: r, μ, Q => JE X k δ μ fun x μ1 => JE X v δ μ1 fun y μ2 => ∃ key, x = keyD key ∧ JPs X δ r μ2 fun ps μ3 => Q ((key, y) :: ps) μ3
theorem jps_run : ∀ (kvs : List (Expr × Expr)) (μ : Sto) (Q : List (Key × Dt) → Sto → Prop) (σ : L2.St) (G H : Hp) (QQ : List (V × V) → Hp → Prop), JPs X δ kvs μ Q → At X.K G H μ σ δ →
    (∀ vs ds G' H' μ', Hm X.K G' H' μ' → Fr G H μ G' H' μ' → RepKV X.K G' vs ds → Q ds μ' → QQ (vs.map fun kv => (kV kv.1, kv.2)) H') → tPairs (kvs.map fun kv => (wE X kv.1, wE X kv.2)) σ H QQ
  | [], μ, Q, σ, G, H, QQ, h, at_, k => k [] [] G H μ at_.toHm (Fr.refl _ _ _) .nil h
  | (ke, ve) :: r, μ, Q, σ, G, H, QQ, h, at_, k => h σ G H _ at_ fun x dx G1 H1 μ1 hm1 f1 r1 q1 => q1 σ G1 H1 _ (at_.to hm1 f1) fun y dy G2 H2 μ2 hm2 f2 r2 ⟨key, e, q2⟩ => by
    have ex : x = kV key := by
      subst e
      cases key <;> cases r1 <;> rfl
    subst ex
    exact jps_run r μ2 _ σ G2 H2 _ q2 ((at_.to hm1 f1).to hm2 f2) fun vs ds G3 H3 μ3 hm3 f3 r3 q3 => k ((key, y) :: vs) ((key, dy) :: ds) G3 H3 μ3 hm3 ((f1.trans f2).trans f3) (.cons (r2.mono f3.ex) r3) q3
def mergeKD (kds : List (Key × Dt)) : List (Key × Dt) := kds.foldl (fun acc kv => putD acc kv.1 kv.2) []
theorem mergeKD_rep {K : PySem.W.Frag} {G : Hp} {vs : List (Key × V)} {ds : List (Key × Dt)} (r : RepKV K G vs ds) : RepKV K G (mergeK [] vs) (mergeKD ds) := by
  unfold mergeK mergeKD
  have key : ∀ {vs : List (Key × V)} {ds : List (Key × Dt)}, RepKV K G vs ds → ∀ (ws : List (Key × V)) (es : List (Key × Dt)), RepKV K G ws es → RepKV K G (vs.foldl (fun acc kv => putK acc kv.1 kv.2) ws) (ds.foldl (fun acc kv => putD acc kv.1 kv.2) es) := by
    intro vs
    induction vs with
    | nil => intro ds r ws es h; cases r; exact h
    | cons p vs ih =>
      intro ds r ws es h
      cases r with
      | cons r1 r2 => exact ih r2 _ _ (h.put _ r1)
  exact key r [] [] .nil
/-- a display of a dict of the store -/
theorem je_dispM {Q : QE} {kvs : List (Expr × Expr)} {keys : List (Option Expr)} {values : List Expr} (hp : PPs X pos keys values (kvs.map fun kv => (wE X kv.1, wE X kv.2))) (hall : keys.all (·.isSome) = true) (hl : keys.length = values.length) (h0 : keys ≠ []) (h15 : keys.length ≤ 15)
    (h : JPs X δ kvs μ fun ds μ1 => ds.length ≤ 15 ∧ ∀ p, μ1 p = none → Q (.ref p) (μ1.set p (.dct (mergeKD ds)))) : JE X (.Dict keys values pos) δ μ Q :=
  fun σ G H QQ at_ k => wE_of (pe_disp hp hall hl h0 h15) fun p hp => by
    have gp : G p = none := at_.ex.back hp
    have mp : μ p = none := by
      cases e : μ p with
      | none => rfl
      | some y => obtain ⟨_, o', h2, _⟩ := at_.mo p y e; rw [hp] at h2; cases h2
    refine jps_run kvs μ _ σ G _ _ h ⟨at_.toHm.hidwr gp mp, at_.rs⟩ fun vs ds G' H' μ' hm fr r ⟨hlen, q⟩ => ?_
    obtain ⟨z1, z2, z3⟩ := fr.hid p _ upd_same gp mp
    refine ⟨z1, vs, rfl, by rw [r.length]; exact hlen, ?_⟩
    have hx : Holds X.K G' (.dK (mergeK [] vs)) (.dct (mergeKD ds)) := .d (mergeKD_rep r)
    refine k (.ref p) (.ref p) G' _ (μ'.set p (.dct (mergeKD ds))) ⟨fun a u e => ?_, fun a x e => ?_⟩ ⟨fr.ex, fun a u e1 e2 e3 => ?_⟩ (.ref p) (q p z3)
    · rw [upd_ne (ne_of_none e z2)]; exact hm.ex a u e
    · by_cases hne : a = p
      · subst hne
        rw [Sto.set_same] at e
        cases e
        exact ⟨z2, _, upd_same, hx⟩
      · rw [Sto.set_ne hne] at e
        obtain ⟨e1, u, e2, e3⟩ := hm.mo a x e
        exact ⟨e1, u, by rw [upd_ne hne]; exact e2, e3⟩
    · have hne : a ≠ p := ne_of_none e1 hp
      obtain ⟨w1, w2, w3⟩ := fr.hid a u (by rw [upd_ne hne]; exact e1) e2 e3
      exact ⟨by rw [upd_ne hne]; exact w1, w2, by rw [Sto.set_ne hne]; exact w3⟩
/-! ### a comprehension over the keys of a dict of the store -/
mutual
theorem Rep.unlock {K : PySem.W.Frag} {G : Hp} {c : Addr} {od : Obj} {kvs : List (Key × V)} (h : G c = some (.frz od (.dK kvs))) : ∀ {v : V} {d : Dt}, Rep K G v d → Rep K (upd G c (.dK kvs)) v d
  | _, _, .non => .non
  | _, _, .bl b => .bl b
  | _, _, .int i => .int i
  | _, _, .str x => .str x
  | _, _, .ref a => .ref a
  | _, _, .tup (a := a) s r => .tup (by
      rcases s with (s | ⟨o, s⟩) | s
      · exact .inl (.inl (by rw [upd_ne (ne_of s h (by intro z; cases z))]; exact s))
      · exact .inl (.inr ⟨o, by rw [upd_ne (ne_of s h (by intro z; injection z with z1 z2; cases z2))]; exact s⟩)
      · exact .inr s) (RepAll.unlock h r)
  | _, _, .lst s r => .lst (by rw [upd_ne (ne_of s h (by intro z; cases z))]; exact s) (RepAll.unlock h r)
  | _, _, .dct (a := a) s r => .dct (by
      by_cases e : a = c
      · subst e
        rcases s with s | ⟨o, s⟩
        · rw [h] at s; cases s
        · rw [h] at s; cases s; exact .inl upd_same
      · rcases s with s | ⟨o, s⟩
        · exact .inl (by rw [upd_ne e]; exact s)
        · exact .inr ⟨o, by rw [upd_ne e]; exact s⟩) (RepKV.unlock h r)
  | _, _, .pol ⟨o, s, s2⟩ r => .pol ⟨o, by rw [upd_ne (ne_of s h (by intro z; injection z with z1 z2; cases z2))]; exact s, s2⟩ (RepAll.unlock h r)
  | _, _, .scr (a := a) s => .scr (by
      rcases s with (s | ⟨o, s⟩) | s
      · exact .inl (.inl (by rw [upd_ne (ne_of s h (by intro z; cases z))]; exact s))
      · exact .inl (.inr ⟨o, by rw [upd_ne (ne_of s h (by intro z; injection z with z1 z2; cases z2))]; exact s⟩)
      · exact .inr s)
theorem RepAll.unlock {K : PySem.W.Frag} {G : Hp} {c : Addr} {od : Obj} {kvs : List (Key × V)} (h : G c = some (.frz od (.dK kvs))) : ∀ {vs : List V} {ds : List Dt}, RepAll K G vs ds → RepAll K (upd G c (.dK kvs)) vs ds
  | _, _, .nil => .nil
  | _, _, .cons r t => .cons (Rep.unlock h r) (RepAll.unlock h t)
theorem RepKV.unlock {K : PySem.W.Frag} {G : Hp} {c : Addr} {od : Obj} {kvs : List (Key × V)} (h : G c = some (.frz od (.dK kvs))) : ∀ {vs : List (Key × V)} {ds : List (Key × Dt)}, RepKV K G vs ds → RepKV K (upd G c (.dK kvs)) vs ds
  | _, _, .nil => .nil
  | _, _, .cons r t => .cons (Rep.unlock h r) (RepKV.unlock h t)
end
theorem Holds.unlock {K : PySem.W.Frag} {G : Hp} {c : Addr} {od : Obj} {kvs : List (Key × V)} {o : HO} {x : Dt} (h : G c = some (.frz od (.dK kvs))) (s : Holds K G o x) : Holds K (upd G c (.dK kvs)) o x := by
  cases x with
  | lst ds => obtain ⟨vs, h1, h2⟩ := s; exact ⟨vs, h1, h2.unlock h⟩
  | dct ds => obtain ⟨vs, h1, h2⟩ := s; exact ⟨vs, h1, h2.unlock h⟩
  | non => exact s
  | bl b => exact s
  | int i => exact s
  | str x => exact s
  | ref a => exact s
  | tup xs => exact s
  | pol xs => exact s
  | scr xs => exact s
def keysD (kvs : List (Key × Dt)) : List Dt := kvs.map fun kv => keyD kv.1
theorem src_keys {K : PySem.W.Frag} {G0 : Hp} {c : Addr} {od : Obj} {vs : List (Key × V)} {kvs : List (Key × Dt)} (h : G0 c = some (.frz od (.dK vs))) (r : RepKV K G0 vs kvs) : Src K G0 (Itk c od vs) (keysD kvs) (fun _ => True) where
  step i G H μ d e hm _ hd := by
    unfold keysD at hd
    rw [List.getElem?_map] at hd
    cases e1 : kvs[i]? with
    | none => rw [e1] at hd; cases hd
    | some kv =>
      rw [e1] at hd
      cases hd
      obtain ⟨k, x⟩ := kv
      obtain ⟨v, h1, h2⟩ := r.get e1
      have hl : i < vs.length := (List.getElem?_eq_some_iff.mp h1).1
      refine ⟨⟨hm.ex _ _ (e _ _ h), hl⟩, fun v' H' ⟨e2, k', v'', e3, e4⟩ => ?_⟩
      subst e2; subst e4
      rw [h1] at e3
      cases e3
      exact ⟨G, hm, Fr.refl _ _ _, by cases k; exact .int _; exact .str _⟩
  stop G H μ e hm _ := ⟨hm.ex _ _ (e _ _ h), by unfold keysD; rw [List.length_map, r.length]; exact Nat.le_refl _⟩
theorem je_lcK {scope : Scope} {tg elt : Expr} {x : Str} {px : Pos} {ifs : List Expr} {own : List (Str × Nat)} {asg : AsgD} {tst : TstD} {g : TG} {tt : TT} {Q : QE} {c : Addr} {kvs : List (Key × Dt)} (i : Nat) (hc : X.calm = true) (hN : X.N.Nodup) (ok : BlkOk X.N X.env.scope scope own) (hA : AsgOk X.K (own.map (·.2)) asg g) (hT : TstOk X scope tst tt)
    (hg : ∀ (s : Shared) (H : Hp) (C : Addr) (cl : List (Str × Addr)) (fp : List Addr), PG (X.blk s H scope (compEnvC scope cl C X.env) fp) tg g) (ht : ∀ (s : Shared) (H : Hp) (C : Addr) (cl : List (Str × Addr)) (fp : List Addr), PTs (X.blk s H scope (compEnvC scope cl C X.env) fp) ifs tt)
    (hi : X.N[i]? = some x) (hv : Vis X.env.scope x) (hδ : δ[i]? = some (some (.ref c))) (hμ : μ c = some (.dct kvs))
    (h : lcR X scope elt asg tst (fun _ => True) (fun ys μ2 => Q (.lst ys) μ2) (wipeD (δ.set i (some (.dct kvs))) (own.map (·.2))) (keysD kvs) [] (μ.del c))
    (hd : (x == ("__debug__" : Str)) = false := by decide) (hcd : (x == ("__classdict__" : Str)) = false := by decide) (hs : ∀ y, foldedSetIterable (.Name x px) X.env y = pure y := by intro _; rfl) :
    JE X (.ListComp elt [⟨tg, .Name x px, ifs, 0⟩] scope pos) δ μ Q := fun σ G H QQ at_ k => by
  obtain ⟨vs, hH, hr⟩ := at_.toHm.dctAt hμ
  obtain ⟨gc, _⟩ := at_.mo c _ hμ
  obtain ⟨vc, hσ, rc⟩ := at_.rs.get i _ hδ
  cases rc
  refine wE_of (pe_lock (pe_lc (te := teB X scope elt) hc hN (pi_keys (pe_var hi hv hd hcd)) ok hg ht (fun s H C cl fp => ⟨fun pins s' σ' H' Q' I h => h s H C cl fp pins s' I⟩) hs)) ⟨c, .dK vs, hH, trivial, fun od => ?_⟩
  -- the locked state
  have eG : Ex G (upd G c (.frz od (.dK vs))) := Ex.new gc
  have hm1 : Hm X.K (upd G c (.frz od (.dK vs))) (upd H c (.frz od (.dK vs))) (μ.del c) := by
    refine ⟨at_.ex.both, fun a y e => ?_⟩
    have hne : a ≠ c := fun z => by subst z; unfold Sto.del at e; rw [if_pos rfl] at e; cases e
    unfold Sto.del at e
    rw [if_neg hne] at e
    obtain ⟨e1, u, e2, e3⟩ := at_.mo a y e
    exact ⟨by rw [upd_ne hne]; exact e1, u, by rw [upd_ne hne]; exact e2, e3.mono eG⟩
  have rs1 : RepS X.K (upd G c (.frz od (.dK vs))) σ (δ.set i (some (.dct kvs))) := by
    have z := (at_.rs.mono eG).set (i := i) (v := .ref c) (d := .dct kvs) (.dct (.inr ⟨od, upd_same⟩) (hr.mono eG))
    have es : σ.set i (some (.ref c)) = σ := by
      apply List.ext_getElem?
      intro j
      by_cases hj : i = j
      · subst hj
        by_cases hl : i < σ.length
        · rw [List.getElem?_set_self hl, hσ]
        · rw [List.set_eq_of_length_le (by omega)]
      · rw [List.getElem?_set_ne hj]
    rw [es] at z
    exact z
  have src := src_keys (K := X.K) (G0 := upd G c (.frz od (.dK vs))) (c := c) (od := od) upd_same (hr.mono eG)
  refine lc_at (Q := fun ys μ2 => Q (.lst ys) μ2) hA hT (δ := δ.set i (some (.dct kvs))) (μ := μ.del c) (G := upd G c (.frz od (.dK vs))) ⟨hm1, rs1⟩ (fun v d G' H' μ' hm' fr' r' ⟨ys, e1, q⟩ => ?_) fun RR z => ⟨.ref c, hσ, c, od, rfl, .inl ⟨vs, upd_same, z _ _ _ _ _ _ hm1 (Fr.refl _ _ _) src h⟩⟩
  · subst e1
    have hl' : G' c = some (.frz od (.dK vs)) := fr'.ex _ _ upd_same
    have hH' := hm'.ex _ _ hl'
    refine ⟨hH', k v (.lst ys) (upd G' c (.dK vs)) (upd H' c (.dK vs)) μ' ⟨fun a u e => ?_, fun a y e => ?_⟩ ⟨fun a u e => ?_, fun a u e1 e2 e3 => ?_⟩ (r'.unlock hl') q⟩
    · by_cases hne : a = c
      · subst hne; rw [upd_same] at e ⊢; exact e
      · rw [upd_ne hne] at e ⊢; exact hm'.ex a u e
    · obtain ⟨e1, u, e2, e3⟩ := hm'.mo a y e
      have hne : a ≠ c := fun z => by subst z; rw [hl'] at e1; cases e1
      exact ⟨by rw [upd_ne hne]; exact e1, u, by rw [upd_ne hne]; exact e2, e3.unlock hl'⟩
    · have hne : a ≠ c := ne_of_none e gc
      rw [upd_ne hne]
      exact fr'.ex a u (by rw [upd_ne hne]; exact e)
    · have hne : a ≠ c := fun z => by subst z; rw [hμ] at e3; cases e3
      obtain ⟨w1, w2, w3⟩ := fr'.hid a u (by rw [upd_ne hne]; exact e1) (by rw [upd_ne hne]; exact e2) (by unfold Sto.del; rw [if_neg hne]; exact e3)
      exact ⟨by rw [upd_ne hne]; exact w1, by rw [upd_ne hne]; exact w2, w3⟩
end
end K27
end DLj_
section DT_
/-! The text: each def as a statement of the top, its names by slot. Printed by gen_text.py. -/
namespace K27
open PySem PySem.Spec PyProof.Rows L2
def topS (i : Nat) : Stmt := PySem.Challenge.pw_narrowplay_k27_whole_bounds_off_rows.main.body.getD i (.Pass ⟨0, 0, 0, 0⟩)
abbrev s_is_integer : Stmt := topS 7
abbrev n_is_integer : List Str := ["thing"]
theorem sc_is_integer : FnScope n_is_integer ["thing"] (defScope s_is_integer) := ⟨rfl, rfl, rfl, by decide +kernel, rfl, by decide +kernel, by decide +kernel⟩
abbrev s_is_from : Stmt := topS 8
abbrev n_is_from : List Str := ["thing", "least"]
theorem sc_is_from : FnScope n_is_from ["thing", "least"] (defScope s_is_from) := ⟨rfl, rfl, rfl, by decide +kernel, rfl, by decide +kernel, by decide +kernel⟩
abbrev s_is_tuple : Stmt := topS 9
abbrev n_is_tuple : List Str := ["thing", "many"]
theorem sc_is_tuple : FnScope n_is_tuple ["thing", "many"] (defScope s_is_tuple) := ⟨rfl, rfl, rfl, by decide +kernel, rfl, by decide +kernel, by decide +kernel⟩
abbrev s_is_word_of : Stmt := topS 10
abbrev n_is_word_of : List Str := ["thing", "signs", "sign"]
theorem sc_is_word_of : FnScope n_is_word_of ["thing", "signs"] (defScope s_is_word_of) := ⟨rfl, rfl, rfl, by decide +kernel, rfl, by decide +kernel, by decide +kernel⟩
abbrev s_is_letters : Stmt := topS 11
abbrev n_is_letters : List Str := ["thing"]
theorem sc_is_letters : FnScope n_is_letters ["thing"] (defScope s_is_letters) := ⟨rfl, rfl, rfl, by decide +kernel, rfl, by decide +kernel, by decide +kernel⟩
abbrev s_is_letter : Stmt := topS 12
abbrev n_is_letter : List Str := ["thing"]
theorem sc_is_letter : FnScope n_is_letter ["thing"] (defScope s_is_letter) := ⟨rfl, rfl, rfl, by decide +kernel, rfl, by decide +kernel, by decide +kernel⟩
abbrev s_is_ascending_letters : Stmt := topS 13
abbrev n_is_ascending_letters : List Str := ["thing", "one", "other"]
theorem sc_is_ascending_letters : FnScope n_is_ascending_letters ["thing"] (defScope s_is_ascending_letters) := ⟨rfl, rfl, rfl, by decide +kernel, rfl, by decide +kernel, by decide +kernel⟩
abbrev s_is_player : Stmt := topS 14
abbrev n_is_player : List Str := ["thing"]
theorem sc_is_player : FnScope n_is_player ["thing"] (defScope s_is_player) := ⟨rfl, rfl, rfl, by decide +kernel, rfl, by decide +kernel, by decide +kernel⟩
abbrev s_is_poly_value : Stmt := topS 16
abbrev n_is_poly_value : List Str := ["thing", "pair", "one", "other"]
theorem sc_is_poly_value : FnScope n_is_poly_value ["thing"] (defScope s_is_poly_value) := ⟨rfl, rfl, rfl, by decide +kernel, rfl, by decide +kernel, by decide +kernel⟩
abbrev s_need_poly : Stmt := topS 17
abbrev n_need_poly : List Str := ["poly"]
theorem sc_need_poly : FnScope n_need_poly ["poly"] (defScope s_need_poly) := ⟨rfl, rfl, rfl, by decide +kernel, rfl, by decide +kernel, by decide +kernel⟩
abbrev s_poly_of : Stmt := topS 18
abbrev n_poly_of : List Str := ["counts", "exponent"]
theorem sc_poly_of : FnScope n_poly_of ["counts"] (defScope s_poly_of) := ⟨rfl, rfl, rfl, by decide +kernel, rfl, by decide +kernel, by decide +kernel⟩
abbrev s_constant : Stmt := topS 19
abbrev n_constant : List Str := ["number"]
theorem sc_constant : FnScope n_constant ["number"] (defScope s_constant) := ⟨rfl, rfl, rfl, by decide +kernel, rfl, by decide +kernel, by decide +kernel⟩
abbrev s_added : Stmt := topS 20
abbrev n_added : List Str := ["poly", "other", "counts", "exponent", "coefficient"]
theorem sc_added : FnScope n_added ["poly", "other"] (defScope s_added) := ⟨rfl, rfl, rfl, by decide +kernel, rfl, by decide +kernel, by decide +kernel⟩
abbrev s_multiplied : Stmt := topS 21
abbrev n_multiplied : List Str := ["poly", "other", "counts", "one", "times", "two", "many"]
theorem sc_multiplied : FnScope n_multiplied ["poly", "other"] (defScope s_multiplied) := ⟨rfl, rfl, rfl, by decide +kernel, rfl, by decide +kernel, by decide +kernel⟩
abbrev s_power_of : Stmt := topS 22
abbrev n_power_of : List Str := ["number", "exponent", "power", "square"]
theorem sc_power_of : FnScope n_power_of ["number", "exponent"] (defScope s_power_of) := ⟨rfl, rfl, rfl, by decide +kernel, rfl, by decide +kernel, by decide +kernel⟩
abbrev s_poly_value : Stmt := topS 23
abbrev n_poly_value : List Str := ["poly", "number", "exponent", "coefficient"]
theorem sc_poly_value : FnScope n_poly_value ["poly", "number"] (defScope s_poly_value) := ⟨rfl, rfl, rfl, by decide +kernel, rfl, by decide +kernel, by decide +kernel⟩
abbrev s_is_code_part : Stmt := topS 28
abbrev n_is_code_part : List Str := ["kind", "thing"]
theorem sc_is_code_part : FnScope n_is_code_part ["kind", "thing"] (defScope s_is_code_part) := ⟨rfl, rfl, rfl, by decide +kernel, rfl, by decide +kernel, by decide +kernel⟩
abbrev s_is_numbered_test : Stmt := topS 29
abbrev n_is_numbered_test : List Str := ["thing", "kinds", "kind", "part"]
theorem sc_is_numbered_test : FnScope n_is_numbered_test ["thing"] (defScope s_is_numbered_test) := ⟨rfl, rfl, rfl, by decide +kernel, rfl, by decide +kernel, by decide +kernel⟩
abbrev s_is_row_part : Stmt := topS 30
abbrev n_is_row_part : List Str := ["kind", "thing"]
theorem sc_is_row_part : FnScope n_is_row_part ["kind", "thing"] (defScope s_is_row_part) := ⟨rfl, rfl, rfl, by decide +kernel, rfl, by decide +kernel, by decide +kernel⟩
abbrev s_is_code_row : Stmt := topS 31
abbrev n_is_code_row : List Str := ["thing", "kinds", "kind", "part"]
theorem sc_is_code_row : FnScope n_is_code_row ["thing"] (defScope s_is_code_row) := ⟨rfl, rfl, rfl, by decide +kernel, rfl, by decide +kernel, by decide +kernel⟩
abbrev s_is_routine : Stmt := topS 32
abbrev n_is_routine : List Str := ["thing", "row"]
theorem sc_is_routine : FnScope n_is_routine ["thing"] (defScope s_is_routine) := ⟨rfl, rfl, rfl, by decide +kernel, rfl, by decide +kernel, by decide +kernel⟩
abbrev s_is_code_value : Stmt := topS 33
abbrev n_is_code_value : List Str := ["thing", "tapes", "indexes", "routines", "part", "poly", "rows"]
theorem sc_is_code_value : FnScope n_is_code_value ["thing"] (defScope s_is_code_value) := ⟨rfl, rfl, rfl, by decide +kernel, rfl, by decide +kernel, by decide +kernel⟩
abbrev s_is_matched : Stmt := topS 34
abbrev n_is_matched : List Str := ["rows", "at", "last"]
theorem sc_is_matched : FnScope n_is_matched ["rows", "at"] (defScope s_is_matched) := ⟨rfl, rfl, rfl, by decide +kernel, rfl, by decide +kernel, by decide +kernel⟩
abbrev s_repeats_around : Stmt := topS 35
abbrev n_repeats_around : List Str := ["rows", "place", "at"]
theorem sc_repeats_around : FnScope n_repeats_around ["rows", "place"] (defScope s_repeats_around) := ⟨rfl, rfl, rfl, by decide +kernel, rfl, by decide +kernel, by decide +kernel⟩
abbrev s_parts_of_test : Stmt := topS 36
abbrev n_parts_of_test : List Str := ["test"]
theorem sc_parts_of_test : FnScope n_parts_of_test ["test"] (defScope s_parts_of_test) := ⟨rfl, rfl, rfl, by decide +kernel, rfl, by decide +kernel, by decide +kernel⟩
abbrev s_parts_of_row : Stmt := topS 37
abbrev n_parts_of_row : List Str := ["row", "found", "kind", "part"]
theorem sc_parts_of_row : FnScope n_parts_of_row ["row"] (defScope s_parts_of_row) := ⟨rfl, rfl, rfl, by decide +kernel, rfl, by decide +kernel, by decide +kernel⟩
abbrev s_has_bad_number : Stmt := topS 38
abbrev n_has_bad_number : List Str := ["code", "routine", "row", "limits", "kind", "part"]
theorem sc_has_bad_number : FnScope n_has_bad_number ["code", "routine", "row"] (defScope s_has_bad_number) := ⟨rfl, rfl, rfl, by decide +kernel, rfl, by decide +kernel, by decide +kernel⟩
abbrev s_writes_input : Stmt := topS 39
abbrev n_writes_input : List Str := ["row"]
theorem sc_writes_input : FnScope n_writes_input ["row"] (defScope s_writes_input) := ⟨rfl, rfl, rfl, by decide +kernel, rfl, by decide +kernel, by decide +kernel⟩
abbrev s_crosses_earlier : Stmt := topS 40
abbrev n_crosses_earlier : List Str := ["rows", "at", "last", "earlier"]
theorem sc_crosses_earlier : FnScope n_crosses_earlier ["rows", "at"] (defScope s_crosses_earlier) := ⟨rfl, rfl, rfl, by decide +kernel, rfl, by decide +kernel, by decide +kernel⟩
abbrev s_has_bad_loop : Stmt := topS 41
abbrev n_has_bad_loop : List Str := ["rows", "at", "row", "first"]
theorem sc_has_bad_loop : FnScope n_has_bad_loop ["rows", "at"] (defScope s_has_bad_loop) := ⟨rfl, rfl, rfl, by decide +kernel, rfl, by decide +kernel, by decide +kernel⟩
abbrev s_has_bad_jump : Stmt := topS 42
abbrev n_has_bad_jump : List Str := ["rows", "at", "row", "target"]
theorem sc_has_bad_jump : FnScope n_has_bad_jump ["rows", "at"] (defScope s_has_bad_jump) := ⟨rfl, rfl, rfl, by decide +kernel, rfl, by decide +kernel, by decide +kernel⟩
abbrev s_fault_of_row : Stmt := topS 43
abbrev n_fault_of_row : List Str := ["code", "routine", "at", "rows"]
theorem sc_fault_of_row : FnScope n_fault_of_row ["code", "routine", "at"] (defScope s_fault_of_row) := ⟨rfl, rfl, rfl, by decide +kernel, rfl, by decide +kernel, by decide +kernel⟩
abbrev s_certificate_of : Stmt := topS 44
abbrev n_certificate_of : List Str := ["code", "routine", "rows", "at", "reason"]
theorem sc_certificate_of : FnScope n_certificate_of ["code"] (defScope s_certificate_of) := ⟨rfl, rfl, rfl, by decide +kernel, rfl, by decide +kernel, by decide +kernel⟩
abbrev s_is_accepted_value : Stmt := topS 45
abbrev n_is_accepted_value : List Str := ["thing"]
theorem sc_is_accepted_value : FnScope n_is_accepted_value ["thing"] (defScope s_is_accepted_value) := ⟨rfl, rfl, rfl, by decide +kernel, rfl, by decide +kernel, by decide +kernel⟩
abbrev s_need_code : Stmt := topS 46
abbrev n_need_code : List Str := ["code"]
theorem sc_need_code : FnScope n_need_code ["code"] (defScope s_need_code) := ⟨rfl, rfl, rfl, by decide +kernel, rfl, by decide +kernel, by decide +kernel⟩
abbrev s_weight_within : Stmt := topS 48
abbrev n_weight_within : List Str := ["rows", "around", "weight", "at"]
theorem sc_weight_within : FnScope n_weight_within ["rows", "around"] (defScope s_weight_within) := ⟨rfl, rfl, rfl, by decide +kernel, rfl, by decide +kernel, by decide +kernel⟩
abbrev s_routine_bounds : Stmt := topS 49
abbrev n_routine_bounds : List Str := ["rows", "earlier", "clock", "choices", "depth", "at", "row", "around", "weight", "inner", "called"]
theorem sc_routine_bounds : FnScope n_routine_bounds ["rows", "earlier"] (defScope s_routine_bounds) := ⟨rfl, rfl, rfl, by decide +kernel, rfl, by decide +kernel, by decide +kernel⟩
abbrev s_main_bounds : Stmt := topS 50
abbrev n_main_bounds : List Str := ["code", "bounds", "rows"]
theorem sc_main_bounds : FnScope n_main_bounds ["code"] (defScope s_main_bounds) := ⟨rfl, rfl, rfl, by decide +kernel, rfl, by decide +kernel, by decide +kernel⟩
abbrev s_cell_bound : Stmt := topS 51
abbrev n_cell_bound : List Str := ["code", "clock", "choices", "depth", "bound", "size"]
theorem sc_cell_bound : FnScope n_cell_bound ["code"] (defScope s_cell_bound) := ⟨rfl, rfl, rfl, by decide +kernel, rfl, by decide +kernel, by decide +kernel⟩
abbrev s_code_clock : Stmt := topS 53
abbrev n_code_clock : List Str := ["code"]
theorem sc_code_clock : FnScope n_code_clock ["code"] (defScope s_code_clock) := ⟨rfl, rfl, rfl, by decide +kernel, rfl, by decide +kernel, by decide +kernel⟩
abbrev s_code_choices : Stmt := topS 54
abbrev n_code_choices : List Str := ["code"]
theorem sc_code_choices : FnScope n_code_choices ["code"] (defScope s_code_choices) := ⟨rfl, rfl, rfl, by decide +kernel, rfl, by decide +kernel, by decide +kernel⟩
abbrev s_code_cells : Stmt := topS 55
abbrev n_code_cells : List Str := ["code"]
theorem sc_code_cells : FnScope n_code_cells ["code"] (defScope s_code_cells) := ⟨rfl, rfl, rfl, by decide +kernel, rfl, by decide +kernel, by decide +kernel⟩
abbrev s_code_depth : Stmt := topS 56
abbrev n_code_depth : List Str := ["code"]
theorem sc_code_depth : FnScope n_code_depth ["code"] (defScope s_code_depth) := ⟨rfl, rfl, rfl, by decide +kernel, rfl, by decide +kernel, by decide +kernel⟩
abbrev s_is_poly : Stmt := topS 58
abbrev n_is_poly : List Str := ["thing"]
theorem sc_is_poly : FnScope n_is_poly ["thing"] (defScope s_is_poly) := ⟨rfl, rfl, rfl, by decide +kernel, rfl, by decide +kernel, by decide +kernel⟩
abbrev s_value_at : Stmt := topS 59
abbrev n_value_at : List Str := ["poly", "number"]
theorem sc_value_at : FnScope n_value_at ["poly", "number"] (defScope s_value_at) := ⟨rfl, rfl, rfl, by decide +kernel, rfl, by decide +kernel, by decide +kernel⟩
abbrev s_L_deck : Stmt := topS 61
abbrev n_L_deck : List Str := ["_law_script", "_law_mixed", "_law_cell"]
theorem sc_L_deck : FnScope n_L_deck ["_law_script"] (defScope s_L_deck) := ⟨rfl, rfl, rfl, by decide +kernel, rfl, by decide +kernel, by decide +kernel⟩
abbrev s_L_draw : Stmt := topS 62
abbrev n_L_draw : List Str := ["_law_deck_here", "_law_many", "_law_number", "_law_cell"]
theorem sc_L_draw : FnScope n_L_draw ["_law_deck_here", "_law_many"] (defScope s_L_draw) := ⟨rfl, rfl, rfl, by decide +kernel, rfl, by decide +kernel, by decide +kernel⟩
abbrev s_L_pick : Stmt := topS 63
abbrev n_L_pick : List Str := ["_law_deck_here", "_law_some"]
theorem sc_L_pick : FnScope n_L_pick ["_law_deck_here", "_law_some"] (defScope s_L_pick) := ⟨rfl, rfl, rfl, by decide +kernel, rfl, by decide +kernel, by decide +kernel⟩
abbrev s_L_plus : Stmt := topS 64
abbrev n_L_plus : List Str := ["_law_one", "_law_other", "_law_found", "_law_exponent", "_law_much"]
theorem sc_L_plus : FnScope n_L_plus ["_law_one", "_law_other"] (defScope s_L_plus) := ⟨rfl, rfl, rfl, by decide +kernel, rfl, by decide +kernel, by decide +kernel⟩
abbrev s_L_times : Stmt := topS 65
abbrev n_L_times : List Str := ["_law_one", "_law_other", "_law_found", "_law_exponent", "_law_much", "_law_more", "_law_many"]
theorem sc_L_times : FnScope n_L_times ["_law_one", "_law_other"] (defScope s_L_times) := ⟨rfl, rfl, rfl, by decide +kernel, rfl, by decide +kernel, by decide +kernel⟩
abbrev s_L_constant : Stmt := topS 66
abbrev n_L_constant : List Str := ["_law_many"]
theorem sc_L_constant : FnScope n_L_constant ["_law_many"] (defScope s_L_constant) := ⟨rfl, rfl, rfl, by decide +kernel, rfl, by decide +kernel, by decide +kernel⟩
abbrev s_L_value : Stmt := topS 67
abbrev n_L_value : List Str := ["_law_poly", "_law_n", "_law_total", "_law_exponent", "_law_much", "_law_turn"]
theorem sc_L_value : FnScope n_L_value ["_law_poly", "_law_n"] (defScope s_L_value) := ⟨rfl, rfl, rfl, by decide +kernel, rfl, by decide +kernel, by decide +kernel⟩
abbrev s_L_bodies : Stmt := topS 68
abbrev n_L_bodies : List Str := ["_law_rows", "_law_found", "_law_r", "_law_row"]
theorem sc_L_bodies : FnScope n_L_bodies ["_law_rows"] (defScope s_L_bodies) := ⟨rfl, rfl, rfl, by decide +kernel, rfl, by decide +kernel, by decide +kernel⟩
abbrev s_L_insides : Stmt := topS 69
abbrev n_L_insides : List Str := ["_law_rows", "_law_bodies_here", "_law_at", "_law_r"]
theorem sc_L_insides : FnScope n_L_insides ["_law_rows", "_law_bodies_here"] (defScope s_L_insides) := ⟨rfl, rfl, rfl, by decide +kernel, rfl, by decide +kernel, by decide +kernel⟩
abbrev s_L_read_off : Stmt := topS 70
abbrev n_L_read_off : List Str := ["_law_code", "_law_found", "_law_rows", "_law_insides_here", "_law_ticks", "_law_asked", "_law_deep", "_law_at", "_law_row", "_law_weight", "_law_near", "_law_r", "_law_here", "_law_tick", "_law_more", "_law_far"]
theorem sc_L_read_off : FnScope n_L_read_off ["_law_code"] (defScope s_L_read_off) := ⟨rfl, rfl, rfl, by decide +kernel, rfl, by decide +kernel, by decide +kernel⟩
abbrev s_L_bounds : Stmt := topS 71
abbrev n_L_bounds : List Str := ["_law_code", "_law_ticks", "_law_asked", "_law_deep", "_law_room", "_law_size"]
theorem sc_L_bounds : FnScope n_L_bounds ["_law_code"] (defScope s_L_bounds) := ⟨rfl, rfl, rfl, by decide +kernel, rfl, by decide +kernel, by decide +kernel⟩
abbrev s_L_some_test : Stmt := topS 72
abbrev n_L_some_test : List Str := ["_law_deck_here", "_law_tapes", "_law_indexes", "_law_deep", "_law_way", "_law_t", "_law_u", "_law_i", "_law_j"]
theorem sc_L_some_test : FnScope n_L_some_test ["_law_deck_here", "_law_tapes", "_law_indexes", "_law_deep"] (defScope s_L_some_test) := ⟨rfl, rfl, rfl, by decide +kernel, rfl, by decide +kernel, by decide +kernel⟩
abbrev s_L_simple : Stmt := topS 73
abbrev n_L_simple : List Str := ["_law_deck_here", "_law_tapes", "_law_indexes", "_law_t", "_law_u", "_law_i", "_law_j", "_law_some"]
theorem sc_L_simple : FnScope n_L_simple ["_law_deck_here", "_law_tapes", "_law_indexes"] (defScope s_L_simple) := ⟨rfl, rfl, rfl, by decide +kernel, rfl, by decide +kernel, by decide +kernel⟩
abbrev s_L_block : Stmt := topS 74
abbrev n_L_block : List Str := ["_law_deck_here", "_law_tapes", "_law_indexes", "_law_p", "_law_size", "_law_deep", "_law_found", "_law_turn", "_law_way", "_law_poly", "_law_near", "_law_letters"]
theorem sc_L_block : FnScope n_L_block ["_law_deck_here", "_law_tapes", "_law_indexes", "_law_p", "_law_size", "_law_deep"] (defScope s_L_block) := ⟨rfl, rfl, rfl, by decide +kernel, rfl, by decide +kernel, by decide +kernel⟩
abbrev s_L_laid : Stmt := topS 75
abbrev n_L_laid : List Str := ["_law_block_here", "_law_rows", "_law_it", "_law_at"]
theorem sc_L_laid : FnScope n_L_laid ["_law_block_here", "_law_rows"] (defScope s_L_laid) := ⟨rfl, rfl, rfl, by decide +kernel, rfl, by decide +kernel, by decide +kernel⟩
abbrev s_L_routine : Stmt := topS 76
abbrev n_L_routine : List Str := ["_law_deck_here", "_law_tapes", "_law_indexes", "_law_p", "_law_size", "_law_rows", "_law_insides_here", "_law_at", "_law_row", "_law_some", "_law_k"]
theorem sc_L_routine : FnScope n_L_routine ["_law_deck_here", "_law_tapes", "_law_indexes", "_law_p", "_law_size"] (defScope s_L_routine) := ⟨rfl, rfl, rfl, by decide +kernel, rfl, by decide +kernel, by decide +kernel⟩
abbrev s_L_some_code : Stmt := topS 77
abbrev n_L_some_code : List Str := ["_law_deck_here", "_law_routines", "_law_size", "_law_sizes", "_law_tops", "_law_found", "_law_p", "_law_turn"]
theorem sc_L_some_code : FnScope n_L_some_code ["_law_deck_here", "_law_routines", "_law_size"] (defScope s_L_some_code) := ⟨rfl, rfl, rfl, by decide +kernel, rfl, by decide +kernel, by decide +kernel⟩
abbrev s_L_summed : Stmt := topS 78
abbrev n_L_summed : List Str := ["_law_code", "_law_n", "_law_kind", "_law_found", "_law_rows", "_law_insides_here", "_law_total", "_law_at", "_law_row", "_law_much", "_law_r"]
theorem sc_L_summed : FnScope n_L_summed ["_law_code", "_law_n", "_law_kind"] (defScope s_L_summed) := ⟨rfl, rfl, rfl, by decide +kernel, rfl, by decide +kernel, by decide +kernel⟩
abbrev s_law : Stmt := topS 79
abbrev n_law : List Str := ["_law_script", "_law_deck_here", "_law_turn", "_law_code", "_law_due", "_law_told", "_law_n", "_law_near", "_law_more", "_law_rows", "_law_it", "_law_r"]
theorem sc_law : FnScope n_law ["_law_script"] (defScope s_law) := ⟨rfl, rfl, rfl, by decide +kernel, rfl, by decide +kernel, by decide +kernel⟩
end K27
end DT_
section DLk_
/-! DL, eleventh part: defs by name, the built-ins, steps. -/
namespace K27
open PySem PySem.Spec PyProof.Rows L2
/-- the def x keeps its contract -/
def Def (P : Program) (w : World) (K : PySem.W.Frag) (mg : Str → Option Value) (base : Heap) (k : Nat) (x : Str) (ps : List Str) (C : Ct) : Prop :=
  ∃ f fd, FnOk P w K mg base CX0 k f fd ps (spC K ps.length C) ∧ mg x = some (.ref f) ∧ PySem.W.keepIn K (.ref f) = true ∧ Binds K fd ps []
/-- the def x as the top leaves it -/
def Raw (K : PySem.W.Frag) (mg : Str → Option Value) (x : Str) (st : Stmt) (ps : List Str) : Prop := ∃ f fd, Fun K x x st f fd ∧ mg x = some (.ref f) ∧ Binds K fd ps []
/-- the built-ins that are used stand as they are -/
structure Blt (mg : Str → Option Value) : Prop where
  all : mg "all" = none
  any : mg "any" = none
  bool : mg "bool" = none
  dict : mg "dict" = none
  enumerate : mg "enumerate" = none
  int : mg "int" = none
  isinstance : mg "isinstance" = none
  len : mg "len" = none
  list : mg "list" = none
  max : mg "max" = none
  range : mg "range" = none
  repr : mg "repr" = none
  sorted : mg "sorted" = none
  str : mg "str" = none
  sum : mg "sum" = none
  tuple : mg "tuple" = none
  zip : mg "zip" = none
section
variable {P : Program} {w : World} {K : PySem.W.Frag} {mg : Str → Option Value} {base : Heap}
theorem def_mk {x : Str} {st : Stmt} {N ps : List Str} {k : Nat} {C : Ct} (R : Raw K mg x st ps) (S : FnScope N ps (defScope st))
    (hbody : ∀ (f : Addr) (cdv : Value) (A : Around) (outer : List Env) (s : Shared) (H : Hp) (E : XK), Room k (A.deeper (envOfC x (defScope st) s.heap.objs.size f cdv)) →
      ∀ ds μ Q, ds.length = ps.length → C ds μ Q → JSs (cx P w K mg base N x st f cdv A outer s H E) (defBody st) (envOf N ds) μ { nx := fun _ μ' => Q .non μ', rt := Q }) : Def P w K mg base (k + 1) x ps C := by
  obtain ⟨f, fd, F, hm, hb⟩ := R
  exact ⟨f, fd, def_ok F S (hbody f), hm, F.kp, hb⟩
theorem Def.imp {k : Nat} {x : Str} {ps : List Str} {C C' : Ct} (d : Def P w K mg base k x ps C) (h : ∀ ds μ Q, C' ds μ Q → C ds μ Q) : Def P w K mg base k x ps C' :=
  let ⟨f, fd, F, r⟩ := d; ⟨f, fd, ct_imp F h, r⟩
theorem Def.mono {j k : Nat} {x : Str} {ps : List Str} {C : Ct} (d : Def P w K mg base j x ps C) (h : j ≤ k) : Def P w K mg base k x ps C :=
  let ⟨f, fd, F, r⟩ := d; ⟨f, fd, F.mono h, r⟩
end
section
variable {X : Cx} {δ : Env'} {μ : Sto} {e a b c : Expr} {es : List Expr} {pos p : Pos}
theorem je_callD {k : Nat} {ps : List Str} {C : Ct} {x : Str} {Q : QE} (d : Def X.prog X.w X.K X.mg X.base k x ps C) (hr : Room k X.A) (hg : Gl X x) (h : JA X (e :: es) δ μ fun ds μ1 => ds.length = ps.length ∧ C ds μ1 Q)
    (hdb : (x == ("__debug__" : Str)) = false := by decide) (he : starEach (e :: es) X.env = (false, eval e X.env) :: starEach es X.env := by rfl) (hpl : (backTo pos (starEach es X.env)).any (·.1) = false := by rfl) :
    JE X (.Call (.Name x p) (e :: es) [] pos) δ μ Q :=
  let ⟨f, fd, F, hm, hk, hb⟩ := d; je_call F hr hg hm hk hb h hdb he hpl
/-! ### the same with the side's facts filled in -/
theorem je_v {Q : QE} {x : Str} {d : Dt} (i : Nat) (q : Q d μ) (hN : X.N[i]? = some x := by rfl) (hv : Vis X.env.scope x := by first | exact Or.inl rfl | exact Or.inr (Or.inl rfl) | exact Or.inr (Or.inr rfl)) (h : δ[i]? = some (some d) := by rfl)
    (hd : (x == ("__debug__" : Str)) = false := by decide) (hcd : (x == ("__classdict__" : Str)) = false := by decide) : JE X (.Name x pos) δ μ Q := je_var i hN hv h q hd hcd
theorem js_v {D : DE} {x : Str} (i : Nat) (h : JE X e δ μ fun d μ1 => D.nx (δ.set i (some d)) μ1) (hN : X.N.Nodup := by first | assumption | decide +kernel) (hi : X.N[i]? = some x := by rfl) (hx : Loc X.env.scope x := by first | exact Or.inl rfl | exact Or.inr rfl) (hs : swapsWith e (some (.Name x p)) pos.line X.env = pure false := by rfl)
    (hf : X.fn x = true ∨ X.env.scope.names.lookup x = some .local := by first | exact .inl rfl | exact .inr rfl | assumption) : JS X (.Assign [.Name x p] e pos) δ μ D := js_set i hN hi hx h hs hf
theorem jg_v {x : Str} {d : Dt} {Q : Env' → Sto → Prop} (i : Nat) (q : Q (δ.set i (some d)) μ) (hN : X.N.Nodup := by first | assumption | decide +kernel) (hi : X.N[i]? = some x := by rfl) (hx : Loc X.env.scope x := by first | exact Or.inl rfl | exact Or.inr rfl) (hf : X.fn x = true ∨ X.env.scope.names.lookup x = some .local := by first | exact .inl rfl | exact .inr rfl | assumption) : JG X (.Name x pos) d δ μ Q :=
  jg_name i hN hi hx q hf
theorem je_lenB {Q : QE} (hm : X.mg "len" = none) (h : JE X e δ μ fun d μ1 => ∃ n : Nat, LenD μ1 d n ∧ Q (.int n) μ1) (hg : Gl X "len" := by rfl) (he : starEach [e] X.env = (false, eval e X.env) :: starEach [] X.env := by rfl) : JE X (.Call (.Name "len" p) [e] [] pos) δ μ Q := je_len hg hm h he
theorem je_allB {Q : QE} (hm : X.mg "all" = none) (h : JE X e δ μ fun d μ1 => ∃ bs : List Bool, d = .lst (bs.map .bl) ∧ Q (.bl (bs.all id)) μ1) (hc : X.calm = true := by rfl) (hg : Gl X "all" := by rfl) (he : starEach [e] X.env = (false, eval e X.env) :: starEach [] X.env := by rfl) : JE X (.Call (.Name "all" p) [e] [] pos) δ μ Q := je_all hc hg hm h he
theorem je_anyB {Q : QE} (hm : X.mg "any" = none) (h : JE X e δ μ fun d μ1 => ∃ bs : List Bool, d = .lst (bs.map .bl) ∧ Q (.bl (bs.any id)) μ1) (hc : X.calm = true := by rfl) (hg : Gl X "any" := by rfl) (he : starEach [e] X.env = (false, eval e X.env) :: starEach [] X.env := by rfl) : JE X (.Call (.Name "any" p) [e] [] pos) δ μ Q := je_any hc hg hm h he
theorem je_sumB {Q : QE} (hm : X.mg "sum" = none) (h : JE X e δ μ fun d μ1 => ∃ ns : List Int, d = .lst (ns.map .int) ∧ Q (.int ns.sum) μ1) (hc : X.calm = true := by rfl) (hg : Gl X "sum" := by rfl) (he : starEach [e] X.env = (false, eval e X.env) :: starEach [] X.env := by rfl) : JE X (.Call (.Name "sum" p) [e] [] pos) δ μ Q := je_sum hc hg hm h he
theorem je_isiI {Q : QE} {p2 : Pos} (hm : X.mg "isinstance" = none) (hmT : X.mg "int" = none) (h : JE X e δ μ fun d μ1 => (∀ a, d ≠ .ref a) ∧ ∃ r, kitB (tyD d) "int" = some r ∧ Q (.bl r) μ1) (hg : Gl X "isinstance" := by rfl) (hgT : Gl X "int" := by rfl)
    (h1 : starEach [e, .Name "int" p2] X.env = (false, eval e X.env) :: starEach [.Name "int" p2] X.env := by rfl) (h2 : starEach [Expr.Name "int" p2] X.env = (false, eval (.Name "int" p2) X.env) :: starEach [] X.env := by rfl)
    (hpl : (backTo pos (starEach [Expr.Name "int" p2] X.env)).any (·.1) = false := by rfl) : JE X (.Call (.Name "isinstance" p) [e, .Name "int" p2] [] pos) δ μ Q := je_isi (T := "int") hg hm hgT hmT (by decide +kernel) h (by decide) (by decide) h1 h2 hpl
theorem je_isiB {Q : QE} {p2 : Pos} (hm : X.mg "isinstance" = none) (hmT : X.mg "bool" = none) (h : JE X e δ μ fun d μ1 => (∀ a, d ≠ .ref a) ∧ ∃ r, kitB (tyD d) "bool" = some r ∧ Q (.bl r) μ1) (hg : Gl X "isinstance" := by rfl) (hgT : Gl X "bool" := by rfl)
    (h1 : starEach [e, .Name "bool" p2] X.env = (false, eval e X.env) :: starEach [.Name "bool" p2] X.env := by rfl) (h2 : starEach [Expr.Name "bool" p2] X.env = (false, eval (.Name "bool" p2) X.env) :: starEach [] X.env := by rfl)
    (hpl : (backTo pos (starEach [Expr.Name "bool" p2] X.env)).any (·.1) = false := by rfl) : JE X (.Call (.Name "isinstance" p) [e, .Name "bool" p2] [] pos) δ μ Q := je_isi (T := "bool") hg hm hgT hmT (by decide +kernel) h (by decide) (by decide) h1 h2 hpl
theorem je_isiT {Q : QE} {p2 : Pos} (hm : X.mg "isinstance" = none) (hmT : X.mg "tuple" = none) (h : JE X e δ μ fun d μ1 => ∃ xs, TupV d xs ∧ Q (.bl true) μ1) (hg : Gl X "isinstance" := by rfl) (hgT : Gl X "tuple" := by rfl)
    (h1 : starEach [e, .Name "tuple" p2] X.env = (false, eval e X.env) :: starEach [.Name "tuple" p2] X.env := by rfl) (h2 : starEach [Expr.Name "tuple" p2] X.env = (false, eval (.Name "tuple" p2) X.env) :: starEach [] X.env := by rfl)
    (hpl : (backTo pos (starEach [Expr.Name "tuple" p2] X.env)).any (·.1) = false := by rfl) : JE X (.Call (.Name "isinstance" p) [e, .Name "tuple" p2] [] pos) δ μ Q := je_isi (T := "tuple") hg hm hgT hmT (by decide +kernel) (h.imp fun d μ1 ⟨xs, s, q⟩ => by
      rcases s with rfl | ⟨ps, rfl, _⟩
      · exact ⟨fun a z => (by cases z), _, kit_tt, q⟩
      · exact ⟨fun a z => (by cases z), _, kit_tt, q⟩) (by decide) (by decide) h1 h2 hpl
theorem je_isiS {Q : QE} {p2 : Pos} (hm : X.mg "isinstance" = none) (hmT : X.mg "str" = none) (h : JE X e δ μ fun d μ1 => ∃ x, d = .str x ∧ Q (.bl true) μ1) (hg : Gl X "isinstance" := by rfl) (hgT : Gl X "str" := by rfl)
    (h1 : starEach [e, .Name "str" p2] X.env = (false, eval e X.env) :: starEach [.Name "str" p2] X.env := by rfl) (h2 : starEach [Expr.Name "str" p2] X.env = (false, eval (.Name "str" p2) X.env) :: starEach [] X.env := by rfl)
    (hpl : (backTo pos (starEach [Expr.Name "str" p2] X.env)).any (·.1) = false := by rfl) : JE X (.Call (.Name "isinstance" p) [e, .Name "str" p2] [] pos) δ μ Q := je_isi (T := "str") hg hm hgT hmT (by decide +kernel) (h.imp fun d μ1 ⟨xs, s, q⟩ => by
      subst s
      exact ⟨fun a z => (by cases z), _, kit_ss, q⟩) (by decide) (by decide) h1 h2 hpl
theorem je_tupleB {Q : QE} (hm : X.mg "tuple" = none) (h : JE X e δ μ fun d μ1 => ∃ xs, SeqL μ1 d xs ∧ Q (.tup xs) μ1) (hg : Gl X "tuple" := by rfl) (he : starEach [e] X.env = (false, eval e X.env) :: starEach [] X.env := by rfl) : JE X (.Call (.Name "tuple" p) [e] [] pos) δ μ Q := je_tuple hg hm h he
theorem je_tuplePB {Q : QE} (hm : X.mg "tuple" = none) (h : JE X e δ μ fun d μ1 => ∃ ps, SeqL μ1 d (ps.map pairD) ∧ Q (.pol ps) μ1) (hg : Gl X "tuple" := by rfl) (he : starEach [e] X.env = (false, eval e X.env) :: starEach [] X.env := by rfl) : JE X (.Call (.Name "tuple" p) [e] [] pos) δ μ Q := je_tupleP hg hm h he
theorem je_sortedPB {Q : QE} (hm : X.mg "sorted" = none) (h : JE X e δ μ fun d μ1 => ∃ ps : List (Int × Int), d = .lst (ps.map pairD) ∧ ∀ qs : List (Int × Int), qs.Perm ps → qs.Pairwise (fun p q => SrtO.lexB q p = false) → Q (.lst (qs.map pairD)) μ1) (hg : Gl X "sorted" := by rfl) (he : starEach [e] X.env = (false, eval e X.env) :: starEach [] X.env := by rfl) : JE X (.Call (.Name "sorted" p) [e] [] pos) δ μ Q := je_sortedP hg hm h he
theorem je_sortedIB {Q : QE} (hm : X.mg "sorted" = none) (h : JE X e δ μ fun d μ1 => ∃ ns : List Int, d = .lst (ns.map .int) ∧ ∀ ns' : List Int, ns'.Perm ns → ns'.Pairwise (· ≤ ·) → Q (.lst (ns'.map .int)) μ1) (hg : Gl X "sorted" := by rfl) (he : starEach [e] X.env = (false, eval e X.env) :: starEach [] X.env := by rfl) : JE X (.Call (.Name "sorted" p) [e] [] pos) δ μ Q := je_sortedI hg hm h he
theorem je_listLB {Q : QE} (hm : X.mg "list" = none) (h : JE X e δ μ fun d μ1 => ∃ xs, SeqA μ1 d xs ∧ Q (.lst xs) μ1) (hg : Gl X "list" := by rfl) (he : starEach [e] X.env = (false, eval e X.env) :: starEach [] X.env := by rfl) : JE X (.Call (.Name "list" p) [e] [] pos) δ μ Q := je_listL hg hm h he
theorem je_listDB {Q : QE} (hm : X.mg "list" = none) (h : JE X e δ μ fun d μ1 => ∃ c kvs, d = .ref c ∧ μ1 c = some (.dct kvs) ∧ Q (.lst (kvs.map fun kv => keyD kv.1)) μ1) (hc : X.calm = true := by rfl) (hg : Gl X "list" := by rfl) (he : starEach [e] X.env = (false, eval e X.env) :: starEach [] X.env := by rfl) : JE X (.Call (.Name "list" p) [e] [] pos) δ μ Q := je_listD hc hg hm h he
theorem je_dictPB {Q : QE} (hm : X.mg "dict" = none) (h : JE X e δ μ fun d μ1 => ∃ ps, d = .pol ps ∧ ∀ p, μ1 p = none → Q (.ref p) (μ1.set p (.dct (mergeD ps)))) (hc : X.calm = true := by rfl) (hg : Gl X "dict" := by rfl) (he : starEach [e] X.env = (false, eval e X.env) :: starEach [] X.env := by rfl) : JE X (.Call (.Name "dict" p) [e] [] pos) δ μ Q := je_dictP hc hg hm h he
theorem je_dictLB {Q : QE} (hm : X.mg "dict" = none) (h : JE X e δ μ fun d μ1 => ∃ ps, SeqL μ1 d (ps.map pairD) ∧ ∀ p, μ1 p = none → Q (.ref p) (μ1.set p (.dct (mergeD ps)))) (hc : X.calm = true := by rfl) (hg : Gl X "dict" := by rfl) (he : starEach [e] X.env = (false, eval e X.env) :: starEach [] X.env := by rfl) : JE X (.Call (.Name "dict" p) [e] [] pos) δ μ Q := je_dictL hc hg hm h he
theorem je_intB {Q : QE} (hm : X.mg "int" = none) (h : JE X e δ μ fun d μ1 => ∃ i, d = .int i ∧ Q (.int i) μ1) (hg : Gl X "int" := by rfl) (he : starEach [e] X.env = (false, eval e X.env) :: starEach [] X.env := by rfl) : JE X (.Call (.Name "int" p) [e] [] pos) δ μ Q := je_int1 hg hm h he
theorem je_maxB {Q : QE} (hm : X.mg "max" = none) (h : JA X [a, b] δ μ fun ds μ1 => ∃ i j, ds = [.int i, .int j] ∧ Q (.int (if j > i then j else i)) μ1) (hc : X.calm = true := by rfl) (hg : Gl X "max" := by rfl)
    (he : starEach [a, b] X.env = (false, eval a X.env) :: starEach [b] X.env := by rfl) (hpl : (backTo pos (starEach [b] X.env)).any (·.1) = false := by rfl) : JE X (.Call (.Name "max" p) [a, b] [] pos) δ μ Q := je_max2 hc hg hm h he hpl
theorem je_reprB {Q : QE} (hgd : X.A.guards = some []) (hu : X.A.units + 64 < cLine) (hm : X.mg "repr" = none) (h : JE X e δ μ fun d μ1 => Shows d ∧ Q (.str d.py.shown) μ1) (hg : Gl X "repr" := by rfl) (he : starEach [e] X.env = (false, eval e X.env) :: starEach [] X.env := by rfl) : JE X (.Call (.Name "repr" p) [e] [] pos) δ μ Q := je_repr hgd hu hg hm h he
theorem je_at {Q : QE} (h : JE X a δ μ fun x μ1 => JE X b δ μ1 fun y μ2 => ∃ xs i d, SeqA μ2 x xs ∧ y = .int i ∧ atI xs i = some d ∧ Q d μ2) (hs : PlainIx b := by exact fun _ _ => rfl) : JE X (.Subscript a b pos) δ μ Q := je_ix hs h
theorem je_d {k : Nat} {ps : List Str} {C : Ct} {x : Str} {Q : QE} (d : Def X.prog X.w X.K X.mg X.base k x ps C) (hr : Room k X.A) (h : JA X (e :: es) δ μ fun ds μ1 => ds.length = ps.length ∧ C ds μ1 Q) (hg : Gl X x := by rfl)
    (hdb : (x == ("__debug__" : Str)) = false := by decide) (he : starEach (e :: es) X.env = (false, eval e X.env) :: starEach es X.env := by rfl) (hpl : (backTo pos (starEach es X.env)).any (·.1) = false := by rfl) :
    JE X (.Call (.Name x p) (e :: es) [] pos) δ μ Q := je_callD d hr hg h hdb he hpl
/-- the comprehension [elt for x in ..], its name in slot i -/
theorem je_lc1 {scope : Scope} {iter elt : Expr} {own : List (Str × Nat)} {x : Str} {px : Pos} {Q : QE} (i : Nat) (ok : BlkOk X.N X.env.scope scope own) (hi : i ∈ own.map (·.2))
    (h : JI X (.Name x px) iter δ μ fun items cond μ1 => lcR X scope elt (asName i) tsYes cond (fun ys μ2 => Q (.lst ys) μ2) (wipeD δ (own.map (·.2))) items [] μ1)
    (hx : X.N[i]? = some x := by rfl) (hl : ∀ (cl : List (Str × Addr)) (C : Addr), Loc (compEnvC scope cl C X.env).scope x := by intro _ _; first | exact Or.inl rfl | exact Or.inr rfl)
    (hf : ∀ (s : Shared) (H : Hp) (C : Addr) (cl : List (Str × Addr)) (fp : List Addr), (X.blk s H scope (compEnvC scope cl C X.env) fp).fn x = true ∨ (X.blk s H scope (compEnvC scope cl C X.env) fp).env.scope.names.lookup x = some .local := by intro _ _ _ _ _; first | exact .inl rfl | exact .inr rfl)
    (hc : X.calm = true := by rfl) (hN : X.N.Nodup := by first | assumption | decide +kernel) (hs : ∀ y, foldedSetIterable iter X.env y = pure y := by intro _; rfl) : JE X (.ListComp elt [⟨.Name x px, iter, [], 0⟩] scope pos) δ μ Q :=
  je_lcG hc hN ok (asg_name hi) tst_yes (fun s H C cl fp => pg_name (X := X.blk s H scope (compEnvC scope cl C X.env) fp) hN hx (hl cl C) (hf s H C cl fp)) (fun _ _ _ _ _ => pts_nil) h hs
end
end K27
end DLk_
section DLl_
/-! DL, twelfth part: invariants of loops and comprehensions, a store's list beside an empty one. -/
namespace K27
open PySem PySem.Spec PyProof.Rows L2
section
variable {X : Cx} {st : Stmt} {sts : List Stmt} {e a b c o tg iter elt : Expr} {es : List Expr} {δ : Env'} {μ : Sto} {pos p : Pos} {D D' : DE}
structure DE.Le (D D' : DE) : Prop where
  nx : ∀ δ μ, D.nx δ μ → D'.nx δ μ
  rt : ∀ d μ, D.rt d μ → D'.rt d μ
  bk : ∀ δ μ, D.bk δ μ → D'.bk δ μ
  ct : ∀ δ μ, D.ct δ μ → D'.ct δ μ
theorem CK.le {K : PySem.W.Frag} {G H : Hp} {DD : Ends} (k : CK K G H μ D' DD) (l : D.Le D') : CK K G H μ D DD :=
  ⟨fun s d G' H' m a f q => k.nx s d G' H' m a f (l.nx _ _ q), fun v d G' H' m h f r q => k.rt v d G' H' m h f r (l.rt _ _ q),
   fun s d G' H' m a f q => k.bk s d G' H' m a f (l.bk _ _ q), fun s d G' H' m a f q => k.ct s d G' H' m a f (l.ct _ _ q)⟩
theorem JSs.le (h : JSs X sts δ μ D) (l : D.Le D') : JSs X sts δ μ D' := fun σ G H DD at_ k => h σ G H DD at_ (k.le l)
theorem JS.le (h : JS X st δ μ D) (l : D.Le D') : JS X st δ μ D' := fun σ G H DD at_ k => h σ G H DD at_ (k.le l)
theorem JG.imp {d : Dt} {Q Q' : Env' → Sto → Prop} (h : JG X tg d δ μ Q) (l : ∀ δ μ, Q δ μ → Q' δ μ) : JG X tg d δ μ Q' := fun σ G H v QQ at_ r k =>
  h σ G H v QQ at_ r fun s d' G' H' m a f q => k s d' G' H' m a f (l _ _ q)
/-- the ends of a loop's body -/
abbrev DE.loop (D : DE) (Iv : Env' → Sto → Prop) : DE := { D with nx := Iv, ct := Iv, bk := D.nx }
theorem forR_inv {body : List Stmt} {cond : Sto → Prop} (items : List Dt) (Iv : Nat → Env' → Sto → Prop) (h0 : Iv 0 δ μ) (hc : ∀ i δ μ, Iv i δ μ → cond μ)
    (hs : ∀ (i : Nat) (d : Dt), items[i]? = some d → ∀ δ μ, Iv i δ μ → JG X tg d δ μ fun δ1 μ1 => JSs X body δ1 μ1 (D.loop (Iv (i + 1)))) (he : ∀ δ μ, Iv items.length δ μ → D.nx δ μ) : forR X tg body cond D items δ μ := by
  have key : ∀ (r : List Dt) (i : Nat) (δ : Env') (μ : Sto), i ≤ items.length → items.drop i = r → Iv i δ μ → forR X tg body cond D r δ μ := by
    intro r
    induction r with
    | nil =>
      intro i δ μ hi e h
      have hl : items.length ≤ i := List.drop_eq_nil_iff.mp e
      have : i = items.length := Nat.le_antisymm hi hl
      subst this
      exact ⟨hc _ δ μ h, he δ μ h⟩
    | cons d r ih =>
      intro i δ μ hi e h
      have e0 : items[i]? = some d := by
        have := congrArg List.head? e
        rwa [List.head?_drop] at this
      have e1 : items.drop (i + 1) = r := by
        have := congrArg List.tail e
        rwa [List.tail_drop] at this
      have hl : i + 1 ≤ items.length := (List.getElem?_eq_some_iff.mp e0).1
      exact ⟨hc i δ μ h, (hs i d e0 δ μ h).imp fun δ1 μ1 q => q.le ⟨fun δ2 μ2 q2 => ih (i + 1) δ2 μ2 hl e1 q2, fun _ _ q => q, fun _ _ q => q, fun δ2 μ2 q2 => ih (i + 1) δ2 μ2 hl e1 q2⟩⟩
  exact key items 0 δ μ (Nat.zero_le _) List.drop_zero h0
/-- a loop of statements, by an invariant -/
theorem js_forI {body : List Stmt} (Iv : List Dt → Nat → Env' → Sto → Prop) (hp : PassesOwn (model X.prog X.w) X.A X.env X.xe) (hcalm : X.calm = true)
    (h : JI X tg iter δ μ fun items cond μ1 => Iv items 0 δ μ1 ∧ (∀ i δ μ, Iv items i δ μ → cond μ) ∧ (∀ (i : Nat) (d : Dt), items[i]? = some d → ∀ δ μ, Iv items i δ μ → JG X tg d δ μ fun δ1 μ1 => JSs X body δ1 μ1 (D.loop (Iv items (i + 1)))) ∧ (∀ δ μ, Iv items items.length δ μ → D.nx δ μ))
    (hs : ∀ x, foldedSetIterable iter X.env x = pure x := by intro _; rfl) : JS X (.For tg iter body [] pos) δ μ D :=
  js_for hp hcalm (fun σ G H RR at_ k => h σ G H RR at_ fun J items cond G' H' μ' hm fr src q => k J items cond G' H' μ' hm fr src (forR_inv items (Iv items) q.1 q.2.1 q.2.2.1 q.2.2.2)) hs
/-! ### comprehensions -/
def MonA (asg : AsgD) : Prop := ∀ d δ P P', (∀ δ, P δ → P' δ) → asg d δ P → asg d δ P'
def MonT (tst : TstD) : Prop := ∀ δ μ P P', (∀ b μ, P b μ → P' b μ) → tst δ μ P → tst δ μ P'
theorem mon_name {i : Nat} : MonA (asName i) := fun d δ P P' h q => h _ q
theorem mon_pair {i j : Nat} : MonA (asPair i j) := fun d δ P P' h ⟨a, b, e, q⟩ => ⟨a, b, e, h _ q⟩
theorem mon_yes : MonT tsYes := fun δ μ P P' h q => h _ _ q
theorem mon_one {scope : Scope} : MonT (tsOne X scope c) := fun δ μ P P' h q s H C cl fp => (q s H C cl fp).imp h
theorem lcR_inv {scope : Scope} {asg : AsgD} {tst : TstD} {cond : Sto → Prop} {Q : List Dt → Sto → Prop} (mA : MonA asg) (mT : MonT tst) (items : List Dt) (hl : items.length ≤ sizeLine) (Iv : Nat → List Dt → Sto → Prop) (h0 : Iv 0 [] μ) (hc : ∀ i acc μ, Iv i acc μ → cond μ)
    (hs : ∀ (i : Nat) (d : Dt), items[i]? = some d → ∀ acc μ, Iv i acc μ → asg d δ fun δ1 => tst δ1 μ fun b μ2 => (b = true → JEb X scope elt δ1 μ2 fun y μ3 => Iv (i + 1) (acc ++ [y]) μ3) ∧ (b = false → Iv (i + 1) acc μ2)) (he : ∀ acc μ, Iv items.length acc μ → Q acc μ) : lcR X scope elt asg tst cond Q δ items [] μ := by
  have key : ∀ (r : List Dt) (i : Nat) (acc : List Dt) (μ : Sto), i ≤ items.length → acc.length ≤ i → items.drop i = r → Iv i acc μ → lcR X scope elt asg tst cond Q δ r acc μ := by
    intro r
    induction r with
    | nil =>
      intro i acc μ hi ha e h
      have hl : items.length ≤ i := List.drop_eq_nil_iff.mp e
      have : i = items.length := Nat.le_antisymm hi hl
      subst this
      exact ⟨hc _ acc μ h, he acc μ h⟩
    | cons d r ih =>
      intro i acc μ hi ha e h
      have e0 : items[i]? = some d := by
        have := congrArg List.head? e
        rwa [List.head?_drop] at this
      have e1 : items.drop (i + 1) = r := by
        have := congrArg List.tail e
        rwa [List.tail_drop] at this
      have hl1 : i + 1 ≤ items.length := (List.getElem?_eq_some_iff.mp e0).1
      refine ⟨hc i acc μ h, by omega, mA d δ _ _ (fun δ1 q => mT δ1 μ _ _ (fun b μ2 q2 => ⟨fun hb s H C cl fp => ((q2.1 hb) s H C cl fp).imp fun y μ3 q3 => ih (i + 1) _ μ3 hl1 (by rw [List.length_append, List.length_singleton]; omega) e1 q3, fun hb => ih (i + 1) acc μ2 hl1 (by omega) e1 (q2.2 hb)⟩) q) (hs i d e0 acc μ h)⟩
  exact key items 0 [] μ (Nat.zero_le _) (Nat.le_refl _) List.drop_zero h0
/-- each item gives at most one, nothing is written -/
theorem lcR_pure {scope : Scope} {asg : AsgD} {tst : TstD} {cond : Sto → Prop} {Q : List Dt → Sto → Prop} (mA : MonA asg) (mT : MonT tst) (items : List Dt) (g : Dt → Option Dt) (hl : items.length ≤ sizeLine) (hc : cond μ)
    (hs : ∀ (i : Nat) (d : Dt), items[i]? = some d → asg d δ fun δ1 => tst δ1 μ fun b μ2 => (b = true → JEb X scope elt δ1 μ2 fun y μ3 => g d = some y ∧ μ3 = μ) ∧ (b = false → g d = none ∧ μ2 = μ)) (he : Q (items.filterMap g) μ) : lcR X scope elt asg tst cond Q δ items [] μ := by
  refine lcR_inv mA mT items hl (fun i acc μ' => acc = (items.take i).filterMap g ∧ μ' = μ) ⟨by rw [List.take_zero]; rfl, rfl⟩ (fun i acc μ' h => by rw [h.2]; exact hc) (fun i d hd acc μ' h => ?_) (fun acc μ' h => by
    rw [List.take_length] at h
    rw [h.1, h.2]; exact he)
  obtain ⟨rfl, rfl⟩ := h
  have et : items.take (i + 1) = items.take i ++ [d] := by
    rw [List.take_add_one, hd]; rfl
  refine mA d δ _ _ (fun δ1 q => mT δ1 _ _ _ (fun b μ2 q2 => ⟨fun hb s H C cl fp => ((q2.1 hb) s H C cl fp).imp fun y μ3 q3 => ⟨?_, q3.2⟩, fun hb => ⟨?_, (q2.2 hb).2⟩⟩) q) (hs i d hd)
  · rw [et, List.filterMap_append]
    simp [(q2.2 hb).1]
  · rw [et, List.filterMap_append]
    simp [q3.1]
/-- each item gives True -/
theorem lcR_true {scope : Scope} {asg : AsgD} {cond : Sto → Prop} {Q : List Dt → Sto → Prop} (mA : MonA asg) (items : List Dt) (hl : items.length ≤ sizeLine) (hc : cond μ)
    (hs : ∀ (i : Nat) (d : Dt), items[i]? = some d → asg d δ fun δ1 => JEb X scope elt δ1 μ fun y μ3 => y = .bl true ∧ μ3 = μ) (he : Q ((List.replicate items.length true).map .bl) μ) : lcR X scope elt asg tsYes cond Q δ items [] μ := by
  refine lcR_inv mA mon_yes items hl (fun i acc μ' => acc = (List.replicate i true).map .bl ∧ μ' = μ) ⟨rfl, rfl⟩ (fun i acc μ' h => by rw [h.2]; exact hc) (fun i d hd acc μ' h => ?_) (fun acc μ' h => by
    rw [h.1, h.2]; exact he)
  obtain ⟨rfl, rfl⟩ := h
  refine mA d δ _ _ (fun δ1 q => ⟨fun _ s H C cl fp => (q s H C cl fp).imp fun y μ3 q3 => ⟨?_, q3.2⟩, fun hb => by cases hb⟩) (hs i d hd)
  rw [q3.1, List.replicate_succ', List.map_append]
  rfl
theorem all_rep : ∀ n : Nat, (List.replicate n true).all id = true
  | 0 => rfl
  | n + 1 => by rw [List.replicate_succ, List.all_cons, all_rep n]; rfl
/-- the comprehension [elt for x, y in ..], its names in slots i, j -/
theorem je_lc2 {scope : Scope} {own : List (Str × Nat)} {x y : Str} {px py pt : Pos} {kt : Nat} {Q : QE} (i j : Nat) (ok : BlkOk X.N X.env.scope scope own) (hi : i ∈ own.map (·.2)) (hj : j ∈ own.map (·.2))
    (h : JI X (.Tuple [.Name x px, .Name y py] kt pt) iter δ μ fun items cond μ1 => lcR X scope elt (asPair i j) tsYes cond (fun ys μ2 => Q (.lst ys) μ2) (wipeD δ (own.map (·.2))) items [] μ1)
    (hx : X.N[i]? = some x := by rfl) (hy : X.N[j]? = some y := by rfl) (hl : ∀ (cl : List (Str × Addr)) (C : Addr), Loc (compEnvC scope cl C X.env).scope x := by intro _ _; first | exact Or.inl rfl | exact Or.inr rfl) (hl2 : ∀ (cl : List (Str × Addr)) (C : Addr), Loc (compEnvC scope cl C X.env).scope y := by intro _ _; first | exact Or.inl rfl | exact Or.inr rfl)
    (hf : ∀ (s : Shared) (H : Hp) (C : Addr) (cl : List (Str × Addr)) (fp : List Addr), (X.blk s H scope (compEnvC scope cl C X.env) fp).fn x = true ∨ (X.blk s H scope (compEnvC scope cl C X.env) fp).env.scope.names.lookup x = some .local := by intro _ _ _ _ _; first | exact .inl rfl | exact .inr rfl)
    (hf2 : ∀ (s : Shared) (H : Hp) (C : Addr) (cl : List (Str × Addr)) (fp : List Addr), (X.blk s H scope (compEnvC scope cl C X.env) fp).fn y = true ∨ (X.blk s H scope (compEnvC scope cl C X.env) fp).env.scope.names.lookup y = some .local := by intro _ _ _ _ _; first | exact .inl rfl | exact .inr rfl)
    (hn : ∀ (s : Shared) (H : Hp) (C : Addr) (cl : List (Str × Addr)) (fp : List Addr), (assignEach [.Name x px, .Name y py] (X.blk s H scope (compEnvC scope cl C X.env) fp).env).length = 2 := by intro _ _ _ _ _; rfl)
    (hst : ∀ (s : Shared) (H : Hp) (C : Addr) (cl : List (Str × Addr)) (fp : List Addr), (assignEach [.Name x px, .Name y py] (X.blk s H scope (compEnvC scope cl C X.env) fp).env).findIdx? (·.1) = none := by intro _ _ _ _ _; rfl)
    (hm : ∀ (s : Shared) (H : Hp) (C : Addr) (cl : List (Str × Addr)) (fp : List Addr), (assignEach [.Name x px, .Name y py] (X.blk s H scope (compEnvC scope cl C X.env) fp).env).map (·.2) = assign (.Name x px) (X.blk s H scope (compEnvC scope cl C X.env) fp).env :: (assignEach [.Name y py] (X.blk s H scope (compEnvC scope cl C X.env) fp).env).map (·.2) := by intro _ _ _ _ _; rfl)
    (hm2 : ∀ (s : Shared) (H : Hp) (C : Addr) (cl : List (Str × Addr)) (fp : List Addr), (assignEach [.Name y py] (X.blk s H scope (compEnvC scope cl C X.env) fp).env).map (·.2) = assign (.Name y py) (X.blk s H scope (compEnvC scope cl C X.env) fp).env :: (assignEach [] (X.blk s H scope (compEnvC scope cl C X.env) fp).env).map (·.2) := by intro _ _ _ _ _; rfl)
    (hc : X.calm = true := by rfl) (hN : X.N.Nodup := by first | assumption | decide +kernel) (hs : ∀ y, foldedSetIterable iter X.env y = pure y := by intro _; rfl) : JE X (.ListComp elt [⟨.Tuple [.Name x px, .Name y py] kt pt, iter, [], 0⟩] scope pos) δ μ Q :=
  je_lcG hc hN ok (asg_pair hi hj) tst_yes (fun s H C cl fp => pg_tup (X := X.blk s H scope (compEnvC scope cl C X.env) fp) hc (pgs_cons (pg_name (X := X.blk s H scope (compEnvC scope cl C X.env) fp) hN hx (hl cl C) (hf s H C cl fp)) (pgs_cons (pg_name (X := X.blk s H scope (compEnvC scope cl C X.env) fp) hN hy (hl2 cl C) (hf2 s H C cl fp)) pgs_nil (hm2 s H C cl fp)) (hm s H C cl fp)) (hn s H C cl fp) (hst s H C cl fp)) (fun _ _ _ _ _ => pts_nil) h hs
/-- [elt for x in .. if c] -/
theorem je_lc1if {scope : Scope} {own : List (Str × Nat)} {x : Str} {px : Pos} {Q : QE} (i : Nat) (ok : BlkOk X.N X.env.scope scope own) (hi : i ∈ own.map (·.2))
    (h : JI X (.Name x px) iter δ μ fun items cond μ1 => lcR X scope elt (asName i) (tsOne X scope c) cond (fun ys μ2 => Q (.lst ys) μ2) (wipeD δ (own.map (·.2))) items [] μ1)
    (hx : X.N[i]? = some x := by rfl) (hl : ∀ (cl : List (Str × Addr)) (C : Addr), Loc (compEnvC scope cl C X.env).scope x := by intro _ _; first | exact Or.inl rfl | exact Or.inr rfl)
    (hf : ∀ (s : Shared) (H : Hp) (C : Addr) (cl : List (Str × Addr)) (fp : List Addr), (X.blk s H scope (compEnvC scope cl C X.env) fp).fn x = true ∨ (X.blk s H scope (compEnvC scope cl C X.env) fp).env.scope.names.lookup x = some .local := by intro _ _ _ _ _; first | exact .inl rfl | exact .inr rfl)
    (hc : X.calm = true := by rfl) (hN : X.N.Nodup := by first | assumption | decide +kernel) (hs : ∀ y, foldedSetIterable iter X.env y = pure y := by intro _; rfl) : JE X (.ListComp elt [⟨.Name x px, iter, [c], 0⟩] scope pos) δ μ Q :=
  je_lcG hc hN ok (asg_name hi) tst_one (fun s H C cl fp => pg_name (X := X.blk s H scope (compEnvC scope cl C X.env) fp) hN hx (hl cl C) (hf s H C cl fp)) (fun s H C cl fp => pts_one ⟨fun pins s' σ' H' Q' I h => h s H C cl fp pins s' I⟩) h hs
/-! ### a list of the store, compared -/
def DpV (μ : Sto) (d x : Dt) : Prop := (d = x ∨ ∃ xs, SeqL μ d xs ∧ x = .lst xs) ∧ Fit x
theorem DpV.at_ {K : PySem.W.Frag} {G H : Hp} {v : V} {d x : Dt} (s : DpV μ d x) (hm : Hm K G H μ) (r : Rep K G v d) : Dp K H v x.py := by
  obtain ⟨s, f1, f2⟩ := s
  rcases s with rfl | ⟨xs, s, rfl⟩
  · exact dp_mono hm.ex (r.dp f1)
  · obtain ⟨p, vs, rfl, h1, h2⟩ := s.at_ hm r
    exact .lst (sql_of h1) (dpall_mono hm.ex (h2.dp (by simpa [Dt.pure] using f1)))
theorem je_neV {Q : QE} (hu : X.A.units + 64 < cLine) (h : JE X a δ μ fun x μ1 => JE X b δ μ1 fun y μ2 => ∃ x' y', DpV μ2 x x' ∧ DpV μ2 y y' ∧ Q (.bl (!PyData.eqv x'.py y'.py)) μ2) : JE X (.Compare a [.NotEq] [b] pos) δ μ Q :=
  je_cmp (f := fun x y μ Q => ∃ x' y', DpV μ x x' ∧ DpV μ y y' ∧ Q (.bl (!PyData.eqv x'.py y'.py)) μ) (op_neD hu) (fun G H μ v w x y Q QQ hm rx ry ⟨x', y', s1, s2, q⟩ k =>
    ⟨_, _, s1.at_ hm rx, s2.at_ hm ry, s1.2.2, s2.2.2, k.here hm (.bl _) q⟩) (nomark _) h
theorem je_eqV {Q : QE} (hu : X.A.units + 64 < cLine) (h : JE X a δ μ fun x μ1 => JE X b δ μ1 fun y μ2 => ∃ x' y', DpV μ2 x x' ∧ DpV μ2 y y' ∧ Q (.bl (PyData.eqv x'.py y'.py)) μ2) : JE X (.Compare a [.Eq] [b] pos) δ μ Q :=
  je_cmp (f := fun x y μ Q => ∃ x' y', DpV μ x x' ∧ DpV μ y y' ∧ Q (.bl (PyData.eqv x'.py y'.py)) μ) (op_eqD hu) (fun G H μ v w x y Q QQ hm rx ry ⟨x', y', s1, s2, q⟩ k =>
    ⟨_, _, s1.at_ hm rx, s2.at_ hm ry, s1.2.2, s2.2.2, k.here hm (.bl _) q⟩) (nomark _) h
/-- a told tuple of pairs, read as a tuple -/
theorem je_un {Q : QE} (h : JE X e δ μ fun d μ1 => ∃ xs, TupV d xs ∧ Q (.tup xs) μ1) : JE X e δ μ Q := fun σ G H QQ at_ k =>
  h σ G H QQ at_ fun v d G1 H1 μ1 hm f r ⟨xs, s, q⟩ => k v _ G1 H1 μ1 hm f (s.at_ r) q
end
end K27
end DLl_
section DLm_
/-! DL, thirteenth part: comparisons as tests. -/
namespace K27
open PySem PySem.Spec PyProof.Rows L2
section
variable {X : Cx} {e a b c : Expr} {es : List Expr} {δ : Env'} {μ : Sto} {pos : Pos} {op : CmpOp}
def wC (X : Cx) (op : CmpOp) (a b : Expr) : TE := fun σ H Q => ∀ pins s, Inv X pins σ H s →
  wpAny (model X.prog X.w) X.A (eval a X.env) (fun v s₁ => wpAny (model X.prog X.w) X.A (eval b X.env) (fun u s₂ => wpAny (model X.prog X.w) X.A (compareOp op v u) (EP X pins σ Q) X.xe s₂) X.xe s₁) X.xe s
theorem pc_w : PC X op a b (wC X op a b) := ⟨fun pins s _ _ _ I h => h pins s I⟩
theorem wC_of {t : TE} (h : PC X op a b t) {σ : L2.St} {H : Hp} {Q : VK} (q : t σ H Q) : wC X op a b σ H Q := fun pins s I => h.run pins s σ H Q I q
def JC (X : Cx) (op : CmpOp) (a b : Expr) (δ : Env') (μ : Sto) (Q : QE) : Prop := ∀ σ G H QQ, At X.K G H μ σ δ → KE X.K G H μ Q QQ → wC X op a b σ H QQ
theorem jt_c {Q : Bool → Sto → Prop} (h : JC X op a b δ μ fun d μ1 => ∃ k, d = .bl k ∧ Q k μ1) (hm : behindInMarks op b = false := by first | exact nomark _ | rfl | with_unfolding_all rfl) : JT X (.Compare a [op] [b] pos) δ μ Q :=
  fun σ G H QQ at_ k => wT_of (pt_cmp pc_w hm) (h σ G H _ at_ fun v d G' H' μ' hm fr r ⟨b, e1, q⟩ => by
    subst e1; cases r
    exact ⟨b, rfl, k b G' H' μ' hm fr q⟩)
theorem je_c {Q : QE} (h : JC X op a b δ μ Q) (hm : behindInMarks op b = false := by first | exact nomark _ | rfl | with_unfolding_all rfl) : JE X (.Compare a [op] [b] pos) δ μ Q :=
  fun σ G H QQ at_ k => wE_of (pe_cmp pc_w hm) (h σ G H QQ at_ k)
theorem pc_opP {r : R2} {ta tb : TE} (ho : OpR X (compareOp op) r) (ha : PE X a ta) (hb : PE X b tb) : PC X op a b (tOp r ta tb) :=
  ⟨fun pins s σ H Q I h => binT ha hb I h fun v u s2 x y H2 I2 rx ry q => ho pins s2 σ H2 x y v u Q I2 rx ry q⟩
theorem pc_opR {r : R2} (ho : OpR X (compareOp op) r) : PC X op a b (tOp r (wE X a) (wE X b)) :=
  ⟨fun pins s σ H Q I h => binT pe_w pe_w I h fun v u s2 x y H2 I2 rx ry q => ho pins s2 σ H2 x y v u Q I2 rx ry q⟩
theorem jc_op {r : R2} {f : Dt → Dt → Sto → QE → Prop} {Q : QE} (ho : OpR X (compareOp op) r) (hd : OpD X.K r f) (h : JE X a δ μ fun x μ1 => JE X b δ μ1 fun y μ2 => f x y μ2 Q) : JC X op a b δ μ Q := fun σ G H QQ at_ k => wC_of (pc_opR ho) <|
  h σ G H _ at_ fun v x G1 H1 μ1 hm1 f1 r1 q1 => q1 σ G1 H1 _ (at_.to hm1 f1) fun w y G2 H2 μ2 hm2 f2 r2 q2 => hd G2 H2 μ2 v w x y Q QQ hm2 (r1.mono f2.ex) r2 q2 ((k.after f1).after f2)
section
variable {Q : QE}
theorem jc_lt (h : JE X a δ μ fun x μ1 => JE X b δ μ1 fun y μ2 => ∃ i j, x = .int i ∧ y = .int j ∧ Q (.bl (decide (i < j))) μ2) : JC X .Lt a b δ μ Q := jc_op op_lt od_B0 h
theorem jc_le (h : JE X a δ μ fun x μ1 => JE X b δ μ1 fun y μ2 => ∃ i j, x = .int i ∧ y = .int j ∧ Q (.bl (decide (i ≤ j))) μ2) : JC X .LtE a b δ μ Q := jc_op op_le od_B0 h
theorem jc_gt (h : JE X a δ μ fun x μ1 => JE X b δ μ1 fun y μ2 => ∃ i j, x = .int i ∧ y = .int j ∧ Q (.bl (decide (j < i))) μ2) : JC X .Gt a b δ μ Q := jc_op op_gt od_B0 h
theorem jc_ge (h : JE X a δ μ fun x μ1 => JE X b δ μ1 fun y μ2 => ∃ i j, x = .int i ∧ y = .int j ∧ Q (.bl (decide (j ≤ i))) μ2) : JC X .GtE a b δ μ Q := jc_op op_ge od_B0 h
theorem jc_eqI (h : JE X a δ μ fun x μ1 => JE X b δ μ1 fun y μ2 => ∃ i j, x = .int i ∧ y = .int j ∧ Q (.bl (decide (i = j))) μ2) : JC X .Eq a b δ μ Q := jc_op op_eq od_eq (h.imp fun x μ1 h => h.imp fun y μ2 h => .inl h)
theorem jc_eqS (h : JE X a δ μ fun x μ1 => JE X b δ μ1 fun y μ2 => ∃ i j, x = .str i ∧ y = .str j ∧ Q (.bl (decide (i = j))) μ2) : JC X .Eq a b δ μ Q := jc_op op_eq od_eq (h.imp fun x μ1 h => h.imp fun y μ2 h => .inr h)
theorem jc_neI (h : JE X a δ μ fun x μ1 => JE X b δ μ1 fun y μ2 => ∃ i j, x = .int i ∧ y = .int j ∧ Q (.bl (!decide (i = j))) μ2) : JC X .NotEq a b δ μ Q := jc_op op_ne od_ne (h.imp fun x μ1 h => h.imp fun y μ2 h => .inl h)
theorem jc_neS (h : JE X a δ μ fun x μ1 => JE X b δ μ1 fun y μ2 => ∃ i j, x = .str i ∧ y = .str j ∧ Q (.bl (!decide (i = j))) μ2) : JC X .NotEq a b δ μ Q := jc_op op_ne od_ne (h.imp fun x μ1 h => h.imp fun y μ2 h => .inr h)
theorem jc_neV (hu : X.A.units + 64 < cLine) (h : JE X a δ μ fun x μ1 => JE X b δ μ1 fun y μ2 => ∃ x' y', DpV μ2 x x' ∧ DpV μ2 y y' ∧ Q (.bl (!PyData.eqv x'.py y'.py)) μ2) : JC X .NotEq a b δ μ Q :=
  jc_op (f := fun x y μ Q => ∃ x' y', DpV μ x x' ∧ DpV μ y y' ∧ Q (.bl (!PyData.eqv x'.py y'.py)) μ) (op_neD hu) (fun G H μ v w x y Q QQ hm rx ry ⟨x', y', s1, s2, q⟩ k =>
    ⟨_, _, s1.at_ hm rx, s2.at_ hm ry, s1.2.2, s2.2.2, k.here hm (.bl _) q⟩) h
theorem jc_eqV (hu : X.A.units + 64 < cLine) (h : JE X a δ μ fun x μ1 => JE X b δ μ1 fun y μ2 => ∃ x' y', DpV μ2 x x' ∧ DpV μ2 y y' ∧ Q (.bl (PyData.eqv x'.py y'.py)) μ2) : JC X .Eq a b δ μ Q :=
  jc_op (f := fun x y μ Q => ∃ x' y', DpV μ x x' ∧ DpV μ y y' ∧ Q (.bl (PyData.eqv x'.py y'.py)) μ) (op_eqD hu) (fun G H μ v w x y Q QQ hm rx ry ⟨x', y', s1, s2, q⟩ k =>
    ⟨_, _, s1.at_ hm rx, s2.at_ hm ry, s1.2.2, s2.2.2, k.here hm (.bl _) q⟩) h
theorem jc_inT (h : JE X a δ μ fun x μ1 => JE X b δ μ1 fun y μ2 => ∃ ds, y = .tup ds ∧ flatD x = true ∧ ds.all flatD = true ∧ Q (.bl (inV x.v (ds.map Dt.v))) μ2) : JC X .In a b δ μ Q := jc_op op_in_seq od_in h
theorem jc_wnotin {x : Str} {d : Addr} {tab : List (Str × Dt)} {p : Pos} (D : WDct X.K X.w d tab) (hg : Gl X x) (hm : X.mg x = some (.ref d)) (h : JE X a δ μ fun y μ1 => ∃ z v, y = .str z ∧ tab.lookup z = some v ∧ Q (.bl false) μ1)
    (hd : (x == ("__debug__" : Str)) = false := by decide) : JC X .NotIn a (.Name x p) δ μ Q := by
  obtain ⟨es, n, hk⟩ := D.at_
  exact fun σ G H QQ at_ k => wC_of (pc_opP (op_notIn_kd hk) pe_w (pe_glob (v := .ref d) hg hm rfl hd)) (h σ G H _ at_ fun v y G1 H1 μ1 hm1 f1 r1 ⟨z, vd, e1, hl, q⟩ => by
    subst e1; cases r1
    obtain ⟨v0, u, h1, h2, h3⟩ := D.get z vd hl
    exact ⟨z, _, rfl, rfl, h1, (k.after f1).here hm1 (.bl _) q⟩)
theorem jc_isnotB (h : JE X a δ μ fun x μ1 => JE X b δ μ1 fun y μ2 => ∃ i j, x = .bl i ∧ y = .bl j ∧ Q (.bl (!decide (i = j))) μ2) : JC X .IsNot a b δ μ Q :=
  jc_op (f := fun x y μ Q => ∃ i j, x = .bl i ∧ y = .bl j ∧ Q (.bl (!decide (i = j))) μ) op_notBl (fun G H μ v w x y Q QQ hm rx ry ⟨i, j, e1, e2, q⟩ k => by
    subst e1; subst e2; cases rx; cases ry
    exact ⟨i, j, rfl, rfl, k.here hm (.bl _) q⟩) h
theorem jc_isnotN {j : Nat} {p : Pos} (h : JE X a δ μ fun x μ1 => ∃ k, (match x with | .non => true | _ => false) = k ∧ Q (.bl (!k)) μ1) : JC X .IsNot a (.Constant .none j p) δ μ Q :=
  jc_op (f := fun x y μ Q => y = .non ∧ ∃ k, (match x with | .non => true | _ => false) = k ∧ Q (.bl (!k)) μ) op_notN (fun G H μ v w x y Q QQ hm rx ry ⟨e1, kk, e2, q⟩ k => by
    subst e1; cases ry
    refine ⟨rfl, ?_⟩
    have e3 : decide (v = V.non) = kk := by
      rw [← e2]
      cases rx <;> rfl
    rw [e3]
    exact k.here hm (.bl _) q) (h.imp fun x μ1 z => je_non ⟨rfl, z⟩)
end
/-! ### a < b < c as a test -/
theorem jt_chain {Q : Bool → Sto → Prop} {op op' : CmpOp} {g g' : Int → Int → Bool} (ho : OpR X (compareOp op) (rI0 fun i j => .bl (g i j))) (ho' : OpR X (compareOp op') (rI0 fun i j => .bl (g' i j)))
    (h : JE X a δ μ fun x μ1 => JE X b δ μ1 fun y μ2 => ∃ i j, x = .int i ∧ y = .int j ∧ (g i j = true → JE X c δ μ2 fun z μ3 => ∃ l, z = .int l ∧ Q (g' j l) μ3) ∧ (g i j = false → Q false μ2))
    (hm : lastMarks [op, op'] [b, c] = false := by with_unfolding_all rfl) : JT X (.Compare a [op, op'] [b, c] pos) δ μ Q :=
  fun σ G H QQ at_ k => wT_of (pt_chain ho ho' pe_w pe_w pe_w hm) (h σ G H _ at_ fun v x G1 H1 μ1 hm1 f1 r1 q1 => q1 σ G1 H1 _ (at_.to hm1 f1) fun w y G2 H2 μ2 hm2 f2 r2 ⟨i, j, e1, e2, q2⟩ => by
    subst e1; subst e2; cases r1; cases r2
    refine ⟨i, j, rfl, rfl, g i j, rfl, ?_⟩
    cases hg : g i j with
    | true =>
      refine iteT (q2.1 hg σ G2 H2 _ ((at_.to hm1 f1).to hm2 f2) fun u z G3 H3 μ3 hm3 f3 r3 ⟨l, e3, q3⟩ => ?_)
      subst e3; cases r3
      exact ⟨j, l, rfl, rfl, _, rfl, ((k.after f1).after f2).after f3 _ _ _ _ hm3 (Fr.refl _ _ _) q3⟩
    | false => exact iteF ⟨_, rfl, ((k.after f1).after f2) _ _ _ _ hm2 (Fr.refl _ _ _) (q2.2 hg)⟩)
theorem jt_ltlt {Q : Bool → Sto → Prop} (h : JE X a δ μ fun x μ1 => JE X b δ μ1 fun y μ2 => ∃ i j, x = .int i ∧ y = .int j ∧ (decide (i < j) = true → JE X c δ μ2 fun z μ3 => ∃ l, z = .int l ∧ Q (decide (j < l)) μ3) ∧ (decide (i < j) = false → Q false μ2))
    (hm : lastMarks [.Lt, .Lt] [b, c] = false := by with_unfolding_all rfl) : JT X (.Compare a [.Lt, .Lt] [b, c] pos) δ μ Q := jt_chain op_lt op_lt h hm
theorem jt_ltle {Q : Bool → Sto → Prop} (h : JE X a δ μ fun x μ1 => JE X b δ μ1 fun y μ2 => ∃ i j, x = .int i ∧ y = .int j ∧ (decide (i < j) = true → JE X c δ μ2 fun z μ3 => ∃ l, z = .int l ∧ Q (decide (j ≤ l)) μ3) ∧ (decide (i < j) = false → Q false μ2))
    (hm : lastMarks [.Lt, .LtE] [b, c] = false := by with_unfolding_all rfl) : JT X (.Compare a [.Lt, .LtE] [b, c] pos) δ μ Q := jt_chain op_lt op_le h hm
theorem at_nat {α : Type} {xs : List α} {i : Nat} {x : α} (h : xs[i]? = some x) : atI xs (i : Nat) = some x := by
  have hl := (List.getElem?_eq_some_iff.mp h).1
  unfold atI ixN
  rw [if_pos (by omega), if_pos (by omega)]
  exact h
theorem at0 {α : Type} {xs : List α} {x : α} : atI (x :: xs) 0 = some x := at_nat (i := 0) rfl
theorem at1 {α : Type} {xs : List α} {x y : α} : atI (x :: y :: xs) 1 = some y := at_nat (i := 1) rfl
theorem at2 {α : Type} {xs : List α} {x y z : α} : atI (x :: y :: z :: xs) 2 = some z := at_nat (i := 2) rfl
theorem Sto.le_set {μ : Sto} {c : Addr} {y : Dt} (h : μ c = none) : ∀ a x, μ a = some x → (μ.set c y) a = some x := fun a x e => by
  rw [Sto.set_ne (fun z => by rw [z, h] at e; cases e)]; exact e
/-- a statement, by what holds behind it -/
theorem jss_mid {st : Stmt} {sts : List Stmt} {D : DE} (Iv : Env' → Sto → Prop) (h : JS X st δ μ { D with nx := Iv }) (k : ∀ δ μ, Iv δ μ → JSs X sts δ μ D) : JSs X (st :: sts) δ μ D :=
  jss_cons (h.le ⟨k, fun _ _ q => q, fun _ _ q => q, fun _ _ q => q⟩)
end
end K27
end DLm_
section DLn_
/-! Calls by keyword; the law's def where nothing stands around it. -/
namespace K27
open PySem PySem.Spec PyProof.Rows L2
/-- the def x keeps its contract, by keyword too -/
def DefK (P : Program) (w : World) (K : PySem.W.Frag) (mg : Str → Option Value) (base : Heap) (k : Nat) (x p : Str) (C : Ct) : Prop :=
  ∃ f fd, FnOk P w K mg base CX0 k f fd [p] (spC K 1 C) ∧ mg x = some (.ref f) ∧ PySem.W.keepIn K (.ref f) = true ∧ Binds K fd [p] [] ∧ ∀ (s : Shared) (u : Value), BindsTo s fd ⟨[], [(p, u)]⟩ [(p, u)]
def RawK (K : PySem.W.Frag) (mg : Str → Option Value) (x : Str) (st : Stmt) (p : Str) : Prop := ∃ f fd, Fun K x x st f fd ∧ mg x = some (.ref f) ∧ Binds K fd [p] [] ∧ ∀ (s : Shared) (u : Value), BindsTo s fd ⟨[], [(p, u)]⟩ [(p, u)]
section
variable {P : Program} {w : World} {K : PySem.W.Frag} {mg : Str → Option Value} {base : Heap}
theorem RawK.raw {x p : Str} {st : Stmt} (R : RawK K mg x st p) : Raw K mg x st [p] := let ⟨f, fd, F, h1, h2, _⟩ := R; ⟨f, fd, F, h1, h2⟩
theorem DefK.def_ {k : Nat} {x p : Str} {C : Ct} (D : DefK P w K mg base k x p C) : Def P w K mg base k x [p] C := let ⟨f, fd, F, h1, h2, h3, _⟩ := D; ⟨f, fd, F, h1, h2, h3⟩
theorem def_mkK {x p : Str} {st : Stmt} {N : List Str} {k : Nat} {C : Ct} (R : RawK K mg x st p) (S : FnScope N [p] (defScope st))
    (hbody : ∀ (f : Addr) (cdv : Value) (A : Around) (outer : List Env) (s : Shared) (H : Hp) (E : XK), Room k (A.deeper (envOfC x (defScope st) s.heap.objs.size f cdv)) →
      ∀ ds μ Q, ds.length = [p].length → C ds μ Q → JSs (cx P w K mg base N x st f cdv A outer s H E) (defBody st) (envOf N ds) μ { nx := fun _ μ' => Q .non μ', rt := Q }) : DefK P w K mg base (k + 1) x p C := by
  obtain ⟨f, fd, F, hm, hb, hk⟩ := R
  exact ⟨f, fd, def_ok F S (hbody f), hm, F.kp, hb, hk⟩
/-- the binding of one keyword -/
def kwG {α : Type} : List α → List α → List α
  | [], ws => ws
  | _ :: _, _ => []
theorem kbinds_one {fd : FuncData} {p : Str} (h : ∀ (s : Shared) (u : Value), BindsTo s fd ⟨[], [(p, u)]⟩ [(p, u)]) : KBinds K fd [p] [p] kwG kwG where
  to s us ws _ hl := by
    cases us with
    | cons u us => cases hl
    | nil =>
      match ws, hl with
      | [u], _ => exact h s u
  rel {vs us zs ws} r rz := by
    cases r with
    | nil => exact rz
    | cons _ _ => exact .nil
section
variable {X : Cx} {δ : Env'} {μ : Sto} {e : Expr} {pos p kp : Pos} {nm x : Str} {Q : QE}
theorem pe_kw0 {f : Addr} {fd : FuncData} {ps ks : List Str} {sp : Sp} {k : Nat} {kws : List Keyword} {g : List Value → List Value → List Value} {gV : List V → List V → List V} {tk : TA} (F : FnOk X.prog X.w X.K X.mg X.base CX0 k f fd ps sp) (hr : Room k X.A) (hg : Gl X x) (hm : X.mg x = some (.ref f))
    (hk : PySem.W.keepIn X.K (.ref f) = true) (hb : KBinds X.K fd ps ks g gV) (hkw : PK X kws tk) (hall : (backToKw pos (keywordEach kws X.env)).all (·.1.isSome) = true) (hks : (backToKw pos (keywordEach kws X.env)).filterMap (·.1) = ks)
    (hdb : (x == ("__debug__" : Str)) = false) (hpl : ((backTo pos (starEach [] X.env)).any (·.1) || (backToKw pos (keywordEach kws X.env)).any (·.1.isNone)) = false) :
    PE X (.Call (.Name x p) [] kws pos) (fun σ H QQ => tk σ H fun zs H2 => sp (gV [] zs) H2 QQ E0) :=
  ⟨fun pins s σ H QQ I h => wpAny_Call_Name_kw (ld_glob I hg hm (PySem.W.callWith_KW0 (h₀ := X.base) I.ok.mod.kin hk hall (thn (hkw.run pos pins s σ H _ I h) fun ws s2 ⟨zs, H2, I2, rz, q2⟩ => ⟨I2.kIn, by
    rw [hks]
    exact run_fnk (us := []) (vs := []) F hr hb (pass0 (X := X)) I2 .nil rz q2⟩) hpl) hdb)⟩
theorem je_kw {k : Nat} {C : Ct} (d : DefK X.prog X.w X.K X.mg X.base k x nm C) (hr : Room k X.A) (h : JE X e δ μ fun y μ1 => C [y] μ1 Q) (hg : Gl X x := by rfl) (hall : (backToKw pos (keywordEach [⟨some nm, e, kp⟩] X.env)).all (·.1.isSome) = true := by rfl)
    (hks : (backToKw pos (keywordEach [⟨some nm, e, kp⟩] X.env)).filterMap (·.1) = [nm] := by rfl) (hdb : (x == ("__debug__" : Str)) = false := by decide)
    (hpl : ((backTo pos (starEach [] X.env)).any (·.1) || (backToKw pos (keywordEach [⟨some nm, e, kp⟩] X.env)).any (·.1.isNone)) = false := by rfl) : JE X (.Call (.Name x p) [] [⟨some nm, e, kp⟩] pos) δ μ Q := fun σ G H QQ at_ kk => by
  obtain ⟨f, fd, F, hm, hk, _, hkb⟩ := d
  have hj : JK X [⟨some nm, e, kp⟩] δ μ fun ds μ1 => ∃ y, ds = [y] ∧ C [y] μ1 Q := jk_cons (h.imp fun y μ1 q => jk_nil ⟨y, rfl, q⟩)
  refine wE_of (pe_kw0 F hr hg hm hk (kbinds_one hkb) pk_w hall hks hdb hpl) (hj σ G H _ at_ fun vs ds G1 H1 μ1 hm1 f1 r ⟨y, ey, q⟩ => ?_)
  subst ey
  obtain ⟨v, rfl, rv⟩ := r.inv1
  exact ⟨rfl, G1, μ1, [y], Q, hm1, r, q, kk.after f1⟩
end
end
end K27
end DLn_
section DZ_
/-! list(zip(..)) of two tuples: the tuples stay with the list. -/
namespace K27
open PySem PySem.Spec PyProof.Rows L2
section
variable {prog : Program} {w : World} {A : Around} {E : Value → Shared → Prop} {s : Shared} {z TI TO T i1 i2 l1 l2 : Addr} {f : Bool} {oT : Obj} {k : Nat} {xs ys : Array Value}
/-- the zip's own parts -/
structure ZipP (h : Heap) (z TI i1 i2 l1 l2 : Addr) (k : Nat) (xs ys : Array Value) : Prop where
  ti : IsPair h TI (.ref i1) (.ref i2)
  a1 : h.IsTupleIter i1 l1 k
  a2 : h.IsTupleIter i2 l2 k
  b1 : h.IsTuple l1 xs
  b2 : h.IsTuple l2 ys
/-- free as yet, or with a tuple out -/
def ZipM (h : Heap) (z TI TO i1 i2 : Addr) : Prop := (IsZip h z TI TO .none ∧ ∃ a b, IsPair h TO a b) ∨ ∃ (T : Addr) (f : Bool) (oT : Obj), IsZipHeld h z TI TO T f ∧ h.get? T = some oT ∧ T ≠ z ∧ T ≠ i1 ∧ T ≠ i2
theorem held_item {x y : Value} {Q : Value → Shared → Prop} (D : ZipApart z TI TO i1 i2 l1 l2) (hz : IsZipHeld s.heap z TI TO T f) (hT : s.heap.get? T = some oT) (P : ZipP s.heap z TI i1 i2 l1 l2 k xs ys) (hx : xs[k]? = some x) (hy : ys[k]? = some y)
    (hQ : ∀ h', IsZipHeld h' z TI TO T true → h'.IsTupleIter i1 l1 (k + 1) → h'.IsTupleIter i2 l2 (k + 1) → IsPair h' s.heap.objs.size x y → (∀ c o, c ≠ z → c ≠ i1 → c ≠ i2 → s.heap.get? c = some o → h'.get? c = some o) → Q (.ref s.heap.objs.size) { s with heap := h' }) :
    wpAny (model prog w) A (Builtin.«zip.__next__» ⟨[.ref z], []⟩) (fun fin s' => ∃ v, fin = .done (.ret v) ∧ Q v s') E s := by
  show wpAny _ _ (field (.ref z) 2 >>= _) _ _ _
  refine wpAny_bind (wpAny_field hz rfl (x := .bool false) rfl ?_)
  show wpAny _ _ (field (.ref z) 3 >>= _) _ _ _
  refine wpAny_bind (wpAny_field hz rfl (x := .ref TI) rfl ?_)
  refine wpAny_bind (wpAny_seqItems P.ti rfl ?_)
  show wpAny _ _ (Builtin.SmallTypes.ownedTupleIsFree (.ref z) >>= _) _ _ _
  refine wpAny_bind (wpAny_tupleHeld_zip hz hT fun g1 hz1 b1 => ?_)
  simp only [Bool.false_eq_true, if_false]
  refine wpAny_bind ?_
  rw [← Array.forIn_toList]
  simp only [List.forIn_cons, List.forIn_nil]
  have e1 := b1.extBut
  refine wpAny_bind (wpAny_bind (wpAny_holding ?_))
  refine wpAny_bind (RZ.nextOf_tuple_item (s := { s with heap := g1 }) (P.a1.extBut e1 D.i1z) (P.b1.extBut e1 D.l1z) hx fun g2 n1 b2 => wpAny_pure (wpAny_pure ?_))
  have e2 := b2.extBut
  refine wpAny_bind (wpAny_bind (wpAny_holding ?_))
  refine wpAny_bind (RZ.nextOf_tuple_item (s := { s with heap := g2 }) ((P.a2.extBut e1 D.i2z).extBut e2 D.i12.symm) ((P.b2.extBut e1 D.l2z).extBut e2 D.l2i1) hy fun g3 n2 b3 => wpAny_pure (wpAny_pure (wpAny_pure ?_)))
  have e3 := b3.extBut
  have hsz : g3.objs.size = s.heap.objs.size := by rw [b3.1, b2.1, b1.1]
  show wpAny _ _ (newTuple [x, y] >>= _) _ _ _
  refine wpAny_bind (wpAny_newTuple (wpAny_pure ⟨_, rfl, ?_⟩))
  have q := hQ (g3.push { cls := .type "tuple", data := .seq #[x, y] }) (Heap.get?_push_of_some _ (e3 _ _ D.i2z.symm (e2 _ _ D.i1z.symm hz1))) ((n1.extBut e3 D.i12).at fun o e => Heap.get?_push_of_some _ e) (n2.at fun o e => Heap.get?_push_of_some _ e)
    (by rw [← hsz]; exact Heap.get?_push_size _ rfl) fun c o c1 c2 c3 e => Heap.get?_push_of_some _ (e3 _ _ c3 (e2 _ _ c2 (e1 _ _ c1 e)))
  rw [← hsz] at q
  exact q
theorem held_end {Q : Fin → Shared → Prop} (hh : A.handled = none) (D : ZipApart z TI TO i1 i2 l1 l2) (hz : IsZipHeld s.heap z TI TO T f) (hT : s.heap.get? T = some oT) (P : ZipP s.heap z TI i1 i2 l1 l2 k xs ys) (hend : xs[k]? = none ∨ ys[k]? = none)
    (hE : ∀ h' e, (∀ c o, c ≠ z → c ≠ i1 → c ≠ i2 → s.heap.get? c = some o → h'.get? c = some o) → (∃ o, h'.get? e = some o ∧ o.cls = .type "StopIteration") → E (.ref e) { s with heap := h' }) :
    wpAny (model prog w) A (Builtin.«zip.__next__» ⟨[.ref z], []⟩) Q E s := by
  show wpAny _ _ (field (.ref z) 2 >>= _) _ _ _
  refine wpAny_bind (wpAny_field hz rfl (x := .bool false) rfl ?_)
  show wpAny _ _ (field (.ref z) 3 >>= _) _ _ _
  refine wpAny_bind (wpAny_field hz rfl (x := .ref TI) rfl ?_)
  refine wpAny_bind (wpAny_seqItems P.ti rfl ?_)
  show wpAny _ _ (Builtin.SmallTypes.ownedTupleIsFree (.ref z) >>= _) _ _ _
  refine wpAny_bind (wpAny_tupleHeld_zip hz hT fun g1 hz1 b1 => ?_)
  simp only [Bool.false_eq_true, if_false]
  refine wpAny_bind ?_
  rw [← Array.forIn_toList]
  simp only [List.forIn_cons, List.forIn_nil]
  have e1 := b1.extBut
  refine wpAny_bind (wpAny_bind (wpAny_holding ?_))
  rcases hx : xs[k]? with _ | x
  · exact wpAny_bind (RZ.nextOf_tuple_end (s := { s with heap := g1 }) hh (P.a1.extBut e1 D.i1z) (P.b1.extBut e1 D.l1z) hx fun g2 e b2 he => hE g2 e (fun c o c1 c2 _ q => b2 _ _ c2 (e1 _ _ c1 q)) he)
  · have hy : ys[k]? = none := hend.resolve_left (by rw [hx]; simp)
    refine wpAny_bind (RZ.nextOf_tuple_item (s := { s with heap := g1 }) (P.a1.extBut e1 D.i1z) (P.b1.extBut e1 D.l1z) hx fun g2 n1 b2 => wpAny_pure (wpAny_pure ?_))
    have e2 := b2.extBut
    refine wpAny_bind (wpAny_bind (wpAny_holding ?_))
    exact wpAny_bind (RZ.nextOf_tuple_end (s := { s with heap := g2 }) hh ((P.a2.extBut e1 D.i2z).extBut e2 D.i12.symm) ((P.b2.extBut e1 D.l2z).extBut e2 D.l2i1) hy fun g3 e b3 he => hE g3 e (fun c o c1 c2 c3 q => b3 _ _ c3 (e2 _ _ c2 (e1 _ _ c1 q))) he)
/-- the next pair, whatever the zip's state -/
theorem zipM_item {x y : Value} {Q : Option Value → Shared → Prop} (D : ZipApart z TI TO i1 i2 l1 l2) (M : ZipM s.heap z TI TO i1 i2) (P : ZipP s.heap z TI i1 i2 l1 l2 k xs ys) (hx : xs[k]? = some x) (hy : ys[k]? = some y)
    (hQ : ∀ h', ZipM h' z TI TO i1 i2 → ZipP h' z TI i1 i2 l1 l2 (k + 1) xs ys → IsPair h' s.heap.objs.size x y → (∀ c o, c ≠ z → c ≠ TO → c ≠ i1 → c ≠ i2 → s.heap.get? c = some o → h'.get? c = some o) → Q (some (.ref s.heap.objs.size)) { s with heap := h' }) :
    wpAny (model prog w) A (pyNext (.ref z)) Q E s := by
  have lt : ∀ {c o}, s.heap.get? c = some o → s.heap.objs.size ≠ c := fun e => Nat.ne_of_gt (Heap.lt_size e)
  have n1 : s.heap.objs.size ≠ i1 := let ⟨_, e, _⟩ := P.a1; lt e
  have n2 : s.heap.objs.size ≠ i2 := let ⟨_, e, _⟩ := P.a2; lt e
  rcases M with ⟨hz, a, b, hTO⟩ | ⟨T, f, oT, hz, hT, r1, r2, r3⟩
  · refine RZ.pyNext_zipT_item D hz P.ti hTO P.a1 P.a2 P.b1 P.b2 hx hy fun h' q1 q2 q3 q4 q5 q6 hk => ?_
    exact hQ h' (.inr ⟨_, false, _, q1, q5, lt hz, n1, n2⟩) ⟨hk _ _ D.TIz D.TITO D.TIi1 D.TIi2 P.ti, q3, q4, let ⟨o, ho, r⟩ := P.b1; ⟨o, hk _ o D.l1z D.l1TO D.l1i1 D.l1i2 ho, r⟩, let ⟨o, ho, r⟩ := P.b2; ⟨o, hk _ o D.l2z D.l2TO D.l2i1 D.l2i2 ho, r⟩⟩ q5 hk
  · have hTy : s.TypeIs (.ref z) "zip" := ⟨_, hz, rfl⟩
    unfold pyNext
    refine wpAny_bind (wpAny_attempt (wpAny_callSpecial?_slot (name := Str.ofString "__next__") hTy F.slot_zip_next (wpAny_call_entry F.slot_zip_next hTy F.entry_zip_next
      (held_item D hz hT P hx hy fun h' q1 q3 q4 q5 hk => wpAny_pure ?_) (F.args_zip_next_1 _))))
    exact hQ h' (.inr ⟨T, true, oT, q1, hk _ _ r1 r2 r3 hT, r1, r2, r3⟩) ⟨hk _ _ D.TIz D.TIi1 D.TIi2 P.ti, q3, q4, let ⟨o, ho, r⟩ := P.b1; ⟨o, hk _ o D.l1z D.l1i1 D.l1i2 ho, r⟩, let ⟨o, ho, r⟩ := P.b2; ⟨o, hk _ o D.l2z D.l2i1 D.l2i2 ho, r⟩⟩ q5
      fun c o c1 _ c2 c3 e => hk c o c1 c2 c3 e
theorem zipM_end {Q : Option Value → Shared → Prop} (hh : A.handled = none) (D : ZipApart z TI TO i1 i2 l1 l2) (M : ZipM s.heap z TI TO i1 i2) (P : ZipP s.heap z TI i1 i2 l1 l2 k xs ys) (hend : xs[k]? = none ∨ ys[k]? = none)
    (hQ : ∀ h', (∀ c o, c ≠ z → c ≠ TO → c ≠ i1 → c ≠ i2 → s.heap.get? c = some o → h'.get? c = some o) → Q none { s with heap := h' }) : wpAny (model prog w) A (pyNext (.ref z)) Q E s := by
  rcases M with ⟨hz, a, b, hTO⟩ | ⟨T, f, oT, hz, hT, r1, r2, r3⟩
  · exact RZ.pyNext_zipT_end hh D hz P.ti hTO P.a1 P.a2 P.b1 P.b2 hend hQ
  · have hTy : s.TypeIs (.ref z) "zip" := ⟨_, hz, rfl⟩
    unfold pyNext
    refine wpAny_bind (wpAny_attempt (wpAny_callSpecial?_slot (name := Str.ofString "__next__") hTy F.slot_zip_next (wpAny_call_entry F.slot_zip_next hTy F.entry_zip_next
      (held_end hh D hz hT P hend fun h' e hk ⟨o, ho, hc⟩ => ?_) (F.args_zip_next_1 _))))
    exact wpAny_bind (wpAny_isInstance (T := "StopIteration") (b := true) ⟨o, ho, hc⟩ isSubtype_stop (wpAny_pure (hQ _ fun c o c1 _ c2 c3 e => hk c o c1 c2 c3 e)))
end
end K27
end DZ_
section DY_
/-! list(zip(..)) of two tuples: the walk of the built-in. -/
namespace K27
open PySem PySem.Spec PyProof.Rows L2
section
variable {prog : Program} {w : World} {A : Around} {E : Value → Shared → Prop} {s : Shared} {z TI TO i1 i2 l1 l2 S : Addr} {k N n : Nat} {xs ys : Array Value} {res : Value}
theorem ne_lo {a b N : Nat} (h : a < N) (h' : N ≤ b) : b ≠ a := Nat.ne_of_gt (Nat.lt_of_lt_of_le h h')
theorem ZipM.moved {h h' : Heap} (M : ZipM h z TI TO i1 i2) (q : ∀ c o, c ≠ S → h.get? c = some o → h'.get? c = some o) (e : ∃ o, h'.get? S = some o) (n1 : z ≠ S) (n2 : TO ≠ S) : ZipM h' z TI TO i1 i2 := by
  rcases M with ⟨m1, a, b, m2⟩ | ⟨T, f, oT, m1, m2, r⟩
  · exact .inl ⟨q _ _ n1 m1, a, b, q _ _ n2 m2⟩
  · by_cases hT : T = S
    · obtain ⟨o, e⟩ := e
      exact .inr ⟨T, f, o, q _ _ n1 m1, by rw [hT]; exact e, r⟩
    · exact .inr ⟨T, f, oT, q _ _ n1 m1, q _ _ hT m2, r⟩
theorem ZipP.moved {h h' : Heap} (P : ZipP h z TI i1 i2 l1 l2 k xs ys) (q : ∀ c o, c ≠ S → h.get? c = some o → h'.get? c = some o) (n1 : TI ≠ S) (n2 : i1 ≠ S) (n3 : i2 ≠ S) (n4 : l1 ≠ S) (n5 : l2 ≠ S) : ZipP h' z TI i1 i2 l1 l2 k xs ys :=
  ⟨q _ _ n1 P.ti, P.a1.at fun o e => q _ o n2 e, P.a2.at fun o e => q _ o n3 e, let ⟨o, e, r⟩ := P.b1; ⟨o, q _ o n4 e, r⟩, let ⟨o, e, r⟩ := P.b2; ⟨o, q _ o n5 e, r⟩⟩
/-- the pairs made so far -/
def Prs (h : Heap) (N : Nat) (xs ys : Array Value) (Ts : List Addr) : Prop := Ts.Nodup ∧ ∀ (j : Nat) (T : Addr), Ts[j]? = some T → N ≤ T ∧ ∃ x y, xs[j]? = some x ∧ ys[j]? = some y ∧ IsPair h T x y
abbrev addrs (Ts : List Addr) : Array Value := (Ts.map Value.ref).toArray
theorem Prs.moved {h h' : Heap} {Ts : List Addr} (p : Prs h N xs ys Ts) (q : ∀ c o, N ≤ c → h.get? c = some o → h'.get? c = some o) : Prs h' N xs ys Ts :=
  ⟨p.1, fun j T e => let ⟨a, x, y, b, c, d⟩ := p.2 j T e; ⟨a, x, y, b, c, q _ _ a d⟩⟩
theorem Prs.more {h h' : Heap} {Ts : List Addr} {T : Addr} {x y : Value} (p : Prs h N xs ys Ts) (q : ∀ c o, N ≤ c → h.get? c = some o → h'.get? c = some o) (hT : h.objs.size ≤ T) (hN : N ≤ T) (hx : xs[Ts.length]? = some x) (hy : ys[Ts.length]? = some y) (e : IsPair h' T x y) : Prs h' N xs ys (Ts ++ [T]) := by
  refine ⟨List.nodup_append.mpr ⟨p.1, by simp, fun a ha b hb hab => ?_⟩, fun j U hj => ?_⟩
  · rw [List.mem_singleton] at hb
    subst hb; subst hab
    obtain ⟨j, hj⟩ := List.mem_iff_getElem?.mp ha
    obtain ⟨_, _, _, _, _, r⟩ := p.2 j _ hj
    exact Nat.lt_irrefl _ (Nat.lt_of_lt_of_le (Heap.lt_size r) hT)
  · rw [List.getElem?_append] at hj
    split at hj
    · obtain ⟨a, u, v, b, c, d⟩ := p.2 j U hj
      exact ⟨a, u, v, b, c, q _ _ a d⟩
    · rename_i hlt
      rw [List.getElem?_singleton] at hj
      split at hj
      · cases hj
        have : j = Ts.length := by omega
        subst this
        exact ⟨hN, x, y, hx, hy, e⟩
      · cases hj
/-- the loop of extend over a zip -/
theorem zip_loop {R : Result → Shared → Prop} (hh : A.handled = none) (D : ZipApart z TI TO i1 i2 l1 l2) (hn : min xs.size ys.size ≤ sizeLine) (a0 : z ≠ S) (a1 : TO ≠ S) (a2 : TI ≠ S) (a3 : i1 ≠ S) (a4 : i2 ≠ S) (a5 : l1 ≠ S) (a6 : l2 ≠ S) (b0 : z < N) (b1 : TO < N) (b2 : i1 < N) (b3 : i2 < N) (b4 : S < N) :
    ∀ (m : Nat) (Ts : List Addr) (s : Shared) (c : Nat), min xs.size ys.size - Ts.length = m → Ts.length ≤ min xs.size ys.size → ZipM s.heap z TI TO i1 i2 → ZipP s.heap z TI i1 i2 l1 l2 Ts.length xs ys → N ≤ s.heap.objs.size →
      s.heap.get? S = some { cls := .type "list", dict := none, data := .seq (addrs Ts) c, slots := #[] } → Prs s.heap N xs ys Ts →
      (∀ h' Us c', h'.get? S = some { cls := .type "list", dict := none, data := .seq (addrs Us) c', slots := #[] } → Us.length = min xs.size ys.size → Prs h' N xs ys Us →
        (∀ c o, c ≠ S → c ≠ z → c ≠ TO → c ≠ i1 → c ≠ i2 → s.heap.get? c = some o → h'.get? c = some o) → R (.ok (.ret res)) { s with heap := h' }) →
      codeAny (model prog w) A (.builtin "list.extend.loop" ⟨[.ref S, .ref z, res], []⟩) R s := by
  intro m
  induction m with
  | zero =>
    intro Ts s c hm hle M P hN hS hp hR
    refine codeAny_builtin F.entry_extend_loop ?_
    rw [Around.under_plainId F.plain_extend_loop _]
    show wpAny _ A.in1 (pyNext (.ref z) >>= _) _ _ s
    refine wpAny_bind (zipM_end hh D M P ?_ fun h' q => ?_)
    · rcases Nat.le_total xs.size ys.size with h | h
      · exact .inl (Array.getElem?_eq_none (by omega))
      · exact .inr (Array.getElem?_eq_none (by omega))
    · have hne : ∀ c o, N ≤ c → s.heap.get? c = some o → h'.get? c = some o := fun c o hc e => q c o (ne_lo b0 hc) (ne_lo b1 hc) (ne_lo b2 hc) (ne_lo b3 hc) e
      exact wpAny_pure (hR h' Ts c (q _ _ a0.symm a1.symm a3.symm a4.symm hS) (by omega) (hp.moved hne) fun c o _ c1 c2 c3 c4 e => q c o c1 c2 c3 c4 e)
  | succ m ih =>
    intro Ts s c hm hle M P hN hS hp hR
    obtain ⟨x, hx⟩ : ∃ x, xs[Ts.length]? = some x := ⟨_, Array.getElem?_eq_getElem (by omega)⟩
    obtain ⟨y, hy⟩ : ∃ y, ys[Ts.length]? = some y := ⟨_, Array.getElem?_eq_getElem (by omega)⟩
    refine codeAny_builtin F.entry_extend_loop ?_
    rw [Around.under_plainId F.plain_extend_loop _]
    show wpAny _ A.in1 (pyNext (.ref z) >>= _) _ _ s
    refine wpAny_bind (zipM_item D M P hx hy fun h' M' P' hT q => ?_)
    have hS' := q _ _ a0.symm a1.symm a3.symm a4.symm hS
    show wpAny _ A.in1 (updateSeq S (·.push (.ref s.heap.objs.size)) >>= _) _ _ _
    refine wpAny_bind (wpAny_updateSeq hS' rfl (wpAny_pure ⟨plainId_quiet F.plain_extend_loop _, ?_⟩) (by simp; omega) (by simp; omega))
    have hS2 := Heap.get?_update_self (Obj.mapSeq (·.push (Value.ref s.heap.objs.size))) hS' rfl
    have oth : ∀ b o, b ≠ S → h'.get? b = some o → (h'.update S (Obj.mapSeq (·.push (Value.ref s.heap.objs.size)))).get? b = some o := fun b o hb e => (Heap.get?_update_other _ _ (Ne.symm hb)).trans e
    have hTS : s.heap.objs.size ≠ S := Nat.ne_of_gt (Heap.lt_size hS)
    have hT2 := oth _ _ hTS hT
    refine ih (Ts ++ [s.heap.objs.size]) _ (c := _) (by rw [List.length_append]; simp; omega) (by rw [List.length_append]; simp; omega) (M'.moved oth ⟨_, hS2⟩ a0 a1) (by rw [List.length_append]; exact P'.moved oth a2 a3 a4 a5 a6)
      (Nat.le_of_lt (Nat.lt_of_le_of_lt hN (Heap.lt_size hT2))) (by rw [show addrs (Ts ++ [s.heap.objs.size]) = (addrs Ts).push (.ref s.heap.objs.size) by simp [addrs]]; exact hS2)
      (hp.more (fun c o hc e => oth c o (ne_lo b4 hc) (q c o (ne_lo b0 hc) (ne_lo b1 hc) (ne_lo b2 hc) (ne_lo b3 hc) e)) (Nat.le_refl _) hN hx hy hT2) fun h2 Us c' e1 e2 e3 e4 => ?_
    exact hR h2 Us c' e1 e2 e3 fun c o c0 c1 c2 c3 c4 e => e4 c o c0 c1 c2 c3 c4 (oth c o c0 (q c o c1 c2 c3 c4 e))
theorem zip_no_len : typeLookup (.type "zip") "__len__" = pure none := by rw [typeLookup_type, builtinLookup_eq_fast]; kernel_rfl
theorem zip_no_hint : typeLookup (.type "zip") "__length_hint__" = pure none := by rw [typeLookup_type, builtinLookup_eq_fast]; kernel_rfl
theorem zip_extend {R : Result → Shared → Prop} {a b : Value} {c : Nat} (hh : A.handled = none) (D : ZipApart z TI TO i1 i2 l1 l2) (hn : min xs.size ys.size ≤ sizeLine) (hz : IsZip s.heap z TI TO .none) (hTO : IsPair s.heap TO a b) (P : ZipP s.heap z TI i1 i2 l1 l2 0 xs ys)
    (a0 : z ≠ S) (a1 : TO ≠ S) (a2 : TI ≠ S) (a3 : i1 ≠ S) (a4 : i2 ≠ S) (a5 : l1 ≠ S) (a6 : l2 ≠ S) (hS : s.heap.get? S = some { cls := .type "list", data := .seq #[] c })
    (hR : ∀ h' Us c', h'.get? S = some { cls := .type "list", dict := none, data := .seq (addrs Us) c', slots := #[] } → Us.length = min xs.size ys.size → Prs h' s.heap.objs.size xs ys Us →
        (∀ c o, c ≠ S → c ≠ z → c ≠ TO → c ≠ i1 → c ≠ i2 → s.heap.get? c = some o → h'.get? c = some o) → R (.ok (.ret res)) { s with heap := h' }) :
    wpAny (model prog w) A.in1 (Builtin.List.listExtendWith (.ref S) (.ref z) res)
      (fun fin s' => match fin with | .done f => R (.ok f) s' | .again c' => c'.quiet = true ∧ codeAny (model prog w) A c' R s') (fun e s' => R (.error e) s') s := by
  have hTy : s.TypeIs (.ref z) "zip" := ⟨_, hz, rfl⟩
  unfold Builtin.List.listExtendWith
  refine wpAny_bind (wpAny_typeOf (T := "zip") hTy ?_)
  have h1 : Builtin.List.listSameRef (.ref S) (.ref z) = false := by simp [Builtin.List.listSameRef, a0.symm]
  have h2 : (Value.type "zip" == Value.type "list") = false := by decide
  have h3 : (Value.type "zip" == Value.type "tuple") = false := by decide
  simp only [h1, h2, h3, Bool.or_false, Bool.false_eq_true, if_false]
  refine wpAny_bind (wpAny_pyIter_zip hz ?_)
  refine wpAny_bind (wpAny_holding ?_)
  unfold Builtin.List.listLengthHint
  refine wpAny_bind (wpAny_specialOf hTy zip_no_len ?_)
  show wpAny _ A.in1 (specialOf (Value.ref z) (Str.ofString "__length_hint__") >>= _) _ _ _
  refine wpAny_bind (wpAny_specialOf hTy zip_no_hint ?_)
  refine wpAny_pure ?_
  show wpAny _ A.in1 (rule "list.extend.makes-room" >>= fun _ => Builtin.List.listTouch (.ref S) >>= fun _ =>
    again (.builtin "list.extend.loop" ⟨[.ref S, .ref z, res], []⟩)) _ _ _
  refine wpAny_bind (wpAny_rule ?_)
  refine wpAny_bind ?_
  show wpAny _ A.in1 (updateSeq S (·.push .none) >>= fun _ => updateSeq S (·.pop)) _ _ _
  refine wpAny_bind (wpAny_updateSeq hS rfl ?_)
  have hS₂ := Heap.get?_update_self (Obj.mapSeq (·.push Value.none)) hS rfl
  refine wpAny_updateSeq (hz := by seq_fits) hS₂ rfl ?_
  have hS₃ := Heap.get?_update_self (Obj.mapSeq (·.pop)) hS₂ rfl
  have oth : ∀ b o, b ≠ S → s.heap.get? b = some o → ((s.heap.update S (Obj.mapSeq (·.push Value.none))).update S (Obj.mapSeq (·.pop))).get? b = some o := fun b o hb e =>
    (Heap.get?_update_other _ _ (Ne.symm hb)).trans ((Heap.get?_update_other _ _ (Ne.symm hb)).trans e)
  have hsz : ((s.heap.update S (Obj.mapSeq (·.push Value.none))).update S (Obj.mapSeq (·.pop))).objs.size = s.heap.objs.size := by rw [Heap.size_update, Heap.size_update]
  have lt : ∀ {c o}, s.heap.get? c = some o → c < s.heap.objs.size := fun e => Heap.lt_size e
  refine wpAny_pure ⟨plainId_quiet F.plain_extend_loop _, zip_loop (N := s.heap.objs.size) hh D hn a0 a1 a2 a3 a4 a5 a6 (lt hz) (lt hTO) (let ⟨_, e, _⟩ := P.a1; lt e) (let ⟨_, e, _⟩ := P.a2; lt e) (lt hS) _ [] _ _ rfl (Nat.zero_le _)
    (.inl ⟨oth _ _ a0 hz, _, _, oth _ _ a1 hTO⟩) (P.moved oth a2 a3 a4 a5 a6) (Nat.le_of_eq hsz.symm) hS₃ ⟨List.nodup_nil, fun j T e => by simp at e⟩ fun h' Us c' e1 e2 e3 e4 => ?_⟩
  exact hR h' Us c' e1 e2 e3 fun c o c0 c1 c2 c3 c4 e => e4 c o c0 c1 c2 c3 c4 (oth c o c0 e)
theorem list_zip {Q : Value → Shared → Prop} {a b : Value} (hh : A.handled = none) (D : ZipApart z TI TO i1 i2 l1 l2) (hn : min xs.size ys.size ≤ sizeLine) (hz : IsZip s.heap z TI TO .none) (hTO : IsPair s.heap TO a b) (P : ZipP s.heap z TI i1 i2 l1 l2 0 xs ys)
    (hQ : ∀ h' Us c', h'.get? s.heap.objs.size = some { cls := .type "list", dict := none, data := .seq (addrs Us) c', slots := #[] } → Us.length = min xs.size ys.size → Prs h' (s.heap.objs.size + 1) xs ys Us →
        (∀ c o, c ≠ z → c ≠ TO → c ≠ i1 → c ≠ i2 → s.heap.get? c = some o → h'.get? c = some o) → Q (.ref s.heap.objs.size) { s with heap := h' }) :
    wpAny (model prog w) A (call (.type "list") [.ref z]) Q E s := by
  refine callType_codes (Q₁ := fun obj s₁ => obj = .ref s.heap.objs.size ∧ s₁ = { s with heap := s.heap.push { cls := .type "list", data := .seq #[] } }) PySem.F.called_list (PySem.F.typeCall_list_1 _) PySem.F.entry_list_init
    (code_list_new _ ⟨rfl, rfl⟩) fun obj s₁ h₁ => ?_
  obtain ⟨rfl, rfl⟩ := h₁
  have hS : (s.heap.push { cls := .type "list", data := .seq #[] }).get? s.heap.objs.size = some { cls := .type "list", data := .seq #[] } := Heap.get?_push_size _ rfl
  refine ⟨⟨_, hS, rfl⟩, PySem.F.args_list_init_2 _ _, ?_⟩
  have lt : ∀ {c o}, s.heap.get? c = some o → c ≠ s.heap.objs.size := fun e => Nat.ne_of_lt (Heap.lt_size e)
  have a0 := lt hz
  have a1 := lt hTO
  have a2 := lt P.ti
  have a3 : i1 ≠ s.heap.objs.size := let ⟨_, e, _⟩ := P.a1; lt e
  have a4 : i2 ≠ s.heap.objs.size := let ⟨_, e, _⟩ := P.a2; lt e
  have a5 : l1 ≠ s.heap.objs.size := let ⟨_, e, _⟩ := P.b1; lt e
  have a6 : l2 ≠ s.heap.objs.size := let ⟨_, e, _⟩ := P.b2; lt e
  generalize hS0 : s.heap.objs.size = S at *
  show wpAny _ _ (do let old ← Builtin.List.listItems (.ref S); Builtin.List.listUpdate (.ref S) (fun _ => #[]); letGo old.toList.reverse; Builtin.List.listExtendWith (.ref S) (.ref z) .none) _ _ _
  refine wpAny_bind ?_
  unfold Builtin.List.listItems
  refine wpAny_bind (wpAny_seqItems hS rfl (wpAny_pure ?_))
  show wpAny _ _ (updateSeq S (fun _ => #[]) >>= fun _ => letGo (#[] : Array Value).toList.reverse >>= fun _ => Builtin.List.listExtendWith (.ref S) (.ref z) .none) _ _ _
  refine wpAny_bind (wpAny_updateSeq hS rfl ?_)
  have hS₂ := Heap.get?_update_self (Obj.mapSeq (fun _ => (#[] : Array Value))) hS rfl
  have oth : ∀ b o, b ≠ S → s.heap.get? b = some o → ((s.heap.push { cls := .type "list", data := .seq #[] }).update S (Obj.mapSeq (fun _ => (#[] : Array Value)))).get? b = some o :=
    fun b o hb e => (Heap.get?_update_other _ _ (Ne.symm hb)).trans (Heap.get?_push_of_some _ e)
  refine wpAny_bind (wpAny_letGo ?_)
  have hsz : ((s.heap.push { cls := .type "list", data := .seq #[] }).update S (Obj.mapSeq (fun _ => (#[] : Array Value)))).objs.size = S + 1 := by rw [Heap.size_update, Heap.size_push, hS0]
  refine zip_extend (A := A.in1) hh D hn (oth _ _ a0 hz) (oth _ _ a1 hTO) (P.moved oth a2 a3 a4 a5 a6) a0 a1 a2 a3 a4 a5 a6 hS₂ fun h' Us c' e1 e2 e3 e4 => ?_
  rw [hsz] at e3
  exact ⟨rfl, hQ h' Us c' e1 e2 e3 fun c o c1 c2 c3 c4 e => e4 c o (by rw [← hS0]; exact Nat.ne_of_lt (Heap.lt_size e)) c1 c2 c3 c4 (oth c o (by rw [← hS0]; exact Nat.ne_of_lt (Heap.lt_size e)) e)⟩
end
end K27
end DY_
section DX_
/-! list(zip(..)) of two tuples: the rule over data. -/
namespace K27
open PySem PySem.Spec PyProof.Rows L2
section
variable {X : Cx} {pins : List (Addr × Obj)} {σ : L2.St} {G H : Hp} {μ : Sto} {s : Shared} {h' : Heap}
/-- a pair in the heap, what it stands for -/
def PrD (K : PySem.W.Frag) (h' : Heap) (G : Hp) (T : Addr) (d : Dt) : Prop := ∃ (x y : Value) (v w : V) (a b : Dt), IsPair h' T x y ∧ RelV v x ∧ RelV w y ∧ Rep K G v a ∧ Rep K G w b ∧ d = .tup [a, b]
/-- one object more is seen -/
theorem lay_one {G0 : Heap} {a : Addr} {o : HO} (I : Inv X pins σ H { s with heap := G0 }) (e : ∀ b u, G0.get? b = some u → h'.get? b = some u) (hp : G0.get? a = none) (hn : H a = none)
    (new : ∀ g : Heap, (∀ u, h'.get? a = some u → g.get? a = some u) → ObjOk X.prog X.w (upd H a o) g a o) :
    ∃ G1, Inv X pins σ (upd H a o) { s with heap := G1 } ∧ (∀ b u, G1.get? b = some u → h'.get? b = some u) ∧ ∀ b, b ≠ a → G0.get? b = none → G1.get? b = none := by
  obtain ⟨G1, g1, g2⟩ := L2.restrict h' fun b => (G0.get? b).isSome || decide (b = a)
  have up : ∀ b u, G0.get? b = some u → G1.get? b = some u := fun b u q => by
    rw [g1 b (by rw [q]; rfl)]; exact e b u q
  refine ⟨G1, I.laidN (s := { s with heap := G0 }) (h' := G1) (t' := s.toks) up hp hn (new G1 fun u q => ?_), fun b u q => ?_, fun b hb q => g2 b (by rw [q]; simp [hb])⟩
  · rw [g1 a (by simp)]; exact q
  · cases hc : ((G0.get? b).isSome || decide (b = a)) with
    | true => rw [← g1 b hc]; exact q
    | false => rw [g2 b hc] at q; cases q
theorem lay_all : ∀ (Ts : List Addr) (ds : List Dt) (G H : Hp) (G0 : Heap), Inv X pins σ H { s with heap := G0 } → (∀ b u, G0.get? b = some u → h'.get? b = some u) → Hm X.K G H μ → Ts.Nodup → (∀ T ∈ Ts, G0.get? T = none ∧ H T = none) → ds.length = Ts.length →
    (∀ (j : Nat) (T : Addr) (d : Dt), Ts[j]? = some T → ds[j]? = some d → PrD X.K h' G T d) →
    ∃ G' H' G1, Inv X pins σ H' { s with heap := G1 } ∧ (∀ b u, G1.get? b = some u → h'.get? b = some u) ∧ Hm X.K G' H' μ ∧ Fr G H μ G' H' μ ∧ RepAll X.K G' (Ts.map V.ref) ds ∧ ∀ b, b ∉ Ts → G0.get? b = none → H b = none → G1.get? b = none ∧ H' b = none
  | [], [], G, H, G0, I, e, hm, _, _, _, _ => ⟨G, H, G0, I, e, hm, Fr.refl _ _ _, .nil, fun b _ p q => ⟨p, q⟩⟩
  | [], _ :: _, _, _, _, _, _, _, _, _, hl, _ => by simp at hl
  | _ :: _, [], _, _, _, _, _, _, _, _, hl, _ => by simp at hl
  | T :: Ts, d :: ds, G, H, G0, I, e, hm, nd, hT, hl, hp => by
    obtain ⟨nd1, nd2⟩ := List.nodup_cons.mp nd
    obtain ⟨x, y, v, w, a, b, e1, rv, rw_, ra, rb, e2⟩ := hp 0 T d rfl rfl
    obtain ⟨t1, t2⟩ := hT T List.mem_cons_self
    obtain ⟨G1, I1, k1, k2⟩ := lay_one (h' := h') (o := .tup [v, w]) I e t1 t2 fun g q => ⟨by show 2 ≤ sizeLine; decide, [x, y], .cons rv (.cons rw_ .nil), ⟨_, q _ e1, rfl, _, rfl⟩⟩
    obtain ⟨z1, z2⟩ := hm.new (o := .tup [v, w]) t2
    have ne : ∀ U ∈ Ts, U ≠ T := fun U hU h => nd1 (h ▸ hU)
    obtain ⟨G', H', G2, I2, m1, m2, m3, m4, m5⟩ := lay_all Ts ds _ _ G1 I1 k1 z1 nd2 (fun U hU => ⟨k2 U (ne U hU) (hT U (List.mem_cons_of_mem _ hU)).1, by rw [upd_ne (ne U hU)]; exact (hT U (List.mem_cons_of_mem _ hU)).2⟩) (by simpa using hl)
      fun j U c h1 h2 => by
        obtain ⟨x, y, v, w, a, b, q1, q2, q3, q4, q5, q6⟩ := hp (j + 1) U c (by simpa using h1) (by simpa using h2)
        exact ⟨x, y, v, w, a, b, q1, q2, q3, q4.mono z2.ex, q5.mono z2.ex, q6⟩
    have rT : Rep X.K (upd G T (.tup [v, w])) (.ref T) d := by rw [e2]; exact .tup (sqt_of upd_same) (.cons (ra.mono z2.ex) (.cons (rb.mono z2.ex) .nil))
    refine ⟨G', H', G2, I2, m1, m2, z2.trans m3, .cons (rT.mono m3.ex) m4, fun b hb p q => ?_⟩
    have hbT : b ≠ T := fun h => hb (h ▸ List.mem_cons_self)
    exact m5 b (fun h => hb (List.mem_cons_of_mem _ h)) (k2 b hbT p) (by rw [upd_ne hbT]; exact q)
theorem ne_lo' {a b : Nat} (h : a < b) : a ≠ b := Nat.ne_of_lt h
theorem vals_addrs : ∀ Ts : List Addr, Vals (Ts.map V.ref) (Ts.map Value.ref)
  | [] => .nil
  | _ :: Ts => .cons rfl (vals_addrs Ts)
end
section
variable {X : Cx} {e a b : Expr} {es : List Expr} {δ : Env'} {μ : Sto} {pos p p2 pos2 : Pos} {Q : QE}
theorem je_listZip (hg : Gl X "list") (hm : X.mg "list" = none) (hg2 : Gl X "zip") (hm2 : X.mg "zip" = none) (hc : X.calm = true)
    (h : JA X [a, b] δ μ fun vs μ1 => ∃ d e xs ys, vs = [d, e] ∧ TupV d xs ∧ TupV e ys ∧ Q (.lst (zipD xs ys)) μ1)
    (hs0 : starEach [Expr.Call (.Name "zip" p2) [a, b] [] pos2] X.env = (false, eval (.Call (.Name "zip" p2) [a, b] [] pos2) X.env) :: starEach [] X.env := by rfl)
    (hs : starEach [a, b] X.env = (false, eval a X.env) :: starEach [b] X.env := by rfl) (hpl : (backTo pos2 (starEach [b] X.env)).any (·.1) = false := by rfl) :
    JE X (.Call (.Name "list" p) [.Call (.Name "zip" p2) [a, b] [] pos2] [] pos) δ μ Q := by
  intro σ G H QQ at_ k pins s I
  refine Call_ (ld_blt I hg hm boot_list (PyProof.Rows.callWith_type1 (args_cons ?_ hs0) hs0))
  let M : List V → Hp → Prop := fun vs H1 => ∃ (c c' : Addr) (us ws : List V) (xs ys : List Dt) (G1 : Hp) (μ1 : Sto), vs = [.ref c, .ref c'] ∧ SqT X.K H1 c us ∧ SqT X.K H1 c' ws ∧ Hm X.K G1 H1 μ1 ∧ RepAll X.K G1 us xs ∧ RepAll X.K G1 ws ys ∧ KE X.K G1 H1 μ1 Q QQ ∧ Q (.lst (zipD xs ys)) μ1
  refine Call_ (ld_blt I hg2 hm2 PyProof.Rows.boot_zip (PyProof.Rows.callWith_type1 (thn (h σ G H M at_ (fun vs ds G1 H1 μ1 hm1 f r q => ?_) pos2 pins s I) ?_) hs hpl))
  · obtain ⟨d, d', xs, ys, e1, t1, t2, q⟩ := q
    subst e1
    obtain ⟨v, w, rfl, r1, r2⟩ := r.inv2
    cases t1.at_ r1 with
    | tup h1 r1 =>
      cases t2.at_ r2 with
      | tup h2 r2 => exact ⟨_, _, _, _, xs, ys, G1, μ1, rfl, hm1.ex.sqt h1, hm1.ex.sqt h2, hm1, r1, r2, k.after f, q⟩
  · rintro vs s1 ⟨vs', H1, I1, rv, c, c', us, ws, xs, ys, G1, μ1, rfl, q1, q2, hm1, r1, r2, k1, q⟩
    obtain ⟨v1, v2, rfl, rfl, rfl⟩ := vals2 rv
    obtain ⟨its, iv, p1, lim⟩ := I1.tuple q1
    obtain ⟨its2, iv2, p2, _⟩ := I1.tuple q2
    obtain ⟨o1, ho1, _⟩ := id p1
    obtain ⟨o2, ho2, _⟩ := id p2
    have D := PySem.W.ktu_apart s1.heap.objs.size c c' (Heap.lt_size ho1) (Heap.lt_size ho2)
    refine RZ.call_zipT (show s1.heap.IsTuple c its.toArray from p1) (show s1.heap.IsTuple c' its2.toArray from p2) fun h1 hz hTI hTO z1 z2 hsz hk => args_nil ?_
    have hmin : min its.toArray.size its2.toArray.size ≤ sizeLine := by
      have := iv.length
      simp; omega
    refine list_zip (s := { s1 with heap := h1 }) (I1.ok.hd hc) D hmin hz hTO ⟨hTI, z1, z2, ?_, ?_⟩ fun h2 Us c2 e1 e2 e3 e4 => ?_
    · exact ⟨o1, hk _ _ ho1, by assumption⟩
    · exact ⟨o2, hk _ _ ho2, by assumption⟩
    · have up : ∀ b o, s1.heap.get? b = some o → h2.get? b = some o := fun b o e => by
        have hb := Heap.lt_size e
        exact e4 b o (ne_lo' (Nat.lt_add_right 4 hb)) (ne_lo' (Nat.lt_add_right 3 hb)) (ne_lo' hb) (ne_lo' (Nat.lt_add_right 1 hb)) (hk b o e)
      have big : ∀ a : Addr, s1.heap.objs.size ≤ a → s1.heap.get? a = none := fun a ha => by
        cases e : s1.heap.get? a with
        | none => rfl
        | some o => exact absurd (Heap.lt_size e) (Nat.not_lt.mpr ha)
      have hUs : ∀ T ∈ Us, h1.objs.size + 1 ≤ T := fun T hT => by
        obtain ⟨j, hj⟩ := List.mem_iff_getElem?.mp hT
        exact (e3.2 j T hj).1
      have le1 : s1.heap.objs.size ≤ h1.objs.size := by rw [hsz]; exact Nat.le_add_right _ _
      have hlen : (zipD xs ys).length = Us.length := by
        rw [zipD_len, e2, ← r1.length, ← r2.length, iv.length, iv2.length]; simp
      obtain ⟨G2, H2, g2, I2, m1, m2, m3, m4, m5⟩ := lay_all (h' := h2) Us (zipD xs ys) G1 H1 s1.heap I1 up hm1 e3.1 (fun T hT => have hle := Nat.le_trans le1 (Nat.le_of_succ_le (hUs T hT)); ⟨big T hle, I1.hok.fresh hle⟩) hlen fun j T d j1 j2 => by
        obtain ⟨_, x, y, u1, u2, u3⟩ := e3.2 j T j1
        obtain ⟨a, b, w1, w2, rfl⟩ := zipD_get j2
        obtain ⟨v, v1, v2⟩ := r1.get w1
        obtain ⟨v', v3, v4⟩ := r2.get w2
        obtain ⟨x', x1, x2⟩ := iv.get v1
        obtain ⟨y', y1, y2⟩ := iv2.get v3
        rw [List.getElem?_toArray, x1] at u1
        rw [List.getElem?_toArray, y1] at u2
        cases u1; cases u2
        exact ⟨_, _, _, _, a, b, u3, x2, y2, v2, v4, rfl⟩
      have hSn : h1.objs.size ∉ Us := fun hm => absurd (hUs _ hm) (Nat.not_le.mpr (Nat.lt_succ_self _))
      obtain ⟨n1, n2⟩ := m5 _ hSn (big _ le1) (I1.hok.fresh le1)
      have hll : (Us.map V.ref).length ≤ sizeLine := by rw [List.length_map, e2]; exact hmin
      obtain ⟨g3, I3, k3, _⟩ := lay_one (h' := h2) (o := .lst (Us.map V.ref)) I2 m1 n1 n2 fun g qq => ⟨hll, _, c2, vals_addrs Us, qq _ e1⟩
      have I4 : Inv X pins σ (upd H2 h1.objs.size (.lst (Us.map V.ref))) { s1 with heap := h2 } := I3.kept (t' := s1.toks) k3
      exact ⟨.ref h1.objs.size, _, I4, rfl, (k1.after m3).fresh m2 n2 (.lst upd_same (m4.mono (Ex.new (m2.ex.back n2)))) q⟩
end
end K27
end DX_
section MP_
/-! Plain mathematics, first part: polynomials as lists of (exponent, coefficient). -/
namespace K27
open PySem PySem.Spec PyProof.Rows L2
abbrev Pol := List (Int × Int)
def Pol.dt (p : Pol) : Dt := .tup (p.map pairD)
/-- ascending exponents from 0, coefficients from 1 -/
structure Can (p : Pol) : Prop where
  srt : p.Pairwise fun a b => a.1 < b.1
  ex : ∀ t ∈ p, 0 ≤ t.1
  cf : ∀ t ∈ p, 1 ≤ t.2
theorem can_nil : Can [] := ⟨.nil, fun t h => by simp at h, fun t h => by simp at h⟩
/-- the polynomial as a functional -/
def S (p : Pol) (f : Int → Int) : Int := (p.map fun t => t.2 * f t.1).sum
theorem S_nil (f : Int → Int) : S [] f = 0 := rfl
theorem S_cons (t : Int × Int) (p : Pol) (f : Int → Int) : S (t :: p) f = t.2 * f t.1 + S p f := by
  unfold S
  rw [List.map_cons, List.sum_cons]
theorem S_append (p q : Pol) (f : Int → Int) : S (p ++ q) f = S p f + S q f := by
  unfold S
  rw [List.map_append, List.sum_append]
theorem S_congr {p : Pol} {f g : Int → Int} (h : ∀ t ∈ p, f t.1 = g t.1) : S p f = S p g := by
  induction p with
  | nil => rfl
  | cons t p ih =>
    rw [S_cons, S_cons, h t List.mem_cons_self, ih fun u hu => h u (List.mem_cons_of_mem _ hu)]
theorem S_add (p : Pol) (f g : Int → Int) : S p (fun a => f a + g a) = S p f + S p g := by
  induction p with
  | nil => rfl
  | cons t p ih => rw [S_cons, S_cons, S_cons, ih, Int.mul_add]; omega
theorem S_smul (p : Pol) (c : Int) (f : Int → Int) : S p (fun a => c * f a) = c * S p f := by
  induction p with
  | nil => rw [S_nil, S_nil, Int.mul_zero]
  | cons t p ih => rw [S_cons, S_cons, ih, Int.mul_add, ← Int.mul_assoc, ← Int.mul_assoc, Int.mul_comm t.2 c]
theorem S_perm {p q : Pol} (h : p.Perm q) (f : Int → Int) : S p f = S q f := by
  induction h with
  | nil => rfl
  | cons t _ ih => rw [S_cons, S_cons, ih]
  | swap t u l => rw [S_cons, S_cons, S_cons, S_cons]; omega
  | trans _ _ ih1 ih2 => rw [ih1, ih2]
/-! ### sums, products -/
def insT (e c : Int) : Pol → Pol
  | [] => [(e, c)]
  | (a, b) :: r => if e < a then (e, c) :: (a, b) :: r else if e = a then (a, b + c) :: r else (a, b) :: insT e c r
theorem S_insT (e c : Int) (f : Int → Int) : ∀ p : Pol, S (insT e c p) f = c * f e + S p f
  | [] => by unfold insT; rw [S_cons]
  | (a, b) :: r => by
    unfold insT
    split
    · rw [S_cons]
    · split
      · next h => subst h; rw [S_cons, S_cons]; simp only; rw [Int.add_mul]; omega
      · rw [S_cons, S_insT e c f r, S_cons]; omega
theorem mem_insT {e c : Int} {t : Int × Int} : ∀ {p : Pol}, t ∈ insT e c p → t ∈ p ∨ (t.1 = e ∧ (t.2 = c ∨ ∃ u ∈ p, u.1 = e ∧ t.2 = u.2 + c))
  | [], h => by unfold insT at h; simp at h; subst h; exact .inr ⟨rfl, .inl rfl⟩
  | (a, b) :: r, h => by
    unfold insT at h
    split at h
    · rcases List.mem_cons.mp h with rfl | h
      · exact .inr ⟨rfl, .inl rfl⟩
      · exact .inl h
    · split at h
      · next h1 =>
        rcases List.mem_cons.mp h with rfl | h
        · exact .inr ⟨h1.symm, .inr ⟨_, List.mem_cons_self, h1.symm, rfl⟩⟩
        · exact .inl (List.mem_cons_of_mem _ h)
      · rcases List.mem_cons.mp h with rfl | h
        · exact .inl List.mem_cons_self
        · rcases mem_insT h with h | ⟨h1, h2 | ⟨u, h2, h3⟩⟩
          · exact .inl (List.mem_cons_of_mem _ h)
          · exact .inr ⟨h1, .inl h2⟩
          · exact .inr ⟨h1, .inr ⟨u, List.mem_cons_of_mem _ h2, h3⟩⟩
theorem can_insT {e c : Int} (he : 0 ≤ e) (hc : 1 ≤ c) : ∀ {p : Pol}, Can p → Can (insT e c p)
  | [], _ => ⟨by unfold insT; simp, fun t h => by unfold insT at h; simp at h; subst h; exact he, fun t h => by unfold insT at h; simp at h; subst h; exact hc⟩
  | (a, b) :: r, h => by
    have hs := List.pairwise_cons.mp h.srt
    have hr : Can r := ⟨hs.2, fun t ht => h.ex t (List.mem_cons_of_mem _ ht), fun t ht => h.cf t (List.mem_cons_of_mem _ ht)⟩
    have ha := h.ex (a, b) List.mem_cons_self
    have hb := h.cf (a, b) List.mem_cons_self
    simp only at ha hb
    unfold insT
    split
    · next h1 =>
      refine ⟨List.pairwise_cons.mpr ⟨fun t ht => ?_, h.srt⟩, fun t ht => ?_, fun t ht => ?_⟩
      · rcases List.mem_cons.mp ht with rfl | ht
        · exact h1
        · have := hs.1 t ht; simp only at this ⊢; omega
      · rcases List.mem_cons.mp ht with rfl | ht
        · exact he
        · exact h.ex t ht
      · rcases List.mem_cons.mp ht with rfl | ht
        · exact hc
        · exact h.cf t ht
    · split
      · refine ⟨List.pairwise_cons.mpr ⟨fun t ht => hs.1 t ht, hs.2⟩, fun t ht => ?_, fun t ht => ?_⟩
        · rcases List.mem_cons.mp ht with rfl | ht
          · exact ha
          · exact hr.ex t ht
        · rcases List.mem_cons.mp ht with rfl | ht
          · simp only; omega
          · exact hr.cf t ht
      · next h1 h2 =>
        have ih := can_insT he hc hr
        refine ⟨List.pairwise_cons.mpr ⟨fun t ht => ?_, ih.srt⟩, fun t ht => ?_, fun t ht => ?_⟩
        · rcases mem_insT ht with ht | ⟨ht, _⟩
          · exact hs.1 t ht
          · simp only; omega
        · rcases List.mem_cons.mp ht with rfl | ht
          · exact ha
          · exact ih.ex t ht
        · rcases List.mem_cons.mp ht with rfl | ht
          · exact hb
          · exact ih.cf t ht
def nrm : Pol → Pol
  | [] => []
  | t :: r => insT t.1 t.2 (nrm r)
theorem S_nrm (f : Int → Int) : ∀ p : Pol, S (nrm p) f = S p f
  | [] => rfl
  | t :: r => by unfold nrm; rw [S_insT, S_nrm f r, S_cons]
theorem can_nrm : ∀ {p : Pol}, (∀ t ∈ p, 0 ≤ t.1 ∧ 1 ≤ t.2) → Can (nrm p)
  | [], _ => can_nil
  | t :: r, h => can_insT (h t List.mem_cons_self).1 (h t List.mem_cons_self).2 (can_nrm fun u hu => h u (List.mem_cons_of_mem _ hu))
def addP (p q : Pol) : Pol := nrm (p ++ q)
def prodL (p q : Pol) : Pol := p.flatMap fun s => q.map fun t => (s.1 + t.1, s.2 * t.2)
def mulP (p q : Pol) : Pol := nrm (prodL p q)
def oneP : Pol := [(0, 1)]
def constP (n : Int) : Pol := if 0 < n then [(0, n)] else []
theorem can_one : Can oneP := ⟨by unfold oneP; simp, fun t h => by unfold oneP at h; simp at h; subst h; decide, fun t h => by unfold oneP at h; simp at h; subst h; decide⟩
theorem can_const (n : Int) : Can (constP n) := by
  unfold constP
  split
  · next h => exact ⟨by simp, fun t ht => by simp at ht; subst ht; exact Int.le_refl 0, fun t ht => by simp at ht; subst ht; simp only; omega⟩
  · exact can_nil
theorem S_one (f : Int → Int) : S oneP f = f 0 := by unfold oneP; rw [S_cons, S_nil]; simp
theorem S_const {n : Int} (h : 0 ≤ n) (f : Int → Int) : S (constP n) f = n * f 0 := by
  unfold constP
  split
  · rw [S_cons, S_nil]; simp
  · have : n = 0 := by omega
    subst this
    rw [S_nil]; simp
theorem can_addP {p q : Pol} (h : Can p) (h' : Can q) : Can (addP p q) := can_nrm fun t ht => by
  rcases List.mem_append.mp ht with ht | ht
  · exact ⟨h.ex t ht, h.cf t ht⟩
  · exact ⟨h'.ex t ht, h'.cf t ht⟩
theorem mem_prodL {p q : Pol} {t : Int × Int} (h : t ∈ prodL p q) : ∃ a ∈ p, ∃ b ∈ q, t = (a.1 + b.1, a.2 * b.2) := by
  unfold prodL at h
  obtain ⟨a, ha, h⟩ := List.mem_flatMap.mp h
  obtain ⟨b, hb, e⟩ := List.mem_map.mp h
  exact ⟨a, ha, b, hb, e.symm⟩
theorem can_mulP {p q : Pol} (h : Can p) (h' : Can q) : Can (mulP p q) := can_nrm fun t ht => by
  obtain ⟨a, ha, b, hb, rfl⟩ := mem_prodL ht
  have h1 := h.ex a ha
  have h2 := h'.ex b hb
  refine ⟨by simp only; omega, ?_⟩
  have h3 := h.cf a ha
  have h4 := h'.cf b hb
  have := Int.mul_le_mul h3 h4 (by decide) (by omega)
  simpa using this
theorem S_addP (p q : Pol) (f : Int → Int) : S (addP p q) f = S p f + S q f := by
  unfold addP
  rw [S_nrm, S_append]
theorem S_prodL (q : Pol) (f : Int → Int) : ∀ p : Pol, S (prodL p q) f = S p fun a => S q fun b => f (a + b)
  | [] => rfl
  | s :: p => by
    unfold prodL
    rw [List.flatMap_cons, S_append, S_cons]
    have ih := S_prodL q f p
    unfold prodL at ih
    rw [ih]
    have e : ∀ q : Pol, S (q.map fun t => (s.1 + t.1, s.2 * t.2)) f = s.2 * S q fun b => f (s.1 + b) := by
      intro q
      induction q with
      | nil => rw [List.map_nil, S_nil, S_nil, Int.mul_zero]
      | cons t q ih => rw [List.map_cons, S_cons, S_cons, ih, Int.mul_add, Int.mul_assoc]
    rw [e q]
theorem S_mulP (p q : Pol) (f : Int → Int) : S (mulP p q) f = S p fun a => S q fun b => f (a + b) := by
  unfold mulP
  rw [S_nrm, S_prodL]
/-! ### the polynomial is told by its functional -/
theorem S_ind_lt {p : Pol} {e : Int} (h : ∀ t ∈ p, e < t.1) : S p (fun a => if a = e then 1 else 0) = 0 := by
  rw [S_congr (g := fun _ => 0) fun t ht => if_neg (by have := h t ht; omega)]
  have := S_smul p 0 fun _ => 0
  simpa using this
theorem can_uniq : ∀ {p q : Pol}, Can p → Can q → (∀ f, S p f = S q f) → p = q
  | [], [], _, _, _ => rfl
  | [], t :: q, _, h', h => by
    exfalso
    have hs := List.pairwise_cons.mp h'.srt
    have := h fun a => if a = t.1 then 1 else 0
    rw [S_nil, S_cons, S_ind_lt hs.1, if_pos rfl] at this
    have := h'.cf t List.mem_cons_self
    omega
  | t :: p, [], h', _, h => by
    exfalso
    have hs := List.pairwise_cons.mp h'.srt
    have := h fun a => if a = t.1 then 1 else 0
    rw [S_nil, S_cons, S_ind_lt hs.1, if_pos rfl] at this
    have := h'.cf t List.mem_cons_self
    omega
  | s :: p, t :: q, hp, hq, h => by
    have h1 := List.pairwise_cons.mp hp.srt
    have h2 := List.pairwise_cons.mp hq.srt
    have c1 := hp.cf s List.mem_cons_self
    have c2 := hq.cf t List.mem_cons_self
    have es : s.1 = t.1 := by
      rcases Int.lt_trichotomy s.1 t.1 with hl | hl | hl
      · exfalso
        have := h fun a => if a = s.1 then 1 else 0
        rw [S_cons, S_ind_lt h1.1, if_pos rfl, S_ind_lt (p := t :: q) fun u hu => by
          rcases List.mem_cons.mp hu with rfl | hu
          · exact hl
          · have := h2.1 u hu; omega] at this
        omega
      · exact hl
      · exfalso
        have := h fun a => if a = t.1 then 1 else 0
        rw [S_cons (t := t), S_ind_lt h2.1, if_pos rfl, S_ind_lt (p := s :: p) fun u hu => by
          rcases List.mem_cons.mp hu with rfl | hu
          · exact hl
          · have := h1.1 u hu; omega] at this
        omega
    have ec : s.2 = t.2 := by
      have := h fun a => if a = s.1 then 1 else 0
      rw [S_cons, S_cons, S_ind_lt h1.1, if_pos rfl, S_ind_lt (p := q) (fun u hu => by rw [es]; exact h2.1 u hu), if_pos es.symm] at this
      omega
    have e : s = t := by
      cases s; cases t; simp only at es ec; rw [es, ec]
    subst e
    rw [can_uniq ⟨h1.2, fun u hu => hp.ex u (List.mem_cons_of_mem _ hu), fun u hu => hp.cf u (List.mem_cons_of_mem _ hu)⟩ ⟨h2.2, fun u hu => hq.ex u (List.mem_cons_of_mem _ hu), fun u hu => hq.cf u (List.mem_cons_of_mem _ hu)⟩ fun f => by
      have := h f
      rw [S_cons, S_cons] at this
      omega]
/-! ### the laws that are used -/
theorem mul_one' {c w : Pol} (hc : Can c) (hw : Can w) : addP c (mulP w oneP) = addP c w :=
  can_uniq (can_addP hc (can_mulP hw can_one)) (can_addP hc hw) fun f => by
    rw [S_addP, S_addP, S_mulP]
    congr 1
    exact S_congr fun t _ => by rw [S_one, Int.add_zero]
theorem mul_near {c w t : Pol} (hc : Can c) (hw : Can w) (ht : Can t) : addP c (mulP w (addP oneP t)) = addP (addP c w) (mulP w t) :=
  can_uniq (can_addP hc (can_mulP hw (can_addP can_one ht))) (can_addP (can_addP hc hw) (can_mulP hw ht)) fun f => by
    rw [S_addP, S_addP, S_addP, S_mulP, S_mulP]
    have e : (S w fun a => S (addP oneP t) fun b => f (a + b)) = S w fun a => f a + S t fun b => f (a + b) := S_congr fun u _ => by rw [S_addP, S_one, Int.add_zero]
    rw [e, S_add]
    omega
/-! ### the value at n, the sum of the coefficients -/
def val (p : Pol) (n : Int) : Int := S p fun e => n ^ e.toNat
theorem val_addP (p q : Pol) (n : Int) : val (addP p q) n = val p n + val q n := S_addP _ _ _
theorem val_mulP {p q : Pol} (hp : Can p) (hq : Can q) (n : Int) : val (mulP p q) n = val p n * val q n := by
  unfold val
  rw [S_mulP]
  have e : (S p fun a => S q fun b => n ^ (a + b).toNat) = S p fun a => (S q fun e => n ^ e.toNat) * n ^ a.toNat := by
    refine S_congr fun t ht => ?_
    have h1 := hp.ex t ht
    have e2 : (S q fun b => n ^ (t.1 + b).toNat) = S q fun b => n ^ t.1.toNat * n ^ b.toNat := S_congr fun u hu => by
      have h2 := hq.ex u hu
      rw [Int.toNat_add h1 h2, Int.pow_add]
    rw [e2, S_smul, Int.mul_comm]
  rw [e, S_smul, Int.mul_comm]
theorem val_one (n : Int) : val oneP n = 1 := by unfold val; rw [S_one]; simp
def E1 (p : Pol) : Int := S p fun _ => 1
theorem E1_addP (p q : Pol) : E1 (addP p q) = E1 p + E1 q := S_addP _ _ _
theorem E1_mulP (p q : Pol) : E1 (mulP p q) = E1 p * E1 q := by
  unfold E1
  rw [S_mulP]
  have := S_smul p (S q fun _ => 1) fun _ => 1
  simp only [Int.mul_one] at this
  rw [this, Int.mul_comm]
theorem E1_one : E1 oneP = 1 := S_one _
theorem E1_nonneg {p : Pol} (h : ∀ t ∈ p, 1 ≤ t.2) : 0 ≤ E1 p := by
  induction p with
  | nil => exact Int.le_refl 0
  | cons t p ih =>
    have h1 := h t List.mem_cons_self
    have h2 := ih fun u hu => h u (List.mem_cons_of_mem _ hu)
    unfold E1 at h2 ⊢
    rw [S_cons]; omega
theorem E1_mem {p : Pol} (h : ∀ t ∈ p, 1 ≤ t.2) : ∀ t ∈ p, t.2 ≤ E1 p := by
  induction p with
  | nil => intro t ht; simp at ht
  | cons s p ih =>
    intro t ht
    have h1 := h s List.mem_cons_self
    have h2 := E1_nonneg fun u hu => h u (List.mem_cons_of_mem s hu)
    have h3 := ih fun u hu => h u (List.mem_cons_of_mem _ hu)
    unfold E1 at h2 h3 ⊢
    rw [S_cons]
    rcases List.mem_cons.mp ht with rfl | ht
    · omega
    · have := h3 t ht; omega
theorem E1_len {p : Pol} (h : ∀ t ∈ p, 1 ≤ t.2) : (p.length : Int) ≤ E1 p := by
  induction p with
  | nil => exact Int.le_refl 0
  | cons t p ih =>
    have h1 := h t List.mem_cons_self
    have h2 := ih fun u hu => h u (List.mem_cons_of_mem _ hu)
    unfold E1 at h2 ⊢
    rw [S_cons, List.length_cons]; omega
/-- all exponents at most d -/
def Deg (p : Pol) (d : Int) : Prop := ∀ t ∈ p, t.1 ≤ d
theorem deg_nrm {d : Int} : ∀ {p : Pol}, Deg p d → Deg (nrm p) d
  | [], h => h
  | t :: r, h => fun u hu => by
    unfold nrm at hu
    rcases mem_insT hu with hu | ⟨hu, _⟩
    · exact deg_nrm (fun v hv => h v (List.mem_cons_of_mem _ hv)) u hu
    · rw [hu]; exact h t List.mem_cons_self
theorem deg_addP {p q : Pol} {d : Int} (h : Deg p d) (h' : Deg q d) : Deg (addP p q) d := deg_nrm fun t ht => by
  rcases List.mem_append.mp ht with ht | ht
  · exact h t ht
  · exact h' t ht
theorem deg_mulP {p q : Pol} {d d' : Int} (h : Deg p d) (h' : Deg q d') : Deg (mulP p q) (d + d') := deg_nrm fun t ht => by
  obtain ⟨a, ha, b, hb, rfl⟩ := mem_prodL ht
  have := h a ha
  have := h' b hb
  simp only; omega
theorem Deg.mono {p : Pol} {d d' : Int} (h : Deg p d) (hd : d ≤ d') : Deg p d' := fun t ht => Int.le_trans (h t ht) hd
/-- a canonical one of degree at most d has at most d + 1 terms -/
theorem can_len {d : Nat} : ∀ {p : Pol} {lo : Int}, p.Pairwise (fun a b => a.1 < b.1) → (∀ t ∈ p, lo ≤ t.1) → (∀ t ∈ p, t.1 < lo + d) → p.length ≤ d := by
  induction d with
  | zero =>
    intro p lo _ h2 h3
    cases p with
    | nil => exact Nat.le_refl _
    | cons t p =>
      have := h2 t List.mem_cons_self
      have := h3 t List.mem_cons_self
      omega
  | succ d ih =>
    intro p lo h1 h2 h3
    cases p with
    | nil => exact Nat.zero_le _
    | cons t p =>
      have hs := List.pairwise_cons.mp h1
      have h4 := h2 t List.mem_cons_self
      rw [List.length_cons]
      have := ih (p := p) (lo := lo + 1) hs.2 (fun u hu => by have := hs.1 u hu; omega) fun u hu => by
        have := h3 u (List.mem_cons_of_mem _ hu)
        omega
      omega
end K27
end MP_
section MT_
/-! Plain mathematics, second part: tests, rows, codes; what stands where. -/
namespace K27
open PySem PySem.Spec PyProof.Rows L2
inductive Tst where
  | neg (t : Tst) | is (t i : Nat) (x : Str) | equal (t i u j : Nat) | empty (t i : Nat) | inside (t i : Nat) | at_ (i j : Nat)
def natD (n : Nat) : Dt := .int n
def Tst.dt : Tst → Dt
  | .neg t => .tup [.str "not", t.dt]
  | .is t i x => .tup [.str "is", natD t, natD i, .str x]
  | .equal t i u j => .tup [.str "equal", natD t, natD i, natD u, natD j]
  | .empty t i => .tup [.str "empty", natD t, natD i]
  | .inside t i => .tup [.str "inside", natD t, natD i]
  | .at_ i j => .tup [.str "at", natD i, natD j]
def Tst.dep : Tst → Nat
  | .neg t => t.dep + 1
  | _ => 0
def letters1 : List Str := ["a", "b", "z", "m"]
def letters2 : List Str := ["ab", "a", "abc", "bx", "az", "dmw"]
def players : List Str := ["one", "two"]
def Tst.ok (nt ni : Nat) : Tst → Prop
  | .neg t => t.ok nt ni
  | .is t i x => t < nt ∧ i < ni ∧ x ∈ letters1
  | .equal t i u j => t < nt ∧ i < ni ∧ u < nt ∧ j < ni
  | .empty t i => t < nt ∧ i < ni
  | .inside t i => t < nt ∧ i < ni
  | .at_ i j => i < ni ∧ j < ni
inductive Row where
  | rep (p : Pol) (k : Nat) | agn (k : Nat) | jmp (k : Option Nat) | unl (t : Tst) (k : Option Nat) | cal (r : Nat) | cho (pl : Str) (t i : Nat) (x : Str) | win (pl : Str)
  | st (t i : Nat) (x : Str) | cpy (t i u j : Nat) | clr (t i : Nat) | zero (i : Nat) | up (i : Nat) | down (i : Nat) | same (i j : Nat)
def optD (k : Option Nat) : List Dt := match k with | some k => [natD k] | none => []
def Row.name : Row → Str
  | .rep .. => "repeat" | .agn .. => "again" | .jmp .. => "jump" | .unl .. => "unless" | .cal .. => "call" | .cho .. => "choose" | .win .. => "wins"
  | .st .. => "set" | .cpy .. => "copy" | .clr .. => "clear" | .zero .. => "zero" | .up .. => "up" | .down .. => "down" | .same .. => "same"
def Row.args : Row → List Dt
  | .rep p k => [Pol.dt p, natD k]
  | .agn k => [natD k]
  | .jmp k => optD k
  | .unl t k => t.dt :: optD k
  | .cal r => [natD r]
  | .cho pl t i x => [.str pl, natD t, natD i, .str x]
  | .win pl => [.str pl]
  | .st t i x => [natD t, natD i, .str x]
  | .cpy t i u j => [natD t, natD i, natD u, natD j]
  | .clr t i => [natD t, natD i]
  | .zero i => [natD i] | .up i => [natD i] | .down i => [natD i] | .same i j => [natD i, natD j]
def Row.dt (r : Row) : Dt := .tup (.str r.name :: r.args)
/-- numbers within, letters, polynomials, tests fit; tape 0 is not written -/
def Row.ok (nt ni np : Nat) : Row → Prop
  | .rep p _ => Can p
  | .agn _ => True
  | .jmp _ => True
  | .unl t _ => t.ok nt ni ∧ t.dep ≤ 5
  | .cal r => r < np
  | .cho pl t i x => pl ∈ players ∧ 1 ≤ t ∧ t < nt ∧ i < ni ∧ x ∈ letters2
  | .win pl => pl ∈ players
  | .st t i x => 1 ≤ t ∧ t < nt ∧ i < ni ∧ x ∈ letters1
  | .cpy t i u j => 1 ≤ t ∧ t < nt ∧ i < ni ∧ u < nt ∧ j < ni
  | .clr t i => 1 ≤ t ∧ t < nt ∧ i < ni
  | .zero i => i < ni
  | .up i => i < ni
  | .down i => i < ni
  | .same i j => i < ni ∧ j < ni
inductive It where
  | rep (p : Pol) (b : List It) | row (r : Row)
mutual
def It.dt : It → Dt
  | .rep p b => .tup [.str "repeat", Pol.dt p, .lst (Its.dts b)]
  | .row r => r.dt
def Its.dts : List It → List Dt
  | [] => []
  | x :: r => x.dt :: Its.dts r
end
def Rows.dts (rows : List Row) : List Dt := rows.map Row.dt
structure Code where
  tapes : List Pol
  idx : List Pol
  rts : List (List Row)
def Code.dt (c : Code) : Dt := .tup [.tup (c.tapes.map Pol.dt), .tup (c.idx.map Pol.dt), .tup (c.rts.map fun r => .tup (Rows.dts r))]
/-! ### fitness to be compared -/
theorem fit_int (i : Int) : Fit (.int i) := ⟨rfl, by simp [Dt.py, SeqAt.shaped, PyData.canLay0, PyData.depth]⟩
theorem fit_tup {xs : List Dt} {n : Nat} (h : ∀ x ∈ xs, x.pure = true ∧ x.py.canLay0 = true ∧ x.py.depth ≤ n) (hn : n ≤ 63) : Fit (.tup xs) ∧ (Dt.tup xs).py.depth ≤ n + 1 := by
  have key : ∀ xs : List Dt, (∀ x ∈ xs, x.pure = true ∧ x.py.canLay0 = true ∧ x.py.depth ≤ n) → Dt.pures xs = true ∧ PyData.canLayAll0 (Dt.pys xs) = true ∧ PyData.depthAll (Dt.pys xs) ≤ n := by
    intro xs
    induction xs with
    | nil => intro _; exact ⟨by simp [Dt.pures], by simp [Dt.pys, PyData.canLayAll0], by simp [Dt.pys, PyData.depthAll]⟩
    | cons x xs ih =>
      intro h
      obtain ⟨h1, h2, h3⟩ := h x List.mem_cons_self
      obtain ⟨i1, i2, i3⟩ := ih fun y hy => h y (List.mem_cons_of_mem _ hy)
      refine ⟨by simp [Dt.pures, h1, i1], by simp [Dt.pys, PyData.canLayAll0, h2, i2], ?_⟩
      simp only [Dt.pys, PyData.depthAll]
      omega
  obtain ⟨h1, h2, h3⟩ := key xs h
  have hd : (Dt.tup xs).py.depth ≤ n + 1 := by
    simp only [Dt.py, PyData.depth]
    omega
  refine ⟨⟨by simpa [Dt.pure] using h1, ?_⟩, hd⟩
  unfold SeqAt.shaped
  rw [Bool.and_eq_true_iff]
  exact ⟨by simpa [Dt.py, PyData.canLay0] using h2, decide_eq_true (by omega)⟩
end K27
end MT_
section MD_
/-! Plain mathematics, third part: counts held in a dict. -/
namespace K27
open PySem PySem.Spec PyProof.Rows L2
def accP : Pol → Int → Int → Pol
  | [], k, c => [(k, c)]
  | (a, b) :: r, k, c => if a = k then (a, b + c) :: r else (a, b) :: accP r k c
def lkP : Pol → Int → Int
  | [], _ => 0
  | (a, b) :: r, k => if a = k then b else lkP r k
def keysP (m : Pol) : List Int := m.map (·.1)
theorem val_kv (k : Int) : ∀ m : Pol, (valD (m.map kvD) (.inl k)).getD (.int 0) = .int (lkP m k)
  | [] => rfl
  | (a, b) :: r => by
    unfold lkP valD
    rw [List.map_cons]
    by_cases h : a = k
    · subst h
      rw [List.find?_cons_of_pos (by simp [kvD]), if_pos rfl]; rfl
    · rw [List.find?_cons_of_neg (by simp [kvD, h]), if_neg h]
      exact val_kv k r
theorem val_kv' (k : Int) : ∀ m : Pol, k ∈ keysP m → valD (m.map kvD) (.inl k) = some (.int (lkP m k))
  | [], h => by simp [keysP] at h
  | (a, b) :: r, h => by
    unfold lkP valD
    rw [List.map_cons]
    by_cases e : a = k
    · subst e
      rw [List.find?_cons_of_pos (by simp [kvD]), if_pos rfl]; rfl
    · rw [List.find?_cons_of_neg (by simp [kvD, e]), if_neg e]
      refine val_kv' k r ?_
      unfold keysP at h ⊢
      rw [List.map_cons] at h
      rcases List.mem_cons.mp h with h | h
      · exact absurd h.symm e
      · exact h
theorem repl_id (k : Int) (v : Dt) : ∀ r : Pol, k ∉ keysP r → (r.map kvD).map (fun kv => if kv.1 = Sum.inl k then (kv.1, v) else kv) = r.map kvD
  | [], _ => rfl
  | (a, b) :: r, h => by
    unfold keysP at h
    rw [List.map_cons] at h
    have h1 : a ≠ k := fun e => h (by rw [← e]; exact List.mem_cons_self)
    have h2 : k ∉ keysP r := fun e => h (List.mem_cons_of_mem _ e)
    rw [List.map_cons, List.map_cons, repl_id k v r h2]
    simp [kvD, h1]
theorem any_kv (k : Int) : ∀ m : Pol, ((m.map kvD).any fun kv => decide (kv.1 = Sum.inl k)) = decide (k ∈ keysP m)
  | [] => by simp [keysP]
  | (a, b) :: r => by
    rw [List.map_cons, List.any_cons, any_kv k r]
    unfold keysP
    rw [List.map_cons]
    by_cases h : a = k
    · subst h; simp [kvD]
    · have h' : k ≠ a := fun e => h e.symm
      simp [kvD, h, h']
theorem put_kv (k c : Int) : ∀ m : Pol, (keysP m).Nodup → putD (m.map kvD) (.inl k) (.int (lkP m k + c)) = (accP m k c).map kvD
  | [], _ => by unfold lkP accP; rw [Int.zero_add]; rfl
  | (a, b) :: r, hn => by
    have hn' := List.nodup_cons.mp (show (a :: keysP r).Nodup from hn)
    unfold lkP accP
    by_cases h : a = k
    · subst h
      rw [if_pos rfl, if_pos rfl]
      unfold putD
      rw [any_kv, if_pos (by simp [keysP]), List.map_cons, List.map_cons, repl_id a _ r hn'.1, List.map_cons]
      simp [kvD]
    · rw [if_neg h, if_neg h]
      have ih := put_kv k c r hn'.2
      unfold putD at ih ⊢
      rw [any_kv] at ih ⊢
      have hk : decide (k ∈ keysP ((a, b) :: r)) = decide (k ∈ keysP r) := by
        have h' : k ≠ a := fun e => h e.symm
        refine decide_eq_decide.mpr ?_
        unfold keysP
        rw [List.map_cons, List.mem_cons]
        exact ⟨fun z => z.resolve_left h', fun z => .inr z⟩
      rw [hk]
      rw [List.map_cons, List.map_cons]
      split
      · next h3 =>
        rw [if_pos h3] at ih
        rw [List.map_cons, ih]
        simp [kvD, h]
      · next h3 =>
        rw [if_neg h3] at ih
        rw [List.map_cons, ← ih]; rfl
theorem S_acc (k c : Int) (f : Int → Int) : ∀ m : Pol, S (accP m k c) f = c * f k + S m f
  | [] => by unfold accP; rw [S_cons]
  | (a, b) :: r => by
    unfold accP
    split
    · next h => subst h; rw [S_cons, S_cons]; simp only; rw [Int.add_mul]; omega
    · rw [S_cons, S_acc k c f r, S_cons]; omega
theorem keys_acc (k c x : Int) : ∀ m : Pol, x ∈ keysP (accP m k c) ↔ x ∈ keysP m ∨ x = k
  | [] => by unfold accP keysP; simp
  | (a, b) :: r => by
    unfold accP
    split
    · next h =>
      subst h
      unfold keysP
      simp only [List.map_cons, List.mem_cons]
      constructor
      · intro h; rcases h with h | h
        · exact .inl (.inl h)
        · exact .inl (.inr h)
      · intro h; rcases h with (h | h) | h
        · exact .inl h
        · exact .inr h
        · exact .inl h
    · have ih := keys_acc k c x r
      unfold keysP at ih ⊢
      simp only [List.map_cons, List.mem_cons]
      rw [ih]
      constructor
      · intro h; rcases h with h | h | h
        · exact .inl (.inl h)
        · exact .inl (.inr h)
        · exact .inr h
      · intro h; rcases h with (h | h) | h
        · exact .inl h
        · exact .inr (.inl h)
        · exact .inr (.inr h)
theorem nodup_acc (k c : Int) : ∀ m : Pol, (keysP m).Nodup → (keysP (accP m k c)).Nodup
  | [], _ => by unfold accP keysP; simp
  | (a, b) :: r, hn => by
    have hn' := List.nodup_cons.mp (show (a :: keysP r).Nodup from hn)
    unfold accP
    split
    · exact hn
    · next h =>
      show (a :: keysP (accP r k c)).Nodup
      refine List.nodup_cons.mpr ⟨fun e => ?_, nodup_acc k c r hn'.2⟩
      rcases (keys_acc k c a r).mp e with e | e
      · exact hn'.1 e
      · exact h e
theorem len_acc (k c : Int) : ∀ m : Pol, (accP m k c).length ≤ m.length + 1
  | [] => Nat.le_refl _
  | (a, b) :: r => by
    unfold accP
    split
    · simp
    · have := len_acc k c r
      simp only [List.length_cons]; omega
def PosP (m : Pol) : Prop := ∀ t ∈ m, 0 ≤ t.1 ∧ 1 ≤ t.2
theorem pos_acc {k c : Int} (hk : 0 ≤ k) (hc : 1 ≤ c) : ∀ {m : Pol}, PosP m → PosP (accP m k c)
  | [], _ => fun t ht => by unfold accP at ht; simp at ht; subst ht; exact ⟨hk, hc⟩
  | (a, b) :: r, h => fun t ht => by
    have h0 := h (a, b) List.mem_cons_self
    unfold accP at ht
    split at ht
    · rcases List.mem_cons.mp ht with rfl | ht
      · exact ⟨h0.1, by have := h0.2; simp only at this ⊢; omega⟩
      · exact h t (List.mem_cons_of_mem _ ht)
    · rcases List.mem_cons.mp ht with rfl | ht
      · exact h0
      · exact pos_acc hk hc (fun u hu => h u (List.mem_cons_of_mem _ hu)) t ht
theorem lk_pos {m : Pol} (h : PosP m) {k : Int} (hk : k ∈ keysP m) : 1 ≤ lkP m k := by
  induction m with
  | nil => simp [keysP] at hk
  | cons t m ih =>
    obtain ⟨a, b⟩ := t
    unfold lkP
    split
    · exact (h (a, b) List.mem_cons_self).2
    · next e =>
      refine ih (fun u hu => h u (List.mem_cons_of_mem _ hu)) ?_
      unfold keysP at hk ⊢
      rw [List.map_cons] at hk
      rcases List.mem_cons.mp hk with hk | hk
      · exact absurd hk.symm e
      · exact hk
/-- many added -/
def accs (m : Pol) (l : Pol) : Pol := l.foldl (fun m t => accP m t.1 t.2) m
theorem accs_append (m l : Pol) (t : Int × Int) : accs m (l ++ [t]) = accP (accs m l) t.1 t.2 := by
  unfold accs
  rw [List.foldl_append]; rfl
theorem accs_facts (l : Pol) : ∀ m : Pol, (keysP m).Nodup → PosP m → PosP l → (keysP (accs m l)).Nodup ∧ PosP (accs m l) ∧ (accs m l).length ≤ m.length + l.length ∧ ∀ f, S (accs m l) f = S m f + S l f := by
  induction l with
  | nil => intro m h1 h2 _; exact ⟨h1, h2, Nat.le_refl _, fun f => by rw [S_nil]; show S m f = _; omega⟩
  | cons t l ih =>
    intro m h1 h2 h3
    have ht := h3 t List.mem_cons_self
    obtain ⟨i1, i2, i3, i4⟩ := ih (accP m t.1 t.2) (nodup_acc _ _ m h1) (pos_acc ht.1 ht.2 h2) fun u hu => h3 u (List.mem_cons_of_mem _ hu)
    refine ⟨i1, i2, ?_, fun f => ?_⟩
    · have := len_acc t.1 t.2 m
      rw [List.length_cons]
      exact Nat.le_trans i3 (by omega)
    · have := i4 f
      rw [S_acc] at this
      rw [S_cons]
      show S (accs (accP m t.1 t.2) l) f = _
      omega
theorem can_keys {p : Pol} (h : Can p) : (keysP p).Nodup := by
  unfold keysP
  exact List.pairwise_map.mpr (h.srt.imp fun hlt e => by omega)
theorem can_pos {p : Pol} (h : Can p) : PosP p := fun t ht => ⟨h.ex t ht, h.cf t ht⟩
theorem merge_kv : ∀ (l m : Pol), (keysP (m ++ l)).Nodup → (l.foldl (fun acc p => putD acc (.inl p.1) (.int p.2)) (m.map kvD)) = (m ++ l).map kvD
  | [], m, _ => by rw [List.append_nil]; rfl
  | t :: l, m, h => by
    rw [List.foldl_cons]
    have hm : t.1 ∉ keysP m := fun e => by
      unfold keysP at h e
      rw [List.map_append] at h
      exact (List.nodup_append.mp h).2.2 _ e _ (by simp) rfl
    have e1 : putD (m.map kvD) (.inl t.1) (.int t.2) = (m ++ [t]).map kvD := by
      unfold putD
      rw [any_kv, if_neg (by simpa using hm), List.map_append]
      rfl
    rw [e1, merge_kv l (m ++ [t]) (by rw [List.append_assoc]; exact h), List.append_assoc]
    rfl
theorem mergeD_can {p : Pol} (h : (keysP p).Nodup) : mergeD p = p.map kvD := merge_kv p [] h
/-- sorted counts are the normal form -/
theorem sorted_nrm {m qs : Pol} (hn : (keysP m).Nodup) (hp : PosP m) (h1 : qs.Perm m) (h2 : qs.Pairwise fun p q => SrtO.lexB q p = false) : qs = nrm m := by
  have hk : (keysP qs).Nodup := (h1.map (fun t : Int × Int => t.1)).nodup_iff.mpr hn
  have hs : qs.Pairwise fun a b => a.1 < b.1 := by
    have hk' : qs.Pairwise fun a b => a.1 ≠ b.1 := List.pairwise_map.mp hk
    refine (hk'.and h2).imp fun {a b} ⟨hne, hl⟩ => ?_
    have : ¬ (b.1 < a.1) := fun hlt => by
      rw [SrtO.lexB_iff.mpr (.inl hlt)] at hl
      cases hl
    omega
  refine can_uniq ⟨hs, fun t ht => (hp t (h1.mem_iff.mp ht)).1, fun t ht => (hp t (h1.mem_iff.mp ht)).2⟩ (can_nrm hp) fun f => ?_
  rw [S_perm h1, S_nrm]
end K27
end MD_
section ME_
/-! Plain mathematics, fourth part: fitness of rows and codes, kinds of their parts. -/
namespace K27
open PySem PySem.Spec PyProof.Rows L2
def Fq (n : Nat) (d : Dt) : Prop := d.pure = true ∧ d.py.canLay0 = true ∧ d.py.depth ≤ n
theorem Fq.fit {n : Nat} {d : Dt} (h : Fq n d) (hn : n ≤ 64) : Fit d := ⟨h.1, by
  unfold SeqAt.shaped
  rw [Bool.and_eq_true_iff]
  exact ⟨h.2.1, decide_eq_true (Nat.le_trans h.2.2 hn)⟩⟩
theorem Fq.mono {n m : Nat} {d : Dt} (h : Fq n d) (hn : n ≤ m) : Fq m d := ⟨h.1, h.2.1, Nat.le_trans h.2.2 hn⟩
theorem fq_int (i : Int) {n : Nat} : Fq n (.int i) := ⟨rfl, by simp [Dt.py, PyData.canLay0], by simp [Dt.py, PyData.depth]⟩
theorem fq_nat (i : Nat) {n : Nat} : Fq n (natD i) := fq_int _
theorem fq_str {x : Str} (h : PyData.strOk x = true) {n : Nat} : Fq n (.str x) := ⟨rfl, by simp only [Dt.py, PyData.canLay0]; exact h, by simp [Dt.py, PyData.depth]⟩
theorem fq_all {xs : List Dt} {n : Nat} (h : ∀ x ∈ xs, Fq n x) : Dt.pures xs = true ∧ PyData.canLayAll0 (Dt.pys xs) = true ∧ PyData.depthAll (Dt.pys xs) ≤ n := by
  induction xs with
  | nil => exact ⟨by simp [Dt.pures], by simp [Dt.pys, PyData.canLayAll0], by simp [Dt.pys, PyData.depthAll]⟩
  | cons x xs ih =>
    obtain ⟨h1, h2, h3⟩ := h x List.mem_cons_self
    obtain ⟨i1, i2, i3⟩ := ih fun y hy => h y (List.mem_cons_of_mem _ hy)
    refine ⟨by simp [Dt.pures, h1, i1], by simp [Dt.pys, PyData.canLayAll0, h2, i2], ?_⟩
    simp only [Dt.pys, PyData.depthAll]
    omega
theorem fq_tup {xs : List Dt} {n : Nat} (h : ∀ x ∈ xs, Fq n x) : Fq (n + 1) (.tup xs) := by
  obtain ⟨h1, h2, h3⟩ := fq_all h
  exact ⟨by simpa [Dt.pure] using h1, by simpa [Dt.py, PyData.canLay0] using h2, by simp only [Dt.py, PyData.depth]; omega⟩
theorem fq_lst {xs : List Dt} {n : Nat} (h : ∀ x ∈ xs, Fq n x) : Fq (n + 1) (.lst xs) := by
  obtain ⟨h1, h2, h3⟩ := fq_all h
  exact ⟨by simpa [Dt.pure] using h1, by simpa [Dt.py, PyData.canLay0] using h2, by simp only [Dt.py, PyData.depth]; omega⟩
theorem fq_pair (t : Int × Int) : Fq 1 (pairD t) := fq_tup fun x hx => by
  simp at hx
  rcases hx with rfl | rfl <;> exact fq_int _
theorem fq_dt (p : Pol) : Fq 2 (Pol.dt p) := fq_tup fun x hx => by
  obtain ⟨t, _, rfl⟩ := List.mem_map.mp hx
  exact fq_pair t
theorem fq_pol (p : Pol) : Fq 2 (.pol p) := by
  obtain ⟨h1, h2, h3⟩ := fq_dt p
  have e : (Dt.pol p).py = (Pol.dt p).py := by
    unfold Pol.dt
    simp only [Dt.py]
    rw [pys_pairs]
  exact ⟨rfl, by rw [e]; exact h2, by rw [e]; exact h3⟩
theorem fq_nil : Fq 0 (.tup []) → True := fun _ => trivial
theorem str_ok1 : ∀ x ∈ letters1, PyData.strOk x = true := by decide +kernel
theorem str_ok2 : ∀ x ∈ letters2, PyData.strOk x = true := by decide +kernel
theorem str_okp : ∀ x ∈ players, PyData.strOk x = true := by decide +kernel
def Tst.name : Tst → Str
  | .neg _ => "not" | .is .. => "is" | .equal .. => "equal" | .empty .. => "empty" | .inside .. => "inside" | .at_ .. => "at"
def Tst.args : Tst → List Dt
  | .neg t => [t.dt]
  | .is t i x => [natD t, natD i, .str x]
  | .equal t i u j => [natD t, natD i, natD u, natD j]
  | .empty t i => [natD t, natD i]
  | .inside t i => [natD t, natD i]
  | .at_ i j => [natD i, natD j]
theorem Tst.dt_eq (t : Tst) : t.dt = .tup (.str t.name :: t.args) := by cases t <;> rfl
theorem tname_ok (t : Tst) : PyData.strOk t.name = true := by cases t <;> (simp only [Tst.name]; decide +kernel)
theorem rname_ok (r : Row) : PyData.strOk r.name = true := by cases r <;> (simp only [Row.name]; decide +kernel)
theorem Tst.fq {nt ni : Nat} : ∀ {t : Tst}, t.ok nt ni → Fq (t.dep + 1) t.dt
  | .neg t, h => by
    have ih := Tst.fq (t := t) h
    refine fq_tup fun x hx => ?_
    simp only [List.mem_cons, List.not_mem_nil, or_false] at hx
    rcases hx with rfl | rfl
    · exact fq_str (by decide +kernel)
    · exact ih
  | .is t i x, h => fq_tup fun y hy => by
    simp only [List.mem_cons, List.not_mem_nil, or_false] at hy
    rcases hy with rfl | rfl | rfl | rfl
    · exact fq_str (by decide +kernel)
    · exact fq_nat _
    · exact fq_nat _
    · exact fq_str (str_ok1 _ h.2.2)
  | .equal t i u j, h => fq_tup fun y hy => by
    simp only [List.mem_cons, List.not_mem_nil, or_false] at hy
    rcases hy with rfl | rfl | rfl | rfl | rfl <;> first | exact fq_nat _ | exact fq_str (by decide +kernel)
  | .empty t i, h => fq_tup fun y hy => by
    simp only [List.mem_cons, List.not_mem_nil, or_false] at hy
    rcases hy with rfl | rfl | rfl <;> first | exact fq_nat _ | exact fq_str (by decide +kernel)
  | .inside t i, h => fq_tup fun y hy => by
    simp only [List.mem_cons, List.not_mem_nil, or_false] at hy
    rcases hy with rfl | rfl | rfl <;> first | exact fq_nat _ | exact fq_str (by decide +kernel)
  | .at_ i j, h => fq_tup fun y hy => by
    simp only [List.mem_cons, List.not_mem_nil, or_false] at hy
    rcases hy with rfl | rfl | rfl <;> first | exact fq_nat _ | exact fq_str (by decide +kernel)
theorem fq_opt {k : Option Nat} {n : Nat} : ∀ x ∈ optD k, Fq n x := fun x hx => by
  cases k with
  | none => simp [optD] at hx
  | some k => simp [optD] at hx; subst hx; exact fq_nat _
theorem Row.fq {nt ni np : Nat} {r : Row} (h : r.ok nt ni np) : Fq 8 r.dt := by
  refine fq_tup fun x hx => ?_
  rcases List.mem_cons.mp hx with rfl | hx
  · exact fq_str (rname_ok r)
  · cases r with
    | rep p k =>
      simp only [Row.args, List.mem_cons, List.not_mem_nil, or_false] at hx
      rcases hx with rfl | rfl
      · exact (fq_dt p).mono (by decide)
      · exact fq_nat _
    | unl t k =>
      simp only [Row.args, List.mem_cons] at hx
      rcases hx with rfl | hx
      · exact (Tst.fq h.1).mono (by have := h.2; omega)
      · exact fq_opt x hx
    | jmp k => exact fq_opt x hx
    | cho pl t i y =>
      simp only [Row.args, List.mem_cons, List.not_mem_nil, or_false] at hx
      rcases hx with rfl | rfl | rfl | rfl
      · exact fq_str (str_okp _ h.1)
      · exact fq_nat _
      · exact fq_nat _
      · exact fq_str (str_ok2 _ h.2.2.2.2)
    | win pl =>
      simp only [Row.args, List.mem_cons, List.not_mem_nil, or_false] at hx
      subst hx
      exact fq_str (str_okp _ h)
    | st t i y =>
      simp only [Row.args, List.mem_cons, List.not_mem_nil, or_false] at hx
      rcases hx with rfl | rfl | rfl
      · exact fq_nat _
      · exact fq_nat _
      · exact fq_str (str_ok1 _ h.2.2.2)
    | _ =>
      simp only [Row.args, List.mem_cons, List.not_mem_nil, or_false] at hx
      rcases hx with rfl | rfl | rfl | rfl <;> exact fq_nat _
/-! ### kinds -/
def PartOk (k : Str) (d : Dt) : Prop :=
  if k = "letter" then ∃ x ∈ letters1, d = .str x
  else if k = "letters" then ∃ x ∈ letters2, d = .str x
  else if k = "player" then ∃ x ∈ players, d = .str x
  else if k = "polynomial" then ∃ p, Can p ∧ p.length ≤ 1000 ∧ d = Pol.dt p
  else ∃ n : Nat, d = .int n
theorem part_nat {k : Str} (n : Nat) (h : k ∉ (["letter", "letters", "player", "polynomial"] : List Str)) : PartOk k (natD n) := by
  simp only [List.mem_cons, List.not_mem_nil, or_false, not_or] at h
  unfold PartOk
  rw [if_neg h.1, if_neg h.2.1, if_neg h.2.2.1, if_neg h.2.2.2]
  exact ⟨n, rfl⟩
theorem part_l1 {x : Str} (h : x ∈ letters1) : PartOk "letter" (.str x) := by
  unfold PartOk; rw [if_pos rfl]; exact ⟨x, h, rfl⟩
theorem part_l2 {x : Str} (h : x ∈ letters2) : PartOk "letters" (.str x) := by
  unfold PartOk; rw [if_neg (by decide), if_pos rfl]; exact ⟨x, h, rfl⟩
theorem part_pl {x : Str} (h : x ∈ players) : PartOk "player" (.str x) := by
  unfold PartOk; rw [if_neg (by decide), if_neg (by decide), if_pos rfl]; exact ⟨x, h, rfl⟩
theorem part_po {p : Pol} (h : Can p) (hl : p.length ≤ 1000) : PartOk "polynomial" (Pol.dt p) := by
  unfold PartOk; rw [if_neg (by decide), if_neg (by decide), if_neg (by decide), if_pos rfl]; exact ⟨p, h, hl, rfl⟩
def RPartOk (k : Str) (d : Dt) : Prop := if k = "test" then ∃ t nt ni, Tst.ok nt ni t ∧ t.dep ≤ 5 ∧ d = t.dt else PartOk k d
def AllQ (R : Str → Dt → Prop) : List Str → List Dt → Prop
  | [], [] => True
  | k :: ks, d :: ds => R k d ∧ AllQ R ks ds
  | _, _ => False
theorem AllQ.len {R : Str → Dt → Prop} : ∀ {ks : List Str} {ds : List Dt}, AllQ R ks ds → ks.length = ds.length
  | [], [], _ => rfl
  | _ :: ks, _ :: ds, h => by rw [List.length_cons, List.length_cons, AllQ.len h.2]
theorem AllQ.get {R : Str → Dt → Prop} : ∀ {ks : List Str} {ds : List Dt} {i : Nat} {k : Str} {d : Dt}, AllQ R ks ds → ks[i]? = some k → ds[i]? = some d → R k d
  | [], [], _, _, _, _, e, _ => by simp at e
  | _ :: ks, _ :: ds, 0, _, _, h, e, e' => by simp at e e'; subst e; subst e'; exact h.1
  | _ :: ks, _ :: ds, i + 1, _, _, h, e, e' => AllQ.get (i := i) h.2 (by simpa using e) (by simpa using e')
def Tst.kinds : Tst → List Str
  | .neg _ => [] | .is .. => ["tape", "index", "letter"] | .equal .. => ["tape", "index", "tape", "index"] | .empty .. => ["tape", "index"] | .inside .. => ["tape", "index"] | .at_ .. => ["index", "index"]
def Tst.base : Tst → Bool
  | .neg _ => false
  | _ => true
theorem Tst.parts {nt ni : Nat} {t : Tst} (h : t.ok nt ni) (hb : t.base = true) : AllQ PartOk t.kinds t.args := by
  cases t with
  | neg t => cases hb
  | is t i x => exact ⟨part_nat _ (by decide), part_nat _ (by decide), part_l1 h.2.2, trivial⟩
  | equal t i u j => exact ⟨part_nat _ (by decide), part_nat _ (by decide), part_nat _ (by decide), part_nat _ (by decide), trivial⟩
  | empty t i => exact ⟨part_nat _ (by decide), part_nat _ (by decide), trivial⟩
  | inside t i => exact ⟨part_nat _ (by decide), part_nat _ (by decide), trivial⟩
  | at_ i j => exact ⟨part_nat _ (by decide), part_nat _ (by decide), trivial⟩
def Row.kinds : Row → List Str
  | .rep .. => ["polynomial", "place"] | .agn .. => ["place"] | .jmp .. => ["place"] | .unl .. => ["test", "place"] | .cal .. => ["routine"] | .cho .. => ["player", "tape", "index", "letters"] | .win .. => ["player"]
  | .st .. => ["tape", "index", "letter"] | .cpy .. => ["tape", "index", "tape", "index"] | .clr .. => ["tape", "index"] | .zero .. => ["index"] | .up .. => ["index"] | .down .. => ["index"] | .same .. => ["index", "index"]
/-- jumps have their targets -/
def Row.full : Row → Bool
  | .jmp none => false
  | .unl _ none => false
  | _ => true
theorem rpart {k : Str} {d : Dt} (h : k ≠ "test") (p : PartOk k d) : RPartOk k d := by unfold RPartOk; rw [if_neg h]; exact p
theorem Row.parts {nt ni np : Nat} {r : Row} (h : r.ok nt ni np) (hf : r.full = true) (hl : ∀ p k, r = .rep p k → p.length ≤ 1000) : AllQ RPartOk r.kinds r.args := by
  cases r with
  | rep p k => exact ⟨rpart (by decide) (part_po h (hl p k rfl)), rpart (by decide) (part_nat _ (by decide)), trivial⟩
  | agn k => exact ⟨rpart (by decide) (part_nat _ (by decide)), trivial⟩
  | jmp k =>
    cases k with
    | none => cases hf
    | some k => exact ⟨rpart (by decide) (part_nat _ (by decide)), trivial⟩
  | unl t k =>
    cases k with
    | none => cases hf
    | some k => exact ⟨by unfold RPartOk; rw [if_pos rfl]; exact ⟨t, nt, ni, h.1, h.2, rfl⟩, rpart (by decide) (part_nat _ (by decide)), trivial⟩
  | cal r => exact ⟨rpart (by decide) (part_nat _ (by decide)), trivial⟩
  | cho pl t i x => exact ⟨rpart (by decide) (part_pl h.1), rpart (by decide) (part_nat _ (by decide)), rpart (by decide) (part_nat _ (by decide)), rpart (by decide) (part_l2 h.2.2.2.2), trivial⟩
  | win pl => exact ⟨rpart (by decide) (part_pl h), trivial⟩
  | st t i x => exact ⟨rpart (by decide) (part_nat _ (by decide)), rpart (by decide) (part_nat _ (by decide)), rpart (by decide) (part_l1 h.2.2.2), trivial⟩
  | cpy t i u j => exact ⟨rpart (by decide) (part_nat _ (by decide)), rpart (by decide) (part_nat _ (by decide)), rpart (by decide) (part_nat _ (by decide)), rpart (by decide) (part_nat _ (by decide)), trivial⟩
  | clr t i => exact ⟨rpart (by decide) (part_nat _ (by decide)), rpart (by decide) (part_nat _ (by decide)), trivial⟩
  | zero i => exact ⟨rpart (by decide) (part_nat _ (by decide)), trivial⟩
  | up i => exact ⟨rpart (by decide) (part_nat _ (by decide)), trivial⟩
  | down i => exact ⟨rpart (by decide) (part_nat _ (by decide)), trivial⟩
  | same i j => exact ⟨rpart (by decide) (part_nat _ (by decide)), rpart (by decide) (part_nat _ (by decide)), trivial⟩
/-- not the empty tuple -/
theorem ne_unit (x : Dt) (xs : List Dt) : PyData.eqv (Dt.tup (x :: xs)).py (Dt.pol []).py = false := by
  simp [Dt.py, Dt.pys, PyData.eqv, PyData.eqvAll]
theorem eq_unit : PyData.eqv (Dt.tup []).py (Dt.pol []).py = true := by
  simp [Dt.py, Dt.pys, PyData.eqv, PyData.eqvAll]
end K27
end ME_
section FA_
/-! The walk, first part: looks. -/
namespace K27
open PySem PySem.Spec PyProof.Rows L2
def alpha : Str := "abcdefghijklmnopqrstuvwxyz"
def tp (xs : List Str) : Dt := .tup (xs.map .str)
def tabN : List (Str × Dt) := [("is", tp ["tape", "index", "letter"]), ("equal", tp ["tape", "index", "tape", "index"]), ("empty", tp ["tape", "index"]), ("inside", tp ["tape", "index"]), ("at", tp ["index", "index"])]
def tabC : List (Str × Dt) := [("set", tp ["tape", "index", "letter"]), ("copy", tp ["tape", "index", "tape", "index"]), ("clear", tp ["tape", "index"]), ("zero", tp ["index"]), ("up", tp ["index"]), ("down", tp ["index"]), ("same", tp ["index", "index"]),
  ("choose", tp ["player", "tape", "index", "letters"]), ("wins", tp ["player"]), ("jump", tp ["place"]), ("unless", tp ["test", "place"]), ("repeat", tp ["polynomial", "place"]), ("again", tp ["place"]), ("call", tp ["routine"])]
/-- what the top has left -/
structure Tops (w : World) (K : PySem.W.Frag) (mg : Str → Option Value) : Prop extends Blt mg where
  lets : ∃ t, mg "LETTERS" = some (.str alpha t)
  inp : ∃ a, mg "INPUT_SIZE" = some (.ref a) ∧ ∀ G, Rep K G (.ref a) (.tup [pairD (1, 1)])
  nts : ∃ d, mg "NUMBERED_TESTS" = some (.ref d) ∧ WDct K w d tabN
  crs : ∃ d, mg "CODE_ROWS" = some (.ref d) ∧ WDct K w d tabC
section
variable {P : Program} {w : World} {K : PySem.W.Frag} {mg : Str → Option Value} {base : Heap}
abbrev C_is_integer : Ct := fun ds μ Q => ∃ i, ds = [.int i] ∧ Q (.bl true) μ
theorem ok_is_integer (B : Tops w K mg) (R : Raw K mg "is_integer" s_is_integer ["thing"]) : Def P w K mg base 1 "is_integer" ["thing"] C_is_integer := by
  have nd := sc_is_integer.nd
  refine def_mk R sc_is_integer fun f cdv A outer s H E hr ds μ Q hl hC => ?_
  obtain ⟨i, rfl, q⟩ := hC
  refine jss_one ?_
  refine js_ret ?_
  refine je_and ?_
  refine je_isiI B.isinstance B.int ?_
  refine je_v 0 ?_
  refine ⟨fun a h => (by cases h), _, kit_ii, ?_⟩
  refine ⟨_, rfl, fun _ => ?_, fun h => by cases h⟩
  refine je_one ?_
  refine je_not ?_
  refine je_isiB B.isinstance B.bool ?_
  refine je_v 0 ?_
  refine ⟨fun a h => (by cases h), _, kit_ib, ?_⟩
  exact ⟨_, rfl, q⟩
abbrev C_is_from : Ct := fun ds μ Q => ∃ i l, ds = [.int i, .int l] ∧ Q (.bl (decide (l ≤ i))) μ
theorem ok_is_from (B : Tops w K mg) (R : Raw K mg "is_from" s_is_from ["thing", "least"]) (D_is_integer : Def P w K mg base 1 "is_integer" ["thing"] C_is_integer) : Def P w K mg base 2 "is_from" ["thing", "least"] C_is_from := by
  have nd := sc_is_from.nd
  refine def_mk R sc_is_from fun f cdv A outer s H E hr ds μ Q hl hC => ?_
  obtain ⟨i, l, rfl, q⟩ := hC
  refine jss_one ?_
  refine js_ret ?_
  refine je_and ?_
  refine je_d D_is_integer hr ?_
  refine ja_cons ?_
  refine je_v 0 ?_
  refine ja_nil ?_
  refine ⟨rfl, _, rfl, ?_⟩
  refine ⟨_, rfl, fun _ => ?_, fun h => by cases h⟩
  refine je_one ?_
  refine je_ge ?_
  refine je_v 0 ?_
  refine je_v 1 ?_
  exact ⟨_, _, rfl, rfl, q⟩
abbrev C_is_tuple : Ct := fun ds μ Q => ∃ d xs n, ds = [d, .int n] ∧ TupV d xs ∧ Q (.bl (decide ((xs.length : Int) = n))) μ
theorem ok_is_tuple (B : Tops w K mg) (R : Raw K mg "is_tuple" s_is_tuple ["thing", "many"]) : Def P w K mg base 1 "is_tuple" ["thing", "many"] C_is_tuple := by
  have nd := sc_is_tuple.nd
  refine def_mk R sc_is_tuple fun f cdv A outer s H E hr ds μ Q hl hC => ?_
  obtain ⟨d, xs, n, rfl, s, q⟩ := hC
  refine jss_one ?_
  refine js_ret ?_
  refine je_and ?_
  refine je_isiT B.isinstance B.tuple ?_
  refine je_v 0 ?_
  refine ⟨_, s, ?_⟩
  refine ⟨_, rfl, fun _ => ?_, fun h => by cases h⟩
  refine je_one ?_
  refine je_eqI ?_
  refine je_lenB B.len ?_
  refine je_v 0 ?_
  refine ⟨_, .inr ⟨_, .inl s, rfl⟩, ?_⟩
  refine je_v 1 ?_
  exact ⟨_, _, rfl, rfl, q⟩
def allIn (x y : Str) : Bool := x.cps.toList.all fun c => decide (c ∈ y.cps.toList)
abbrev C_is_word_of : Ct := fun ds μ Q => ∃ x y, ds = [.str x, .str y] ∧ x.length ≤ sizeLine ∧ allIn x y = true ∧ Q (.bl true) μ
theorem ok_is_word_of (B : Tops w K mg) (R : Raw K mg "is_word_of" s_is_word_of ["thing", "signs"]) : Def P w K mg base 1 "is_word_of" ["thing", "signs"] C_is_word_of := by
  have nd := sc_is_word_of.nd
  refine def_mk R sc_is_word_of fun f cdv A outer s H E hr ds μ Q hl hC => ?_
  obtain ⟨x, y, rfl, hx, hall, q⟩ := hC
  refine jss_one ?_
  refine js_ret ?_
  refine je_and ?_
  refine je_isiS B.isinstance B.str ?_
  refine je_v 0 ?_
  refine ⟨_, rfl, ?_⟩
  refine ⟨_, rfl, fun _ => ?_, fun h => by cases h⟩
  refine je_one ?_
  refine je_allB B.all ?_
  refine je_lc1 2 (blkOk_by (N := n_is_word_of) (sc := defScope s_is_word_of) (own := [("sign", 2)]) (by decide +kernel)) (by decide) ?_
  refine ji_str ?_
  refine je_v 0 ?_
  refine ⟨_, rfl, ?_⟩
  refine lcR_true mon_name _ (by unfold sgD; rw [List.length_map]; exact hx) trivial (fun i d hd s' H' C' cl' fp' => ?_) ?_
  · unfold sgD at hd
    rw [List.getElem?_map] at hd
    cases e : x.cps.toList[i]? with
    | none => rw [e] at hd; cases hd
    | some c =>
      rw [e] at hd
      cases hd
      have hc := List.all_eq_true.mp hall c (List.mem_of_getElem? e)
      refine je_inS rfl ?_
      refine je_v 2 ?_
      refine je_v 1 ?_
      exact ⟨_, _, rfl, rfl, by rw [hc], rfl⟩
  · refine ⟨_, rfl, ?_⟩
    rw [all_rep]; exact q
abbrev C_is_letters : Ct := fun ds μ Q => ∃ x, ds = [.str x] ∧ x.length ≤ sizeLine ∧ allIn x alpha = true ∧ Q (.bl true) μ
theorem ok_is_letters (B : Tops w K mg) (R : Raw K mg "is_letters" s_is_letters ["thing"]) (D_is_word_of : Def P w K mg base 1 "is_word_of" ["thing", "signs"] C_is_word_of) : Def P w K mg base 2 "is_letters" ["thing"] C_is_letters := by
  have nd := sc_is_letters.nd
  refine def_mk R sc_is_letters fun f cdv A outer s H E hr ds μ Q hl hC => ?_
  obtain ⟨x, rfl, hx, hall, q⟩ := hC
  obtain ⟨t, ht⟩ := B.lets
  refine jss_one ?_
  refine js_ret ?_
  refine je_d D_is_word_of hr ?_
  refine ja_cons ?_
  refine je_v 0 ?_
  refine ja_cons ?_
  refine je_glob (v := .str alpha) (d := .str alpha) rfl ht ⟨t, rfl⟩ (fun G => .str _) ?_
  refine ja_nil ?_
  exact ⟨rfl, _, _, rfl, hx, hall, q⟩
abbrev C_is_letter : Ct := fun ds μ Q => ∃ x, ds = [.str x] ∧ x ∈ letters1 ∧ Q (.bl true) μ
theorem let1_ok : ∀ x ∈ letters1, x.length ≤ sizeLine ∧ allIn x alpha = true ∧ x.length = 1 := by decide +kernel
theorem ok_is_letter (B : Tops w K mg) (R : Raw K mg "is_letter" s_is_letter ["thing"]) (D_is_letters : Def P w K mg base 2 "is_letters" ["thing"] C_is_letters) : Def P w K mg base 3 "is_letter" ["thing"] C_is_letter := by
  have nd := sc_is_letter.nd
  refine def_mk R sc_is_letter fun f cdv A outer s H E hr ds μ Q hl hC => ?_
  obtain ⟨x, rfl, hm, q⟩ := hC
  obtain ⟨h1, h2, h3⟩ := let1_ok x hm
  refine jss_one ?_
  refine js_ret ?_
  refine je_and ?_
  refine je_d D_is_letters hr ?_
  refine ja_cons ?_
  refine je_v 0 ?_
  refine ja_nil ?_
  refine ⟨rfl, _, rfl, h1, h2, ?_⟩
  refine ⟨_, rfl, fun _ => ?_, fun h => by cases h⟩
  refine je_one ?_
  refine je_eqI ?_
  refine je_lenB B.len ?_
  refine je_v 0 ?_
  refine ⟨_, .inl ⟨_, rfl, h1, rfl⟩, ?_⟩
  refine je_int ?_
  refine ⟨_, _, rfl, rfl, ?_⟩
  rw [h3]
  exact q
/-- x[lo:hi] of a text -/
theorem je_slS {X : Cx} {a : Expr} {δ : Env'} {μ : Sto} {pos : Pos} {Q : QE} {lo hi : Option Expr} {p2 : Pos} (h : JE X a δ μ fun x μ1 => JO X lo δ μ1 fun l μ2 => JO X hi δ μ2 fun u μ3 => ∃ z, x = .str z ∧ z.length ≤ sizeLine ∧ Q (.str (cutS z l u)) μ3) : JE X (.Subscript a (.Slice lo hi none p2) pos) δ μ Q :=
  fun σ G H QQ at_ k => wE_of (pe_slice sl_str pe_w po_w po_w) (h σ G H _ at_ fun v x G1 H1 μ1 hm1 f1 r1 q1 => q1 σ G1 H1 _ (at_.to hm1 f1) fun l G2 H2 μ2 hm2 f2 q2 => q2 σ G2 H2 _ ((at_.to hm1 f1).to hm2 f2) fun u G3 H3 μ3 hm3 f3 ⟨z, e1, hz, q⟩ => by
    subst e1; cases r1
    exact ⟨z, rfl, hz, (((k.after f1).after f2).after f3).here hm3 (.str _) q⟩)
def ltP : Dt → Bool
  | .tup [.str a, .str b] => decide (a.cps.toList < b.cps.toList)
  | _ => false
abbrev C_is_ascending_letters : Ct := fun ds μ Q => ∃ x, ds = [.str x] ∧ x ∈ letters2 ∧ Q (.bl true) μ
theorem let2_ok : ∀ x ∈ letters2, x.length ≤ sizeLine ∧ allIn x alpha = true ∧ x ≠ "" ∧ ((zipD (sgD x) (sgD (cutS x (some 1) none))).all ltP = true ∧ (zipD (sgD x) (sgD (cutS x (some 1) none))).length ≤ sizeLine) := by decide +kernel
theorem ok_is_ascending_letters (B : Tops w K mg) (R : Raw K mg "is_ascending_letters" s_is_ascending_letters ["thing"]) (D_is_letters : Def P w K mg base 2 "is_letters" ["thing"] C_is_letters) : Def P w K mg base 3 "is_ascending_letters" ["thing"] C_is_ascending_letters := by
  have nd := sc_is_ascending_letters.nd
  refine def_mk R sc_is_ascending_letters fun f cdv A outer s H E hr ds μ Q hl hC => ?_
  obtain ⟨x, rfl, hm, q⟩ := hC
  obtain ⟨h1, h2, h3, h4, h5⟩ := let2_ok x hm
  refine jss_cons ?_
  refine js_if ?_
  refine jt_w ?_
  refine jw_or ?_
  refine jt_not ?_
  refine jt_val ?_
  refine je_d D_is_letters hr ?_
  refine ja_cons ?_
  refine je_v 0 ?_
  refine ja_nil ?_
  refine ⟨rfl, _, rfl, h1, h2, ?_⟩
  refine ⟨_, rfl, ?_⟩
  refine ⟨fun h => (by cases h), fun h => ?_⟩
  refine jw_or1 ?_
  refine jt_c ?_
  refine jc_eqS ?_
  refine je_v 0 ?_
  refine je_str ?_
  refine ⟨_, _, rfl, rfl, ?_⟩
  refine ⟨_, rfl, ?_⟩
  refine ⟨fun hT => absurd (of_decide_eq_true hT) h3, fun hF => ?_⟩
  refine jss_nil ?_
  refine jss_one ?_
  refine js_ret ?_
  refine je_allB B.all ?_
  refine je_lc2 1 2 (blkOk_by (N := n_is_ascending_letters) (sc := defScope s_is_ascending_letters) (own := [("one", 1), ("other", 2)]) (by decide +kernel)) (by decide) (by decide) ?_
  refine ji_zipS rfl B.zip ?_
  refine ja_cons ?_
  refine je_v 0 ?_
  refine ja_cons ?_
  refine je_slS ?_
  refine je_v 0 ?_
  refine jo_some ?_
  refine je_int ?_
  refine ⟨_, rfl, ?_⟩
  refine jo_none ?_
  refine ⟨_, rfl, h1, ?_⟩
  refine ja_nil ?_
  refine ⟨_, _, rfl, ?_⟩
  refine lcR_true mon_pair _ h5 trivial (fun i d hd => ?_) ?_
  · have hd2 := List.all_eq_true.mp h4 d (List.mem_of_getElem? hd)
    obtain ⟨a, b, ha, hb, rfl⟩ := zipD_get hd
    unfold sgD at ha hb
    rw [List.getElem?_map] at ha hb
    obtain ⟨c, _, rfl⟩ := Option.map_eq_some_iff.mp ha
    obtain ⟨c', _, rfl⟩ := Option.map_eq_some_iff.mp hb
    refine ⟨_, _, rfl, fun s' H' C' cl' fp' => ?_⟩
    refine je_ltS ?_
    refine je_v 1 ?_
    refine je_v 2 ?_
    exact ⟨_, _, rfl, rfl, congrArg Dt.bl hd2, rfl⟩
  · refine ⟨_, rfl, ?_⟩
    rw [all_rep]; exact q
abbrev C_is_player : Ct := fun ds μ Q => ∃ x, ds = [.str x] ∧ x ∈ players ∧ Q (.bl true) μ
theorem players_ok : ∀ x ∈ players, inV (.str x) [.str "one", .str "two"] = true := by decide +kernel
theorem ok_is_player (B : Tops w K mg) (R : Raw K mg "is_player" s_is_player ["thing"]) : Def P w K mg base 1 "is_player" ["thing"] C_is_player := by
  have nd := sc_is_player.nd
  refine def_mk R sc_is_player fun f cdv A outer s H E hr ds μ Q hl hC => ?_
  obtain ⟨x, rfl, hm, q⟩ := hC
  refine jss_one ?_
  refine js_ret ?_
  refine je_and ?_
  refine je_isiS B.isinstance B.str ?_
  refine je_v 0 ?_
  refine ⟨_, rfl, ?_⟩
  refine ⟨_, rfl, fun _ => ?_, fun h => by cases h⟩
  refine je_one ?_
  refine je_inT rfl ?_
  refine je_v 0 ?_
  refine je_tup ?_
  refine ja_cons ?_
  refine je_str ?_
  refine ja_cons ?_
  refine je_str ?_
  refine ja_nil ?_
  refine ⟨by decide, ?_⟩
  refine ⟨_, rfl, rfl, rfl, ?_⟩
  have := players_ok x hm
  show Q (.bl (inV (.str x) [.str "one", .str "two"])) μ
  rw [this]; exact q
end
end K27
end FA_
section FB_
/-! The walk, second part: polynomials. -/
namespace K27
open PySem PySem.Spec PyProof.Rows L2
section
variable {X : Cx} {scope : Scope} {elt c : Expr} {own : List (Str × Nat)} {x y : Str} {px pz : Pos} {Q : QE} {δ : Env'} {μ : Sto} {pos : Pos} {cc : Addr} {kvs : List (Key × Dt)}
/-- [elt for x in d if c], d a dict of the store in slot i, x in slot j -/
theorem je_lcK1if (i j : Nat) (ok : BlkOk X.N X.env.scope scope own) (hj : j ∈ own.map (·.2)) (hμ : μ cc = some (.dct kvs))
    (h : lcR X scope elt (asName j) (tsOne X scope c) (fun _ => True) (fun ys μ2 => Q (.lst ys) μ2) (wipeD (δ.set i (some (.dct kvs))) (own.map (·.2))) (keysD kvs) [] (μ.del cc))
    (hδ : δ[i]? = some (some (.ref cc)) := by rfl) (hi : X.N[i]? = some y := by rfl) (hx : X.N[j]? = some x := by rfl) (hv : Vis X.env.scope y := by first | exact Or.inl rfl | exact Or.inr (Or.inl rfl) | exact Or.inr (Or.inr rfl))
    (hl : ∀ (cl : List (Str × Addr)) (C : Addr), Loc (compEnvC scope cl C X.env).scope x := by intro _ _; first | exact Or.inl rfl | exact Or.inr rfl)
    (hf : ∀ (s : Shared) (H : Hp) (C : Addr) (cl : List (Str × Addr)) (fp : List Addr), (X.blk s H scope (compEnvC scope cl C X.env) fp).fn x = true ∨ (X.blk s H scope (compEnvC scope cl C X.env) fp).env.scope.names.lookup x = some .local := by intro _ _ _ _ _; first | exact .inl rfl | exact .inr rfl)
    (hc : X.calm = true := by rfl) (hN : X.N.Nodup := by first | assumption | decide +kernel) (hd : (y == ("__debug__" : Str)) = false := by decide) (hcd : (y == ("__classdict__" : Str)) = false := by decide) (hs : ∀ z, foldedSetIterable (.Name y pz) X.env z = pure z := by intro _; rfl) : JE X (.ListComp elt [⟨.Name x px, .Name y pz, [c], 0⟩] scope pos) δ μ Q :=
  je_lcK i hc hN ok (asg_name hj) tst_one (fun s H C cl fp => pg_name (X := X.blk s H scope (compEnvC scope cl C X.env) fp) hN hx (hl cl C) (hf s H C cl fp)) (fun s H C cl fp => pts_one ⟨fun pins s' σ' H' Q' I h => h s H C cl fp pins s' I⟩) hi hv hδ hμ h hd hcd hs
end
section
variable {P : Program} {w : World} {K : PySem.W.Frag} {mg : Str → Option Value} {base : Heap}
def PV (d : Dt) (p : Pol) : Prop := TupV d (p.map pairD)
theorem pv_pol (p : Pol) : PV (.pol p) p := .inr ⟨p, rfl, rfl⟩
theorem pv_dt (p : Pol) : PV (Pol.dt p) p := .inl rfl
theorem del_set' {μ : Sto} {a : Addr} {x : Dt} (h : μ a = none) : (μ.set a x).del a = μ := Sto.del_set h
/-- within the limits -/
structure Lim (p : Pol) : Prop where
  can : Can p
  len : p.length ≤ 1000
  e1 : E1 p < 2 ^ 64
theorem Lim.cf {p : Pol} (h : Lim p) {t : Int × Int} (ht : t ∈ p) : 1 ≤ t.2 ∧ t.2 < 2 ^ 64 := ⟨h.can.cf t ht, Int.lt_of_le_of_lt (E1_mem h.can.cf t ht) h.e1⟩
theorem getP {p : Pol} {i : Nat} {d : Dt} (h : (p.map pairD)[i]? = some d) : ∃ t, p[i]? = some t ∧ d = pairD t := by
  rw [List.getElem?_map] at h
  obtain ⟨t, h1, h2⟩ := Option.map_eq_some_iff.mp h
  exact ⟨t, h1, h2.symm⟩
theorem take_succ' {α : Type} {l : List α} {i : Nat} {t : α} (h : l[i]? = some t) : l.take (i + 1) = l.take i ++ [t] := by
  rw [List.take_add_one, h]; rfl
abbrev C_poly_of : Ct := fun ds μ Q => ∃ c m, ds = [.ref c] ∧ μ c = some (.dct (m.map kvD)) ∧ (keysP m).Nodup ∧ PosP m ∧ m.length ≤ sizeLine ∧ Q (.pol (nrm m)) (μ.del c)
theorem filterMap_all {α β : Type} {f : α → Option β} {g : α → β} : ∀ {l : List α}, (∀ x ∈ l, f x = some (g x)) → l.filterMap f = l.map g
  | [], _ => rfl
  | x :: l, h => by
    rw [List.filterMap_cons_some (h x List.mem_cons_self), filterMap_all fun y hy => h y (List.mem_cons_of_mem _ hy), List.map_cons]
theorem lk_mem : ∀ {m : Pol}, (keysP m).Nodup → ∀ t ∈ m, lkP m t.1 = t.2
  | [], _, t, h => by simp at h
  | (a, b) :: r, hn, t, h => by
    have hn' := List.nodup_cons.mp (show (a :: keysP r).Nodup from hn)
    unfold lkP
    rcases List.mem_cons.mp h with rfl | h
    · rw [if_pos rfl]
    · have : a ≠ t.1 := fun e => hn'.1 (by rw [e]; exact List.mem_map.mpr ⟨t, h, rfl⟩)
      rw [if_neg this, lk_mem hn'.2 t h]
theorem ok_poly_of (B : Tops w K mg) (R : Raw K mg "poly_of" s_poly_of ["counts"]) : Def P w K mg base 1 "poly_of" ["counts"] C_poly_of := by
  have nd := sc_poly_of.nd
  refine def_mk R sc_poly_of fun f cdv A outer s H E hr ds μ Q hl hC => ?_
  obtain ⟨c, m, rfl, hc, hn, hp, hlen, q⟩ := hC
  refine jss_one ?_
  refine js_ret ?_
  refine je_tuplePB B.tuple ?_
  refine je_sortedPB B.sorted ?_
  refine je_lcK1if 0 1 (blkOk_by (N := n_poly_of) (sc := defScope s_poly_of) (own := [("exponent", 1)]) (by decide +kernel)) (by decide) hc ?_
  refine lcR_pure mon_name mon_one (keysD (m.map kvD)) (fun d => match d with | .int k => some (pairD (k, lkP m k)) | _ => none) (by unfold keysD; rw [List.length_map, List.length_map]; exact hlen) trivial (fun i d hd => ?_) ?_
  · unfold keysD at hd
    rw [List.map_map, List.getElem?_map] at hd
    obtain ⟨t, h1, rfl⟩ := Option.map_eq_some_iff.mp hd
    have ht : t ∈ m := List.mem_of_getElem? h1
    have hk : t.1 ∈ keysP m := List.mem_map.mpr ⟨t, ht, rfl⟩
    intro s' H' C' cl' fp'
    refine jt_c (jc_neI ?_)
    refine je_dget (hu_of hr) (fun _ _ => rfl) ?_
    refine je_v 0 ?_
    refine je_v 1 ?_
    refine ⟨_, _, _, .inl rfl, .inl rfl, val_kv' _ m hk, ?_⟩
    refine je_int ?_
    refine ⟨_, _, rfl, rfl, ?_⟩
    refine ⟨_, rfl, fun _ => ?_, fun hF => ?_⟩
    · intro s' H' C' cl' fp'
      refine je_tup ?_
      refine ja_cons ?_
      refine je_v 1 ?_
      refine ja_cons ?_
      refine je_dget (hu_of hr) (fun _ _ => rfl) ?_
      refine je_v 0 ?_
      refine je_v 1 ?_
      refine ⟨_, _, _, .inl rfl, .inl rfl, val_kv' _ m hk, ?_⟩
      refine ja_nil ?_
      refine ⟨by show 2 ≤ sizeLine; decide, ?_⟩
      exact ⟨rfl, rfl⟩
    · exfalso
      have := lk_pos hp hk
      have h0 : lkP m t.1 = 0 := by simpa using hF
      omega
  · refine ⟨m, ?_, fun qs h1 h2 => ⟨qs, .inl rfl, ?_⟩⟩
    · congr 1
      unfold keysD
      rw [List.map_map, List.filterMap_map]
      refine filterMap_all fun t ht => ?_
      show some (pairD (t.1, lkP m t.1)) = some (pairD t)
      rw [lk_mem hn t ht]
    · rw [sorted_nrm hn hp h1 h2]
      exact q
abbrev C_constant : Ct := fun ds μ Q => ∃ n, ds = [.int n] ∧ 1 ≤ n ∧ Q (.pol (constP n)) μ
theorem ok_constant (B : Tops w K mg) (R : Raw K mg "constant" s_constant ["number"]) (D_poly_of : Def P w K mg base 1 "poly_of" ["counts"] C_poly_of) : Def P w K mg base 2 "constant" ["number"] C_constant := by
  have nd := sc_constant.nd
  refine def_mk R sc_constant fun f cdv A outer s H E hr ds μ Q hl hC => ?_
  obtain ⟨n, rfl, hn, q⟩ := hC
  refine jss_one ?_
  refine js_ret ?_
  refine je_d D_poly_of hr ?_
  refine ja_cons ?_
  refine je_dispM (kvs := [(_, _)]) (pps_cons pe_w pe_w pps_nil) rfl rfl (by simp) (by decide) ?_
  refine je_int ?_
  refine je_v 0 ?_
  refine ⟨.inl 0, rfl, by show 1 ≤ 15; decide, fun p hp => ?_⟩
  refine ja_nil ?_
  refine ⟨rfl, p, [(0, n)], rfl, Sto.set_same, by simp [keysP], fun t ht => ?_, by show 1 ≤ sizeLine; decide, ?_⟩
  · simp at ht; subst ht; exact ⟨Int.le_refl 0, hn⟩
  · rw [Sto.del_set hp]
    have : nrm [(0, n)] = constP n := by
      unfold constP
      rw [if_pos (by omega)]; rfl
    rw [this]; exact q
abbrev C_added : Ct := fun ds μ Q => ∃ p y q, ds = [.pol p, y] ∧ PV y q ∧ Lim p ∧ Can q ∧ q.length ≤ 1000 ∧ Q (.pol (addP p q)) μ
theorem ok_added (B : Tops w K mg) (R : Raw K mg "added" s_added ["poly", "other"]) (D_poly_of : Def P w K mg base 1 "poly_of" ["counts"] C_poly_of) : Def P w K mg base 2 "added" ["poly", "other"] C_added := by
  have nd := sc_added.nd
  refine def_mk R sc_added fun f cdv A outer s H E hr ds μ Q hl hC => ?_
  obtain ⟨p, y, q, rfl, hy, hp, hq, hql, qq⟩ := hC
  refine jss_cons ?_
  refine js_v 2 ?_
  refine je_dictPB B.dict ?_
  refine je_v 0 ?_
  refine ⟨_, rfl, fun c hc => ?_⟩
  rw [mergeD_can (can_keys hp.can)]
  have facts : ∀ i, (keysP (accs p (q.take i))).Nodup ∧ PosP (accs p (q.take i)) ∧ (accs p (q.take i)).length ≤ p.length + (q.take i).length ∧ ∀ f, S (accs p (q.take i)) f = S p f + S (q.take i) f :=
    fun i => accs_facts (q.take i) p (can_keys hp.can) (can_pos hp.can) fun t ht => can_pos hq t (List.mem_of_mem_take ht)
  have hlim : ∀ i, (accs p (q.take i)).length < sizeLine := fun i => by
    have h1 := (facts i).2.2.1
    have h2 := hp.len
    have h3 : (q.take i).length ≤ q.length := List.length_take_le' _ _
    show _ < 2 ^ 24
    omega
  refine jss_cons ?_
  refine js_forI (fun items i δ μ' => ∃ x3 x4, δ = [some (.pol p), some y, some (.ref c), x3, x4] ∧ μ' = μ.set c (.dct ((accs p (q.take i)).map kvD))) PassesOwn.never rfl ?_
  refine ji_tup ?_
  refine je_v 1 ?_
  refine ⟨_, hy, ?_⟩
  refine ⟨⟨none, none, rfl, rfl⟩, fun _ _ _ _ => trivial, fun i d hd δ μ' hI => ?_, fun δ μ' hI => ?_⟩
  · obtain ⟨x3, x4, rfl, rfl⟩ := hI
    obtain ⟨t, ht, rfl⟩ := getP hd
    refine jg_tup rfl (.inl rfl) rfl ?_
    refine jgs_cons ?_
    refine jg_v 3 ?_
    refine jgs_cons ?_
    refine jg_v 4 ?_
    refine jgs_nil ?_
    refine jss_one ?_
    refine js_dput (hu_of hr) ?_
    refine je_add ?_
    refine je_get (hu_of hr) ⟨rfl, rfl, rfl, rfl⟩ ?_
    refine je_v 2 ?_
    refine ⟨⟨_, .inr ⟨_, rfl, Sto.set_same⟩⟩, ?_⟩
    refine je_v 3 ?_
    refine je_int ?_
    refine ⟨_, _, .inr ⟨_, rfl, Sto.set_same⟩, rfl, ?_⟩
    rw [val_kv]
    refine je_v 4 ?_
    refine ⟨_, _, rfl, rfl, ?_⟩
    refine je_v 2 ?_
    refine je_v 3 ?_
    refine ⟨_, _, .inl t.1, rfl, rfl, Sto.set_same, by rw [List.length_map]; exact hlim i, ?_⟩
    refine ⟨_, _, rfl, ?_⟩
    rw [put_kv _ _ _ (facts i).1, Sto.set_set, take_succ' ht, accs_append]
  · obtain ⟨x3, x4, rfl, rfl⟩ := hI
    rw [List.length_map, List.take_length]
    have ff := facts q.length
    have hl2 := hlim q.length
    rw [List.take_length] at ff hl2
    refine jss_one ?_
    refine js_ret ?_
    refine je_d D_poly_of hr ?_
    refine ja_cons ?_
    refine je_v 2 ?_
    refine ja_nil ?_
    refine ⟨rfl, c, _, rfl, Sto.set_same, ff.1, ff.2.1, Nat.le_of_lt hl2, ?_⟩
    rw [Sto.del_set hc]
    have e : nrm (accs p q) = addP p q := can_uniq (can_nrm ff.2.1) (can_addP hp.can hq) fun f => by
      rw [S_nrm, S_addP]; exact ff.2.2.2 f
    rw [e]; exact qq
end
end K27
end FB_
section FC_
/-! The walk, third part: products, powers, values, shapes of polynomials. -/
namespace K27
open PySem PySem.Spec PyProof.Rows L2
section
variable {P : Program} {w : World} {K : PySem.W.Frag} {mg : Str → Option Value} {base : Heap}
theorem accs_app (m l l' : Pol) : accs m (l ++ l') = accs (accs m l) l' := by unfold accs; rw [List.foldl_append]
def mulT (s : Int × Int) (t : Int × Int) : Int × Int := (s.1 + t.1, s.2 * t.2)
theorem prodL_succ {p q : Pol} {i : Nat} {s : Int × Int} (h : p[i]? = some s) : prodL (p.take (i + 1)) q = prodL (p.take i) q ++ q.map (mulT s) := by
  unfold prodL
  rw [take_succ' h, List.flatMap_append]
  simp [mulT]
theorem len_prodL (q : Pol) : ∀ p : Pol, (prodL p q).length = p.length * q.length
  | [] => by simp [prodL]
  | s :: p => by
    have ih := len_prodL q p
    unfold prodL at ih ⊢
    rw [List.flatMap_cons, List.length_append, ih, List.length_map, List.length_cons, Nat.succ_mul, Nat.add_comm]
theorem pos_prodL {p q : Pol} (hp : PosP p) (hq : PosP q) : PosP (prodL p q) := fun t ht => by
  obtain ⟨a, ha, b, hb, rfl⟩ := mem_prodL ht
  have h1 := hp a ha
  have h2 := hq b hb
  refine ⟨by simp only; omega, ?_⟩
  have := Int.mul_le_mul h1.2 h2.2 (by decide) (by omega)
  simpa using this
theorem posP_take {p : Pol} (h : PosP p) (n : Nat) : PosP (p.take n) := fun t ht => h t (List.mem_of_mem_take ht)
/-- the counts on the way through a product -/
def midP (p q : Pol) (i j : Nat) : Pol := match p[i]? with
  | some s => accs [] (prodL (p.take i) q ++ (q.take j).map (mulT s))
  | none => accs [] (prodL p q)
theorem mid_facts {p q : Pol} (hp : Can p) (hq : Can q) (l1 : p.length ≤ 1000) (l2 : q.length ≤ 1000) (i j : Nat) : (keysP (midP p q i j)).Nodup ∧ PosP (midP p q i j) ∧ (midP p q i j).length < sizeLine := by
  have hpp := can_pos hp
  have hqp := can_pos hq
  unfold midP
  cases e : p[i]? with
  | none =>
    obtain ⟨h1, h2, h3, _⟩ := accs_facts (prodL p q) [] (by simp [keysP]) (fun t ht => by simp at ht) (pos_prodL hpp hqp)
    refine ⟨h1, h2, ?_⟩
    rw [len_prodL] at h3
    have : p.length * q.length ≤ 1000 * 1000 := Nat.mul_le_mul l1 l2
    show _ < 2 ^ 24
    simp at h3 ⊢
    omega
  | some s =>
    have hs := hpp s (List.mem_of_getElem? e)
    have hpos : PosP (prodL (p.take i) q ++ (q.take j).map (mulT s)) := fun t ht => by
      rcases List.mem_append.mp ht with ht | ht
      · exact pos_prodL (posP_take hpp i) hqp t ht
      · obtain ⟨b, hb, rfl⟩ := List.mem_map.mp ht
        have hb' := hqp b (List.mem_of_mem_take hb)
        refine ⟨by unfold mulT; simp only; omega, ?_⟩
        have := Int.mul_le_mul hs.2 hb'.2 (by decide) (by omega)
        simpa [mulT] using this
    obtain ⟨h1, h2, h3, _⟩ := accs_facts _ [] (by simp [keysP]) (fun t ht => by simp at ht) hpos
    refine ⟨h1, h2, ?_⟩
    rw [List.length_append, len_prodL, List.length_map] at h3
    have a1 : (p.take i).length ≤ p.length := List.length_take_le' _ _
    have a2 : (q.take j).length ≤ q.length := List.length_take_le' _ _
    have : (p.take i).length * q.length ≤ 1000 * 1000 := Nat.mul_le_mul (Nat.le_trans a1 l1) l2
    show (accs [] (prodL (p.take i) q ++ (q.take j).map (mulT s))).length < 2 ^ 24
    rw [List.length_nil] at h3
    omega
theorem mid_zero {p q : Pol} : midP p q 0 0 = [] := by
  unfold midP
  cases p with
  | nil => rfl
  | cons s p => simp [prodL, accs]
theorem mid_step {p q : Pol} {i j : Nat} {s t : Int × Int} (h : p[i]? = some s) (h' : q[j]? = some t) : accP (midP p q i j) (s.1 + t.1) (s.2 * t.2) = midP p q i (j + 1) := by
  unfold midP
  rw [h]
  simp only
  rw [take_succ' h', List.map_append, ← List.append_assoc]
  exact (accs_append _ _ (mulT s t)).symm
theorem mid_next {p q : Pol} {i : Nat} {s : Int × Int} (h : p[i]? = some s) : midP p q i q.length = midP p q (i + 1) 0 := by
  unfold midP
  rw [h]
  simp only
  rw [List.take_length, ← prodL_succ h]
  have hi := (List.getElem?_eq_some_iff.mp h).1
  cases e : p[i + 1]? with
  | none =>
    have : p.length ≤ i + 1 := List.getElem?_eq_none_iff.mp e
    simp only
    rw [List.take_of_length_le this]
  | some s' => simp
theorem mid_end {p q : Pol} : midP p q p.length 0 = accs [] (prodL p q) := by
  unfold midP
  rw [List.getElem?_eq_none (Nat.le_refl _)]
theorem nrm_mid {p q : Pol} (hp : Can p) (hq : Can q) : nrm (accs [] (prodL p q)) = mulP p q := by
  obtain ⟨h1, h2, _, h4⟩ := accs_facts (prodL p q) [] (by simp [keysP]) (fun t ht => by simp at ht) (pos_prodL (can_pos hp) (can_pos hq))
  refine can_uniq (can_nrm h2) (can_mulP hp hq) fun f => ?_
  rw [S_nrm, h4, S_nil]
  unfold mulP
  rw [S_nrm]; omega
abbrev C_multiplied : Ct := fun ds μ Q => ∃ x y p q, ds = [x, y] ∧ PV x p ∧ PV y q ∧ Lim p ∧ Can q ∧ q.length ≤ 1000 ∧ Q (.pol (mulP p q)) μ
theorem ok_multiplied (B : Tops w K mg) (R : Raw K mg "multiplied" s_multiplied ["poly", "other"]) (D_poly_of : Def P w K mg base 1 "poly_of" ["counts"] C_poly_of) : Def P w K mg base 2 "multiplied" ["poly", "other"] C_multiplied := by
  have nd := sc_multiplied.nd
  refine def_mk R sc_multiplied fun f cdv A outer s H E hr ds μ Q hl hC => ?_
  obtain ⟨x, y, p, q, rfl, hx, hy, hp, hq, hql, qq⟩ := hC
  have mf := mid_facts hp.can hq hp.len hql
  refine jss_cons ?_
  refine js_v 2 ?_
  refine je_dictM fun c hc => ?_
  refine jss_cons ?_
  refine js_forI (fun items i δ μ' => ∃ x3 x4 x5 x6, δ = [some x, some y, some (.ref c), x3, x4, x5, x6] ∧ μ' = μ.set c (.dct ((midP p q i 0).map kvD))) PassesOwn.never rfl ?_
  refine ji_tup ?_
  refine je_v 0 ?_
  refine ⟨_, hx, ?_⟩
  refine ⟨⟨none, none, none, none, rfl, by rw [mid_zero]; rfl⟩, fun _ _ _ _ => trivial, fun i d hd δ μ' hI => ?_, fun δ μ' hI => ?_⟩
  · obtain ⟨x3, x4, x5, x6, rfl, rfl⟩ := hI
    obtain ⟨s, hs, rfl⟩ := getP hd
    have hsc := hp.cf (List.mem_of_getElem? hs)
    refine jg_tup rfl (.inl rfl) rfl ?_
    refine jgs_cons ?_
    refine jg_v 3 ?_
    refine jgs_cons ?_
    refine jg_v 4 ?_
    refine jgs_nil ?_
    refine jss_one ?_
    refine js_forI (fun items j δ μ' => ∃ x5 x6, δ = [some x, some y, some (.ref c), some (.int s.1), some (.int s.2), x5, x6] ∧ μ' = μ.set c (.dct ((midP p q i j).map kvD))) PassesOwn.never rfl ?_
    refine ji_tup ?_
    refine je_v 1 ?_
    refine ⟨_, hy, ?_⟩
    refine ⟨⟨x5, x6, rfl, rfl⟩, fun _ _ _ _ => trivial, fun j d hd δ μ' hI => ?_, fun δ μ' hI => ?_⟩
    · obtain ⟨x5, x6, rfl, rfl⟩ := hI
      obtain ⟨t, ht, rfl⟩ := getP hd
      refine jg_tup rfl (.inl rfl) rfl ?_
      refine jgs_cons ?_
      refine jg_v 5 ?_
      refine jgs_cons ?_
      refine jg_v 6 ?_
      refine jgs_nil ?_
      refine jss_one ?_
      refine js_dput (hu_of hr) ?_
      refine je_add ?_
      refine je_get (hu_of hr) ⟨rfl, rfl, rfl, rfl⟩ ?_
      refine je_v 2 ?_
      refine ⟨⟨_, .inr ⟨_, rfl, Sto.set_same⟩⟩, ?_⟩
      refine je_add ?_
      refine je_v 3 ?_
      refine je_v 5 ?_
      refine ⟨_, _, rfl, rfl, ?_⟩
      refine je_int ?_
      refine ⟨_, _, .inr ⟨_, rfl, Sto.set_same⟩, rfl, ?_⟩
      rw [val_kv]
      refine je_mul ?_
      refine je_v 4 ?_
      refine je_v 6 ?_
      refine ⟨_, _, rfl, rfl, .inl ⟨by omega, hsc.2⟩, ?_⟩
      refine ⟨_, _, rfl, rfl, ?_⟩
      refine je_v 2 ?_
      refine je_add ?_
      refine je_v 3 ?_
      refine je_v 5 ?_
      refine ⟨_, _, rfl, rfl, ?_⟩
      refine ⟨_, _, .inl (s.1 + t.1), rfl, rfl, Sto.set_same, by rw [List.length_map]; exact (mf i j).2.2, ?_⟩
      refine ⟨_, _, rfl, ?_⟩
      rw [put_kv _ _ _ (mf i j).1, Sto.set_set, mid_step hs ht]
    · obtain ⟨x5, x6, rfl, rfl⟩ := hI
      rw [List.length_map]
      exact ⟨_, _, _, _, rfl, by rw [mid_next hs]⟩
  · obtain ⟨x3, x4, x5, x6, rfl, rfl⟩ := hI
    rw [List.length_map]
    refine jss_one ?_
    refine js_ret ?_
    refine je_d D_poly_of hr ?_
    refine ja_cons ?_
    refine je_v 2 ?_
    refine ja_nil ?_
    refine ⟨rfl, c, _, rfl, Sto.set_same, (mf _ _).1, (mf _ _).2.1, Nat.le_of_lt (mf _ _).2.2, ?_⟩
    rw [Sto.del_set hc, mid_end, nrm_mid hp.can hq]
    exact qq
/-! ### powers, values -/
def slotN (i : Nat) (δ : Env') : Nat := match (δ[i]? : Option (Option Dt)) with
  | some (some (.int x)) => x.toNat
  | _ => 0
theorem pow_small {n a : Nat} (hn : n ≤ 4) (ha : a ≤ 16) : -(2 ^ 64) < ((n : Int) ^ a) ∧ ((n : Int) ^ a) < 2 ^ 64 := by
  have h1 : n ^ a ≤ 4 ^ 16 := Nat.le_trans (Nat.pow_le_pow_left hn a) (Nat.pow_le_pow_right (by decide) ha)
  have h2 : ((n : Int) ^ a) = ((n ^ a : Nat) : Int) := by rw [Int.natCast_pow]
  rw [h2]
  have h3 : (4 : Nat) ^ 16 = 4294967296 := by decide
  omega
abbrev C_power_of : Ct := fun ds μ Q => ∃ n e : Nat, ds = [.int n, .int e] ∧ n ≤ 4 ∧ e ≤ 16 ∧ Q (.int ((n : Int) ^ e)) μ
theorem ok_power_of (B : Tops w K mg) (R : Raw K mg "power_of" s_power_of ["number", "exponent"]) : Def P w K mg base 1 "power_of" ["number", "exponent"] C_power_of := by
  have nd := sc_power_of.nd
  refine def_mk R sc_power_of fun f cdv A outer s H E hr ds μ Q hl hC => ?_
  obtain ⟨n, e, rfl, hn, he, q⟩ := hC
  refine jss_cons ?_
  refine js_par 2 3 rfl nd rfl rfl (by decide) rfl rfl ?_ rfl
  refine ja_cons ?_
  refine je_int ?_
  refine ja_cons ?_
  refine je_v 0 ?_
  refine ja_nil ?_
  refine ⟨_, _, rfl, ?_⟩
  refine jss_cons ?_
  refine js_while PassesOwn.never (fun δ μ' => ∃ x a b : Nat, δ = [some (.int n), some (.int x), some (.int ((n : Int) ^ a)), some (.int ((n : Int) ^ b))] ∧ a + b * x = e ∧ μ' = μ)
    (fun δ _ => slotN 1 δ) ⟨e, 0, 1, by rw [Int.pow_zero, Int.pow_one]; rfl, by omega, rfl⟩ fun δ μ' hI => ?_
  obtain ⟨x, a, b, rfl, hs, rfl⟩ := hI
  refine jt_c (jc_gt ?_)
  refine je_v 1 ?_
  refine je_int ?_
  refine ⟨_, _, rfl, rfl, ?_⟩
  refine ⟨_, rfl, ?_⟩
  refine ⟨fun hT => ?_, fun hF => ?_⟩
  · have hx : 0 < x := by have := of_decide_eq_true hT; omega
    have hb : b ≤ e := by
      have : b * 1 ≤ b * x := Nat.mul_le_mul_left b hx
      omega
    refine jss_mid (fun δ μ'' => ∃ a' : Nat, δ = [some (.int n), some (.int x), some (.int ((n : Int) ^ a')), some (.int ((n : Int) ^ b))] ∧ a' + b * 2 * (x / 2) = e ∧ μ'' = μ') ?_ fun δ μ'' hI => ?_
    · refine js_if ?_
      refine jt_c (jc_eqI ?_)
      refine je_mod ?_
      refine je_v 1 ?_
      refine je_int ?_
      refine ⟨_, _, rfl, rfl, by decide, ?_⟩
      refine je_int ?_
      refine ⟨_, _, rfl, rfl, ?_⟩
      refine ⟨_, rfl, ?_⟩
      refine ⟨fun hT => ?_, fun hF => ?_⟩
      · have hx1 : x % 2 = 1 := by have := of_decide_eq_true hT; omega
        have hsum : (a + b) + b * 2 * (x / 2) = e := by
          have : x = 2 * (x / 2) + 1 := by omega
          have h3 : b * x = b * 2 * (x / 2) + b := by
            conv => lhs; rw [this]
            rw [Nat.mul_add, Nat.mul_one, Nat.mul_assoc]
          omega
        refine jss_one ?_
        refine js_v 2 ?_
        refine je_mul ?_
        refine je_v 2 ?_
        refine je_v 3 ?_
        refine ⟨_, _, rfl, rfl, .inl (pow_small hn (by omega)), ?_⟩
        rw [← Int.pow_add]
        exact ⟨_, rfl, hsum, rfl⟩
      · have hx0 : x % 2 = 0 := by have := of_decide_eq_false hF; omega
        refine jss_nil ?_
        refine ⟨a, rfl, ?_, rfl⟩
        have : x = 2 * (x / 2) := by omega
        have h3 : b * x = b * 2 * (x / 2) := by
          conv => lhs; rw [this]
          rw [Nat.mul_assoc]
        omega
    · obtain ⟨a', rfl, ha', rfl⟩ := hI
      refine jss_cons ?_
      refine js_v 1 ?_
      refine je_div ?_
      refine je_v 1 ?_
      refine je_int ?_
      refine ⟨_, _, rfl, rfl, ⟨by decide, by decide⟩, ?_⟩
      have hd : ((x : Int) / 2) = ((x / 2 : Nat) : Int) := rfl
      rw [hd]
      refine jss_one ?_
      refine js_if ?_
      refine jt_c (jc_gt ?_)
      refine je_v 1 ?_
      refine je_int ?_
      refine ⟨_, _, rfl, rfl, ?_⟩
      refine ⟨_, rfl, ?_⟩
      refine ⟨fun hT => ?_, fun hF => ?_⟩
      · have hx2 : 0 < x / 2 := by have := of_decide_eq_true hT; omega
        refine jss_one ?_
        refine js_v 3 ?_
        refine je_mul ?_
        refine je_v 3 ?_
        refine je_v 3 ?_
        refine ⟨_, _, rfl, rfl, .inl (pow_small hn (by omega)), ?_⟩
        refine ⟨⟨x / 2, a', b * 2, ?_, ha', rfl⟩, ?_⟩
        · rw [← Int.pow_add, Nat.mul_two]; rfl
        · show ((x / 2 : Nat) : Int).toNat < (x : Int).toNat
          omega
      · have hx2 : x / 2 = 0 := by have := of_decide_eq_false hF; omega
        refine jss_nil ?_
        refine ⟨⟨x / 2, a', b, rfl, ?_, rfl⟩, ?_⟩
        · rw [hx2] at ha' ⊢; omega
        · show ((x / 2 : Nat) : Int).toNat < (x : Int).toNat
          omega
  · have hx : x = 0 := by have := of_decide_eq_false hF; omega
    subst hx
    refine jss_one ?_
    refine js_ret ?_
    refine je_v 2 ?_
    have : a = e := by omega
    rw [this]; exact q
abbrev C_poly_value : Ct := fun ds μ Q => ∃ x p, ∃ n : Nat, ds = [x, .int n] ∧ PV x p ∧ Lim p ∧ Deg p 16 ∧ n ≤ 4 ∧ Q (.int (val p n)) μ
theorem ok_poly_value (B : Tops w K mg) (R : Raw K mg "poly_value" s_poly_value ["poly", "number"]) (D_power_of : Def P w K mg base 1 "power_of" ["number", "exponent"] C_power_of) : Def P w K mg base 2 "poly_value" ["poly", "number"] C_poly_value := by
  have nd := sc_poly_value.nd
  refine def_mk R sc_poly_value fun f cdv A outer s H E hr ds μ Q hl hC => ?_
  obtain ⟨x, p, n, rfl, hx, hp, hd, hn, q⟩ := hC
  refine jss_one ?_
  refine js_ret ?_
  refine je_sumB B.sum ?_
  refine je_lc2 2 3 (blkOk_by (N := n_poly_value) (sc := defScope s_poly_value) (own := [("exponent", 2), ("coefficient", 3)]) (by decide +kernel)) (by decide) (by decide) ?_
  refine ji_tup ?_
  refine je_v 0 ?_
  refine ⟨_, hx, ?_⟩
  have hlen := hp.len
  refine lcR_pure mon_pair mon_yes _ (fun d => match d with | .tup [.int e, .int c] => some (.int (c * (n : Int) ^ e.toNat)) | _ => none) (by rw [List.length_map]; show _ ≤ 2 ^ 24; omega) trivial (fun i d hd' => ?_) ?_
  · obtain ⟨t, ht, rfl⟩ := getP hd'
    have hm := List.mem_of_getElem? ht
    have h1 := hp.cf hm
    have h2 := hp.can.ex t hm
    have h3 := hd t hm
    refine ⟨_, _, rfl, fun _ s' H' C' cl' fp' => ?_, fun h => (by cases h)⟩
    refine je_mul ?_
    refine je_v 3 ?_
    refine je_d D_power_of hr ?_
    refine ja_cons ?_
    refine je_v 1 ?_
    refine ja_cons ?_
    refine je_v 2 ?_
    refine ja_nil ?_
    have e1 : t.1 = (t.1.toNat : Int) := (Int.toNat_of_nonneg h2).symm
    refine ⟨rfl, n, t.1.toNat, by rw [← e1], hn, by omega, ?_⟩
    exact ⟨_, _, rfl, rfl, .inl ⟨by omega, h1.2⟩, rfl, rfl⟩
  · refine ⟨p.map (fun t : Int × Int => t.2 * (n : Int) ^ t.1.toNat), ?_, q⟩
    congr 1
    rw [List.filterMap_map, List.map_map]
    exact filterMap_all fun t ht => rfl
abbrev C_is_poly_value : Ct := fun ds μ Q => ∃ x p, ds = [x] ∧ PV x p ∧ Can p ∧ p.length ≤ 1000 ∧ Q (.bl true) μ
theorem cutD_one (xs : List Dt) : cutD xs (some 1) none = xs.drop 1 := by
  unfold cutD
  have h1 : HT.sIx xs.length 0 (some 1) = min 1 xs.length := HT.sIx_nat xs.length 0 1
  rw [h1, HT.sIx_none]
  rw [List.take_of_length_le (by rw [List.length_drop]; omega)]
  rcases Nat.lt_or_ge xs.length 1 with h | h
  · rw [List.drop_eq_nil_of_le (by omega), List.drop_eq_nil_of_le (by omega)]
  · rw [Nat.min_eq_left h]
theorem ok_is_poly_value (B : Tops w K mg) (R : Raw K mg "is_poly_value" s_is_poly_value ["thing"]) (D_is_tuple : Def P w K mg base 1 "is_tuple" ["thing", "many"] C_is_tuple) (D_is_from : Def P w K mg base 2 "is_from" ["thing", "least"] C_is_from) : Def P w K mg base 3 "is_poly_value" ["thing"] C_is_poly_value := by
  have nd := sc_is_poly_value.nd
  refine def_mk R sc_is_poly_value fun f cdv A outer s H E hr ds μ Q hl hC => ?_
  obtain ⟨x, p, rfl, hx, hp, hlen, q⟩ := hC
  have hl1 : (p.map pairD).length ≤ sizeLine := by rw [List.length_map]; show _ ≤ 2 ^ 24; omega
  refine jss_cons ?_
  refine js_if ?_
  refine jt_not ?_
  refine jt_val ?_
  refine je_isiT B.isinstance B.tuple ?_
  refine je_v 0 ?_
  refine ⟨_, hx, ?_⟩
  refine ⟨_, rfl, ?_⟩
  refine ⟨fun hT => (by cases hT), fun hF => ?_⟩
  refine jss_nil ?_
  refine jss_cons ?_
  refine js_if ?_
  refine jt_not ?_
  refine jt_val ?_
  refine je_allB B.all ?_
  refine je_lc1 1 (blkOk_by (N := n_is_poly_value) (sc := defScope s_is_poly_value) (own := [("pair", 1)]) (by decide +kernel)) (by decide) ?_
  refine ji_tup ?_
  refine je_v 0 ?_
  refine ⟨_, hx, ?_⟩
  refine lcR_true mon_name _ hl1 trivial (fun i d hd s' H' C' cl' fp' => ?_) ?_
  · obtain ⟨t, ht, rfl⟩ := getP hd
    have hm := List.mem_of_getElem? ht
    refine je_and ?_
    refine je_d D_is_tuple (hr.mono (by decide)) ?_
    refine ja_cons ?_
    refine je_v 1 ?_
    refine ja_cons ?_
    refine je_int ?_
    refine ja_nil ?_
    refine ⟨rfl, _, _, _, rfl, .inl rfl, ?_⟩
    refine ⟨_, rfl, fun _ => ?_, fun h => (by cases h)⟩
    refine je_and ?_
    refine je_d D_is_from (hr.mono (by decide)) ?_
    refine ja_cons ?_
    refine je_at ?_
    refine je_v 1 ?_
    refine je_int ?_
    refine ⟨_, _, _, .inl (.inl rfl), rfl, rfl, ?_⟩
    refine ja_cons ?_
    refine je_int ?_
    refine ja_nil ?_
    refine ⟨rfl, _, _, rfl, ?_⟩
    rw [decide_eq_true (hp.ex t hm)]
    refine ⟨_, rfl, fun _ => ?_, fun h => (by cases h)⟩
    refine je_one ?_
    refine je_d D_is_from (hr.mono (by decide)) ?_
    refine ja_cons ?_
    refine je_at ?_
    refine je_v 1 ?_
    refine je_int ?_
    refine ⟨_, _, _, .inl (.inl rfl), rfl, rfl, ?_⟩
    refine ja_cons ?_
    refine je_int ?_
    refine ja_nil ?_
    refine ⟨rfl, _, _, rfl, ?_⟩
    rw [decide_eq_true (hp.cf t hm)]
    exact ⟨rfl, rfl⟩
  refine ⟨_, rfl, ?_⟩
  rw [all_rep]
  refine ⟨_, rfl, ?_⟩
  refine ⟨fun hT => (by cases hT), fun hF => ?_⟩
  refine jss_nil ?_
  refine jss_one ?_
  refine js_ret ?_
  refine je_allB B.all ?_
  refine je_lc2 2 3 (blkOk_by (N := n_is_poly_value) (sc := defScope s_is_poly_value) (own := [("one", 2), ("other", 3)]) (by decide +kernel)) (by decide) (by decide) ?_
  refine ji_zipT rfl B.zip ?_
  refine ja_cons ?_
  refine je_v 0 ?_
  refine ja_cons ?_
  refine je_slT ?_
  refine je_v 0 ?_
  refine jo_some ?_
  refine je_int ?_
  refine ⟨_, rfl, ?_⟩
  refine jo_none ?_
  refine ⟨_, hx, ?_⟩
  refine ja_nil ?_
  refine ⟨_, _, _, _, rfl, hx, .inl rfl, ?_⟩
  rw [cutD_one]
  refine lcR_true mon_pair _ (by rw [zipD_len]; omega) trivial (fun i d hd => ?_) ?_
  · obtain ⟨a, b, ha, hb, rfl⟩ := zipD_get hd
    obtain ⟨s1, hs1, rfl⟩ := getP ha
    rw [List.getElem?_drop] at hb
    obtain ⟨s2, hs2, rfl⟩ := getP hb
    refine ⟨_, _, rfl, fun s' H' C' cl' fp' => ?_⟩
    refine je_lt ?_
    refine je_at ?_
    refine je_v 2 ?_
    refine je_int ?_
    refine ⟨_, _, _, .inl (.inl rfl), rfl, rfl, ?_⟩
    refine je_at ?_
    refine je_v 3 ?_
    refine je_int ?_
    refine ⟨_, _, _, .inl (.inl rfl), rfl, rfl, ?_⟩
    refine ⟨_, _, rfl, rfl, ?_⟩
    have hlt : s1.1 < s2.1 := by
      obtain ⟨l1, e1⟩ := List.getElem?_eq_some_iff.mp hs1
      obtain ⟨l2, e2⟩ := List.getElem?_eq_some_iff.mp hs2
      have := List.pairwise_iff_getElem.mp hp.srt i (1 + i) l1 l2 (by omega)
      rw [e1, e2] at this
      exact this
    rw [decide_eq_true hlt]
    exact ⟨rfl, rfl⟩
  refine ⟨_, rfl, ?_⟩
  rw [all_rep]
  exact q
abbrev C_need_poly : Ct := fun ds μ Q => ∃ x p, ds = [x] ∧ PV x p ∧ Can p ∧ p.length ≤ 1000 ∧ Q .non μ
theorem ok_need_poly (B : Tops w K mg) (R : Raw K mg "need_poly" s_need_poly ["poly"]) (D_is_poly_value : Def P w K mg base 3 "is_poly_value" ["thing"] C_is_poly_value) : Def P w K mg base 4 "need_poly" ["poly"] C_need_poly := by
  have nd := sc_need_poly.nd
  refine def_mk R sc_need_poly fun f cdv A outer s H E hr ds μ Q hl hC => ?_
  obtain ⟨x, p, rfl, hx, hp, hlen, q⟩ := hC
  refine jss_one ?_
  refine js_if ?_
  refine jt_not ?_
  refine jt_val ?_
  refine je_d D_is_poly_value hr ?_
  refine ja_cons ?_
  refine je_v 0 ?_
  refine ja_nil ?_
  refine ⟨rfl, _, _, rfl, hx, hp, hlen, ?_⟩
  refine ⟨_, rfl, ?_⟩
  refine ⟨fun hT => (by cases hT), fun hF => ?_⟩
  exact jss_nil q
theorem ok_is_poly (B : Tops w K mg) (R : Raw K mg "is_poly" s_is_poly ["thing"]) (D_is_poly_value : Def P w K mg base 3 "is_poly_value" ["thing"] C_is_poly_value) : Def P w K mg base 4 "is_poly" ["thing"] C_is_poly_value := by
  have nd := sc_is_poly.nd
  refine def_mk R sc_is_poly fun f cdv A outer s H E hr ds μ Q hl hC => ?_
  obtain ⟨x, p, rfl, hx, hp, hlen, q⟩ := hC
  refine jss_one ?_
  refine js_ret ?_
  refine je_d D_is_poly_value hr ?_
  refine ja_cons ?_
  refine je_v 0 ?_
  refine ja_nil ?_
  exact ⟨rfl, _, _, rfl, hx, hp, hlen, q⟩
theorem ok_value_at (B : Tops w K mg) (R : Raw K mg "value_at" s_value_at ["poly", "number"]) (D_need_poly : Def P w K mg base 4 "need_poly" ["poly"] C_need_poly) (D_is_from : Def P w K mg base 2 "is_from" ["thing", "least"] C_is_from)
    (D_poly_value : Def P w K mg base 2 "poly_value" ["poly", "number"] C_poly_value) : Def P w K mg base 5 "value_at" ["poly", "number"] C_poly_value := by
  have nd := sc_value_at.nd
  refine def_mk R sc_value_at fun f cdv A outer s H E hr ds μ Q hl hC => ?_
  obtain ⟨x, p, n, rfl, hx, hp, hd, hn, q⟩ := hC
  refine jss_cons ?_
  refine js_expr ?_
  refine je_d D_need_poly hr ?_
  refine ja_cons ?_
  refine je_v 0 ?_
  refine ja_nil ?_
  refine ⟨rfl, _, _, rfl, hx, hp.can, hp.len, ?_⟩
  refine jss_cons ?_
  refine js_if ?_
  refine jt_not ?_
  refine jt_val ?_
  refine je_d D_is_from (hr.mono (by decide)) ?_
  refine ja_cons ?_
  refine je_v 1 ?_
  refine ja_cons ?_
  refine je_int ?_
  refine ja_nil ?_
  refine ⟨rfl, _, _, rfl, ?_⟩
  rw [decide_eq_true (Int.natCast_nonneg n)]
  refine ⟨_, rfl, ?_⟩
  refine ⟨fun hT => (by cases hT), fun hF => ?_⟩
  refine jss_nil ?_
  refine jss_one ?_
  refine js_ret ?_
  refine je_d D_poly_value (hr.mono (by decide)) ?_
  refine ja_cons ?_
  refine je_v 0 ?_
  refine ja_cons ?_
  refine je_v 1 ?_
  refine ja_nil ?_
  exact ⟨rfl, _, _, _, rfl, hx, hp, hd, hn, q⟩
end
end K27
end FC_
section FD_
/-! The walk, fourth part: the law's own sums and products. -/
namespace K27
open PySem PySem.Spec PyProof.Rows L2
section
variable {P : Program} {w : World} {K : PySem.W.Frag} {mg : Str → Option Value} {base : Heap}
theorem map_lk {m : Pol} (hn : (keysP m).Nodup) : (keysP m).map (fun e => (e, lkP m e)) = m := by
  unfold keysP
  rw [List.map_map]
  have : ∀ t ∈ m, ((fun e => (e, lkP m e)) ∘ fun t : Int × Int => t.1) t = id t := fun t ht => by
    show (t.1, lkP m t.1) = t
    rw [lk_mem hn t ht]
  rw [List.map_congr_left this, List.map_id]
theorem sortedI_nrm {m : Pol} (hn : (keysP m).Nodup) (hp : PosP m) {ns : List Int} (h1 : ns.Perm (keysP m)) (h2 : ns.Pairwise (· ≤ ·)) : ns.map (fun e => (e, lkP m e)) = nrm m := by
  have h3 : (ns.map (fun e => (e, lkP m e))).Perm m := by
    have := h1.map fun e => (e, lkP m e)
    rwa [map_lk hn] at this
  have hnn : ns.Nodup := h1.nodup_iff.mpr hn
  refine can_uniq ⟨?_, fun t ht => (hp t (h3.mem_iff.mp ht)).1, fun t ht => (hp t (h3.mem_iff.mp ht)).2⟩ (can_nrm hp) fun f => ?_
  · exact List.pairwise_map.mpr ((hnn.and h2).imp fun {a b} ⟨hne, hl⟩ => by simp only; omega)
  · rw [S_perm h3, S_nrm]
theorem keysD_kv (m : Pol) : ((m.map kvD).map fun kv => keyD kv.1) = (keysP m).map .int := by
  unfold keysP
  rw [List.map_map, List.map_map]; rfl
abbrev C_L_plus : Ct := fun ds μ Q => ∃ x y p q, ds = [x, y] ∧ PV x p ∧ PV y q ∧ Can p ∧ p.length ≤ 1000 ∧ Can q ∧ q.length ≤ 1000 ∧ Q (.pol (addP p q)) μ
theorem ok_L_plus (B : Tops w K mg) (R : Raw K mg "_law_plus" s_L_plus ["_law_one", "_law_other"]) : Def P w K mg base 1 "_law_plus" ["_law_one", "_law_other"] C_L_plus := by
  have nd := sc_L_plus.nd
  refine def_mk R sc_L_plus fun f cdv A outer s H E hr ds μ Q hl hC => ?_
  obtain ⟨x, y, p, q, rfl, hx, hy, hp, hpl, hq, hql, qq⟩ := hC
  refine jss_cons ?_
  refine js_v 2 ?_
  refine je_dictLB B.dict ?_
  refine je_listLB B.list ?_
  refine je_v 0 ?_
  refine ⟨_, .inl hx, ?_⟩
  refine ⟨p, .inl rfl, fun c hc => ?_⟩
  rw [mergeD_can (can_keys hp)]
  have facts : ∀ i, (keysP (accs p (q.take i))).Nodup ∧ PosP (accs p (q.take i)) ∧ (accs p (q.take i)).length ≤ p.length + (q.take i).length ∧ ∀ f, S (accs p (q.take i)) f = S p f + S (q.take i) f :=
    fun i => accs_facts (q.take i) p (can_keys hp) (can_pos hp) fun t ht => can_pos hq t (List.mem_of_mem_take ht)
  have hlim : ∀ i, (accs p (q.take i)).length < sizeLine := fun i => by
    have h1 := (facts i).2.2.1
    have h3 : (q.take i).length ≤ q.length := List.length_take_le' _ _
    show _ < 2 ^ 24
    omega
  refine jss_cons ?_
  refine js_forI (fun items i δ μ' => ∃ x3 x4, δ = [some x, some y, some (.ref c), x3, x4] ∧ μ' = μ.set c (.dct ((accs p (q.take i)).map kvD))) PassesOwn.never rfl ?_
  refine ji_tup ?_
  refine je_v 1 ?_
  refine ⟨_, hy, ?_⟩
  refine ⟨⟨none, none, rfl, rfl⟩, fun _ _ _ _ => trivial, fun i d hd δ μ' hI => ?_, fun δ μ' hI => ?_⟩
  · obtain ⟨x3, x4, rfl, rfl⟩ := hI
    obtain ⟨t, ht, rfl⟩ := getP hd
    refine jg_tup rfl (.inl rfl) rfl ?_
    refine jgs_cons ?_
    refine jg_v 3 ?_
    refine jgs_cons ?_
    refine jg_v 4 ?_
    refine jgs_nil ?_
    refine jss_one ?_
    refine js_dput (hu_of hr) ?_
    refine je_add ?_
    refine je_get (hu_of hr) ⟨rfl, rfl, rfl, rfl⟩ ?_
    refine je_v 2 ?_
    refine ⟨⟨_, .inr ⟨_, rfl, Sto.set_same⟩⟩, ?_⟩
    refine je_v 3 ?_
    refine je_int ?_
    refine ⟨_, _, .inr ⟨_, rfl, Sto.set_same⟩, rfl, ?_⟩
    rw [val_kv]
    refine je_v 4 ?_
    refine ⟨_, _, rfl, rfl, ?_⟩
    refine je_v 2 ?_
    refine je_v 3 ?_
    refine ⟨_, _, .inl t.1, rfl, rfl, Sto.set_same, by rw [List.length_map]; exact hlim i, ?_⟩
    refine ⟨_, _, rfl, ?_⟩
    rw [put_kv _ _ _ (facts i).1, Sto.set_set, take_succ' ht, accs_append]
  · obtain ⟨x3, x4, rfl, rfl⟩ := hI
    rw [List.length_map, List.take_length]
    have ff := facts q.length
    have hl2 := hlim q.length
    rw [List.take_length] at ff hl2
    refine jss_one ?_
    refine js_ret ?_
    refine je_drop ?_
    refine je_tuplePB B.tuple ?_
    refine je_lc1 3 (blkOk_by (N := n_L_plus) (sc := defScope s_L_plus) (own := [("_law_exponent", 3)]) (by decide +kernel)) (by decide) ?_
    refine ji_lst ?_
    refine je_sortedIB B.sorted ?_
    refine je_listDB B.list ?_
    refine je_v 2 ?_
    refine ⟨c, _, rfl, Sto.set_same, ?_⟩
    rw [keysD_kv]
    refine ⟨_, rfl, fun ns h1 h2 => ?_⟩
    refine ⟨_, rfl, ?_⟩
    have hnl : ns.length = (accs p q).length := by rw [h1.length_eq]; unfold keysP; rw [List.length_map]
    refine lcR_pure mon_name mon_yes _ (fun d => match d with | .int e => some (pairD (e, lkP (accs p q) e)) | _ => none) (by rw [List.length_map, hnl]; exact Nat.le_of_lt hl2) trivial (fun i d hd => ?_) ?_
    · rw [List.getElem?_map] at hd
      obtain ⟨e, he, rfl⟩ := Option.map_eq_some_iff.mp hd
      have hk : e ∈ keysP (accs p q) := h1.mem_iff.mp (List.mem_of_getElem? he)
      refine ⟨fun _ s' H' C' cl' fp' => ?_, fun h => (by cases h)⟩
      refine je_tup ?_
      refine ja_cons ?_
      refine je_v 3 ?_
      refine ja_cons ?_
      refine je_dget (hu_of hr) (fun _ _ => rfl) ?_
      refine je_v 2 ?_
      refine je_v 3 ?_
      refine ⟨_, _, _, .inr ⟨_, rfl, Sto.set_same⟩, .inl rfl, val_kv' _ _ hk, ?_⟩
      refine ja_nil ?_
      refine ⟨by show 2 ≤ sizeLine; decide, ?_⟩
      exact ⟨rfl, rfl⟩
    · refine ⟨ns.map (fun e => (e, lkP (accs p q) e)), .inl ?_, ?_⟩
      · congr 1
        rw [List.filterMap_map, List.map_map]
        exact filterMap_all fun t ht => rfl
      · refine ⟨μ, Sto.le_set hc, ?_⟩
        rw [sortedI_nrm ff.1 ff.2.1 h1 h2]
        have e : nrm (accs p q) = addP p q := can_uniq (can_nrm ff.2.1) (can_addP hp hq) fun f => by
          rw [S_nrm, S_addP]; exact ff.2.2.2 f
        rw [e]; exact qq
abbrev C_L_times : Ct := fun ds μ Q => ∃ x y p q, ds = [x, y] ∧ PV x p ∧ PV y q ∧ Lim p ∧ Can q ∧ q.length ≤ 1000 ∧ Q (.pol (mulP p q)) μ
theorem ok_L_times (B : Tops w K mg) (R : Raw K mg "_law_times" s_L_times ["_law_one", "_law_other"]) : Def P w K mg base 1 "_law_times" ["_law_one", "_law_other"] C_L_times := by
  have nd := sc_L_times.nd
  refine def_mk R sc_L_times fun f cdv A outer s H E hr ds μ Q hl hC => ?_
  obtain ⟨x, y, p, q, rfl, hx, hy, hp, hq, hql, qq⟩ := hC
  have mf := mid_facts hp.can hq hp.len hql
  refine jss_cons ?_
  refine js_v 2 ?_
  refine je_dictM fun c hc => ?_
  refine jss_cons ?_
  refine js_forI (fun items i δ μ' => ∃ x3 x4 x5 x6, δ = [some x, some y, some (.ref c), x3, x4, x5, x6] ∧ μ' = μ.set c (.dct ((midP p q i 0).map kvD))) PassesOwn.never rfl ?_
  refine ji_tup ?_
  refine je_v 0 ?_
  refine ⟨_, hx, ?_⟩
  refine ⟨⟨none, none, none, none, rfl, by rw [mid_zero]; rfl⟩, fun _ _ _ _ => trivial, fun i d hd δ μ' hI => ?_, fun δ μ' hI => ?_⟩
  · obtain ⟨x3, x4, x5, x6, rfl, rfl⟩ := hI
    obtain ⟨s, hs, rfl⟩ := getP hd
    have hsc := hp.cf (List.mem_of_getElem? hs)
    refine jg_tup rfl (.inl rfl) rfl ?_
    refine jgs_cons ?_
    refine jg_v 3 ?_
    refine jgs_cons ?_
    refine jg_v 4 ?_
    refine jgs_nil ?_
    refine jss_one ?_
    refine js_forI (fun items j δ μ' => ∃ x5 x6, δ = [some x, some y, some (.ref c), some (.int s.1), some (.int s.2), x5, x6] ∧ μ' = μ.set c (.dct ((midP p q i j).map kvD))) PassesOwn.never rfl ?_
    refine ji_tup ?_
    refine je_v 1 ?_
    refine ⟨_, hy, ?_⟩
    refine ⟨⟨x5, x6, rfl, rfl⟩, fun _ _ _ _ => trivial, fun j d hd δ μ' hI => ?_, fun δ μ' hI => ?_⟩
    · obtain ⟨x5, x6, rfl, rfl⟩ := hI
      obtain ⟨t, ht, rfl⟩ := getP hd
      refine jg_tup rfl (.inl rfl) rfl ?_
      refine jgs_cons ?_
      refine jg_v 5 ?_
      refine jgs_cons ?_
      refine jg_v 6 ?_
      refine jgs_nil ?_
      refine jss_one ?_
      refine js_dput (hu_of hr) ?_
      refine je_add ?_
      refine je_get (hu_of hr) ⟨rfl, rfl, rfl, rfl⟩ ?_
      refine je_v 2 ?_
      refine ⟨⟨_, .inr ⟨_, rfl, Sto.set_same⟩⟩, ?_⟩
      refine je_add ?_
      refine je_v 3 ?_
      refine je_v 5 ?_
      refine ⟨_, _, rfl, rfl, ?_⟩
      refine je_int ?_
      refine ⟨_, _, .inr ⟨_, rfl, Sto.set_same⟩, rfl, ?_⟩
      rw [val_kv]
      refine je_mul ?_
      refine je_v 4 ?_
      refine je_v 6 ?_
      refine ⟨_, _, rfl, rfl, .inl ⟨by omega, hsc.2⟩, ?_⟩
      refine ⟨_, _, rfl, rfl, ?_⟩
      refine je_v 2 ?_
      refine je_add ?_
      refine je_v 3 ?_
      refine je_v 5 ?_
      refine ⟨_, _, rfl, rfl, ?_⟩
      refine ⟨_, _, .inl (s.1 + t.1), rfl, rfl, Sto.set_same, by rw [List.length_map]; exact (mf i j).2.2, ?_⟩
      refine ⟨_, _, rfl, ?_⟩
      rw [put_kv _ _ _ (mf i j).1, Sto.set_set, mid_step hs ht]
    · obtain ⟨x5, x6, rfl, rfl⟩ := hI
      rw [List.length_map]
      exact ⟨_, _, _, _, rfl, by rw [mid_next hs]⟩
  · obtain ⟨x3, x4, x5, x6, rfl, rfl⟩ := hI
    rw [List.length_map]
    have ff := mf p.length 0
    rw [mid_end] at ff ⊢
    have hl2 := ff.2.2
    refine jss_one ?_
    refine js_ret ?_
    refine je_drop ?_
    refine je_tuplePB B.tuple ?_
    refine je_lc1 3 (blkOk_by (N := n_L_times) (sc := defScope s_L_times) (own := [("_law_exponent", 3)]) (by decide +kernel)) (by decide) ?_
    refine ji_lst ?_
    refine je_sortedIB B.sorted ?_
    refine je_listDB B.list ?_
    refine je_v 2 ?_
    refine ⟨c, _, rfl, Sto.set_same, ?_⟩
    rw [keysD_kv]
    refine ⟨_, rfl, fun ns h1 h2 => ?_⟩
    refine ⟨_, rfl, ?_⟩
    have hnl : ns.length = (accs [] (prodL p q)).length := by rw [h1.length_eq]; unfold keysP; rw [List.length_map]
    refine lcR_pure mon_name mon_yes _ (fun d => match d with | .int e => some (pairD (e, lkP (accs [] (prodL p q)) e)) | _ => none) (by rw [List.length_map, hnl]; exact Nat.le_of_lt hl2) trivial (fun i d hd => ?_) ?_
    · rw [List.getElem?_map] at hd
      obtain ⟨e, he, rfl⟩ := Option.map_eq_some_iff.mp hd
      have hk : e ∈ keysP (accs [] (prodL p q)) := h1.mem_iff.mp (List.mem_of_getElem? he)
      refine ⟨fun _ s' H' C' cl' fp' => ?_, fun h => (by cases h)⟩
      refine je_tup ?_
      refine ja_cons ?_
      refine je_v 3 ?_
      refine ja_cons ?_
      refine je_dget (hu_of hr) (fun _ _ => rfl) ?_
      refine je_v 2 ?_
      refine je_v 3 ?_
      refine ⟨_, _, _, .inr ⟨_, rfl, Sto.set_same⟩, .inl rfl, val_kv' _ _ hk, ?_⟩
      refine ja_nil ?_
      refine ⟨by show 2 ≤ sizeLine; decide, ?_⟩
      exact ⟨rfl, rfl⟩
    · refine ⟨ns.map (fun e => (e, lkP (accs [] (prodL p q)) e)), .inl ?_, ?_⟩
      · congr 1
        rw [List.filterMap_map, List.map_map]
        exact filterMap_all fun t ht => rfl
      · refine ⟨μ, Sto.le_set hc, ?_⟩
        rw [sortedI_nrm ff.1 ff.2.1 h1 h2]
        rw [nrm_mid hp.can hq]
        exact qq
abbrev C_L_constant : Ct := fun ds μ Q => ∃ n, ds = [.int n] ∧ 1 ≤ n ∧ Q (Pol.dt (constP n)) μ
theorem ok_L_constant (B : Tops w K mg) (R : Raw K mg "_law_constant" s_L_constant ["_law_many"]) : Def P w K mg base 1 "_law_constant" ["_law_many"] C_L_constant := by
  have nd := sc_L_constant.nd
  refine def_mk R sc_L_constant fun f cdv A outer s H E hr ds μ Q hl hC => ?_
  obtain ⟨n, rfl, hn, q⟩ := hC
  have e : constP n = [(0, n)] := by unfold constP; rw [if_pos (by omega)]
  rw [e] at q
  refine jss_one ?_
  refine js_ret ?_
  refine je_ifexp ?_
  refine jt_c (jc_gt ?_)
  refine je_v 0 ?_
  refine je_int ?_
  refine ⟨_, _, rfl, rfl, ?_⟩
  refine ⟨_, rfl, ?_⟩
  refine ⟨fun hT => ?_, fun hF => ?_⟩
  · refine je_tup ?_
    refine ja_cons ?_
    refine je_tup ?_
    refine ja_cons ?_
    refine je_int ?_
    refine ja_cons ?_
    refine je_v 0 ?_
    refine ja_nil ?_
    refine ⟨by show 2 ≤ sizeLine; decide, ?_⟩
    refine ja_nil ?_
    exact ⟨by show 1 ≤ sizeLine; decide, q⟩
  · have := of_decide_eq_false hF
    omega
abbrev C_L_value : Ct := fun ds μ Q => ∃ x p, ∃ n : Nat, ds = [x, .int n] ∧ PV x p ∧ Can p ∧ Deg p 1000 ∧ n ≤ 4 ∧ Q (.int (val p n)) μ
theorem rgD_get {lo : Int} {n i : Nat} {d : Dt} (h : (rgD lo n)[i]? = some d) : i < n ∧ d = .int (lo + (i : Nat)) := by
  unfold rgD at h
  rw [List.getElem?_map] at h
  obtain ⟨j, h1, h2⟩ := Option.map_eq_some_iff.mp h
  obtain ⟨h3, h4⟩ := List.getElem?_eq_some_iff.mp h1
  rw [List.getElem_range] at h4
  rw [List.length_range] at h3
  subst h4
  exact ⟨h3, h2.symm⟩
theorem rgD_len (lo : Int) (n : Nat) : (rgD lo n).length = n := by unfold rgD; rw [List.length_map, List.length_range]
theorem ok_L_value (B : Tops w K mg) (R : Raw K mg "_law_value" s_L_value ["_law_poly", "_law_n"]) : Def P w K mg base 1 "_law_value" ["_law_poly", "_law_n"] C_L_value := by
  have nd := sc_L_value.nd
  refine def_mk R sc_L_value fun f cdv A outer s H E hr ds μ Q hl hC => ?_
  obtain ⟨x, p, n, rfl, hx, hp, hd, hn, q⟩ := hC
  refine jss_cons ?_
  refine js_v 2 ?_
  refine je_int ?_
  refine jss_cons ?_
  refine js_forI (fun items i δ μ' => ∃ x3 x4 x5, δ = [some x, some (.int n), some (.int (val (p.take i) n)), x3, x4, x5] ∧ μ' = μ) PassesOwn.never rfl ?_
  refine ji_tup ?_
  refine je_v 0 ?_
  refine ⟨_, hx, ?_⟩
  refine ⟨⟨none, none, none, rfl, rfl⟩, fun _ _ _ _ => trivial, fun i d hd' δ μ' hI => ?_, fun δ μ' hI => ?_⟩
  · obtain ⟨x3, x4, x5, rfl, rfl⟩ := hI
    obtain ⟨t, ht, rfl⟩ := getP hd'
    have hm := List.mem_of_getElem? ht
    have h2 := hp.ex t hm
    have h3 := hd t hm
    refine jg_tup rfl (.inl rfl) rfl ?_
    refine jgs_cons ?_
    refine jg_v 3 ?_
    refine jgs_cons ?_
    refine jg_v 4 ?_
    refine jgs_nil ?_
    refine jss_cons ?_
    refine js_forI (fun items j δ μ'' => ∃ x5, δ = [some x, some (.int n), some (.int (val (p.take i) n)), some (.int t.1), some (.int (t.2 * (n : Int) ^ j)), x5] ∧ μ'' = μ') PassesOwn.never rfl ?_
    refine ji_range1 rfl B.range ?_
    refine je_v 3 ?_
    refine ⟨_, rfl, by omega, by omega, ?_⟩
    refine ⟨⟨x5, by rw [Int.pow_zero, Int.mul_one]; rfl, rfl⟩, fun _ _ _ _ => trivial, fun j d hd'' δ μ'' hI => ?_, fun δ μ'' hI => ?_⟩
    · obtain ⟨x5, rfl, rfl⟩ := hI
      refine jg_v 5 ?_
      refine jss_one ?_
      refine js_v 4 ?_
      refine je_mul ?_
      refine je_v 4 ?_
      refine je_v 1 ?_
      refine ⟨_, _, rfl, rfl, .inr ⟨by omega, by omega⟩, ?_⟩
      exact ⟨_, by rw [Int.mul_assoc, ← Int.pow_succ]; rfl, rfl⟩
    · obtain ⟨x5, rfl, rfl⟩ := hI
      rw [rgD_len]
      refine jss_one ?_
      refine js_v 2 ?_
      refine je_add ?_
      refine je_v 2 ?_
      refine je_v 4 ?_
      refine ⟨_, _, rfl, rfl, ?_⟩
      have e : val (p.take i ++ [t]) n = val (p.take i) n + t.2 * (n : Int) ^ t.1.toNat := by
        unfold val
        rw [S_append, S_cons, S_nil, Int.add_zero]
      exact ⟨some (.int t.1), some (.int (t.2 * (n : Int) ^ t.1.toNat)), x5, by rw [take_succ' ht, e]; rfl, rfl⟩
  · obtain ⟨x3, x4, x5, rfl, rfl⟩ := hI
    rw [List.length_map, List.take_length]
    refine jss_one ?_
    refine js_ret ?_
    refine je_v 2 ?_
    exact q
end
end K27
end FD_
section FE_
/-! The walk, fifth part: shapes of codes. -/
namespace K27
open PySem PySem.Spec PyProof.Rows L2
section
variable {P : Program} {w : World} {K : PySem.W.Frag} {mg : Str → Option Value} {base : Heap}
abbrev C_is_code_part : Ct := fun ds μ Q => ∃ k d, ds = [.str k, d] ∧ PartOk k d ∧ Q (.bl true) μ
theorem ok_is_code_part (B : Tops w K mg) (R : Raw K mg "is_code_part" s_is_code_part ["kind", "thing"]) (D_is_letter : Def P w K mg base 3 "is_letter" ["thing"] C_is_letter) (D_is_ascending_letters : Def P w K mg base 3 "is_ascending_letters" ["thing"] C_is_ascending_letters)
    (D_is_player : Def P w K mg base 1 "is_player" ["thing"] C_is_player) (D_is_poly_value : Def P w K mg base 3 "is_poly_value" ["thing"] C_is_poly_value) (D_is_from : Def P w K mg base 2 "is_from" ["thing", "least"] C_is_from) : Def P w K mg base 4 "is_code_part" ["kind", "thing"] C_is_code_part := by
  have nd := sc_is_code_part.nd
  refine def_mk R sc_is_code_part fun f cdv A outer s H E hr ds μ Q hl hC => ?_
  obtain ⟨k, d, rfl, hp, q⟩ := hC
  unfold PartOk at hp
  refine jss_cons ?_
  refine js_if ?_
  refine jt_c (jc_eqS ?_)
  refine je_v 0 ?_
  refine je_str ?_
  refine ⟨_, _, rfl, rfl, ?_⟩
  refine ⟨_, rfl, ?_⟩
  refine ⟨fun hT => ?_, fun hF => ?_⟩
  · rw [if_pos (of_decide_eq_true hT)] at hp
    obtain ⟨x, hx, rfl⟩ := hp
    refine jss_one ?_
    refine js_ret ?_
    refine je_d D_is_letter (hr.mono (by decide)) ?_
    refine ja_cons ?_
    refine je_v 1 ?_
    refine ja_nil ?_
    exact ⟨rfl, _, rfl, hx, q⟩
  rw [if_neg (of_decide_eq_false hF)] at hp
  refine jss_nil ?_
  refine jss_cons ?_
  refine js_if ?_
  refine jt_c (jc_eqS ?_)
  refine je_v 0 ?_
  refine je_str ?_
  refine ⟨_, _, rfl, rfl, ?_⟩
  refine ⟨_, rfl, ?_⟩
  refine ⟨fun hT => ?_, fun hF => ?_⟩
  · rw [if_pos (of_decide_eq_true hT)] at hp
    obtain ⟨x, hx, rfl⟩ := hp
    refine jss_one ?_
    refine js_ret ?_
    refine je_d D_is_ascending_letters (hr.mono (by decide)) ?_
    refine ja_cons ?_
    refine je_v 1 ?_
    refine ja_nil ?_
    exact ⟨rfl, _, rfl, hx, q⟩
  rw [if_neg (of_decide_eq_false hF)] at hp
  refine jss_nil ?_
  refine jss_cons ?_
  refine js_if ?_
  refine jt_c (jc_eqS ?_)
  refine je_v 0 ?_
  refine je_str ?_
  refine ⟨_, _, rfl, rfl, ?_⟩
  refine ⟨_, rfl, ?_⟩
  refine ⟨fun hT => ?_, fun hF => ?_⟩
  · rw [if_pos (of_decide_eq_true hT)] at hp
    obtain ⟨x, hx, rfl⟩ := hp
    refine jss_one ?_
    refine js_ret ?_
    refine je_d D_is_player (hr.mono (by decide)) ?_
    refine ja_cons ?_
    refine je_v 1 ?_
    refine ja_nil ?_
    exact ⟨rfl, _, rfl, hx, q⟩
  rw [if_neg (of_decide_eq_false hF)] at hp
  refine jss_nil ?_
  refine jss_cons ?_
  refine js_if ?_
  refine jt_c (jc_eqS ?_)
  refine je_v 0 ?_
  refine je_str ?_
  refine ⟨_, _, rfl, rfl, ?_⟩
  refine ⟨_, rfl, ?_⟩
  refine ⟨fun hT => ?_, fun hF => ?_⟩
  · rw [if_pos (of_decide_eq_true hT)] at hp
    obtain ⟨x, hx, hxl, rfl⟩ := hp
    refine jss_one ?_
    refine js_ret ?_
    refine je_d D_is_poly_value (hr.mono (by decide)) ?_
    refine ja_cons ?_
    refine je_v 1 ?_
    refine ja_nil ?_
    exact ⟨rfl, _, _, rfl, pv_dt x, hx, hxl, q⟩
  rw [if_neg (of_decide_eq_false hF)] at hp
  obtain ⟨n, rfl⟩ := hp
  refine jss_nil ?_
  refine jss_one ?_
  refine js_ret ?_
  refine je_d D_is_from (hr.mono (by decide)) ?_
  refine ja_cons ?_
  refine je_v 1 ?_
  refine ja_cons ?_
  refine je_int ?_
  refine ja_nil ?_
  refine ⟨rfl, _, _, rfl, ?_⟩
  rw [decide_eq_true (Int.natCast_nonneg n)]
  exact q
theorem Tst.tab {t : Tst} (h : t.base = true) : tabN.lookup t.name = some (tp t.kinds) := by
  cases t with
  | neg t => cases h
  | _ => rfl
theorem zipK_get {ks : List Str} {ds : List Dt} {i : Nat} {d : Dt} {R : Str → Dt → Prop} (h : AllQ R ks ds) (hd : (zipD (ks.map .str) ds)[i]? = some d) : ∃ k x, d = .tup [.str k, x] ∧ R k x := by
  obtain ⟨a, b, ha, hb, rfl⟩ := zipD_get hd
  rw [List.getElem?_map] at ha
  obtain ⟨k, hk, rfl⟩ := Option.map_eq_some_iff.mp ha
  exact ⟨k, b, rfl, h.get hk hb⟩
theorem lens_eq {R : Str → Dt → Prop} {ks : List Str} {ds : List Dt} {x : Dt} (h : AllQ R ks ds) : decide ((((x :: ds).length : Nat) : Int) = ((ks.map Dt.str).length : Nat) + 1) = true := by
  rw [List.length_map, h.len, List.length_cons]
  exact decide_eq_true rfl
theorem tkinds_len (t : Tst) : t.kinds.length ≤ 4 := by cases t <;> simp [Tst.kinds]
def slotDep (δ : Env') : Nat := match (δ[0]? : Option (Option Dt)) with
  | some (some d) => d.py.depth
  | _ => 0
theorem dep_neg (t : Tst) : t.dt.py.depth < (Tst.neg t).dt.py.depth := by
  simp only [Tst.dt, Dt.py, Dt.pys, PyData.depth, PyData.depthAll]
  omega
theorem base_not {t : Tst} (h : t.base = true) : t.name ≠ "not" := by
  cases t with
  | neg t => cases h
  | _ => exact (by simp only [Tst.name]; decide)
theorem base_len {t : Tst} (h : t.base = true) : (Dt.str t.name :: t.args).length ≠ 2 := by
  cases t with
  | neg t => cases h
  | _ => exact (by simp [Tst.args])
abbrev C_is_numbered_test : Ct := fun ds μ Q => ∃ t nt ni, ds = [Tst.dt t] ∧ Tst.ok nt ni t ∧ t.dep ≤ 5 ∧ Q (.bl true) μ
theorem ok_is_numbered_test (B : Tops w K mg) (R : Raw K mg "is_numbered_test" s_is_numbered_test ["thing"]) (D_is_tuple : Def P w K mg base 1 "is_tuple" ["thing", "many"] C_is_tuple) (D_is_code_part : Def P w K mg base 4 "is_code_part" ["kind", "thing"] C_is_code_part) :
    Def P w K mg base 5 "is_numbered_test" ["thing"] C_is_numbered_test := by
  have nd := sc_is_numbered_test.nd
  refine def_mk R sc_is_numbered_test fun f cdv A outer s H E hr ds μ Q hl hC => ?_
  obtain ⟨t, nt, ni, rfl, ht, htd, q⟩ := hC
  obtain ⟨dN, hN, wN⟩ := B.nts
  refine jss_mid (fun δ μ' => ∃ t, δ = [some (Tst.dt t), none, none, none] ∧ Tst.ok nt ni t ∧ t.dep ≤ 5 ∧ t.base = true ∧ μ' = μ) ?_ fun δ μ' hI => ?_
  · refine js_while PassesOwn.never (fun δ μ' => ∃ t, δ = [some (Tst.dt t), none, none, none] ∧ Tst.ok nt ni t ∧ t.dep ≤ 5 ∧ μ' = μ) (fun δ _ => slotDep δ) ⟨t, rfl, ht, htd, rfl⟩ fun δ μ' hI => ?_
    obtain ⟨t, rfl, ht, htd, rfl⟩ := hI
    refine jt_w ?_
    refine jw_and ?_
    refine jt_val ?_
    refine je_d D_is_tuple (hr.mono (by decide)) ?_
    refine ja_cons ?_
    refine je_v 0 ?_
    refine ja_cons ?_
    refine je_int ?_
    refine ja_nil ?_
    refine ⟨rfl, _, _, _, rfl, .inl (Tst.dt_eq t), ?_⟩
    refine ⟨_, rfl, ?_⟩
    refine ⟨fun h => ?_, fun h => ?_⟩
    · have hb : t.base = false := by
        cases hb : t.base with
        | false => rfl
        | true => exact absurd (of_decide_eq_true h) (fun e => base_len hb (by omega))
      cases t with
      | neg t =>
        refine jw_and1 ?_
        refine jt_c (jc_eqS ?_)
        refine je_at ?_
        refine je_v 0 ?_
        refine je_int ?_
        refine ⟨_, _, _, .inl (.inl rfl), rfl, rfl, ?_⟩
        refine je_str ?_
        refine ⟨_, _, rfl, rfl, ?_⟩
        refine ⟨_, rfl, ?_⟩
        refine ⟨fun hT => ?_, fun hF => absurd rfl (of_decide_eq_false hF)⟩
        refine jss_one ?_
        refine js_v 0 ?_
        refine je_at ?_
        refine je_v 0 ?_
        refine je_int ?_
        refine ⟨_, _, _, .inl (.inl rfl), rfl, rfl, ?_⟩
        refine ⟨⟨t, rfl, ht, ?_, rfl⟩, dep_neg t⟩
        have : t.dep + 1 ≤ 5 := htd
        omega
      | _ => cases hb
    · refine ⟨fun hT => (by cases hT), fun _ => ⟨t, rfl, ht, htd, ?_, rfl⟩⟩
      cases t with
      | neg t => exact absurd rfl (of_decide_eq_false h)
      | _ => rfl
  · obtain ⟨t, rfl, ht, htd, hb, rfl⟩ := hI
    have hf : Fit (Tst.dt t) := (Tst.fq ht).fit (by omega)
    have hpt := Tst.parts ht hb
    have htab := Tst.tab hb
    rw [Tst.dt_eq] at hf ⊢
    refine jss_cons ?_
    refine js_if ?_
    refine jt_w ?_
    refine jw_or ?_
    refine jt_not ?_
    refine jt_val ?_
    refine je_isiT B.isinstance B.tuple ?_
    refine je_v 0 ?_
    refine ⟨_, .inl rfl, ?_⟩
    refine ⟨_, rfl, ?_⟩
    refine ⟨fun h => (by cases h), fun h => ?_⟩
    refine jw_or ?_
    refine jt_c (jc_eqV hr.units ?_)
    refine je_v 0 ?_
    refine je_unit ?_
    refine ⟨_, _, ⟨.inl rfl, hf⟩, ⟨.inl rfl, (fq_pol []).fit (by decide)⟩, ?_⟩
    rw [ne_unit]
    refine ⟨_, rfl, ?_⟩
    refine ⟨fun h => (by cases h), fun h => ?_⟩
    refine jw_or ?_
    refine jt_not ?_
    refine jt_val ?_
    refine je_isiS B.isinstance B.str ?_
    refine je_at ?_
    refine je_v 0 ?_
    refine je_int ?_
    refine ⟨_, _, _, .inl (.inl rfl), rfl, at0, ?_⟩
    refine ⟨_, rfl, ?_⟩
    refine ⟨_, rfl, ?_⟩
    refine ⟨fun h => (by cases h), fun h => ?_⟩
    refine jw_or1 ?_
    refine jt_c (jc_wnotin wN rfl hN ?_)
    refine je_at ?_
    refine je_v 0 ?_
    refine je_int ?_
    refine ⟨_, _, _, .inl (.inl rfl), rfl, at0, ?_⟩
    refine ⟨_, _, rfl, htab, ?_⟩
    refine ⟨_, rfl, ?_⟩
    refine ⟨fun hT => (by cases hT), fun hF => ?_⟩
    refine jss_nil ?_
    refine jss_cons ?_
    refine js_v 1 ?_
    refine je_wget wN rfl hN (fun _ _ => rfl) ?_
    refine je_at ?_
    refine je_v 0 ?_
    refine je_int ?_
    refine ⟨_, _, _, .inl (.inl rfl), rfl, at0, ?_⟩
    refine ⟨_, _, rfl, htab, ?_⟩
    refine jss_one ?_
    refine js_ret ?_
    refine je_and ?_
    refine je_eqI ?_
    refine je_lenB B.len ?_
    refine je_v 0 ?_
    refine ⟨_, .inr ⟨_, .inl (.inl rfl), rfl⟩, ?_⟩
    refine je_add ?_
    refine je_lenB B.len ?_
    refine je_v 1 ?_
    refine ⟨_, .inr ⟨_, .inl (.inl rfl), rfl⟩, ?_⟩
    refine je_int ?_
    refine ⟨_, _, rfl, rfl, ?_⟩
    refine ⟨_, _, rfl, rfl, ?_⟩
    rw [lens_eq hpt]
    refine ⟨_, rfl, fun _ => ?_, fun h => (by cases h)⟩
    refine je_one ?_
    refine je_allB B.all ?_
    refine je_lc2 2 3 (blkOk_by (N := n_is_numbered_test) (sc := defScope s_is_numbered_test) (own := [("kind", 2), ("part", 3)]) (by decide +kernel)) (by decide) (by decide) ?_
    refine ji_zipT rfl B.zip ?_
    refine ja_cons ?_
    refine je_v 1 ?_
    refine ja_cons ?_
    refine je_slT ?_
    refine je_v 0 ?_
    refine jo_some ?_
    refine je_int ?_
    refine ⟨_, rfl, ?_⟩
    refine jo_none ?_
    refine ⟨_, .inl rfl, ?_⟩
    refine ja_nil ?_
    refine ⟨_, _, _, _, rfl, .inl rfl, .inl rfl, ?_⟩
    rw [cutD_one]
    refine lcR_true mon_pair _ (by rw [zipD_len]; refine Nat.le_trans (Nat.min_le_left _ _) ?_; rw [List.length_map]; have := tkinds_len t; show _ ≤ 2 ^ 24; omega) trivial (fun i d hd => ?_) ?_
    · obtain ⟨k, x, rfl, hk⟩ := zipK_get hpt hd
      refine ⟨_, _, rfl, fun s' H' C' cl' fp' => ?_⟩
      refine je_d D_is_code_part (hr.mono (by decide)) ?_
      refine ja_cons ?_
      refine je_v 2 ?_
      refine ja_cons ?_
      refine je_v 3 ?_
      refine ja_nil ?_
      exact ⟨rfl, _, _, rfl, hk, rfl, rfl⟩
    · refine ⟨_, rfl, ?_⟩
      rw [all_rep]; exact q
abbrev C_is_row_part : Ct := fun ds μ Q => ∃ k d, ds = [.str k, d] ∧ RPartOk k d ∧ Q (.bl true) μ
theorem ok_is_row_part (B : Tops w K mg) (R : Raw K mg "is_row_part" s_is_row_part ["kind", "thing"]) (D_is_numbered_test : Def P w K mg base 5 "is_numbered_test" ["thing"] C_is_numbered_test) (D_is_code_part : Def P w K mg base 4 "is_code_part" ["kind", "thing"] C_is_code_part) :
    Def P w K mg base 6 "is_row_part" ["kind", "thing"] C_is_row_part := by
  have nd := sc_is_row_part.nd
  refine def_mk R sc_is_row_part fun f cdv A outer s H E hr ds μ Q hl hC => ?_
  obtain ⟨k, d, rfl, hp, q⟩ := hC
  unfold RPartOk at hp
  refine jss_one ?_
  refine js_ret ?_
  refine je_ifexp ?_
  refine jt_c (jc_eqS ?_)
  refine je_v 0 ?_
  refine je_str ?_
  refine ⟨_, _, rfl, rfl, ?_⟩
  refine ⟨_, rfl, ?_⟩
  refine ⟨fun hT => ?_, fun hF => ?_⟩
  · rw [if_pos (of_decide_eq_true hT)] at hp
    obtain ⟨t, nt, ni, h1, h2, rfl⟩ := hp
    refine je_d D_is_numbered_test (hr.mono (by decide)) ?_
    refine ja_cons ?_
    refine je_v 1 ?_
    refine ja_nil ?_
    exact ⟨rfl, _, _, _, rfl, h1, h2, q⟩
  · rw [if_neg (of_decide_eq_false hF)] at hp
    refine je_d D_is_code_part (hr.mono (by decide)) ?_
    refine ja_cons ?_
    refine je_v 0 ?_
    refine ja_cons ?_
    refine je_v 1 ?_
    refine ja_nil ?_
    exact ⟨rfl, _, _, rfl, hp, q⟩
/-- a row as it stands in a whole code -/
def Row.good (nt ni np : Nat) (r : Row) : Prop := r.ok nt ni np ∧ r.full = true ∧ ∀ p k, r = .rep p k → p.length ≤ 1000
theorem Row.tab (r : Row) : tabC.lookup r.name = some (tp r.kinds) := by cases r <;> rfl
theorem kinds_len (r : Row) : r.kinds.length ≤ 4 := by cases r <;> simp [Row.kinds]
abbrev C_is_code_row : Ct := fun ds μ Q => ∃ r nt ni np, ds = [Row.dt r] ∧ Row.good nt ni np r ∧ Q (.bl true) μ
theorem ok_is_code_row (B : Tops w K mg) (R : Raw K mg "is_code_row" s_is_code_row ["thing"]) (D_is_row_part : Def P w K mg base 6 "is_row_part" ["kind", "thing"] C_is_row_part) : Def P w K mg base 7 "is_code_row" ["thing"] C_is_code_row := by
  have nd := sc_is_code_row.nd
  refine def_mk R sc_is_code_row fun f cdv A outer s H E hr ds μ Q hl hC => ?_
  obtain ⟨r, nt, ni, np, rfl, hg, q⟩ := hC
  obtain ⟨dC, hC, wC⟩ := B.crs
  have hf : Fit (Row.dt r) := (Row.fq hg.1).fit (by decide)
  have hpt := Row.parts hg.1 hg.2.1 hg.2.2
  have htab := Row.tab r
  refine jss_cons ?_
  refine js_if ?_
  refine jt_w ?_
  refine jw_or ?_
  refine jt_not ?_
  refine jt_val ?_
  refine je_isiT B.isinstance B.tuple ?_
  refine je_v 0 ?_
  refine ⟨_, .inl rfl, ?_⟩
  refine ⟨_, rfl, ?_⟩
  refine ⟨fun h => (by cases h), fun h => ?_⟩
  refine jw_or ?_
  refine jt_c (jc_eqV hr.units ?_)
  refine je_v 0 ?_
  refine je_unit ?_
  refine ⟨_, _, ⟨.inl rfl, hf⟩, ⟨.inl rfl, (fq_pol []).fit (by decide)⟩, ?_⟩
  rw [Row.dt, ne_unit]
  refine ⟨_, rfl, ?_⟩
  refine ⟨fun h => (by cases h), fun h => ?_⟩
  refine jw_or ?_
  refine jt_not ?_
  refine jt_val ?_
  refine je_isiS B.isinstance B.str ?_
  refine je_at ?_
  refine je_v 0 ?_
  refine je_int ?_
  refine ⟨_, _, _, .inl (.inl rfl), rfl, at0, ?_⟩
  refine ⟨_, rfl, ?_⟩
  refine ⟨_, rfl, ?_⟩
  refine ⟨fun h => (by cases h), fun h => ?_⟩
  refine jw_or1 ?_
  refine jt_c (jc_wnotin wC rfl hC ?_)
  refine je_at ?_
  refine je_v 0 ?_
  refine je_int ?_
  refine ⟨_, _, _, .inl (.inl rfl), rfl, at0, ?_⟩
  refine ⟨_, _, rfl, htab, ?_⟩
  refine ⟨_, rfl, ?_⟩
  refine ⟨fun hT => (by cases hT), fun hF => ?_⟩
  refine jss_nil ?_
  refine jss_cons ?_
  refine js_v 1 ?_
  refine je_wget wC rfl hC (fun _ _ => rfl) ?_
  refine je_at ?_
  refine je_v 0 ?_
  refine je_int ?_
  refine ⟨_, _, _, .inl (.inl rfl), rfl, at0, ?_⟩
  refine ⟨_, _, rfl, htab, ?_⟩
  refine jss_one ?_
  refine js_ret ?_
  refine je_and ?_
  refine je_eqI ?_
  refine je_lenB B.len ?_
  refine je_v 0 ?_
  refine ⟨_, .inr ⟨_, .inl (.inl rfl), rfl⟩, ?_⟩
  refine je_add ?_
  refine je_lenB B.len ?_
  refine je_v 1 ?_
  refine ⟨_, .inr ⟨_, .inl (.inl rfl), rfl⟩, ?_⟩
  refine je_int ?_
  refine ⟨_, _, rfl, rfl, ?_⟩
  refine ⟨_, _, rfl, rfl, ?_⟩
  rw [lens_eq hpt]
  refine ⟨_, rfl, fun _ => ?_, fun h => (by cases h)⟩
  refine je_one ?_
  refine je_allB B.all ?_
  refine je_lc2 2 3 (blkOk_by (N := n_is_code_row) (sc := defScope s_is_code_row) (own := [("kind", 2), ("part", 3)]) (by decide +kernel)) (by decide) (by decide) ?_
  refine ji_zipT rfl B.zip ?_
  refine ja_cons ?_
  refine je_v 1 ?_
  refine ja_cons ?_
  refine je_slT ?_
  refine je_v 0 ?_
  refine jo_some ?_
  refine je_int ?_
  refine ⟨_, rfl, ?_⟩
  refine jo_none ?_
  refine ⟨_, .inl rfl, ?_⟩
  refine ja_nil ?_
  refine ⟨_, _, _, _, rfl, .inl rfl, .inl rfl, ?_⟩
  rw [cutD_one]
  refine lcR_true mon_pair _ (by rw [zipD_len]; refine Nat.le_trans (Nat.min_le_left _ _) ?_; rw [List.length_map]; have := kinds_len r; show _ ≤ 2 ^ 24; omega) trivial (fun i d hd => ?_) ?_
  · obtain ⟨k, x, rfl, hk⟩ := zipK_get hpt hd
    refine ⟨_, _, rfl, fun s' H' C' cl' fp' => ?_⟩
    refine je_d D_is_row_part (hr.mono (by decide)) ?_
    refine ja_cons ?_
    refine je_v 2 ?_
    refine ja_cons ?_
    refine je_v 3 ?_
    refine ja_nil ?_
    exact ⟨rfl, _, _, rfl, hk, rfl, rfl⟩
  · refine ⟨_, rfl, ?_⟩
    rw [all_rep]; exact q
abbrev C_is_routine : Ct := fun ds μ Q => ∃ rows nt ni np, ds = [.tup (Rows.dts rows)] ∧ (∀ r ∈ rows, Row.good nt ni np r) ∧ rows.length ≤ 1000 ∧ Q (.bl true) μ
theorem getR {rows : List Row} {i : Nat} {d : Dt} (h : (Rows.dts rows)[i]? = some d) : ∃ r, rows[i]? = some r ∧ d = r.dt := by
  unfold Rows.dts at h
  rw [List.getElem?_map] at h
  obtain ⟨r, h1, h2⟩ := Option.map_eq_some_iff.mp h
  exact ⟨r, h1, h2.symm⟩
theorem dts_len (rows : List Row) : (Rows.dts rows).length = rows.length := by unfold Rows.dts; rw [List.length_map]
theorem ok_is_routine (B : Tops w K mg) (R : Raw K mg "is_routine" s_is_routine ["thing"]) (D_is_code_row : Def P w K mg base 7 "is_code_row" ["thing"] C_is_code_row) : Def P w K mg base 8 "is_routine" ["thing"] C_is_routine := by
  have nd := sc_is_routine.nd
  refine def_mk R sc_is_routine fun f cdv A outer s H E hr ds μ Q hl hC => ?_
  obtain ⟨rows, nt, ni, np, rfl, hg, hlen, q⟩ := hC
  refine jss_one ?_
  refine js_ret ?_
  refine je_and ?_
  refine je_isiT B.isinstance B.tuple ?_
  refine je_v 0 ?_
  refine ⟨_, .inl rfl, ?_⟩
  refine ⟨_, rfl, fun _ => ?_, fun h => (by cases h)⟩
  refine je_one ?_
  refine je_allB B.all ?_
  refine je_lc1 1 (blkOk_by (N := n_is_routine) (sc := defScope s_is_routine) (own := [("row", 1)]) (by decide +kernel)) (by decide) ?_
  refine ji_tup ?_
  refine je_v 0 ?_
  refine ⟨_, .inl rfl, ?_⟩
  refine lcR_true mon_name _ (by rw [dts_len]; show _ ≤ 2 ^ 24; omega) trivial (fun i d hd s' H' C' cl' fp' => ?_) ?_
  · obtain ⟨r, h1, rfl⟩ := getR hd
    refine je_d D_is_code_row (hr.mono (by decide)) ?_
    refine ja_cons ?_
    refine je_v 1 ?_
    refine ja_nil ?_
    exact ⟨rfl, _, _, _, _, rfl, hg r (List.mem_of_getElem? h1), rfl, rfl⟩
  · refine ⟨_, rfl, ?_⟩
    rw [all_rep]; exact q
/-- a code whose parts are fit -/
structure CodeOk (c : Code) : Prop where
  t0 : c.tapes[0]? = some [(1, 1)]
  tp : ∀ p ∈ c.tapes, Can p ∧ p.length ≤ 1000
  ip : ∀ p ∈ c.idx, Can p ∧ p.length ≤ 1000
  tl : c.tapes.length ≤ 1000
  il : c.idx.length ≤ 1000
  rl : c.rts.length ≤ 1000
  rows : ∀ i rows, c.rts[i]? = some rows → rows.length ≤ 1000 ∧ ∀ r ∈ rows, Row.good c.tapes.length c.idx.length i r
abbrev C_is_code_value : Ct := fun ds μ Q => ∃ c, ds = [Code.dt c] ∧ CodeOk c ∧ Q (.bl true) μ
theorem ok_is_code_value (B : Tops w K mg) (R : Raw K mg "is_code_value" s_is_code_value ["thing"]) (D_is_tuple : Def P w K mg base 1 "is_tuple" ["thing", "many"] C_is_tuple) (D_is_poly_value : Def P w K mg base 3 "is_poly_value" ["thing"] C_is_poly_value) (D_is_routine : Def P w K mg base 8 "is_routine" ["thing"] C_is_routine) :
    Def P w K mg base 9 "is_code_value" ["thing"] C_is_code_value := by
  have nd := sc_is_code_value.nd
  refine def_mk R sc_is_code_value fun f cdv A outer s H E hr ds μ Q hl hC => ?_
  obtain ⟨c, rfl, hc, q⟩ := hC
  obtain ⟨aI, hI, rI⟩ := B.inp
  refine jss_cons ?_
  refine js_if ?_
  refine jt_w ?_
  refine jw_or ?_
  refine jt_not ?_
  refine jt_val ?_
  refine je_d D_is_tuple (hr.mono (by decide)) ?_
  refine ja_cons ?_
  refine je_v 0 ?_
  refine ja_cons ?_
  refine je_int ?_
  refine ja_nil ?_
  refine ⟨rfl, _, _, _, rfl, .inl rfl, ?_⟩
  refine ⟨_, rfl, ?_⟩
  refine ⟨fun h => (by cases h), fun h => ?_⟩
  refine jw_or1 ?_
  refine jt_not ?_
  refine jt_val ?_
  refine je_allB B.all ?_
  refine je_lc1 4 (blkOk_by (N := n_is_code_value) (sc := defScope s_is_code_value) (own := [("part", 4)]) (by decide +kernel)) (by decide) ?_
  refine ji_tup ?_
  refine je_v 0 ?_
  refine ⟨_, .inl rfl, ?_⟩
  refine lcR_true mon_name _ (by show 3 ≤ sizeLine; decide) trivial (fun i d hd s' H' C' cl' fp' => ?_) ?_
  · have hd' : ∃ xs, d = .tup xs := by
      match i, hd with
      | 0, hd => cases hd; exact ⟨_, rfl⟩
      | 1, hd => cases hd; exact ⟨_, rfl⟩
      | 2, hd => cases hd; exact ⟨_, rfl⟩
      | i + 3, hd => simp at hd
    obtain ⟨xs, rfl⟩ := hd'
    refine je_isiT B.isinstance B.tuple ?_
    refine je_v 4 ?_
    exact ⟨_, .inl rfl, rfl, rfl⟩
  refine ⟨_, rfl, ?_⟩
  rw [all_rep]
  refine ⟨_, rfl, ?_⟩
  refine ⟨fun hT => (by cases hT), fun hF => ?_⟩
  refine jss_nil ?_
  refine jss_cons ?_
  refine js_asg ?_
  refine je_v 0 ?_
  refine jg_tup rfl (.inl rfl) rfl ?_
  refine jgs_cons ?_
  refine jg_v 1 ?_
  refine jgs_cons ?_
  refine jg_v 2 ?_
  refine jgs_cons ?_
  refine jg_v 3 ?_
  refine jgs_nil ?_
  refine jss_cons ?_
  refine js_if ?_
  refine jt_not ?_
  refine jt_val ?_
  refine je_allB B.all ?_
  refine je_lc1 5 (blkOk_by (N := n_is_code_value) (sc := defScope s_is_code_value) (own := [("poly", 5)]) (by decide +kernel)) (by decide) ?_
  refine ji_tup ?_
  refine je_catT ?_
  refine je_v 1 ?_
  refine je_v 2 ?_
  have htl := hc.tl
  have hil := hc.il
  have hrl := hc.rl
  refine ⟨_, _, rfl, rfl, by rw [List.length_map, List.length_map]; show _ ≤ 2 ^ 24; omega, ?_⟩
  refine ⟨_, .inl rfl, ?_⟩
  refine lcR_true mon_name _ (by rw [List.length_append, List.length_map, List.length_map]; show _ ≤ 2 ^ 24; omega) trivial (fun i d hd s' H' C' cl' fp' => ?_) ?_
  · have hm : d ∈ c.tapes.map Pol.dt ++ c.idx.map Pol.dt := List.mem_of_getElem? hd
    have hd' : ∃ p, d = Pol.dt p ∧ Can p ∧ p.length ≤ 1000 := by
      rcases List.mem_append.mp hm with hm | hm
      · obtain ⟨p, h1, rfl⟩ := List.mem_map.mp hm
        exact ⟨p, rfl, hc.tp p h1⟩
      · obtain ⟨p, h1, rfl⟩ := List.mem_map.mp hm
        exact ⟨p, rfl, hc.ip p h1⟩
    obtain ⟨p, rfl, h1, h2⟩ := hd'
    refine je_d D_is_poly_value (hr.mono (by decide)) ?_
    refine ja_cons ?_
    refine je_v 5 ?_
    refine ja_nil ?_
    exact ⟨rfl, _, _, rfl, pv_dt p, h1, h2, rfl, rfl⟩
  refine ⟨_, rfl, ?_⟩
  rw [all_rep]
  refine ⟨_, rfl, ?_⟩
  refine ⟨fun hT => (by cases hT), fun hF => ?_⟩
  refine jss_nil ?_
  have h0 := hc.t0
  have ht : ∃ tl, c.tapes = [(1, 1)] :: tl := by
    cases e : c.tapes with
    | nil => rw [e] at h0; cases h0
    | cons a l => rw [e] at h0; cases h0; exact ⟨l, rfl⟩
  obtain ⟨tl, et⟩ := ht
  have hf : Fit (.tup (c.tapes.map Pol.dt)) := (fq_tup (n := 2) fun x hx => by
    obtain ⟨p, _, rfl⟩ := List.mem_map.mp hx
    exact fq_dt p).fit (by decide)
  refine jss_cons ?_
  refine js_if ?_
  refine jt_w ?_
  refine jw_or ?_
  refine jt_c (jc_eqV hr.units ?_)
  refine je_v 1 ?_
  refine je_unit ?_
  refine ⟨_, _, ⟨.inl rfl, hf⟩, ⟨.inl rfl, (fq_pol []).fit (by decide)⟩, ?_⟩
  rw [et, List.map_cons, ne_unit]
  refine ⟨_, rfl, ?_⟩
  refine ⟨fun h => (by cases h), fun h => ?_⟩
  refine jw_or1 ?_
  refine jt_c (jc_neV hr.units ?_)
  refine je_at ?_
  refine je_v 1 ?_
  refine je_int ?_
  refine ⟨_, _, _, .inl (.inl rfl), rfl, at0, ?_⟩
  refine je_glob (v := .ref aI) rfl hI rfl rI ?_
  refine ⟨_, _, ⟨.inl rfl, (fq_dt _).fit (by decide)⟩, ⟨.inl rfl, (fq_dt [(1, 1)]).fit (by decide)⟩, ?_⟩
  have e0 : PyData.eqv (Pol.dt [(1, 1)]).py (Dt.tup [pairD (1, 1)]).py = true := by
    simp [Pol.dt, pairD, Dt.py, Dt.pys, PyData.eqv, PyData.eqvAll]
  rw [e0]
  refine ⟨_, rfl, ?_⟩
  refine ⟨fun hT => (by cases hT), fun hF => ?_⟩
  refine jss_nil ?_
  refine jss_one ?_
  refine js_ret ?_
  refine je_allB B.all ?_
  refine je_lc1 6 (blkOk_by (N := n_is_code_value) (sc := defScope s_is_code_value) (own := [("rows", 6)]) (by decide +kernel)) (by decide) ?_
  refine ji_tup ?_
  refine je_v 3 ?_
  refine ⟨_, .inl rfl, ?_⟩
  refine lcR_true mon_name _ (by rw [List.length_map]; show _ ≤ 2 ^ 24; omega) trivial (fun i d hd s' H' C' cl' fp' => ?_) ?_
  · rw [List.getElem?_map] at hd
    obtain ⟨rows, h1, rfl⟩ := Option.map_eq_some_iff.mp hd
    obtain ⟨h2, h3⟩ := hc.rows i rows h1
    refine je_d D_is_routine (hr.mono (by decide)) ?_
    refine ja_cons ?_
    refine je_v 6 ?_
    refine ja_nil ?_
    exact ⟨rfl, _, _, _, _, rfl, h3, h2, rfl, rfl⟩
  · refine ⟨_, rfl, ?_⟩
    rw [all_rep]; exact q
end
end K27
end FE_
section FF_
/-! The walk, sixth part: loops and jumps of a routine. -/
namespace K27
open PySem PySem.Spec PyProof.Rows L2
def isAgn (r : Option Row) (a : Nat) : Bool := match r with
  | some (.agn k) => decide (k = a)
  | _ => false
/-- the last row of a matched repeat -/
def endOf (rows : List Row) (at_ : Nat) : Option Nat := match rows[at_]? with
  | some (.rep _ k) => if decide (at_ < k) && isAgn rows[k]? at_ then some k else none
  | _ => none
def inside (rows : List Row) (place r : Nat) : Bool := match endOf rows r with
  | some k => decide (place ≤ k)
  | none => false
/-- the repeats around a place -/
def around (rows : List Row) (place : Nat) : List Nat := (List.range place).filter (inside rows place)
def LoopOk (rows : List Row) (at_ : Nat) : Prop := match rows[at_]? with
  | some (.rep _ k) => endOf rows at_ = some k ∧ ∀ e ∈ around rows at_, ∀ k', endOf rows e = some k' → k ≤ k'
  | some (.agn a) => a < at_ ∧ endOf rows a = some at_
  | _ => True
def tgOf : Row → Option (Option Nat)
  | .jmp t => some t
  | .unl _ t => some t
  | _ => none
def JumpOk (rows : List Row) (at_ : Nat) : Prop := ∀ r t, rows[at_]? = some r → tgOf r = some t → ∃ k, t = some k ∧ at_ < k ∧ k ≤ rows.length ∧ around rows k = around rows at_
theorem endOf_some {rows : List Row} {r k : Nat} (h : endOf rows r = some k) : ∃ p, rows[r]? = some (.rep p k) ∧ r < k ∧ rows[k]? = some (.agn r) := by
  unfold endOf at h
  split at h
  · next p k' e =>
    split at h
    · next hb =>
      cases h
      rw [Bool.and_eq_true_iff] at hb
      refine ⟨p, e, of_decide_eq_true hb.1, ?_⟩
      have := hb.2
      unfold isAgn at this
      split at this
      · next a e2 => rw [e2, of_decide_eq_true this]
      · cases this
    · cases h
  · cases h
theorem endOf_of {rows : List Row} {r k : Nat} {p : Pol} (h : rows[r]? = some (.rep p k)) (h1 : r < k) (h2 : rows[k]? = some (.agn r)) : endOf rows r = some k := by
  unfold endOf
  rw [h]
  simp only
  rw [h2, decide_eq_true h1]
  simp [isAgn]
theorem natD_inj {a b : Nat} : (PyData.eqv (natD a).py (natD b).py) = decide (a = b) := by
  unfold natD
  simp only [Dt.py, PyData.eqv]
  by_cases h : a = b
  · subst h; simp
  · rw [decide_eq_false h]
    simp only [beq_eq_false_iff_ne, ne_eq]
    omega
theorem eqv_agn (r : Row) (a : Nat) : PyData.eqv (Row.dt r).py (Dt.tup [.str "again", natD a]).py = isAgn (some r) a := by
  have e : PyData.eqv (Row.dt r).py (Dt.tup [.str "again", natD a]).py = (((r.name : Str) == "again") && PyData.eqvAll (Dt.pys r.args) [(natD a).py]) := by
    unfold Row.dt
    simp only [Dt.py, Dt.pys, PyData.eqv, PyData.eqvAll]
  rw [e]
  cases r with
  | agn k =>
    have e1 : ((Row.agn k).name == ("again" : Str)) = true := by simp only [Row.name]; decide
    rw [e1, Bool.true_and]
    show PyData.eqvAll [(natD k).py] [(natD a).py] = _
    simp only [PyData.eqvAll, Bool.and_true]
    rw [natD_inj]; rfl
  | _ =>
    simp only [Row.name]
    exact Bool.and_eq_false_imp.mpr fun h => absurd h (by decide)
theorem name_rep {r : Row} (h : r.name = "repeat") : ∃ p k, r = .rep p k := by
  cases r with
  | rep p k => exact ⟨p, k, rfl⟩
  | _ => exact absurd h (by simp only [Row.name]; decide)
theorem name_agn {r : Row} (h : r.name = "again") : ∃ k, r = .agn k := by
  cases r with
  | agn k => exact ⟨k, rfl⟩
  | _ => exact absurd h (by simp only [Row.name]; decide)
theorem name_cho {r : Row} (h : r.name = "choose") : ∃ pl t i x, r = .cho pl t i x := by
  cases r with
  | cho pl t i x => exact ⟨pl, t, i, x, rfl⟩
  | _ => exact absurd h (by simp only [Row.name]; decide)
theorem name_cal {r : Row} (h : r.name = "call") : ∃ k, r = .cal k := by
  cases r with
  | cal k => exact ⟨k, rfl⟩
  | _ => exact absurd h (by simp only [Row.name]; decide)
theorem dts_get {rows : List Row} {i : Nat} {r : Row} (h : rows[i]? = some r) : (Rows.dts rows)[i]? = some r.dt := by
  unfold Rows.dts
  rw [List.getElem?_map, h]; rfl
section
variable {P : Program} {w : World} {K : PySem.W.Frag} {mg : Str → Option Value} {base : Heap}
def RowsFit (rows : List Row) : Prop := (∀ r ∈ rows, Fq 8 r.dt) ∧ rows.length ≤ 1000
abbrev C_is_matched : Ct := fun ds μ Q => ∃ rows, ∃ at_ : Nat, ds = [.tup (Rows.dts rows), .int at_] ∧ at_ < rows.length ∧ RowsFit rows ∧ Q (.bl (endOf rows at_).isSome) μ
theorem ok_is_matched (B : Tops w K mg) (R : Raw K mg "is_matched" s_is_matched ["rows", "at"]) : Def P w K mg base 1 "is_matched" ["rows", "at"] C_is_matched := by
  have nd := sc_is_matched.nd
  refine def_mk R sc_is_matched fun f cdv A outer s H E hr ds μ Q hl hC => ?_
  obtain ⟨rows, at_, rfl, hat, hf, q⟩ := hC
  obtain ⟨r, hr0⟩ : ∃ r, rows[at_]? = some r := ⟨_, List.getElem?_eq_getElem hat⟩
  refine jss_cons ?_
  refine js_if ?_
  refine jt_c (jc_neS ?_)
  refine je_at ?_
  refine je_at ?_
  refine je_v 0 ?_
  refine je_v 1 ?_
  refine ⟨_, _, _, .inl (.inl rfl), rfl, at_nat (dts_get hr0), ?_⟩
  refine je_int ?_
  refine ⟨_, _, _, .inl (.inl rfl), rfl, at0, ?_⟩
  refine je_str ?_
  refine ⟨_, _, rfl, rfl, ?_⟩
  refine ⟨_, rfl, ?_⟩
  refine ⟨fun hT => ?_, fun hF => ?_⟩
  · have hn : r.name ≠ "repeat" := by simpa using hT
    have e : endOf rows at_ = none := by
      unfold endOf
      rw [hr0]
      cases r with
      | rep p k => exact absurd rfl hn
      | _ => rfl
    rw [e] at q
    refine jss_one ?_
    refine js_ret ?_
    exact je_bl q
  · obtain ⟨p, k, rfl⟩ := name_rep (r := r) (by simpa using hF)
    refine jss_nil ?_
    refine jss_cons ?_
    refine js_v 2 ?_
    refine je_at ?_
    refine je_at ?_
    refine je_v 0 ?_
    refine je_v 1 ?_
    refine ⟨_, _, _, .inl (.inl rfl), rfl, at_nat (dts_get hr0), ?_⟩
    refine je_int ?_
    refine ⟨_, _, _, .inl (.inl rfl), rfl, at2, ?_⟩
    refine jss_one ?_
    refine js_ret ?_
    have hend : endOf rows at_ = if decide (at_ < k) && isAgn rows[k]? at_ then some k else none := by unfold endOf; rw [hr0]
    refine je_and ?_
    refine je_ltlt ?_
    refine je_v 1 ?_
    refine je_v 2 ?_
    refine ⟨_, _, rfl, rfl, fun h => ?_, fun h => ?_⟩
    · have h1 : at_ < k := by have := of_decide_eq_true h; omega
      refine je_lenB B.len ?_
      refine je_v 0 ?_
      refine ⟨_, .inr ⟨_, .inl (.inl rfl), rfl⟩, ?_⟩
      rw [dts_len]
      refine ⟨_, rfl, ?_⟩
      refine ⟨_, rfl, fun h2 => ?_, fun h2 => ?_⟩
      · have hk : k < rows.length := by have := of_decide_eq_true h2; omega
        obtain ⟨r2, hr2⟩ : ∃ r, rows[k]? = some r := ⟨_, List.getElem?_eq_getElem hk⟩
        refine je_one ?_
        refine je_eqV hr.units ?_
        refine je_at ?_
        refine je_v 0 ?_
        refine je_v 2 ?_
        refine ⟨_, _, _, .inl (.inl rfl), rfl, at_nat (dts_get hr2), ?_⟩
        refine je_tup ?_
        refine ja_cons ?_
        refine je_str ?_
        refine ja_cons ?_
        refine je_v 1 ?_
        refine ja_nil ?_
        refine ⟨by show 2 ≤ sizeLine; decide, ?_⟩
        refine ⟨_, _, ⟨.inl rfl, (hf.1 r2 (List.mem_of_getElem? hr2)).fit (by decide)⟩, ⟨.inl rfl, Fq.fit (n := 1) (fq_tup (n := 0) fun x hx => by
          simp only [List.mem_cons, List.not_mem_nil, or_false] at hx
          rcases hx with rfl | rfl
          · exact fq_str (by decide +kernel)
          · exact fq_int _) (by decide)⟩, ?_⟩
        have e2 : PyData.eqv (Row.dt r2).py (Dt.tup [.str "again", .int at_]).py = isAgn (some r2) at_ := eqv_agn r2 at_
        rw [e2]
        have e3 : (endOf rows at_).isSome = isAgn (some r2) at_ := by
          rw [hend, hr2, decide_eq_true h1, Bool.true_and]
          cases isAgn (some r2) at_ <;> rfl
        rw [← e3]; exact q
      · have hk : rows[k]? = none := List.getElem?_eq_none (by have := of_decide_eq_false h2; omega)
        have e3 : (endOf rows at_).isSome = false := by
          rw [hend, hk, decide_eq_true h1, Bool.true_and]; rfl
        rw [e3] at q
        exact q
    · have h1 : ¬ at_ < k := by have := of_decide_eq_false h; omega
      have e3 : (endOf rows at_).isSome = false := by
        rw [hend, decide_eq_false h1, Bool.false_and]; rfl
      rw [e3] at q
      exact ⟨_, rfl, fun h => (by cases h), fun _ => q⟩
abbrev C_repeats_around : Ct := fun ds μ Q => ∃ rows, ∃ place : Nat, ds = [.tup (Rows.dts rows), .int place] ∧ place ≤ rows.length ∧ RowsFit rows ∧ Q (.lst ((around rows place).map natD)) μ
theorem filterMap_if {α β : Type} (f : α → Bool) (g : α → β) : ∀ l : List α, l.filterMap (fun x => if f x then some (g x) else none) = (l.filter f).map g
  | [] => rfl
  | x :: l => by
    by_cases h : f x = true
    · rw [List.filterMap_cons_some (b := g x) (by rw [if_pos h]), filterMap_if f g l, List.filter_cons_of_pos h, List.map_cons]
    · rw [List.filterMap_cons_none (by rw [if_neg h]), filterMap_if f g l, List.filter_cons_of_neg h]
theorem ok_repeats_around (B : Tops w K mg) (R : Raw K mg "repeats_around" s_repeats_around ["rows", "place"]) (D_is_matched : Def P w K mg base 1 "is_matched" ["rows", "at"] C_is_matched) : Def P w K mg base 2 "repeats_around" ["rows", "place"] C_repeats_around := by
  have nd := sc_repeats_around.nd
  refine def_mk R sc_repeats_around fun f cdv A outer s H E hr ds μ Q hl hC => ?_
  obtain ⟨rows, place, rfl, hpl, hf, q⟩ := hC
  have hlen := hf.2
  refine jss_one ?_
  refine js_ret ?_
  refine je_lc1if 2 (blkOk_by (N := n_repeats_around) (sc := defScope s_repeats_around) (own := [("at", 2)]) (by decide +kernel)) (by decide) ?_
  refine ji_range1 rfl B.range ?_
  refine je_v 1 ?_
  refine ⟨_, rfl, by omega, by omega, ?_⟩
  refine lcR_pure mon_name mon_one _ (fun d => match d with | .int i => if inside rows place i.toNat then some (.int i) else none | _ => none) (by rw [rgD_len]; show _ ≤ 2 ^ 24; omega) trivial (fun i d hd s' H' C' cl' fp' => ?_) ?_
  · obtain ⟨hi, rfl⟩ := rgD_get hd
    have hi' : i < place := by simpa using hi
    have ez : (0 : Int) + (i : Nat) = (i : Nat) := by omega
    rw [ez]
    refine jt_w ?_
    refine jw_and ?_
    refine jt_val ?_
    refine je_d D_is_matched (hr.mono (by decide)) ?_
    refine ja_cons ?_
    refine je_v 0 ?_
    refine ja_cons ?_
    refine je_v 2 ?_
    refine ja_nil ?_
    refine ⟨rfl, rows, i, rfl, by omega, hf, ?_⟩
    refine ⟨_, rfl, fun h => ?_, fun h => ⟨fun h => (by cases h), fun _ => ⟨?_, rfl⟩⟩⟩
    · cases e : endOf rows i with
      | none => rw [e] at h; cases h
      | some k =>
        obtain ⟨p, h1, h2, h3⟩ := endOf_some e
        refine jw_and1 ?_
        refine jt_c (jc_le ?_)
        refine je_v 1 ?_
        refine je_at ?_
        refine je_at ?_
        refine je_v 0 ?_
        refine je_v 2 ?_
        refine ⟨_, _, _, .inl (.inl rfl), rfl, at_nat (dts_get h1), ?_⟩
        refine je_int ?_
        refine ⟨_, _, _, .inl (.inl rfl), rfl, at2, ?_⟩
        refine ⟨_, _, rfl, rfl, ?_⟩
        have ei : inside rows place i = decide ((place : Int) ≤ (k : Int)) := by
          unfold inside
          rw [e]
          simp only
          exact decide_eq_decide.mpr (by omega)
        refine ⟨_, rfl, fun hT s' H' C' cl' fp' => ?_, fun hF => ⟨?_, rfl⟩⟩
        · refine je_v 2 ?_
          refine ⟨?_, rfl⟩
          show (if inside rows place ((i : Nat) : Int).toNat then _ else _) = _
          rw [Int.toNat_natCast, ei, hT]; rfl
        · show (if inside rows place ((i : Nat) : Int).toNat then _ else _) = _
          rw [Int.toNat_natCast, ei, hF]; rfl
    · show (if inside rows place ((i : Nat) : Int).toNat then _ else _) = _
      have ei : inside rows place i = false := by
        unfold inside
        cases e : endOf rows i with
        | none => rfl
        | some k => rw [e] at h; cases h
      rw [Int.toNat_natCast, ei]; rfl
  · have e : (rgD 0 ((place : Int)).toNat).filterMap (fun d => match d with | .int i => if inside rows place i.toNat then some (Dt.int i) else none | _ => none) = (around rows place).map natD := by
      unfold rgD around
      rw [List.filterMap_map, Int.toNat_natCast, ← filterMap_if]
      congr 1
      funext x
      show (if inside rows place ((0 : Int) + (x : Nat)).toNat then some (Dt.int (0 + (x : Nat))) else none) = _
      rw [Int.zero_add, Int.toNat_natCast]; rfl
    rw [e]; exact q
end
end K27
end FF_
section FG_
/-! The walk, seventh part: what an accepted routine is asked. -/
namespace K27
open PySem PySem.Spec PyProof.Rows L2
section
variable {X : Cx} {scope : Scope} {elt a b : Expr} {δ : Env'} {μ : Sto} {pos : Pos}
theorem any_rep : ∀ n : Nat, (List.replicate n false).any id = false
  | 0 => rfl
  | n + 1 => by rw [List.replicate_succ, List.any_cons, any_rep n]; rfl
/-- each item gives False -/
theorem lcR_false {asg : AsgD} {cond : Sto → Prop} {Q : List Dt → Sto → Prop} (mA : MonA asg) (items : List Dt) (hl : items.length ≤ sizeLine) (hc : cond μ)
    (hs : ∀ (i : Nat) (d : Dt), items[i]? = some d → asg d δ fun δ1 => JEb X scope elt δ1 μ fun y μ3 => y = .bl false ∧ μ3 = μ) (he : Q ((List.replicate items.length false).map .bl) μ) : lcR X scope elt asg tsYes cond Q δ items [] μ := by
  refine lcR_inv mA mon_yes items hl (fun i acc μ' => acc = (List.replicate i false).map .bl ∧ μ' = μ) ⟨rfl, rfl⟩ (fun i acc μ' h => by rw [h.2]; exact hc) (fun i d hd acc μ' h => ?_) (fun acc μ' h => by
    rw [h.1, h.2]; exact he)
  obtain ⟨rfl, rfl⟩ := h
  refine mA d δ _ _ (fun δ1 q => ⟨fun _ s H C cl fp => (q s H C cl fp).imp fun y μ3 q3 => ⟨?_, q3.2⟩, fun hb => by cases hb⟩) (hs i d hd)
  rw [q3.1, List.replicate_succ', List.map_append]
  rfl
def fNotIn : Dt → Dt → Sto → QE → Prop := fun x y μ Q => ∃ ds, y = .tup ds ∧ flatD x = true ∧ ds.all flatD = true ∧ Q (.bl (!inV x.v (ds.map Dt.v))) μ
theorem od_notin {K : PySem.W.Frag} : OpD K (rIn K true) fNotIn := fun G H μ v w x y Q QQ hm rx ry ⟨ds, e, f1, f2, q⟩ k => by
  subst e
  obtain ⟨rfl, hx⟩ := rx.flat f1
  cases ry with
  | tup h r =>
    obtain ⟨rfl, h2⟩ := r.flat f2
    exact ⟨_, _, rfl, .inr (hm.ex.sqt h), hx, h2, k.here hm (.bl _) q⟩
theorem jc_notinT {Q : QE} (h : JE X a δ μ fun x μ1 => JE X b δ μ1 fun y μ2 => ∃ ds, y = .tup ds ∧ flatD x = true ∧ ds.all flatD = true ∧ Q (.bl (!inV x.v (ds.map Dt.v))) μ2) : JC X .NotIn a b δ μ Q := jc_op op_notIn_seq od_notin h
end
section
variable {P : Program} {w : World} {K : PySem.W.Frag} {mg : Str → Option Value} {base : Heap}
theorem mem_around {rows : List Row} {place r : Nat} : r ∈ around rows place ↔ r < place ∧ ∃ k, endOf rows r = some k ∧ place ≤ k := by
  unfold around
  rw [List.mem_filter, List.mem_range]
  refine and_congr Iff.rfl ?_
  unfold inside
  cases e : endOf rows r with
  | none => simp
  | some k => simp
theorem around_len (rows : List Row) (place : Nat) : (around rows place).length ≤ place := by
  unfold around
  exact Nat.le_trans (List.length_filter_le _ _) (by rw [List.length_range]; exact Nat.le_refl _)
abbrev C_crosses_earlier : Ct := fun ds μ Q => ∃ rows, ∃ at_ : Nat, ∃ p k, ds = [.tup (Rows.dts rows), .int at_] ∧ rows[at_]? = some (.rep p k) ∧ (∀ e ∈ around rows at_, ∀ k', endOf rows e = some k' → k ≤ k') ∧ RowsFit rows ∧ Q (.bl false) μ
theorem ok_crosses_earlier (B : Tops w K mg) (R : Raw K mg "crosses_earlier" s_crosses_earlier ["rows", "at"]) (D_repeats_around : Def P w K mg base 2 "repeats_around" ["rows", "place"] C_repeats_around) : Def P w K mg base 3 "crosses_earlier" ["rows", "at"] C_crosses_earlier := by
  have nd := sc_crosses_earlier.nd
  refine def_mk R sc_crosses_earlier fun f cdv A outer s H E hr ds μ Q hl hC => ?_
  obtain ⟨rows, at_, p, k, rfl, h0, hx, hf, q⟩ := hC
  have hat := (List.getElem?_eq_some_iff.mp h0).1
  have hlen := hf.2
  refine jss_cons ?_
  refine js_v 2 ?_
  refine je_at ?_
  refine je_at ?_
  refine je_v 0 ?_
  refine je_v 1 ?_
  refine ⟨_, _, _, .inl (.inl rfl), rfl, at_nat (dts_get h0), ?_⟩
  refine je_int ?_
  refine ⟨_, _, _, .inl (.inl rfl), rfl, at2, ?_⟩
  refine jss_one ?_
  refine js_ret ?_
  refine je_anyB B.any ?_
  refine je_lc1 3 (blkOk_by (N := n_crosses_earlier) (sc := defScope s_crosses_earlier) (own := [("earlier", 3)]) (by decide +kernel)) (by decide) ?_
  refine ji_lst ?_
  refine je_d D_repeats_around (hr.mono (by decide)) ?_
  refine ja_cons ?_
  refine je_v 0 ?_
  refine ja_cons ?_
  refine je_v 1 ?_
  refine ja_nil ?_
  refine ⟨rfl, rows, at_, rfl, Nat.le_of_lt hat, hf, ?_⟩
  refine ⟨_, rfl, ?_⟩
  have hal := around_len rows at_
  refine lcR_false mon_name _ (by rw [List.length_map]; show _ ≤ 2 ^ 24; omega) trivial (fun i d hd s' H' C' cl' fp' => ?_) ?_
  · rw [List.getElem?_map] at hd
    obtain ⟨e, he, rfl⟩ := Option.map_eq_some_iff.mp hd
    have hm := List.mem_of_getElem? he
    obtain ⟨h1, k', h2, h3⟩ := mem_around.mp hm
    obtain ⟨p', h4, _, _⟩ := endOf_some h2
    have h5 := hx e hm k' h2
    refine je_gt ?_
    refine je_v 2 ?_
    refine je_at ?_
    refine je_at ?_
    refine je_v 0 ?_
    refine je_v 3 ?_
    refine ⟨_, _, _, .inl (.inl rfl), rfl, at_nat (dts_get h4), ?_⟩
    refine je_int ?_
    refine ⟨_, _, _, .inl (.inl rfl), rfl, at2, ?_⟩
    refine ⟨_, _, rfl, rfl, ?_⟩
    have e5 : decide ((k' : Int) < (k : Int)) = false := decide_eq_false (by omega)
    rw [e5]
    exact ⟨rfl, rfl⟩
  · refine ⟨_, rfl, ?_⟩
    rw [any_rep]; exact q
abbrev C_has_bad_loop : Ct := fun ds μ Q => ∃ rows, ∃ at_ : Nat, ds = [.tup (Rows.dts rows), .int at_] ∧ at_ < rows.length ∧ LoopOk rows at_ ∧ RowsFit rows ∧ Q (.bl false) μ
theorem ok_has_bad_loop (B : Tops w K mg) (R : Raw K mg "has_bad_loop" s_has_bad_loop ["rows", "at"]) (D_is_matched : Def P w K mg base 1 "is_matched" ["rows", "at"] C_is_matched) (D_crosses_earlier : Def P w K mg base 3 "crosses_earlier" ["rows", "at"] C_crosses_earlier) :
    Def P w K mg base 4 "has_bad_loop" ["rows", "at"] C_has_bad_loop := by
  have nd := sc_has_bad_loop.nd
  refine def_mk R sc_has_bad_loop fun f cdv A outer s H E hr ds μ Q hl hC => ?_
  obtain ⟨rows, at_, rfl, hat, hL, hf, q⟩ := hC
  obtain ⟨r, hr0⟩ : ∃ r, rows[at_]? = some r := ⟨_, List.getElem?_eq_getElem hat⟩
  unfold LoopOk at hL
  rw [hr0] at hL
  refine jss_cons ?_
  refine js_v 2 ?_
  refine je_at ?_
  refine je_v 0 ?_
  refine je_v 1 ?_
  refine ⟨_, _, _, .inl (.inl rfl), rfl, at_nat (dts_get hr0), ?_⟩
  refine jss_cons ?_
  refine js_if ?_
  refine jt_c (jc_eqS ?_)
  refine je_at ?_
  refine je_v 2 ?_
  refine je_int ?_
  refine ⟨_, _, _, .inl (.inl rfl), rfl, at0, ?_⟩
  refine je_str ?_
  refine ⟨_, _, rfl, rfl, ?_⟩
  refine ⟨_, rfl, ?_⟩
  refine ⟨fun hT => ?_, fun hF => ?_⟩
  · obtain ⟨p, k, rfl⟩ := name_rep (of_decide_eq_true hT)
    refine jss_one ?_
    refine js_ret ?_
    refine je_or ?_
    refine je_not ?_
    refine je_d D_is_matched (hr.mono (by decide)) ?_
    refine ja_cons ?_
    refine je_v 0 ?_
    refine ja_cons ?_
    refine je_v 1 ?_
    refine ja_nil ?_
    refine ⟨rfl, rows, at_, rfl, hat, hf, ?_⟩
    rw [hL.1]
    refine ⟨_, rfl, ?_⟩
    refine ⟨_, rfl, fun h => (by cases h), fun _ => ?_⟩
    refine je_one ?_
    refine je_d D_crosses_earlier (hr.mono (by decide)) ?_
    refine ja_cons ?_
    refine je_v 0 ?_
    refine ja_cons ?_
    refine je_v 1 ?_
    refine ja_nil ?_
    exact ⟨rfl, rows, at_, p, k, rfl, hr0, hL.2, hf, q⟩
  · refine jss_nil ?_
    refine jss_cons ?_
    refine js_if ?_
    refine jt_c (jc_eqS ?_)
    refine je_at ?_
    refine je_v 2 ?_
    refine je_int ?_
    refine ⟨_, _, _, .inl (.inl rfl), rfl, at0, ?_⟩
    refine je_str ?_
    refine ⟨_, _, rfl, rfl, ?_⟩
    refine ⟨_, rfl, ?_⟩
    refine ⟨fun hT => ?_, fun hF => ?_⟩
    · obtain ⟨a, rfl⟩ := name_agn (of_decide_eq_true hT)
      obtain ⟨h1, h2⟩ := hL
      obtain ⟨p, h3, h4, h5⟩ := endOf_some h2
      refine jss_cons ?_
      refine js_v 3 ?_
      refine je_at ?_
      refine je_v 2 ?_
      refine je_int ?_
      refine ⟨_, _, _, .inl (.inl rfl), rfl, at1, ?_⟩
      refine jss_one ?_
      refine js_ret ?_
      refine je_or ?_
      refine je_ge ?_
      refine je_v 3 ?_
      refine je_v 1 ?_
      refine ⟨_, _, rfl, rfl, ?_⟩
      have e1 : decide ((at_ : Int) ≤ (a : Int)) = false := decide_eq_false (by omega)
      rw [e1]
      refine ⟨_, rfl, fun h => (by cases h), fun _ => ?_⟩
      refine je_or ?_
      refine je_not ?_
      refine je_d D_is_matched (hr.mono (by decide)) ?_
      refine ja_cons ?_
      refine je_v 0 ?_
      refine ja_cons ?_
      refine je_v 3 ?_
      refine ja_nil ?_
      refine ⟨rfl, rows, a, rfl, by omega, hf, ?_⟩
      rw [h2]
      refine ⟨_, rfl, ?_⟩
      refine ⟨_, rfl, fun h => (by cases h), fun _ => ?_⟩
      refine je_one ?_
      refine je_neI ?_
      refine je_at ?_
      refine je_at ?_
      refine je_v 0 ?_
      refine je_v 3 ?_
      refine ⟨_, _, _, .inl (.inl rfl), rfl, at_nat (dts_get h3), ?_⟩
      refine je_int ?_
      refine ⟨_, _, _, .inl (.inl rfl), rfl, at2, ?_⟩
      refine je_v 1 ?_
      refine ⟨_, _, rfl, rfl, ?_⟩
      rw [decide_eq_true rfl]
      exact q
    · refine jss_nil ?_
      refine jss_one ?_
      refine js_ret ?_
      exact je_bl q
theorem in_jump (r : Row) : inV (V.str r.name) [.str "jump", .str "unless"] = (tgOf r).isSome := by
  cases r <;> (simp only [Row.name, tgOf, Option.isSome_some, Option.isSome_none]; decide +kernel)
theorem last_arg {r : Row} {k : Nat} (h : tgOf r = some (some k)) : atI (Dt.str r.name :: r.args) (-1) = some (natD k) := by
  cases r with
  | jmp t => cases h; rfl
  | unl t u => cases h; rfl
  | _ => cases h
theorem eqv_lst (xs : List Nat) : PyData.eqv (Dt.lst (xs.map natD)).py (Dt.lst (xs.map natD)).py = true := by
  simp only [Dt.py, PyData.eqv]
  induction xs with
  | nil => rfl
  | cons x xs ih =>
    rw [List.map_cons]
    simp only [Dt.pys, PyData.eqvAll]
    rw [ih, natD_inj, decide_eq_true rfl]; rfl
abbrev C_has_bad_jump : Ct := fun ds μ Q => ∃ rows, ∃ at_ : Nat, ds = [.tup (Rows.dts rows), .int at_] ∧ at_ < rows.length ∧ JumpOk rows at_ ∧ RowsFit rows ∧ Q (.bl false) μ
theorem fit_nats (xs : List Nat) : Fit (.lst (xs.map natD)) := (fq_lst (n := 0) fun x hx => by
  obtain ⟨k, _, rfl⟩ := List.mem_map.mp hx
  exact fq_nat k).fit (by decide)
theorem ok_has_bad_jump (B : Tops w K mg) (R : Raw K mg "has_bad_jump" s_has_bad_jump ["rows", "at"]) (D_repeats_around : Def P w K mg base 2 "repeats_around" ["rows", "place"] C_repeats_around) : Def P w K mg base 3 "has_bad_jump" ["rows", "at"] C_has_bad_jump := by
  have nd := sc_has_bad_jump.nd
  refine def_mk R sc_has_bad_jump fun f cdv A outer s H E hr ds μ Q hl hC => ?_
  obtain ⟨rows, at_, rfl, hat, hJ, hf, q⟩ := hC
  obtain ⟨r, hr0⟩ : ∃ r, rows[at_]? = some r := ⟨_, List.getElem?_eq_getElem hat⟩
  refine jss_cons ?_
  refine js_v 2 ?_
  refine je_at ?_
  refine je_v 0 ?_
  refine je_v 1 ?_
  refine ⟨_, _, _, .inl (.inl rfl), rfl, at_nat (dts_get hr0), ?_⟩
  refine jss_cons ?_
  refine js_if ?_
  refine jt_c (jc_notinT ?_)
  refine je_at ?_
  refine je_v 2 ?_
  refine je_int ?_
  refine ⟨_, _, _, .inl (.inl rfl), rfl, at0, ?_⟩
  refine je_tup ?_
  refine ja_cons ?_
  refine je_str ?_
  refine ja_cons ?_
  refine je_str ?_
  refine ja_nil ?_
  refine ⟨by show 2 ≤ sizeLine; decide, ?_⟩
  refine ⟨_, rfl, rfl, rfl, ?_⟩
  refine ⟨_, rfl, ?_⟩
  have ein := in_jump r
  refine ⟨fun hT => ?_, fun hF => ?_⟩
  · refine jss_one ?_
    refine js_ret ?_
    exact je_bl q
  · have hs : (tgOf r).isSome = true := by
      rw [← ein]
      have hF' : (!inV (V.str r.name) [.str "jump", .str "unless"]) = false := hF
      simpa using hF'
    obtain ⟨t, ht⟩ := Option.isSome_iff_exists.mp hs
    obtain ⟨k, rfl, h1, h2, h3⟩ := hJ r t hr0 ht
    refine jss_nil ?_
    refine jss_cons ?_
    refine js_v 3 ?_
    refine je_at ?_
    refine je_v 2 ?_
    refine je_neg ?_
    refine je_int ?_
    refine ⟨_, rfl, ?_⟩
    refine ⟨_, _, _, .inl (.inl rfl), rfl, last_arg ht, ?_⟩
    refine jss_cons ?_
    refine js_if ?_
    refine jt_w ?_
    refine jw_or ?_
    refine jt_c (jc_le ?_)
    refine je_v 3 ?_
    refine je_v 1 ?_
    refine ⟨_, _, rfl, rfl, ?_⟩
    have e1 : decide ((k : Int) ≤ (at_ : Int)) = false := decide_eq_false (by omega)
    rw [e1]
    refine ⟨_, rfl, ?_⟩
    refine ⟨fun h => (by cases h), fun h => ?_⟩
    refine jw_or1 ?_
    refine jt_c (jc_gt ?_)
    refine je_v 3 ?_
    refine je_lenB B.len ?_
    refine je_v 0 ?_
    refine ⟨_, .inr ⟨_, .inl (.inl rfl), rfl⟩, ?_⟩
    rw [dts_len]
    refine ⟨_, _, rfl, rfl, ?_⟩
    have e2 : decide (((rows.length : Nat) : Int) < (k : Int)) = false := decide_eq_false (by omega)
    rw [e2]
    refine ⟨_, rfl, ?_⟩
    refine ⟨fun hT => (by cases hT), fun hF => ?_⟩
    refine jss_nil ?_
    refine jss_one ?_
    refine js_ret ?_
    refine je_neV hr.units ?_
    refine je_d D_repeats_around (hr.mono (by decide)) ?_
    refine ja_cons ?_
    refine je_v 0 ?_
    refine ja_cons ?_
    refine je_v 3 ?_
    refine ja_nil ?_
    refine ⟨rfl, rows, k, rfl, h2, hf, ?_⟩
    refine je_d D_repeats_around (hr.mono (by decide)) ?_
    refine ja_cons ?_
    refine je_v 0 ?_
    refine ja_cons ?_
    refine je_v 1 ?_
    refine ja_nil ?_
    refine ⟨rfl, rows, at_, rfl, Nat.le_of_lt hat, hf, ?_⟩
    refine ⟨_, _, ⟨.inl rfl, fit_nats _⟩, ⟨.inl rfl, fit_nats _⟩, ?_⟩
    rw [h3, eqv_lst]
    exact q
/-- the input is not written -/
abbrev C_writes_input : Ct := fun ds μ Q => ∃ r nt ni np, ds = [Row.dt r] ∧ Row.ok nt ni np r ∧ Q (.bl false) μ
def wr1 : Row → Option Nat
  | .st t .. => some t | .cpy t .. => some t | .clr t .. => some t
  | _ => none
theorem in_wr (r : Row) : inV (V.str r.name) [.str "set", .str "copy", .str "clear"] = (wr1 r).isSome := by
  cases r <;> (simp only [Row.name, wr1, Option.isSome_some, Option.isSome_none]; decide +kernel)
theorem wr1_at {r : Row} {nt ni np t : Nat} (h : wr1 r = some t) (ho : r.ok nt ni np) : 1 ≤ t ∧ atI (Dt.str r.name :: r.args) 1 = some (natD t) := by
  cases r with
  | st a i x => cases h; exact ⟨ho.1, rfl⟩
  | cpy a i u j => cases h; exact ⟨ho.1, rfl⟩
  | clr a i => cases h; exact ⟨ho.1, rfl⟩
  | _ => cases h
theorem ok_writes_input (B : Tops w K mg) (R : Raw K mg "writes_input" s_writes_input ["row"]) : Def P w K mg base 1 "writes_input" ["row"] C_writes_input := by
  have nd := sc_writes_input.nd
  refine def_mk R sc_writes_input fun f cdv A outer s H E hr ds μ Q hl hC => ?_
  obtain ⟨r, nt, ni, np, rfl, ho, q⟩ := hC
  refine jss_cons ?_
  refine js_if ?_
  refine jt_c (jc_eqS ?_)
  refine je_at ?_
  refine je_v 0 ?_
  refine je_int ?_
  refine ⟨_, _, _, .inl (.inl rfl), rfl, at0, ?_⟩
  refine je_str ?_
  refine ⟨_, _, rfl, rfl, ?_⟩
  refine ⟨_, rfl, ?_⟩
  refine ⟨fun hT => ?_, fun hF => ?_⟩
  · obtain ⟨pl, t, i, x, rfl⟩ := name_cho (of_decide_eq_true hT)
    refine jss_one ?_
    refine js_ret ?_
    refine je_eqI ?_
    refine je_at ?_
    refine je_v 0 ?_
    refine je_int ?_
    refine ⟨_, _, _, .inl (.inl rfl), rfl, at2, ?_⟩
    refine je_int ?_
    refine ⟨_, _, rfl, rfl, ?_⟩
    have ht : 1 ≤ t := ho.2.1
    have e1 : decide ((t : Int) = 0) = false := decide_eq_false (by omega)
    rw [e1]
    exact q
  · refine jss_nil ?_
    refine jss_one ?_
    refine js_ret ?_
    refine je_and ?_
    refine je_inT rfl ?_
    refine je_at ?_
    refine je_v 0 ?_
    refine je_int ?_
    refine ⟨_, _, _, .inl (.inl rfl), rfl, at0, ?_⟩
    refine je_tup ?_
    refine ja_cons ?_
    refine je_str ?_
    refine ja_cons ?_
    refine je_str ?_
    refine ja_cons ?_
    refine je_str ?_
    refine ja_nil ?_
    refine ⟨by show 3 ≤ sizeLine; decide, ?_⟩
    refine ⟨_, rfl, rfl, rfl, ?_⟩
    have ein := in_wr r
    refine ⟨_, rfl, fun h => ?_, fun _ => q⟩
    have hs : (wr1 r).isSome = true := by rw [← ein]; exact h
    obtain ⟨t, ht⟩ := Option.isSome_iff_exists.mp hs
    obtain ⟨h1, h2⟩ := wr1_at ht ho
    refine je_one ?_
    refine je_eqI ?_
    refine je_at ?_
    refine je_v 0 ?_
    refine je_int ?_
    refine ⟨_, _, _, .inl (.inl rfl), rfl, h2, ?_⟩
    refine je_int ?_
    refine ⟨_, _, rfl, rfl, ?_⟩
    have e1 : decide ((t : Int) = 0) = false := decide_eq_false (by omega)
    rw [e1]
    exact q
end
end K27
end FG_
section MB_
/-! Plain mathematics, fifth part: the bounds of routines. -/
namespace K27
open PySem PySem.Spec PyProof.Rows L2
def polAt (rows : List Row) (r : Nat) : Pol := match rows[r]? with
  | some (.rep p _) => p
  | _ => []
def weightOf (rows : List Row) (rs : List Nat) : Pol := rs.foldl (fun w r => mulP w (polAt rows r)) oneP
theorem weight_succ (rows : List Row) (rs : List Nat) (r : Nat) : weightOf rows (rs ++ [r]) = mulP (weightOf rows rs) (polAt rows r) := by
  unfold weightOf; rw [List.foldl_append]; rfl
structure Bd where
  clk : Pol
  cho : Pol
  dep : Int
def Bd.dt (b : Bd) : Dt := .tup [.pol b.clk, .pol b.cho, .int b.dep]
def Bd.zero : Bd := ⟨[], [], 0⟩
def mx (i j : Int) : Int := if j > i then j else i
def wAt (rows : List Row) (at_ : Nat) : Pol := weightOf rows (around rows at_)
def nest (rows : List Row) (at_ : Nat) : Int := ((around rows at_).length : Nat)
def earAt (ear : List Bd) (r : Nat) : Bd := ear.getD r Bd.zero
def stepB (rows : List Row) (ear : List Bd) (b : Bd) (at_ : Nat) : Bd := match rows[at_]? with
  | some (.cho ..) => ⟨addP b.clk (wAt rows at_), addP b.cho (wAt rows at_), mx b.dep (nest rows at_)⟩
  | some (.cal r) => ⟨addP (addP b.clk (wAt rows at_)) (mulP (wAt rows at_) (earAt ear r).clk), addP b.cho (mulP (wAt rows at_) (earAt ear r).cho), mx b.dep (nest rows at_ + 1 + (earAt ear r).dep)⟩
  | _ => ⟨addP b.clk (wAt rows at_), b.cho, mx b.dep (nest rows at_)⟩
def rbN (rows : List Row) (ear : List Bd) : Nat → Bd
  | 0 => Bd.zero
  | n + 1 => stepB rows ear (rbN rows ear n) n
def rbOf (rows : List Row) (ear : List Bd) : Bd := rbN rows ear rows.length
def bnds (rts : List (List Row)) : List Bd := rts.foldl (fun acc rows => acc ++ [rbOf rows acc]) []
theorem bnds_succ (rts : List (List Row)) (rows : List Row) : bnds (rts ++ [rows]) = bnds rts ++ [rbOf rows (bnds rts)] := by
  unfold bnds; rw [List.foldl_append]; rfl
theorem bnds_len (rts : List (List Row)) : (bnds rts).length = rts.length := by
  have key : ∀ (rts : List (List Row)) (acc : List Bd), (rts.foldl (fun acc rows => acc ++ [rbOf rows acc]) acc).length = acc.length + rts.length := by
    intro rts
    induction rts with
    | nil => intro acc; rfl
    | cons r rts ih => intro acc; rw [List.foldl_cons, ih, List.length_append, List.length_cons, List.length_cons]; simp; omega
  unfold bnds
  rw [key]; simp
def mainB (c : Code) : Bd := ((bnds c.rts).getLast?).getD Bd.zero
def cellsP (c : Code) : Pol := c.tapes.foldl addP (addP (constP ((c.idx.length : Nat) + (mainB c).dep)) (mainB c).cho)
/-! ### limits -/
structure LM (d e : Int) (p : Pol) : Prop where
  can : Can p
  deg : Deg p d
  e1 : E1 p ≤ e
theorem LM.mono {d d' e e' : Int} {p : Pol} (h : LM d e p) (hd : d ≤ d') (he : e ≤ e') : LM d' e' p := ⟨h.can, h.deg.mono hd, Int.le_trans h.e1 he⟩
theorem LM.lim {d e : Int} {p : Pol} (h : LM d e p) (hd : d ≤ 900) (he : e < 2 ^ 64) : Lim p := by
  refine ⟨h.can, ?_, Int.lt_of_le_of_lt h.e1 he⟩
  have := can_len (d := 901) (lo := 0) h.can.srt h.can.ex fun t ht => by
    have := h.deg t ht
    omega
  omega
theorem lm_nil {d e : Int} (he : 0 ≤ e) : LM d e [] := ⟨can_nil, fun t h => by simp at h, he⟩
theorem lm_one {d e : Int} (hd : 0 ≤ d) (he : 1 ≤ e) : LM d e oneP := ⟨can_one, fun t h => by unfold oneP at h; simp at h; subst h; exact hd, by rw [E1_one]; exact he⟩
theorem LM.add {d d' e e' : Int} {p q : Pol} (h : LM d e p) (h' : LM d' e' q) {D E : Int} (h1 : d ≤ D) (h2 : d' ≤ D) (h3 : e + e' ≤ E) : LM D E (addP p q) :=
  ⟨can_addP h.can h'.can, deg_addP (h.deg.mono h1) (h'.deg.mono h2), by rw [E1_addP]; have := h.e1; have := h'.e1; omega⟩
theorem LM.mul {d d' e e' : Int} {p q : Pol} (h : LM d e p) (h' : LM d' e' q) {D E : Int} (h1 : d + d' ≤ D) (h3 : e * e' ≤ E) (he : 0 ≤ e) : LM D E (mulP p q) :=
  ⟨can_mulP h.can h'.can, (deg_mulP h.deg h'.deg).mono h1, by
    rw [E1_mulP]
    exact Int.le_trans (Int.mul_le_mul h.e1 h'.e1 (E1_nonneg h'.can.cf) he) h3⟩
def EB : Nat → Int
  | 0 => 0
  | i + 1 => 19264 * (1 + EB i)
theorem EB_nonneg : ∀ i, 0 ≤ EB i
  | 0 => Int.le_refl 0
  | i + 1 => by unfold EB; have := EB_nonneg i; omega
theorem EB_mono : ∀ {i j : Nat}, i ≤ j → EB i ≤ EB j := by
  intro i j h
  induction h with
  | refl => exact Int.le_refl _
  | step _ ih =>
    refine Int.le_trans ih ?_
    show EB _ ≤ 19264 * (1 + EB _)
    have := EB_nonneg ‹_›
    omega
theorem EB_small {i : Nat} (h : i ≤ 4) : EB i < 2 ^ 63 := Int.lt_of_le_of_lt (EB_mono h) (by decide)
def DepOk (i : Nat) (d : Int) : Prop := 0 ≤ d ∧ d ≤ 603 * i
/-- what is known of a routine and of those before it -/
structure RW (rows : List Row) (ear : List Bd) (dW : Nat) (i : Nat) : Prop where
  len : rows.length ≤ 602
  pol : ∀ (at_ : Nat) (p : Pol) (k : Nat), rows[at_]? = some (Row.rep p k) → LM 2 3 p
  wt : ∀ at_ < rows.length, ∀ j, LM dW 32 (weightOf rows ((around rows at_).take j))
  eb : ∀ b ∈ ear, LM (dW * i) (EB i) b.clk ∧ LM (dW * i) (EB i) b.cho ∧ DepOk i b.dep
  cal : ∀ (at_ r : Nat), rows[at_]? = some (Row.cal r) → r < ear.length
  i3 : i ≤ 3
  dw : dW ≤ 5
section
variable {rows : List Row} {ear : List Bd} {dW i : Nat}
theorem RW.w (h : RW rows ear dW i) {at_ : Nat} (ha : at_ < rows.length) : LM dW 32 (wAt rows at_) := by
  have := h.wt at_ ha (around rows at_).length
  rw [List.take_length] at this
  exact this
theorem RW.earI (h : RW rows ear dW i) {at_ r : Nat} (e : rows[at_]? = some (.cal r)) : ear[r]? = some (earAt ear r) ∧ earAt ear r ∈ ear := by
  have hr := h.cal at_ r e
  have : ear[r]? = some (earAt ear r) := by
    unfold earAt
    rw [List.getD_eq_getElem?_getD, List.getElem?_eq_getElem hr]; rfl
  exact ⟨this, List.mem_of_getElem? this⟩
/-- the degree and the sum, behind n rows -/
def dN (dW i : Nat) : Int := dW * (i + 1)
def eN (i : Nat) (n : Nat) : Int := n * (32 * (1 + EB i))
theorem eN_small {n i : Nat} (hi : i ≤ 3) (hn : n ≤ 602) : eN i n ≤ EB (i + 1) := by
  unfold eN
  show _ ≤ 19264 * (1 + EB i)
  have h1 := EB_nonneg i
  have : (n : Int) * (32 * (1 + EB i)) ≤ 602 * (32 * (1 + EB i)) := Int.mul_le_mul_of_nonneg_right (by omega) (by omega)
  omega
theorem RW.d1 (h : RW rows ear dW i) : (dW : Int) ≤ dN dW i ∧ (dW : Int) * i ≤ dN dW i ∧ (dW : Int) + dW * i = dN dW i ∧ dN dW i ≤ 20 := by
  have h1 := h.i3
  have h2 := h.dw
  unfold dN
  have e : (dW : Int) * (i + 1) = dW * i + dW := by rw [Int.mul_add, Int.mul_one]
  have hp : 0 ≤ (dW : Int) * i := Int.mul_nonneg (by omega) (by omega)
  have hq : (dW : Int) * i ≤ 5 * 3 := Int.mul_le_mul (by omega) (by omega) (by omega) (by omega)
  rw [e]
  omega
theorem RW.lmCall (h : RW rows ear dW i) {at_ : Nat} (ha : at_ < rows.length) {b : Bd} (hb : b ∈ ear) : LM (dN dW i) (32 * EB i) (mulP (wAt rows at_) b.clk) ∧ LM (dN dW i) (32 * EB i) (mulP (wAt rows at_) b.cho) := by
  obtain ⟨h1, h2, _⟩ := h.eb b hb
  have hd := h.d1
  exact ⟨(h.w ha).mul h1 (by omega) (Int.le_refl _) (by decide), (h.w ha).mul h2 (by omega) (Int.le_refl _) (by decide)⟩
theorem eN_succ (i n : Nat) : eN i (n + 1) = eN i n + 32 + 32 * EB i := by
  unfold eN
  rw [show ((n + 1 : Nat) : Int) = (n : Int) + 1 from rfl, Int.add_mul]
  omega
theorem mx_le {i : Nat} {a b : Int} (h : DepOk i a) (hb : 0 ≤ b) (hb2 : b ≤ 603 * i) : DepOk i (mx a b) := by unfold mx; split; exact ⟨hb, hb2⟩; exact h
theorem RW.rb (h : RW rows ear dW i) : ∀ {n : Nat}, n ≤ rows.length → LM (dN dW i) (eN i n) (rbN rows ear n).clk ∧ LM (dN dW i) (eN i n) (rbN rows ear n).cho ∧ DepOk (i + 1) (rbN rows ear n).dep
  | 0, _ => ⟨lm_nil (by unfold eN; simp), lm_nil (by unfold eN; simp), Int.le_refl 0, by show (0 : Int) ≤ _; omega⟩
  | n + 1, hn => by
    obtain ⟨h1, h2, h3⟩ := h.rb (n := n) (by omega)
    have hw := h.w (at_ := n) (by omega)
    have hd := h.d1
    have hE := EB_nonneg i
    have hs := eN_succ i n
    have hc : LM (dN dW i) (eN i n + 32) (addP (rbN rows ear n).clk (wAt rows n)) := h1.add hw (Int.le_refl _) hd.1 (Int.le_refl _)
    have hln := h.len
    have hnest : 0 ≤ nest rows n ∧ nest rows n ≤ 602 := by
      have := around_len rows n
      unfold nest
      omega
    show LM _ _ (stepB rows ear (rbN rows ear n) n).clk ∧ LM _ _ (stepB rows ear (rbN rows ear n) n).cho ∧ DepOk (i + 1) (stepB rows ear (rbN rows ear n) n).dep
    unfold stepB
    split
    · exact ⟨hc.mono (Int.le_refl _) (by omega), h2.add hw (Int.le_refl _) hd.1 (by omega), mx_le h3 hnest.1 (by omega)⟩
    · next r e =>
      obtain ⟨_, hm⟩ := h.earI e
      obtain ⟨m1, m2⟩ := h.lmCall (at_ := n) (by omega) hm
      have hed := (h.eb _ hm).2.2
      unfold DepOk at hed
      exact ⟨hc.add m1 (Int.le_refl _) (Int.le_refl _) (by omega), h2.add m2 (Int.le_refl _) (Int.le_refl _) (by omega), mx_le h3 (by omega) (by omega)⟩
    · exact ⟨hc.mono (Int.le_refl _) (by omega), h2.mono (Int.le_refl _) (by omega), mx_le h3 hnest.1 (by omega)⟩
theorem RW.rbL (h : RW rows ear dW i) {n : Nat} (hn : n ≤ rows.length) : Lim (rbN rows ear n).clk ∧ Lim (rbN rows ear n).cho := by
  obtain ⟨h1, h2, _⟩ := h.rb hn
  have hd := h.d1
  have hs := eN_small h.i3 (Nat.le_trans hn h.len)
  have he := EB_small (i := i + 1) (by have := h.i3; omega)
  exact ⟨h1.lim (by omega) (by omega), h2.lim (by omega) (by omega)⟩
theorem RW.wL (h : RW rows ear dW i) {at_ : Nat} (ha : at_ < rows.length) (j : Nat) : Lim (weightOf rows ((around rows at_).take j)) := (h.wt at_ ha j).lim (by have := h.dw; omega) (by decide)
theorem RW.earL (h : RW rows ear dW i) {b : Bd} (hb : b ∈ ear) : Lim b.clk ∧ Lim b.cho := by
  obtain ⟨h1, h2, _⟩ := h.eb b hb
  have hd := h.d1
  have he := EB_small (i := i) (by have := h.i3; omega)
  exact ⟨h1.lim (by omega) (by omega), h2.lim (by omega) (by omega)⟩
theorem RW.callL (h : RW rows ear dW i) {at_ : Nat} (ha : at_ < rows.length) {b : Bd} (hb : b ∈ ear) : Lim (mulP (wAt rows at_) b.clk) ∧ Lim (mulP (wAt rows at_) b.cho) := by
  obtain ⟨h1, h2⟩ := h.lmCall ha hb
  have hd := h.d1
  have he := EB_small (i := i + 1) (by have := h.i3; omega)
  have h0 := EB_nonneg i
  have e2 : EB (i + 1) = 19264 * (1 + EB i) := rfl
  exact ⟨h1.lim (by omega) (by omega), h2.lim (by omega) (by omega)⟩
theorem RW.midL (h : RW rows ear dW i) {n : Nat} (hn : n < rows.length) : Lim (addP (rbN rows ear n).clk (wAt rows n)) := by
  obtain ⟨h1, h2, _⟩ := h.rb (Nat.le_of_lt hn)
  have hd := h.d1
  have hs := eN_small (n := n + 1) h.i3 (Nat.le_trans hn h.len)
  have hs2 := eN_succ i n
  have h0 := EB_nonneg i
  have he := EB_small (i := i + 1) (by have := h.i3; omega)
  exact (h1.add (h.w hn) (Int.le_refl _) hd.1 (Int.le_refl _)).lim (by omega) (by omega)
theorem RW.nearL (h : RW rows ear dW i) {b : Bd} (hb : b ∈ ear) : LM (dW * i) (1 + EB i) (addP oneP b.clk) := by
  obtain ⟨h1, _, _⟩ := h.eb b hb
  exact (lm_one (d := dW * i) (e := 1) (Int.mul_nonneg (by omega) (by omega)) (Int.le_refl _)).add h1 (Int.le_refl _) (Int.le_refl _) (Int.le_refl _)
theorem LM.lens {d e : Int} {p : Pol} (h : LM d e p) (hd : d ≤ 900) : p.length ≤ 1000 := by
  have := can_len (d := 901) (lo := 0) h.can.srt h.can.ex fun t ht => by
    have := h.deg t ht
    omega
  omega
theorem RW.tot (h : RW rows ear dW i) : LM (dN dW i) (EB (i + 1)) (rbOf rows ear).clk ∧ LM (dN dW i) (EB (i + 1)) (rbOf rows ear).cho ∧ DepOk (i + 1) (rbOf rows ear).dep := by
  obtain ⟨h1, h2, h3⟩ := h.rb (Nat.le_refl _)
  have hs := eN_small h.i3 h.len
  exact ⟨h1.mono (Int.le_refl _) hs, h2.mono (Int.le_refl _) hs, h3⟩
end
/-- what is known of a code -/
structure CW (c : Code) (dW : Nat) : Prop where
  rl : c.rts.length ≤ 4
  rw : ∀ (i : Nat) (rows : List Row), c.rts[i]? = some rows → RW rows (bnds (c.rts.take i)) dW i
  tl : c.tapes.length ≤ 3
  tp : ∀ p ∈ c.tapes, LM 2 3 p
  il : 1 ≤ c.idx.length ∧ c.idx.length ≤ 1000
theorem bnds_take {rts : List (List Row)} {i : Nat} {rows : List Row} (h : rts[i]? = some rows) : bnds (rts.take (i + 1)) = bnds (rts.take i) ++ [rbOf rows (bnds (rts.take i))] := by
  rw [take_succ' h, bnds_succ]
section
variable {c : Code} {dW : Nat}
theorem LMB.mono {i j : Nat} (hij : i ≤ j) {b : Bd} (h : LM (dW * i) (EB i) b.clk ∧ LM (dW * i) (EB i) b.cho ∧ DepOk i b.dep) : LM (dW * j) (EB j) b.clk ∧ LM (dW * j) (EB j) b.cho ∧ DepOk j b.dep := by
  have hd : (dW : Int) * i ≤ dW * j := Int.mul_le_mul_of_nonneg_left (by omega) (by omega)
  exact ⟨h.1.mono hd (EB_mono hij), h.2.1.mono hd (EB_mono hij), h.2.2.1, by have := h.2.2.2; omega⟩
theorem CW.main (h : CW c dW) : LM (dW * 4) (EB 4) (mainB c).clk ∧ LM (dW * 4) (EB 4) (mainB c).cho ∧ DepOk 4 (mainB c).dep := by
  unfold mainB
  cases e : c.rts.length with
  | zero =>
    have : c.rts = [] := List.length_eq_zero_iff.mp e
    rw [this]
    exact ⟨lm_nil (EB_nonneg 4), lm_nil (EB_nonneg 4), Int.le_refl 0, by decide⟩
  | succ n =>
    have hn : n < c.rts.length := by omega
    have hr := h.rw n _ (List.getElem?_eq_getElem hn)
    have hb := bnds_take (List.getElem?_eq_getElem hn)
    rw [List.take_of_length_le (by omega : c.rts.length ≤ n + 1)] at hb
    rw [hb, List.getLast?_append]
    simp only [List.getLast?_singleton, Option.some_or, Option.getD_some]
    have := hr.tot
    have h4 : n + 1 ≤ 4 := by have := h.rl; omega
    exact LMB.mono (i := n + 1) (j := 4) h4 this
theorem CW.const (h : CW c dW) : 1 ≤ ((c.idx.length : Nat) : Int) + (mainB c).dep := by
  have := h.main.2.2.1
  have := h.il.1
  omega
end
def cellsN (c : Code) (n : Nat) : Pol := (c.tapes.take n).foldl addP (addP (constP ((c.idx.length : Nat) + (mainB c).dep)) (mainB c).cho)
theorem cellsN_succ {c : Code} {n : Nat} {p : Pol} (h : c.tapes[n]? = some p) : cellsN c (n + 1) = addP (cellsN c n) p := by
  unfold cellsN
  rw [take_succ' h, List.foldl_append]; rfl
theorem CW.constL {c : Code} {dW : Nat} (h : CW c dW) : LM 0 4000 (constP ((c.idx.length : Nat) + (mainB c).dep)) := by
  have h1 := h.main.2.2
  have h2 := h.il
  have h3 := h.const
  unfold DepOk at h1
  refine ⟨can_const _, fun t ht => ?_, ?_⟩
  · unfold constP at ht
    rw [if_pos (by omega)] at ht
    simp at ht; subst ht; exact Int.le_refl 0
  · unfold E1
    rw [S_const (by omega)]
    omega
theorem CW.cells {c : Code} {dW : Nat} (h : CW c dW) (hd : dW ≤ 5) : ∀ {n : Nat}, n ≤ c.tapes.length → LM 20 (4000 + EB 4 + 3 * n) (cellsN c n)
  | 0, _ => by
    show LM _ _ (addP _ _)
    have h1 := h.main.2.1
    exact h.constL.add h1 (by decide) (by omega) (by omega)
  | n + 1, hn => by
    have ih := h.cells hd (n := n) (by omega)
    have hp : c.tapes[n]? = some c.tapes[n] := List.getElem?_eq_getElem (by omega)
    rw [cellsN_succ hp]
    exact ih.add (h.tp _ (List.mem_of_getElem? hp)) (by decide) (by decide) (by omega)
theorem CW.cellsL {c : Code} {dW : Nat} (h : CW c dW) (hd : dW ≤ 5) {n : Nat} (hn : n ≤ c.tapes.length) : Lim (cellsN c n) := by
  have h1 := EB_small (i := 4) (by decide)
  have h2 := h.tl
  exact (h.cells hd hn).lim (by decide) (by omega)
/-! ### the law's way to the same -/
theorem law_step {rows : List Row} {ear : List Bd} {dW i n : Nat} (h : RW rows ear dW i) (hn : n < rows.length) :
    addP (rbN rows ear n).clk (mulP (wAt rows n) oneP) = addP (rbN rows ear n).clk (wAt rows n) ∧
    ∀ b ∈ ear, addP (rbN rows ear n).clk (mulP (wAt rows n) (addP oneP b.clk)) = addP (addP (rbN rows ear n).clk (wAt rows n)) (mulP (wAt rows n) b.clk) :=
  ⟨mul_one' (h.rb (Nat.le_of_lt hn)).1.can (h.w hn).can, fun b hb => mul_near (h.rb (Nat.le_of_lt hn)).1.can (h.w hn).can (h.eb b hb).1.can⟩
end K27
end MB_
section FV_
/-! What repr shows here: short texts. -/
namespace K27
open PySem PySem.Spec PyProof.Rows L2
def Shrt (i : Int) : Prop := i.natAbs < 2 ^ 64
theorem shrt_of {i : Int} (h0 : 0 ≤ i) (h1 : i < 2 ^ 64) : Shrt i := by
  unfold Shrt
  omega
theorem log_lt {i : Int} {n : Nat} (h : i.natAbs < 2 ^ n) (hn : 0 < n) : i.natAbs.log2 < n := by
  by_cases h0 : i.natAbs = 0
  · rw [h0]; simpa using hn
  · exact (Nat.log2_lt h0).mpr h
theorem shrt_leaf {i : Int} (h : Shrt i) : PyData.leavesShort 32 (.int i) = true := by
  have h1 : (toString i).length ≤ 31 := int_text_length_le10 (k := 30) (by decide) (Nat.lt_trans h (by decide))
  unfold PyData.leavesShort
  refine decide_eq_true ?_
  have e : PyData.shown (.int i) = Str.ofString (toString i) := rfl
  rw [e]
  have e2 : (Str.ofString (toString i)).length = (toString i).length := PySem.ofString_length _
  omega
theorem shrt_show {i : Int} (h : Shrt i) : PyData.showable (.int i) = true := decide_eq_true (log_lt (Nat.lt_trans h (by decide : 2 ^ 64 < 2 ^ 1920)) (by decide))
theorem shrt_wt {i : Int} (h : Shrt i) : PyData.weight (.int i) ≤ 64 := by
  show (if i == 0 then 0 else i.natAbs.log2 + 1) ≤ 64
  split
  · exact Nat.zero_le _
  · have := log_lt h (by decide)
    omega
/-- the pairs of a polynomial -/
theorem prs_all (ps : List (Int × Int)) (h : ∀ t ∈ ps, Shrt t.1 ∧ Shrt t.2) : PyData.leavesShortAll 32 (Dt.pys (ps.map pairD)) = true ∧ PyData.showableAll (Dt.pys (ps.map pairD)) = true ∧ PyData.weightAll (Dt.pys (ps.map pairD)) ≤ 131 * ps.length ∧ PyData.depthAll (Dt.pys (ps.map pairD)) ≤ 2 := by
  induction ps with
  | nil => exact ⟨rfl, rfl, Nat.zero_le _, Nat.zero_le _⟩
  | cons t ps ih =>
    obtain ⟨i1, i2, i3, i4⟩ := ih fun u hu => h u (List.mem_cons_of_mem _ hu)
    obtain ⟨h1, h2⟩ := h t List.mem_cons_self
    have l1 := shrt_leaf h1
    have l2 := shrt_leaf h2
    have s1 := shrt_show h1
    have s2 := shrt_show h2
    have w1 := shrt_wt h1
    have w2 := shrt_wt h2
    have e : Dt.pys ((t :: ps).map pairD) = .tuple [.int t.1, .int t.2] :: Dt.pys (ps.map pairD) := rfl
    rw [e]
    refine ⟨by simp only [PyData.leavesShortAll, PyData.leavesShort] at l1 l2 i1 ⊢; simp [l1, l2, i1], ?_, ?_, ?_⟩
    · simp only [PyData.showableAll, PyData.showable] at s1 s2 i2 ⊢; simp [s1, s2, i2]
    · simp only [PyData.weightAll, List.length_cons] at i3 ⊢
      have e2 : PyData.weight (.tuple [.int t.1, .int t.2]) = PyData.weight (.int t.1) + 1 + (PyData.weight (.int t.2) + 1 + 0) := by simp only [PyData.weight, PyData.weightAll]
      omega
    · simp only [PyData.depthAll, PyData.depth] at i4 ⊢
      omega
theorem pol_py (ps : List (Int × Int)) : (Dt.pol ps).py = .tuple (Dt.pys (ps.map pairD)) := by rw [pys_pairs]; rfl
theorem lim_shrt {p : Pol} (h : Lim p) (hd : Deg p 900) : ∀ t ∈ p, Shrt t.1 ∧ Shrt t.2 := fun t ht => by
  have h1 := h.cf ht
  have h2 := hd t ht
  have h3 := h.can.ex t ht
  exact ⟨shrt_of h3 (by omega), shrt_of (by omega) h1.2⟩
/-- the four told things -/
theorem shows_told {p q r : Pol} {i : Int} (hp : Lim p) (hq : Lim q) (hr : Lim r) (dp : Deg p 900) (dq : Deg q 900) (dr : Deg r 900) (hi : Shrt i) : Shows (.tup [.pol p, .pol q, .pol r, .int i]) := by
  obtain ⟨a1, a2, a3, a4⟩ := prs_all p (lim_shrt hp dp)
  obtain ⟨b1, b2, b3, b4⟩ := prs_all q (lim_shrt hq dq)
  obtain ⟨c1, c2, c3, c4⟩ := prs_all r (lim_shrt hr dr)
  have i1 := shrt_leaf hi
  have i2 := shrt_show hi
  have i3 := shrt_wt hi
  have lp := hp.len
  have lq := hq.len
  have lr := hr.len
  have e : (Dt.tup [.pol p, .pol q, .pol r, .int i]).py = .tuple [(Dt.pol p).py, (Dt.pol q).py, (Dt.pol r).py, .int i] := rfl
  refine ⟨⟨_, rfl⟩, rfl, ?_, ?_, ?_⟩
  · rw [e, pol_py, pol_py, pol_py]
    simp only [PyData.showable, PyData.showableAll] at a2 b2 c2 i2 ⊢
    simp [a2, b2, c2, i2]
  · rw [e, pol_py, pol_py, pol_py]
    simp only [PyData.depth, PyData.depthAll]
    omega
  · rw [e, pol_py, pol_py, pol_py]
    refine Nat.le_trans (PyData.shown_le 32 (by decide) _ ?_) ?_
    · simp only [PyData.leavesShort, PyData.leavesShortAll] at a1 b1 c1 i1 ⊢
      simp [a1, b1, c1, i1]
    · have ew : PyData.weight (.tuple [.tuple (Dt.pys (p.map pairD)), .tuple (Dt.pys (q.map pairD)), .tuple (Dt.pys (r.map pairD)), .int i]) = PyData.weightAll (Dt.pys (p.map pairD)) + 1 + (PyData.weightAll (Dt.pys (q.map pairD)) + 1 + (PyData.weightAll (Dt.pys (r.map pairD)) + 1 + (PyData.weight (.int i) + 1 + 0))) := by simp only [PyData.weight, PyData.weightAll]
      rw [ew]
      have es : sizeLine = 16777216 := by decide
      omega
/-- two values -/
theorem shows_two {i j : Int} (hi : i.natAbs < 2 ^ 1000) (hj : j.natAbs < 2 ^ 1000) : Shows (.tup [.int i, .int j]) := by
  have gi := log_lt hi (by decide)
  have gj := log_lt hj (by decide)
  have t1 : (PySem.Str.ofString (toString i)).length ≤ 1921 := int_text_len_1921 (by omega)
  have t2 : (PySem.Str.ofString (toString j)).length ≤ 1921 := int_text_len_1921 (by omega)
  have w1 : ∀ k : Int, k.natAbs.log2 < 1000 → PyData.weight (.int k) ≤ 1000 := fun k hk => by
    show (if k == 0 then 0 else k.natAbs.log2 + 1) ≤ 1000
    split
    · exact Nat.zero_le _
    · omega
  have e : (Dt.tup [.int i, .int j]).py = .tuple [.int i, .int j] := rfl
  have s : ∀ k : Int, k.natAbs.log2 < 1000 → PyData.showable (.int k) = true := fun k hk => decide_eq_true (by omega)
  refine ⟨⟨_, rfl⟩, rfl, ?_, by rw [e]; simp only [PyData.depth, PyData.depthAll]; omega, ?_⟩
  · have s1 := s i gi
    have s2 := s j gj
    rw [e]
    simp only [PyData.showable, PyData.showableAll] at s1 s2 ⊢
    simp [s1, s2]
  · rw [e]
    refine Nat.le_trans (PyData.shown_le 1921 (by decide) _ ?_) ?_
    · have l1 : PyData.leavesShort 1921 (.int i) = true := by unfold PyData.leavesShort; exact decide_eq_true t1
      have l2 : PyData.leavesShort 1921 (.int j) = true := by unfold PyData.leavesShort; exact decide_eq_true t2
      simp only [PyData.leavesShort, PyData.leavesShortAll] at l1 l2 ⊢
      simp [l1, l2]
    · have ew : PyData.weight (.tuple [.int i, .int j]) = PyData.weight (.int i) + 1 + (PyData.weight (.int j) + 1 + 0) := by simp only [PyData.weight, PyData.weightAll]
      rw [ew]
      have a := w1 i gi
      have b := w1 j gj
      have es : sizeLine = 16777216 := by decide
      omega
end K27
end FV_
section FH_
/-! The walk, eighth part: numbers within, the certificate. -/
namespace K27
open PySem PySem.Spec PyProof.Rows L2
def limOf (nt ni np : Nat) (k : Str) : Option Nat := if k = "tape" then some nt else if k = "index" then some ni else if k = "routine" then some np else none
def NumOk (nt ni np : Nat) (k : Str) (d : Dt) : Prop := ∀ lim, limOf nt ni np k = some lim → ∃ n : Nat, d = .int n ∧ n < lim
def NPart (nt ni np : Nat) (k : Str) (d : Dt) : Prop := if k = "test" then ∃ t, d = Tst.dt t ∧ t.ok nt ni ∧ t.dep ≤ 5 else NumOk nt ni np k d
theorem num_t {nt ni np n : Nat} (h : n < nt) : NumOk nt ni np "tape" (natD n) := fun lim e => by
  unfold limOf at e; rw [if_pos rfl] at e; cases e; exact ⟨n, rfl, h⟩
theorem num_i {nt ni np n : Nat} (h : n < ni) : NumOk nt ni np "index" (natD n) := fun lim e => by
  unfold limOf at e; rw [if_neg (by decide), if_pos rfl] at e; cases e; exact ⟨n, rfl, h⟩
theorem num_r {nt ni np n : Nat} (h : n < np) : NumOk nt ni np "routine" (natD n) := fun lim e => by
  unfold limOf at e; rw [if_neg (by decide), if_neg (by decide), if_pos rfl] at e; cases e; exact ⟨n, rfl, h⟩
theorem num_x {nt ni np : Nat} {k : Str} {d : Dt} (h : k ∉ (["tape", "index", "routine"] : List Str)) : NumOk nt ni np k d := fun lim e => by
  simp only [List.mem_cons, List.not_mem_nil, or_false, not_or] at h
  unfold limOf at e
  rw [if_neg h.1, if_neg h.2.1, if_neg h.2.2] at e
  cases e
theorem npart {nt ni np : Nat} {k : Str} {d : Dt} (h : k ≠ "test") (p : NumOk nt ni np k d) : NPart nt ni np k d := by unfold NPart; rw [if_neg h]; exact p
theorem Tst.nums {nt ni np : Nat} {t : Tst} (h : t.ok nt ni) (hb : t.base = true) : AllQ (NumOk nt ni np) t.kinds t.args := by
  cases t with
  | neg t => cases hb
  | is t i x => exact ⟨num_t h.1, num_i h.2.1, num_x (by decide), trivial⟩
  | equal t i u j => exact ⟨num_t h.1, num_i h.2.1, num_t h.2.2.1, num_i h.2.2.2, trivial⟩
  | empty t i => exact ⟨num_t h.1, num_i h.2, trivial⟩
  | inside t i => exact ⟨num_t h.1, num_i h.2, trivial⟩
  | at_ i j => exact ⟨num_i h.1, num_i h.2, trivial⟩
theorem Row.nums {nt ni np : Nat} {r : Row} (h : r.ok nt ni np) (hf : r.full = true) : AllQ (NPart nt ni np) r.kinds r.args := by
  cases r with
  | rep p k => exact ⟨npart (by decide) (num_x (by decide)), npart (by decide) (num_x (by decide)), trivial⟩
  | agn k => exact ⟨npart (by decide) (num_x (by decide)), trivial⟩
  | jmp k =>
    cases k with
    | none => cases hf
    | some k => exact ⟨npart (by decide) (num_x (by decide)), trivial⟩
  | unl t k =>
    cases k with
    | none => cases hf
    | some k => exact ⟨by unfold NPart; rw [if_pos rfl]; exact ⟨t, rfl, h.1, h.2⟩, npart (by decide) (num_x (by decide)), trivial⟩
  | cal r => exact ⟨npart (by decide) (num_r h), trivial⟩
  | cho pl t i x => exact ⟨npart (by decide) (num_x (by decide)), npart (by decide) (num_t h.2.2.1), npart (by decide) (num_i h.2.2.2.1), npart (by decide) (num_x (by decide)), trivial⟩
  | win pl => exact ⟨npart (by decide) (num_x (by decide)), trivial⟩
  | st t i x => exact ⟨npart (by decide) (num_t h.2.1), npart (by decide) (num_i h.2.2.1), npart (by decide) (num_x (by decide)), trivial⟩
  | cpy t i u j => exact ⟨npart (by decide) (num_t h.2.1), npart (by decide) (num_i h.2.2.1), npart (by decide) (num_t h.2.2.2.1), npart (by decide) (num_i h.2.2.2.2), trivial⟩
  | clr t i => exact ⟨npart (by decide) (num_t h.2.1), npart (by decide) (num_i h.2.2), trivial⟩
  | zero i => exact ⟨npart (by decide) (num_i h), trivial⟩
  | up i => exact ⟨npart (by decide) (num_i h), trivial⟩
  | down i => exact ⟨npart (by decide) (num_i h), trivial⟩
  | same i j => exact ⟨npart (by decide) (num_i h.1), npart (by decide) (num_i h.2), trivial⟩
/-- a pair (kind, part), the number within -/
def NumP (nt ni np : Nat) (x : Dt) : Prop := ∃ k d, x = .tup [.str k, d] ∧ NumOk nt ni np k d
def lims (nt ni np : Nat) : List (Key × Dt) := [(.inr "tape", .int nt), (.inr "index", .int ni), (.inr "routine", .int np)]
theorem lims_val (nt ni np : Nat) (k : Str) : valD (lims nt ni np) (.inr k) = (limOf nt ni np k).map fun n => Dt.int (n : Nat) := by
  unfold lims limOf valD
  by_cases h1 : k = "tape"
  · subst h1; rw [List.find?_cons_of_pos (by simp), if_pos rfl]; rfl
  · have h1' : ¬ ((Sum.inr ("tape" : Str) : Key) = Sum.inr k) := fun e => h1 (Sum.inr.inj e).symm
    rw [List.find?_cons_of_neg (by simpa using h1'), if_neg h1]
    by_cases h2 : k = "index"
    · subst h2; rw [List.find?_cons_of_pos (by simp), if_pos rfl]; rfl
    · have h2' : ¬ ((Sum.inr ("index" : Str) : Key) = Sum.inr k) := fun e => h2 (Sum.inr.inj e).symm
      rw [List.find?_cons_of_neg (by simpa using h2'), if_neg h2]
      by_cases h3 : k = "routine"
      · subst h3; rw [List.find?_cons_of_pos (by simp), if_pos rfl]; rfl
      · have h3' : ¬ ((Sum.inr ("routine" : Str) : Key) = Sum.inr k) := fun e => h3 (Sum.inr.inj e).symm
        rw [List.find?_cons_of_neg (by simpa using h3'), if_neg h3]; rfl
section
variable {P : Program} {w : World} {K : PySem.W.Frag} {mg : Str → Option Value} {base : Heap}
abbrev C_parts_of_test : Ct := fun ds μ Q => ∃ t nt ni np, ds = [Tst.dt t] ∧ Tst.ok nt ni t ∧ t.dep ≤ 5 ∧ ∀ xs, (∀ x ∈ xs, NumP nt ni np x) → xs.length ≤ 4 → Q (.lst xs) μ
abbrev C_parts_of_row : Ct := fun ds μ Q => ∃ r nt ni np, ds = [Row.dt r] ∧ Row.good nt ni np r ∧ ∀ xs, (∀ x ∈ xs, NumP nt ni np x) → xs.length ≤ 16 → Q (.lst xs) μ
theorem ok_parts_of_row (B : Tops w K mg) (R : Raw K mg "parts_of_row" s_parts_of_row ["row"]) (D_parts_of_test : Def P w K mg base 3 "parts_of_test" ["test"] C_parts_of_test) : Def P w K mg base 4 "parts_of_row" ["row"] C_parts_of_row := by
  have nd := sc_parts_of_row.nd
  refine def_mk R sc_parts_of_row fun f cdv A outer s H E hr ds μ Q hl hC => ?_
  obtain ⟨r, nt, ni, np, rfl, hg, q⟩ := hC
  obtain ⟨dC, hC, wC⟩ := B.crs
  have hpt := Row.nums hg.1 hg.2.1
  have htab := Row.tab r
  have hk4 := kinds_len r
  refine jss_cons ?_
  refine js_v 1 ?_
  refine je_lstM ?_
  refine ja_nil ?_
  refine ⟨by show 0 ≤ sizeLine; decide, fun c hc => ?_⟩
  refine jss_cons ?_
  refine js_forI (fun items i δ μ' => ∃ x2 x3 xs, δ = [some (Row.dt r), some (.ref c), x2, x3] ∧ μ' = μ.set c (.lst xs) ∧ (∀ x ∈ xs, NumP nt ni np x) ∧ xs.length ≤ 4 * i ∧ i ≤ 4) PassesOwn.never rfl ?_
  refine ji_zipT rfl B.zip ?_
  refine ja_cons ?_
  refine je_wget wC rfl hC (fun _ _ => rfl) ?_
  refine je_at ?_
  refine je_v 0 ?_
  refine je_int ?_
  refine ⟨_, _, _, .inl (.inl rfl), rfl, at0, ?_⟩
  refine ⟨_, _, rfl, htab, ?_⟩
  refine ja_cons ?_
  refine je_slT ?_
  refine je_v 0 ?_
  refine jo_some ?_
  refine je_int ?_
  refine ⟨_, rfl, ?_⟩
  refine jo_none ?_
  refine ⟨_, .inl rfl, ?_⟩
  refine ja_nil ?_
  refine ⟨_, _, _, _, rfl, .inl rfl, .inl rfl, ?_⟩
  rw [cutD_one]
  have hzl : (zipD (r.kinds.map .str) r.args).length ≤ 4 := by
    rw [zipD_len, List.length_map]; omega
  refine ⟨⟨none, none, [], rfl, rfl, fun x hx => by simp at hx, by simp, by omega⟩, fun _ _ _ _ => trivial, fun i d hd δ μ' hI => ?_, fun δ μ' hI => ?_⟩
  · obtain ⟨x2, x3, xs, rfl, rfl, hxs, hxl, hi4⟩ := hI
    obtain ⟨k, y, rfl, hk⟩ := zipK_get hpt hd
    have hi5 : i < 4 := Nat.lt_of_lt_of_le (List.getElem?_eq_some_iff.mp hd).1 hzl
    refine jg_tup rfl (.inl rfl) rfl ?_
    refine jgs_cons ?_
    refine jg_v 2 ?_
    refine jgs_cons ?_
    refine jg_v 3 ?_
    refine jgs_nil ?_
    refine jss_one ?_
    refine js_if ?_
    refine jt_c (jc_eqS ?_)
    refine je_v 2 ?_
    refine je_str ?_
    refine ⟨_, _, rfl, rfl, ?_⟩
    refine ⟨_, rfl, ?_⟩
    unfold NPart at hk
    refine ⟨fun hT => ?_, fun hF => ?_⟩
    · rw [if_pos (of_decide_eq_true hT)] at hk
      obtain ⟨t, rfl, h1, h2⟩ := hk
      refine jss_one ?_
      refine js_expr ?_
      refine je_extend ?_
      refine je_v 1 ?_
      refine ⟨_, rfl, ⟨_, Sto.set_same⟩, ?_⟩
      refine je_d D_parts_of_test (hr.mono (by decide)) ?_
      refine ja_cons ?_
      refine je_v 3 ?_
      refine ja_nil ?_
      refine ⟨rfl, t, nt, ni, np, rfl, h1, h2, fun ys hys hyl => ?_⟩
      refine ⟨_, _, Sto.set_same, .inl rfl, by show _ ≤ 2 ^ 24; omega, ?_⟩
      refine ⟨_, _, xs ++ ys, rfl, Sto.set_set, fun x hx => ?_, by rw [List.length_append]; omega, by omega⟩
      rcases List.mem_append.mp hx with hx | hx
      · exact hxs x hx
      · exact hys x hx
    · rw [if_neg (of_decide_eq_false hF)] at hk
      refine jss_one ?_
      refine js_expr ?_
      refine je_append ?_
      refine je_v 1 ?_
      refine ⟨_, rfl, ⟨_, Sto.set_same⟩, ?_⟩
      refine je_tup ?_
      refine ja_cons ?_
      refine je_v 2 ?_
      refine ja_cons ?_
      refine je_v 3 ?_
      refine ja_nil ?_
      refine ⟨by show 2 ≤ sizeLine; decide, ?_⟩
      refine ⟨_, Sto.set_same, by show _ < 2 ^ 24; omega, ?_⟩
      refine ⟨_, _, xs ++ [.tup [.str k, y]], rfl, Sto.set_set, fun x hx => ?_, by rw [List.length_append]; simp; omega, by omega⟩
      rcases List.mem_append.mp hx with hx | hx
      · exact hxs x hx
      · simp at hx
        exact ⟨k, y, hx, hk⟩
  · obtain ⟨x2, x3, xs, rfl, rfl, hxs, hxl, hi4⟩ := hI
    refine jss_one ?_
    refine js_ret ?_
    refine je_pub ?_
    refine je_v 1 ?_
    refine ⟨_, _, rfl, Sto.set_same, ?_⟩
    rw [Sto.del_set hc]
    exact q xs hxs (by omega)
abbrev C_has_bad_number : Ct := fun ds μ Q => ∃ c, ∃ np : Nat, ∃ r, ds = [Code.dt c, .int np, Row.dt r] ∧ Row.good c.tapes.length c.idx.length np r ∧ Q (.bl false) μ
theorem ok_has_bad_number (B : Tops w K mg) (R : Raw K mg "has_bad_number" s_has_bad_number ["code", "routine", "row"]) (D_parts_of_row : Def P w K mg base 4 "parts_of_row" ["row"] C_parts_of_row) : Def P w K mg base 5 "has_bad_number" ["code", "routine", "row"] C_has_bad_number := by
  have nd := sc_has_bad_number.nd
  refine def_mk R sc_has_bad_number fun f cdv A outer s H E hr ds μ Q hl hC => ?_
  obtain ⟨c, np, r, rfl, hg, q⟩ := hC
  refine jss_cons ?_
  refine js_v 3 ?_
  refine je_dispM (kvs := [(_, _), (_, _), (_, _)]) (pps_cons pe_w pe_w (pps_cons pe_w pe_w (pps_cons pe_w pe_w pps_nil))) rfl rfl (by simp) (by decide) ?_
  refine je_str ?_
  refine je_lenB B.len ?_
  refine je_at ?_
  refine je_v 0 ?_
  refine je_int ?_
  refine ⟨_, _, _, .inl (.inl rfl), rfl, at0, ?_⟩
  refine ⟨_, .inr ⟨_, .inl (.inl rfl), rfl⟩, ?_⟩
  refine ⟨.inr "tape", rfl, ?_⟩
  refine je_str ?_
  refine je_lenB B.len ?_
  refine je_at ?_
  refine je_v 0 ?_
  refine je_int ?_
  refine ⟨_, _, _, .inl (.inl rfl), rfl, at1, ?_⟩
  refine ⟨_, .inr ⟨_, .inl (.inl rfl), rfl⟩, ?_⟩
  refine ⟨.inr "index", rfl, ?_⟩
  refine je_str ?_
  refine je_v 1 ?_
  refine ⟨.inr "routine", rfl, ?_⟩
  refine ⟨by show 3 ≤ 15; decide, fun l hl => ?_⟩
  rw [List.length_map, List.length_map]
  have em : mergeKD [(Sum.inr ("tape" : Str), Dt.int (c.tapes.length : Nat)), (Sum.inr "index", Dt.int (c.idx.length : Nat)), (Sum.inr "routine", Dt.int np)] = lims c.tapes.length c.idx.length np := by
    rfl
  rw [em]
  refine jss_one ?_
  refine js_ret ?_
  refine je_drop ?_
  refine je_anyB B.any ?_
  refine je_lc2 4 5 (blkOk_by (N := n_has_bad_number) (sc := defScope s_has_bad_number) (own := [("kind", 4), ("part", 5)]) (by decide +kernel)) (by decide) (by decide) ?_
  refine ji_lst ?_
  refine je_d D_parts_of_row (hr.mono (by decide)) ?_
  refine ja_cons ?_
  refine je_v 2 ?_
  refine ja_nil ?_
  refine ⟨rfl, r, _, _, np, rfl, hg, fun xs hxs hxl => ?_⟩
  refine ⟨_, rfl, ?_⟩
  refine lcR_false mon_pair _ (by show _ ≤ 2 ^ 24; omega) trivial (fun i d hd => ?_) ?_
  · obtain ⟨k, y, rfl, hk⟩ := hxs d (List.mem_of_getElem? hd)
    refine ⟨_, _, rfl, fun s' H' C' cl' fp' => ?_⟩
    refine je_and ?_
    refine je_dinS (hu_of hr) rfl ?_
    refine je_v 4 ?_
    refine je_v 3 ?_
    refine ⟨_, _, .inr ⟨_, rfl, Sto.set_same⟩, rfl, ?_⟩
    rw [lims_val]
    cases e : limOf c.tapes.length c.idx.length np k with
    | none => exact ⟨_, rfl, fun h => (by cases h), fun _ => ⟨rfl, rfl⟩⟩
    | some lim =>
      obtain ⟨n, rfl, hn⟩ := hk lim e
      refine ⟨_, rfl, fun _ => ?_, fun h => (by cases h)⟩
      refine je_one ?_
      refine je_ge ?_
      refine je_v 5 ?_
      refine je_dgetS (hu_of hr) (fun _ _ => rfl) ?_
      refine je_v 3 ?_
      refine je_v 4 ?_
      refine ⟨_, _, _, .inr ⟨_, rfl, Sto.set_same⟩, rfl, by rw [lims_val, e]; rfl, ?_⟩
      refine ⟨_, _, rfl, rfl, ?_⟩
      have e1 : decide (((lim : Nat) : Int) ≤ (n : Int)) = false := decide_eq_false (by omega)
      rw [e1]
      exact ⟨rfl, rfl⟩
  · refine ⟨_, rfl, ?_⟩
    rw [any_rep]
    exact ⟨μ, Sto.le_set hl, q⟩
/-- an accepted code -/
structure CodeGood (c : Code) : Prop extends CodeOk c where
  shape : ∀ (i : Nat) (rows : List Row), c.rts[i]? = some rows → ∀ at_ < rows.length, LoopOk rows at_ ∧ JumpOk rows at_
theorem CodeGood.fit {c : Code} (h : CodeGood c) {i : Nat} {rows : List Row} (e : c.rts[i]? = some rows) : RowsFit rows :=
  ⟨fun r hr => Row.fq ((h.rows i rows e).2 r hr).1, (h.rows i rows e).1⟩
abbrev C_fault_of_row : Ct := fun ds μ Q => ∃ c, ∃ i at_ : Nat, ∃ rows, ds = [Code.dt c, .int i, .int at_] ∧ CodeGood c ∧ c.rts[i]? = some rows ∧ at_ < rows.length ∧ Q .non μ
theorem ok_fault_of_row (B : Tops w K mg) (R : Raw K mg "fault_of_row" s_fault_of_row ["code", "routine", "at"]) (D_has_bad_number : Def P w K mg base 5 "has_bad_number" ["code", "routine", "row"] C_has_bad_number) (D_writes_input : Def P w K mg base 1 "writes_input" ["row"] C_writes_input)
    (D_has_bad_loop : Def P w K mg base 4 "has_bad_loop" ["rows", "at"] C_has_bad_loop) (D_has_bad_jump : Def P w K mg base 3 "has_bad_jump" ["rows", "at"] C_has_bad_jump) : Def P w K mg base 6 "fault_of_row" ["code", "routine", "at"] C_fault_of_row := by
  have nd := sc_fault_of_row.nd
  refine def_mk R sc_fault_of_row fun f cdv A outer s H E hr ds μ Q hl hC => ?_
  obtain ⟨c, i, at_, rows, rfl, hg, he, hat, q⟩ := hC
  obtain ⟨r, hr0⟩ : ∃ r, rows[at_]? = some r := ⟨_, List.getElem?_eq_getElem hat⟩
  have hgr := (hg.rows i rows he).2 r (List.mem_of_getElem? hr0)
  obtain ⟨hL, hJ⟩ := hg.shape i rows he at_ hat
  have hf := hg.fit he
  have hri : (c.rts.map fun r => Dt.tup (Rows.dts r))[i]? = some (.tup (Rows.dts rows)) := by rw [List.getElem?_map, he]; rfl
  refine jss_cons ?_
  refine js_v 3 ?_
  refine je_at ?_
  refine je_at ?_
  refine je_v 0 ?_
  refine je_int ?_
  refine ⟨_, _, _, .inl (.inl rfl), rfl, at2, ?_⟩
  refine je_v 1 ?_
  refine ⟨_, _, _, .inl (.inl rfl), rfl, at_nat hri, ?_⟩
  refine jss_cons ?_
  refine js_if ?_
  refine jt_val ?_
  refine je_d D_has_bad_number (hr.mono (by decide)) ?_
  refine ja_cons ?_
  refine je_v 0 ?_
  refine ja_cons ?_
  refine je_v 1 ?_
  refine ja_cons ?_
  refine je_at ?_
  refine je_v 3 ?_
  refine je_v 2 ?_
  refine ⟨_, _, _, .inl (.inl rfl), rfl, at_nat (dts_get hr0), ?_⟩
  refine ja_nil ?_
  refine ⟨rfl, c, i, r, rfl, hgr, ?_⟩
  refine ⟨_, rfl, ?_⟩
  refine ⟨fun hT => (by cases hT), fun hF => ?_⟩
  refine jss_nil ?_
  refine jss_cons ?_
  refine js_if ?_
  refine jt_val ?_
  refine je_d D_writes_input (hr.mono (by decide)) ?_
  refine ja_cons ?_
  refine je_at ?_
  refine je_v 3 ?_
  refine je_v 2 ?_
  refine ⟨_, _, _, .inl (.inl rfl), rfl, at_nat (dts_get hr0), ?_⟩
  refine ja_nil ?_
  refine ⟨rfl, r, _, _, _, rfl, hgr.1, ?_⟩
  refine ⟨_, rfl, ?_⟩
  refine ⟨fun hT => (by cases hT), fun hF => ?_⟩
  refine jss_nil ?_
  refine jss_cons ?_
  refine js_if ?_
  refine jt_val ?_
  refine je_d D_has_bad_loop (hr.mono (by decide)) ?_
  refine ja_cons ?_
  refine je_v 3 ?_
  refine ja_cons ?_
  refine je_v 2 ?_
  refine ja_nil ?_
  refine ⟨rfl, rows, at_, rfl, hat, hL, hf, ?_⟩
  refine ⟨_, rfl, ?_⟩
  refine ⟨fun hT => (by cases hT), fun hF => ?_⟩
  refine jss_nil ?_
  refine jss_one ?_
  refine js_ret ?_
  refine je_ifexp ?_
  refine jt_val ?_
  refine je_d D_has_bad_jump (hr.mono (by decide)) ?_
  refine ja_cons ?_
  refine je_v 3 ?_
  refine ja_cons ?_
  refine je_v 2 ?_
  refine ja_nil ?_
  refine ⟨rfl, rows, at_, rfl, hat, hJ, hf, ?_⟩
  refine ⟨_, rfl, ?_⟩
  refine ⟨fun hT => (by cases hT), fun hF => ?_⟩
  exact je_non q
abbrev C_certificate_of : Ct := fun ds μ Q => ∃ c, ds = [Code.dt c] ∧ CodeGood c ∧ Q (.tup [.str "accepted"]) μ
theorem ok_certificate_of (B : Tops w K mg) (R : Raw K mg "certificate_of" s_certificate_of ["code"]) (D_fault_of_row : Def P w K mg base 6 "fault_of_row" ["code", "routine", "at"] C_fault_of_row) : Def P w K mg base 7 "certificate_of" ["code"] C_certificate_of := by
  have nd := sc_certificate_of.nd
  refine def_mk R sc_certificate_of fun f cdv A outer s H E hr ds μ Q hl hC => ?_
  obtain ⟨c, rfl, hg, q⟩ := hC
  refine jss_cons ?_
  refine js_forI (fun items i δ μ' => ∃ x1 x2 x3 x4, δ = [some (Code.dt c), x1, x2, x3, x4] ∧ μ' = μ) PassesOwn.never rfl ?_
  refine ji_enT rfl B.enumerate ?_
  refine je_at ?_
  refine je_v 0 ?_
  refine je_int ?_
  refine ⟨_, _, _, .inl (.inl rfl), rfl, at2, ?_⟩
  refine ⟨_, .inl rfl, ?_⟩
  refine ⟨⟨none, none, none, none, rfl, rfl⟩, fun _ _ _ _ => trivial, fun i d hd δ μ' hI => ?_, fun δ μ' hI => ?_⟩
  · obtain ⟨x1, x2, x3, x4, rfl, rfl⟩ := hI
    obtain ⟨d', hd', rfl⟩ := enD_get hd
    rw [List.getElem?_map] at hd'
    obtain ⟨rows, he, rfl⟩ := Option.map_eq_some_iff.mp hd'
    have hlen := (hg.rows i rows he).1
    refine jg_tup rfl (.inl rfl) rfl ?_
    refine jgs_cons ?_
    refine jg_v 1 ?_
    refine jgs_cons ?_
    refine jg_v 2 ?_
    refine jgs_nil ?_
    refine jss_one ?_
    refine js_forI (fun items j δ μ'' => ∃ x3 x4, δ = [some (Code.dt c), some (.int (i : Nat)), some (.tup (Rows.dts rows)), x3, x4] ∧ μ'' = μ') PassesOwn.never rfl ?_
    refine ji_range1 rfl B.range ?_
    refine je_lenB B.len ?_
    refine je_v 2 ?_
    refine ⟨_, .inr ⟨_, .inl (.inl rfl), rfl⟩, ?_⟩
    rw [dts_len]
    refine ⟨_, rfl, by omega, by omega, ?_⟩
    refine ⟨⟨x3, x4, rfl, rfl⟩, fun _ _ _ _ => trivial, fun j d hd δ μ'' hI => ?_, fun δ μ'' hI => ?_⟩
    · obtain ⟨x3, x4, rfl, rfl⟩ := hI
      obtain ⟨hj, rfl⟩ := rgD_get hd
      rw [Int.toNat_natCast] at hj
      rw [Int.zero_add]
      refine jg_v 3 ?_
      refine jss_cons ?_
      refine js_v 4 ?_
      refine je_d D_fault_of_row (hr.mono (by decide)) ?_
      refine ja_cons ?_
      refine je_v 0 ?_
      refine ja_cons ?_
      refine je_v 1 ?_
      refine ja_cons ?_
      refine je_v 3 ?_
      refine ja_nil ?_
      refine ⟨rfl, c, i, j, rows, rfl, hg, he, hj, ?_⟩
      refine jss_one ?_
      refine js_if ?_
      refine jt_c (jc_isnotN ?_)
      refine je_v 4 ?_
      refine ⟨_, rfl, ?_⟩
      refine ⟨_, rfl, ?_⟩
      refine ⟨fun hT => (by cases hT), fun hF => ?_⟩
      refine jss_nil ?_
      exact ⟨_, _, rfl, rfl⟩
    · obtain ⟨x3, x4, rfl, rfl⟩ := hI
      exact ⟨_, _, _, _, rfl, rfl⟩
  · obtain ⟨x1, x2, x3, x4, rfl, rfl⟩ := hI
    refine jss_one ?_
    refine js_ret ?_
    refine je_tup ?_
    refine ja_cons ?_
    refine je_str ?_
    refine ja_nil ?_
    exact ⟨by show 1 ≤ sizeLine; decide, q⟩
abbrev C_is_accepted_value : Ct := fun ds μ Q => ∃ c, ds = [Code.dt c] ∧ CodeGood c ∧ Q (.bl true) μ
theorem fit_acc : Fit (.tup [.str "accepted"]) := (fq_tup (n := 0) fun x hx => by
  simp at hx; subst hx; exact fq_str (by decide +kernel)).fit (by decide)
theorem eqv_acc : PyData.eqv (Dt.tup [.str "accepted"]).py (Dt.tup [.str "accepted"]).py = true := by
  simp [Dt.py, Dt.pys, PyData.eqv, PyData.eqvAll]
theorem ok_is_accepted_value (B : Tops w K mg) (R : Raw K mg "is_accepted_value" s_is_accepted_value ["thing"]) (D_is_code_value : Def P w K mg base 9 "is_code_value" ["thing"] C_is_code_value) (D_certificate_of : Def P w K mg base 7 "certificate_of" ["code"] C_certificate_of) :
    Def P w K mg base 10 "is_accepted_value" ["thing"] C_is_accepted_value := by
  have nd := sc_is_accepted_value.nd
  refine def_mk R sc_is_accepted_value fun f cdv A outer s H E hr ds μ Q hl hC => ?_
  obtain ⟨c, rfl, hg, q⟩ := hC
  refine jss_one ?_
  refine js_ret ?_
  refine je_and ?_
  refine je_d D_is_code_value (hr.mono (by decide)) ?_
  refine ja_cons ?_
  refine je_v 0 ?_
  refine ja_nil ?_
  refine ⟨rfl, c, rfl, hg.toCodeOk, ?_⟩
  refine ⟨_, rfl, fun _ => ?_, fun h => (by cases h)⟩
  refine je_one ?_
  refine je_eqV hr.units ?_
  refine je_d D_certificate_of (hr.mono (by decide)) ?_
  refine ja_cons ?_
  refine je_v 0 ?_
  refine ja_nil ?_
  refine ⟨rfl, c, rfl, hg, ?_⟩
  refine je_tup ?_
  refine ja_cons ?_
  refine je_str ?_
  refine ja_nil ?_
  refine ⟨by show 1 ≤ sizeLine; decide, ?_⟩
  refine ⟨_, _, ⟨.inl rfl, fit_acc⟩, ⟨.inl rfl, fit_acc⟩, ?_⟩
  rw [eqv_acc]
  exact q
abbrev C_need_code : Ct := fun ds μ Q => ∃ c, ds = [Code.dt c] ∧ CodeGood c ∧ Q .non μ
theorem ok_need_code (B : Tops w K mg) (R : Raw K mg "need_code" s_need_code ["code"]) (D_is_accepted_value : Def P w K mg base 10 "is_accepted_value" ["thing"] C_is_accepted_value) : Def P w K mg base 11 "need_code" ["code"] C_need_code := by
  have nd := sc_need_code.nd
  refine def_mk R sc_need_code fun f cdv A outer s H E hr ds μ Q hl hC => ?_
  obtain ⟨c, rfl, hg, q⟩ := hC
  refine jss_one ?_
  refine js_if ?_
  refine jt_not ?_
  refine jt_val ?_
  refine je_d D_is_accepted_value (hr.mono (by decide)) ?_
  refine ja_cons ?_
  refine je_v 0 ?_
  refine ja_nil ?_
  refine ⟨rfl, c, rfl, hg, ?_⟩
  refine ⟨_, rfl, ?_⟩
  refine ⟨fun hT => (by cases hT), fun hF => ?_⟩
  exact jss_nil q
end
end K27
end FH_
section FI_
/-! The walk, ninth part: the program's bounds. -/
namespace K27
open PySem PySem.Spec PyProof.Rows L2
theorem lst_nil (x : Dt) (xs : List Dt) : PyData.eqv (Dt.lst (x :: xs)).py (Dt.lst []).py = false := by
  simp [Dt.py, Dt.pys, PyData.eqv, PyData.eqvAll]
theorem lst_nil0 : PyData.eqv (Dt.lst []).py (Dt.lst []).py = true := by
  simp [Dt.py, Dt.pys, PyData.eqv, PyData.eqvAll]
theorem fit_lnil : Fit (.lst []) := (fq_lst (n := 0) fun x hx => by simp at hx).fit (by decide)
theorem fq_bd (b : Bd) : Fq 3 b.dt := fq_tup fun x hx => by
  simp only [List.mem_cons, List.not_mem_nil, or_false] at hx
  rcases hx with rfl | rfl | rfl
  · exact fq_pol _
  · exact fq_pol _
  · exact fq_int _
theorem fit_bds (l : List Bd) : Fit (.lst (l.map Bd.dt)) := (fq_lst (n := 3) fun x hx => by
  obtain ⟨b, _, rfl⟩ := List.mem_map.mp hx
  exact fq_bd b).fit (by decide)
theorem at_last {α : Type} (xs : List α) (x : α) : atI (xs ++ [x]) (-1) = some x := by
  unfold atI ixN
  have hl : (xs ++ [x]).length = xs.length + 1 := by rw [List.length_append]; rfl
  rw [if_neg (by decide), if_pos (by rw [hl]; omega)]
  have : ((-1 : Int) + ((xs ++ [x]).length : Nat)).toNat = xs.length := by
    rw [hl]; omega
  rw [this]
  simp
section
variable {P : Program} {w : World} {K : PySem.W.Frag} {mg : Str → Option Value} {base : Heap}
abbrev C_weight_within : Ct := fun ds μ Q => ∃ rows rs, ds = [.tup (Rows.dts rows), .lst (rs.map natD)] ∧ (∀ r ∈ rs, ∃ p k, rows[r]? = some (.rep p k) ∧ Can p ∧ p.length ≤ 1000) ∧ (∀ j, Lim (weightOf rows (rs.take j))) ∧ Q (.pol (weightOf rows rs)) μ
theorem polAt_of {rows : List Row} {r k : Nat} {p : Pol} (h : rows[r]? = some (.rep p k)) : polAt rows r = p := by unfold polAt; rw [h]
theorem ok_weight_within (B : Tops w K mg) (R : Raw K mg "weight_within" s_weight_within ["rows", "around"]) (D_constant : Def P w K mg base 2 "constant" ["number"] C_constant) (D_multiplied : Def P w K mg base 2 "multiplied" ["poly", "other"] C_multiplied) :
    Def P w K mg base 3 "weight_within" ["rows", "around"] C_weight_within := by
  have nd := sc_weight_within.nd
  refine def_mk R sc_weight_within fun f cdv A outer s H E hr ds μ Q hl hC => ?_
  obtain ⟨rows, rs, rfl, hp, hL, q⟩ := hC
  refine jss_cons ?_
  refine js_v 2 ?_
  refine je_d D_constant (hr.mono (by decide)) ?_
  refine ja_cons ?_
  refine je_int ?_
  refine ja_nil ?_
  refine ⟨rfl, 1, rfl, by decide, ?_⟩
  refine jss_cons ?_
  refine js_forI (fun items i δ μ' => ∃ x3, δ = [some (.tup (Rows.dts rows)), some (.lst (rs.map natD)), some (.pol (weightOf rows (rs.take i))), x3] ∧ μ' = μ) PassesOwn.never rfl ?_
  refine ji_lst ?_
  refine je_v 1 ?_
  refine ⟨_, rfl, ?_⟩
  refine ⟨⟨none, rfl, rfl⟩, fun _ _ _ _ => trivial, fun i d hd δ μ' hI => ?_, fun δ μ' hI => ?_⟩
  · obtain ⟨x3, rfl, rfl⟩ := hI
    rw [List.getElem?_map] at hd
    obtain ⟨r, hr0, rfl⟩ := Option.map_eq_some_iff.mp hd
    obtain ⟨p, k, h1, h2, h3⟩ := hp r (List.mem_of_getElem? hr0)
    refine jg_v 3 ?_
    refine jss_one ?_
    refine js_v 2 ?_
    refine je_d D_multiplied (hr.mono (by decide)) ?_
    refine ja_cons ?_
    refine je_v 2 ?_
    refine ja_cons ?_
    refine je_at ?_
    refine je_at ?_
    refine je_v 0 ?_
    refine je_v 3 ?_
    refine ⟨_, _, _, .inl (.inl rfl), rfl, at_nat (dts_get h1), ?_⟩
    refine je_int ?_
    refine ⟨_, _, _, .inl (.inl rfl), rfl, at1, ?_⟩
    refine ja_nil ?_
    refine ⟨rfl, _, _, _, _, rfl, pv_pol _, pv_dt p, hL i, h2, h3, ?_⟩
    refine ⟨some (natD r), ?_, rfl⟩
    rw [take_succ' hr0, weight_succ, polAt_of h1]
    rfl
  · obtain ⟨x3, rfl, rfl⟩ := hI
    rw [List.length_map, List.take_length]
    refine jss_one ?_
    refine js_ret ?_
    refine je_v 2 ?_
    exact q
theorem bd_get {l : List Bd} {i : Nat} {b : Bd} (h : l[i]? = some b) : (l.map Bd.dt)[i]? = some b.dt := by rw [List.getElem?_map, h]; rfl
theorem RW.arep {rows : List Row} {ear : List Bd} {dW i : Nat} (h : RW rows ear dW i) (at_ : Nat) : ∀ r ∈ around rows at_, ∃ p k, rows[r]? = some (.rep p k) ∧ Can p ∧ p.length ≤ 1000 := fun r hr => by
  obtain ⟨_, k, h1, _⟩ := mem_around.mp hr
  obtain ⟨p, h2, _, _⟩ := endOf_some h1
  exact ⟨p, k, h2, (h.pol r p k h2).can, (h.pol r p k h2).lens (by decide)⟩
abbrev C_routine_bounds : Ct := fun ds μ Q => ∃ rows ear dW i d2, ds = [.tup (Rows.dts rows), d2] ∧ SeqL μ d2 (ear.map Bd.dt) ∧ RW rows ear dW i ∧ RowsFit rows ∧ Q (Bd.dt (rbOf rows ear)) μ
theorem ok_routine_bounds (B : Tops w K mg) (R : Raw K mg "routine_bounds" s_routine_bounds ["rows", "earlier"]) (D_repeats_around : Def P w K mg base 2 "repeats_around" ["rows", "place"] C_repeats_around) (D_weight_within : Def P w K mg base 3 "weight_within" ["rows", "around"] C_weight_within)
    (D_added : Def P w K mg base 2 "added" ["poly", "other"] C_added) (D_multiplied : Def P w K mg base 2 "multiplied" ["poly", "other"] C_multiplied) : Def P w K mg base 4 "routine_bounds" ["rows", "earlier"] C_routine_bounds := by
  have nd := sc_routine_bounds.nd
  refine def_mk R sc_routine_bounds fun f cdv A outer s H E hr ds μ Q hl hC => ?_
  obtain ⟨rows, ear, dW, i0, d2, rfl, hs, hW, hf, q⟩ := hC
  refine jss_cons ?_
  refine js_asg ?_
  refine je_tup ?_
  refine ja_cons ?_
  refine je_unit ?_
  refine ja_cons ?_
  refine je_unit ?_
  refine ja_cons ?_
  refine je_int ?_
  refine ja_nil ?_
  refine ⟨by show 3 ≤ sizeLine; decide, ?_⟩
  refine jg_tup rfl (.inl rfl) rfl ?_
  refine jgs_cons ?_
  refine jg_v 2 ?_
  refine jgs_cons ?_
  refine jg_v 3 ?_
  refine jgs_cons ?_
  refine jg_v 4 ?_
  refine jgs_nil ?_
  refine jss_cons ?_
  refine js_forI (fun items n δ μ' => ∃ x5 x6 x7 x8 x9 x10, δ = [some (.tup (Rows.dts rows)), some d2, some (.pol (rbN rows ear n).clk), some (.pol (rbN rows ear n).cho), some (.int (rbN rows ear n).dep), x5, x6, x7, x8, x9, x10] ∧ μ' = μ) PassesOwn.never rfl ?_
  refine ji_enT rfl B.enumerate ?_
  refine je_v 0 ?_
  refine ⟨_, .inl rfl, ?_⟩
  refine ⟨⟨none, none, none, none, none, none, rfl, rfl⟩, fun _ _ _ _ => trivial, fun n d hd δ μ' hI => ?_, fun δ μ' hI => ?_⟩
  · obtain ⟨x5, x6, x7, x8, x9, x10, rfl, rfl⟩ := hI
    obtain ⟨d', hd', rfl⟩ := enD_get hd
    obtain ⟨r, hr0, rfl⟩ := getR hd'
    have hn : n < rows.length := (List.getElem?_eq_some_iff.mp hr0).1
    have hwL : Lim (wAt rows n) := by
      have := hW.wL hn (around rows n).length
      rw [List.take_length] at this
      exact this
    obtain ⟨hL1, hL2⟩ := hW.rbL (Nat.le_of_lt hn)
    refine jg_tup rfl (.inl rfl) rfl ?_
    refine jgs_cons ?_
    refine jg_v 5 ?_
    refine jgs_cons ?_
    refine jg_v 6 ?_
    refine jgs_nil ?_
    refine jss_cons ?_
    refine js_v 7 ?_
    refine je_d D_repeats_around (hr.mono (by decide)) ?_
    refine ja_cons ?_
    refine je_v 0 ?_
    refine ja_cons ?_
    refine je_v 5 ?_
    refine ja_nil ?_
    refine ⟨rfl, rows, n, rfl, Nat.le_of_lt hn, hf, ?_⟩
    refine jss_cons ?_
    refine js_par 8 9 rfl nd rfl rfl (by decide) rfl rfl ?_ rfl
    refine ja_cons ?_
    refine je_d D_weight_within (hr.mono (by decide)) ?_
    refine ja_cons ?_
    refine je_v 0 ?_
    refine ja_cons ?_
    refine je_v 7 ?_
    refine ja_nil ?_
    refine ⟨rfl, rows, around rows n, rfl, hW.arep n, hW.wL hn, ?_⟩
    refine ja_cons ?_
    refine je_lenB B.len ?_
    refine je_v 7 ?_
    refine ⟨_, .inr ⟨_, .inr (.inl rfl), rfl⟩, ?_⟩
    rw [List.length_map]
    refine ja_nil ?_
    refine ⟨_, _, rfl, ?_⟩
    refine jss_cons ?_
    refine js_v 2 ?_
    refine je_d D_added (hr.mono (by decide)) ?_
    refine ja_cons ?_
    refine je_v 2 ?_
    refine ja_cons ?_
    refine je_v 8 ?_
    refine ja_nil ?_
    refine ⟨rfl, _, _, wAt rows n, rfl, pv_pol _, hL1, hwL.can, hwL.len, ?_⟩
    refine jss_mid (fun δ μ'' => ∃ x10 : Option Dt, ∃ cl ch : Pol, ∃ inn : Int, δ = [some (.tup (Rows.dts rows)), some d2, some (.pol cl), some (.pol ch), some (.int (rbN rows ear n).dep), some (natD n), some r.dt, some (.lst ((around rows n).map natD)), some (.pol (wAt rows n)), some (.int inn), x10] ∧ μ'' = μ' ∧
      stepB rows ear (rbN rows ear n) n = ⟨cl, ch, mx (rbN rows ear n).dep inn⟩) ?_ fun δ μ'' hI => ?_
    · refine js_if ?_
      refine jt_c (jc_eqS ?_)
      refine je_at ?_
      refine je_v 6 ?_
      refine je_int ?_
      refine ⟨_, _, _, .inl (.inl rfl), rfl, at0, ?_⟩
      refine je_str ?_
      refine ⟨_, _, rfl, rfl, ?_⟩
      refine ⟨_, rfl, ?_⟩
      refine ⟨fun hT => ?_, fun hF => ?_⟩
      · obtain ⟨pl, t, i, x, rfl⟩ := name_cho (of_decide_eq_true hT)
        refine jss_one ?_
        refine js_v 3 ?_
        refine je_d D_added (hr.mono (by decide)) ?_
        refine ja_cons ?_
        refine je_v 3 ?_
        refine ja_cons ?_
        refine je_v 8 ?_
        refine ja_nil ?_
        refine ⟨rfl, _, _, wAt rows n, rfl, pv_pol _, hL2, hwL.can, hwL.len, ?_⟩
        refine ⟨_, _, _, _, rfl, rfl, ?_⟩
        unfold stepB
        rw [hr0]; rfl
      · refine jss_one ?_
        refine js_if ?_
        refine jt_c (jc_eqS ?_)
        refine je_at ?_
        refine je_v 6 ?_
        refine je_int ?_
        refine ⟨_, _, _, .inl (.inl rfl), rfl, at0, ?_⟩
        refine je_str ?_
        refine ⟨_, _, rfl, rfl, ?_⟩
        refine ⟨_, rfl, ?_⟩
        refine ⟨fun hT => ?_, fun hF2 => ?_⟩
        · obtain ⟨k, rfl⟩ := name_cal (of_decide_eq_true hT)
          obtain ⟨he1, he2⟩ := hW.earI hr0
          obtain ⟨hE1, hE2⟩ := hW.earL he2
          obtain ⟨hC1, hC2⟩ := hW.callL hn he2
          refine jss_cons ?_
          refine js_v 10 ?_
          refine je_at ?_
          refine je_v 1 ?_
          refine je_at ?_
          refine je_v 6 ?_
          refine je_int ?_
          refine ⟨_, _, _, .inl (.inl rfl), rfl, at1, ?_⟩
          refine ⟨_, _, _, .inr hs, rfl, at_nat (bd_get he1), ?_⟩
          refine jss_cons ?_
          refine js_v 2 ?_
          refine je_d D_added (hr.mono (by decide)) ?_
          refine ja_cons ?_
          refine je_v 2 ?_
          refine ja_cons ?_
          refine je_d D_multiplied (hr.mono (by decide)) ?_
          refine ja_cons ?_
          refine je_v 8 ?_
          refine ja_cons ?_
          refine je_at ?_
          refine je_v 10 ?_
          refine je_int ?_
          refine ⟨_, _, _, .inl (.inl rfl), rfl, at0, ?_⟩
          refine ja_nil ?_
          refine ⟨rfl, _, _, wAt rows n, _, rfl, pv_pol _, pv_pol _, hwL, hE1.can, hE1.len, ?_⟩
          refine ja_nil ?_
          refine ⟨rfl, _, _, _, rfl, pv_pol _, hW.midL hn, hC1.can, hC1.len, ?_⟩
          refine jss_cons ?_
          refine js_v 3 ?_
          refine je_d D_added (hr.mono (by decide)) ?_
          refine ja_cons ?_
          refine je_v 3 ?_
          refine ja_cons ?_
          refine je_d D_multiplied (hr.mono (by decide)) ?_
          refine ja_cons ?_
          refine je_v 8 ?_
          refine ja_cons ?_
          refine je_at ?_
          refine je_v 10 ?_
          refine je_int ?_
          refine ⟨_, _, _, .inl (.inl rfl), rfl, at1, ?_⟩
          refine ja_nil ?_
          refine ⟨rfl, _, _, wAt rows n, _, rfl, pv_pol _, pv_pol _, hwL, hE2.can, hE2.len, ?_⟩
          refine ja_nil ?_
          refine ⟨rfl, _, _, _, rfl, pv_pol _, hL2, hC2.can, hC2.len, ?_⟩
          refine jss_one ?_
          refine js_v 9 ?_
          refine je_add ?_
          refine je_add ?_
          refine je_v 9 ?_
          refine je_int ?_
          refine ⟨_, _, rfl, rfl, ?_⟩
          refine je_at ?_
          refine je_v 10 ?_
          refine je_int ?_
          refine ⟨_, _, _, .inl (.inl rfl), rfl, at2, ?_⟩
          refine ⟨_, _, rfl, rfl, ?_⟩
          refine ⟨_, _, _, _, rfl, rfl, ?_⟩
          unfold stepB
          rw [hr0]; rfl
        · refine jss_nil ?_
          refine ⟨_, _, _, _, rfl, rfl, ?_⟩
          unfold stepB
          rw [hr0]
          cases r with
          | cho pl t i x => exact absurd rfl (of_decide_eq_false hF)
          | cal k => exact absurd rfl (of_decide_eq_false hF2)
          | _ => rfl
    · obtain ⟨x10, cl, ch, inn, rfl, rfl, hst⟩ := hI
      refine jss_one ?_
      refine js_v 4 ?_
      refine je_maxB B.max ?_
      refine ja_cons ?_
      refine je_v 4 ?_
      refine ja_cons ?_
      refine je_v 9 ?_
      refine ja_nil ?_
      refine ⟨_, _, rfl, ?_⟩
      have e : rbN rows ear (n + 1) = ⟨cl, ch, mx (rbN rows ear n).dep inn⟩ := hst
      refine ⟨some (natD n), some r.dt, some (.lst ((around rows n).map natD)), some (.pol (wAt rows n)), some (.int inn), x10, ?_, rfl⟩
      rw [e]
      rfl
  · obtain ⟨x5, x6, x7, x8, x9, x10, rfl, rfl⟩ := hI
    rw [enD_len, dts_len]
    refine jss_one ?_
    refine js_ret ?_
    refine je_tup ?_
    refine ja_cons ?_
    refine je_v 2 ?_
    refine ja_cons ?_
    refine je_v 3 ?_
    refine ja_cons ?_
    refine je_v 4 ?_
    refine ja_nil ?_
    exact ⟨by show 3 ≤ sizeLine; decide, q⟩
abbrev C_main_bounds : Ct := fun ds μ Q => ∃ c dW, ds = [Code.dt c] ∧ CW c dW ∧ (∀ rows ∈ c.rts, RowsFit rows) ∧ Q (Bd.dt (mainB c)) μ
theorem ok_main_bounds (B : Tops w K mg) (R : Raw K mg "main_bounds" s_main_bounds ["code"]) (D_routine_bounds : Def P w K mg base 4 "routine_bounds" ["rows", "earlier"] C_routine_bounds) : Def P w K mg base 5 "main_bounds" ["code"] C_main_bounds := by
  have nd := sc_main_bounds.nd
  refine def_mk R sc_main_bounds fun f cdv A outer s H E hr ds μ Q hl hC => ?_
  obtain ⟨c, dW, rfl, hW, hf, q⟩ := hC
  refine jss_cons ?_
  refine js_v 1 ?_
  refine je_lstM ?_
  refine ja_nil ?_
  refine ⟨by show 0 ≤ sizeLine; decide, fun l hl => ?_⟩
  refine jss_cons ?_
  refine js_forI (fun items i δ μ' => ∃ x2, δ = [some (Code.dt c), some (.ref l), x2] ∧ μ' = μ.set l (.lst ((bnds (c.rts.take i)).map Bd.dt))) PassesOwn.never rfl ?_
  refine ji_tup ?_
  refine je_at ?_
  refine je_v 0 ?_
  refine je_int ?_
  refine ⟨_, _, _, .inl (.inl rfl), rfl, at2, ?_⟩
  refine ⟨_, .inl rfl, ?_⟩
  refine ⟨⟨none, rfl, rfl⟩, fun _ _ _ _ => trivial, fun i d hd δ μ' hI => ?_, fun δ μ' hI => ?_⟩
  · obtain ⟨x2, rfl, rfl⟩ := hI
    rw [List.getElem?_map] at hd
    obtain ⟨rows, he, rfl⟩ := Option.map_eq_some_iff.mp hd
    refine jg_v 2 ?_
    refine jss_one ?_
    refine js_expr ?_
    refine je_append ?_
    refine je_v 1 ?_
    refine ⟨_, rfl, ⟨_, Sto.set_same⟩, ?_⟩
    refine je_d D_routine_bounds (hr.mono (by decide)) ?_
    refine ja_cons ?_
    refine je_v 2 ?_
    refine ja_cons ?_
    refine je_v 1 ?_
    refine ja_nil ?_
    refine ⟨rfl, rows, _, dW, i, _, rfl, .inr ⟨_, rfl, Sto.set_same⟩, hW.rw i rows he, hf rows (List.mem_of_getElem? he), ?_⟩
    refine ⟨_, Sto.set_same, ?_, ?_⟩
    · rw [List.length_map, bnds_len]
      have := hW.rl
      have := List.length_take_le' i c.rts
      show _ < 2 ^ 24
      omega
    · refine ⟨some (.tup (Rows.dts rows)), rfl, ?_⟩
      rw [Sto.set_set, bnds_take he, List.map_append]; rfl
  · obtain ⟨x2, rfl, rfl⟩ := hI
    rw [List.length_map, List.take_length]
    refine jss_one ?_
    refine js_ret ?_
    refine je_drop ?_
    refine je_ifexp ?_
    refine jt_c (jc_eqV hr.units ?_)
    refine je_v 1 ?_
    refine je_lst ?_
    refine ja_nil ?_
    refine ⟨by show 0 ≤ sizeLine; decide, ?_⟩
    refine ⟨_, _, ⟨.inr ⟨_, .inr ⟨_, rfl, Sto.set_same⟩, rfl⟩, fit_bds _⟩, ⟨.inl rfl, fit_lnil⟩, ?_⟩
    refine ⟨_, rfl, ?_⟩
    rcases List.eq_nil_or_concat (bnds c.rts) with e | ⟨l0, b, e⟩
    · have em : mainB c = Bd.zero := by unfold mainB; rw [e]; rfl
      rw [e]
      rw [em] at q
      refine ⟨fun hT => ?_, fun hF => by rw [List.map_nil, lst_nil0] at hF; cases hF⟩
      refine je_tup ?_
      refine ja_cons ?_
      refine je_unit ?_
      refine ja_cons ?_
      refine je_unit ?_
      refine ja_cons ?_
      refine je_int ?_
      refine ja_nil ?_
      refine ⟨by show 3 ≤ sizeLine; decide, ?_⟩
      exact ⟨μ, Sto.le_set hl, q⟩
    · have em : mainB c = b := by unfold mainB; rw [e, List.concat_eq_append, List.getLast?_append]; rfl
      rw [e]
      rw [em] at q
      rw [List.concat_eq_append, List.map_append]
      refine ⟨fun hT => ?_, fun hF => ?_⟩
      · exfalso
        cases l0 with
        | nil => rw [List.map_nil, List.nil_append, List.map_cons, lst_nil] at hT; cases hT
        | cons a l0 => rw [List.map_cons, List.cons_append, lst_nil] at hT; cases hT
      · refine je_at ?_
        refine je_v 1 ?_
        refine je_neg ?_
        refine je_int ?_
        refine ⟨_, rfl, ?_⟩
        refine ⟨_, _, _, .inr (.inr ⟨_, rfl, Sto.set_same⟩), rfl, at_last _ _, ?_⟩
        exact ⟨μ, Sto.le_set hl, q⟩
abbrev C_cell_bound : Ct := fun ds μ Q => ∃ c dW, ds = [Code.dt c] ∧ CW c dW ∧ dW ≤ 5 ∧ (∀ rows ∈ c.rts, RowsFit rows) ∧ Q (.pol (cellsP c)) μ
theorem ok_cell_bound (B : Tops w K mg) (R : Raw K mg "cell_bound" s_cell_bound ["code"]) (D_main_bounds : Def P w K mg base 5 "main_bounds" ["code"] C_main_bounds) (D_constant : Def P w K mg base 2 "constant" ["number"] C_constant) (D_added : Def P w K mg base 2 "added" ["poly", "other"] C_added) :
    Def P w K mg base 6 "cell_bound" ["code"] C_cell_bound := by
  have nd := sc_cell_bound.nd
  refine def_mk R sc_cell_bound fun f cdv A outer s H E hr ds μ Q hl hC => ?_
  obtain ⟨c, dW, rfl, hW, hdW, hf, q⟩ := hC
  refine jss_cons ?_
  refine js_asg ?_
  refine je_d D_main_bounds (hr.mono (by decide)) ?_
  refine ja_cons ?_
  refine je_v 0 ?_
  refine ja_nil ?_
  refine ⟨rfl, c, dW, rfl, hW, hf, ?_⟩
  refine jg_tup rfl (.inl rfl) rfl ?_
  refine jgs_cons ?_
  refine jg_v 1 ?_
  refine jgs_cons ?_
  refine jg_v 2 ?_
  refine jgs_cons ?_
  refine jg_v 3 ?_
  refine jgs_nil ?_
  refine jss_cons ?_
  refine js_v 4 ?_
  refine je_d D_added (hr.mono (by decide)) ?_
  refine ja_cons ?_
  refine je_d D_constant (hr.mono (by decide)) ?_
  refine ja_cons ?_
  refine je_add ?_
  refine je_lenB B.len ?_
  refine je_at ?_
  refine je_v 0 ?_
  refine je_int ?_
  refine ⟨_, _, _, .inl (.inl rfl), rfl, at1, ?_⟩
  refine ⟨_, .inr ⟨_, .inl (.inl rfl), rfl⟩, ?_⟩
  rw [List.length_map]
  refine je_v 3 ?_
  refine ⟨_, _, rfl, rfl, ?_⟩
  refine ja_nil ?_
  refine ⟨rfl, _, rfl, hW.const, ?_⟩
  refine ja_cons ?_
  refine je_v 2 ?_
  refine ja_nil ?_
  have hm := hW.main.2.1
  have hcL : Lim (constP ((c.idx.length : Nat) + (mainB c).dep)) := hW.constL.lim (by decide) (by decide)
  refine ⟨rfl, _, _, _, rfl, pv_pol _, hcL, hm.can, hm.lens (by omega), ?_⟩
  refine jss_cons ?_
  refine js_forI (fun items i δ μ' => ∃ x1 x2 x3 x5, δ = [some (Code.dt c), x1, x2, x3, some (.pol (cellsN c i)), x5] ∧ μ' = μ) PassesOwn.never rfl ?_
  refine ji_tup ?_
  refine je_at ?_
  refine je_v 0 ?_
  refine je_int ?_
  refine ⟨_, _, _, .inl (.inl rfl), rfl, at0, ?_⟩
  refine ⟨_, .inl rfl, ?_⟩
  refine ⟨⟨_, _, _, _, rfl, rfl⟩, fun _ _ _ _ => trivial, fun i d hd δ μ' hI => ?_, fun δ μ' hI => ?_⟩
  · obtain ⟨x1, x2, x3, x5, rfl, rfl⟩ := hI
    rw [List.getElem?_map] at hd
    obtain ⟨p, hp, rfl⟩ := Option.map_eq_some_iff.mp hd
    have hpl := hW.tp p (List.mem_of_getElem? hp)
    refine jg_v 5 ?_
    refine jss_one ?_
    refine js_v 4 ?_
    refine je_d D_added (hr.mono (by decide)) ?_
    refine ja_cons ?_
    refine je_v 4 ?_
    refine ja_cons ?_
    refine je_v 5 ?_
    refine ja_nil ?_
    refine ⟨rfl, _, _, p, rfl, pv_dt p, hW.cellsL hdW (Nat.le_of_lt (List.getElem?_eq_some_iff.mp hp).1), hpl.can, hpl.lens (by decide), ?_⟩
    refine ⟨x1, x2, x3, some (Pol.dt p), ?_, rfl⟩
    rw [cellsN_succ hp]; rfl
  · obtain ⟨x1, x2, x3, x5, rfl, rfl⟩ := hI
    rw [List.length_map]
    refine jss_one ?_
    refine js_ret ?_
    refine je_v 4 ?_
    have e : cellsN c c.tapes.length = cellsP c := by unfold cellsN cellsP; rw [List.take_length]
    rw [e]; exact q
/-- what is asked of a code whose bounds are read -/
structure CodeFull (c : Code) (dW : Nat) : Prop where
  good : CodeGood c
  cw : CW c dW
  dw : dW ≤ 5
theorem CodeFull.fits {c : Code} {dW : Nat} (h : CodeFull c dW) : ∀ rows ∈ c.rts, RowsFit rows := fun rows hr => by
  obtain ⟨i, hi⟩ := List.mem_iff_getElem?.mp hr
  exact h.good.fit hi
abbrev C_code (g : Code → Dt) : Ct := fun ds μ Q => ∃ c dW, ds = [Code.dt c] ∧ CodeFull c dW ∧ Q (g c) μ
theorem ok_code_clock (B : Tops w K mg) (R : RawK K mg "code_clock" s_code_clock "code") (D_need_code : Def P w K mg base 11 "need_code" ["code"] C_need_code) (D_main_bounds : Def P w K mg base 5 "main_bounds" ["code"] C_main_bounds) :
    DefK P w K mg base 12 "code_clock" "code" (C_code fun c => .pol (mainB c).clk) := by
  have nd := sc_code_clock.nd
  refine def_mkK R sc_code_clock fun f cdv A outer s H E hr ds μ Q hl hC => ?_
  obtain ⟨c, dW, rfl, hF, q⟩ := hC
  refine jss_cons ?_
  refine js_expr ?_
  refine je_d D_need_code (hr.mono (by decide)) ?_
  refine ja_cons ?_
  refine je_v 0 ?_
  refine ja_nil ?_
  refine ⟨rfl, c, rfl, hF.good, ?_⟩
  refine jss_one ?_
  refine js_ret ?_
  refine je_at ?_
  refine je_d D_main_bounds (hr.mono (by decide)) ?_
  refine ja_cons ?_
  refine je_v 0 ?_
  refine ja_nil ?_
  refine ⟨rfl, c, dW, rfl, hF.cw, hF.fits, ?_⟩
  refine je_int ?_
  exact ⟨_, _, _, .inl (.inl rfl), rfl, at0, q⟩
theorem ok_code_choices (B : Tops w K mg) (R : RawK K mg "code_choices" s_code_choices "code") (D_need_code : Def P w K mg base 11 "need_code" ["code"] C_need_code) (D_main_bounds : Def P w K mg base 5 "main_bounds" ["code"] C_main_bounds) :
    DefK P w K mg base 12 "code_choices" "code" (C_code fun c => .pol (mainB c).cho) := by
  have nd := sc_code_choices.nd
  refine def_mkK R sc_code_choices fun f cdv A outer s H E hr ds μ Q hl hC => ?_
  obtain ⟨c, dW, rfl, hF, q⟩ := hC
  refine jss_cons ?_
  refine js_expr ?_
  refine je_d D_need_code (hr.mono (by decide)) ?_
  refine ja_cons ?_
  refine je_v 0 ?_
  refine ja_nil ?_
  refine ⟨rfl, c, rfl, hF.good, ?_⟩
  refine jss_one ?_
  refine js_ret ?_
  refine je_at ?_
  refine je_d D_main_bounds (hr.mono (by decide)) ?_
  refine ja_cons ?_
  refine je_v 0 ?_
  refine ja_nil ?_
  refine ⟨rfl, c, dW, rfl, hF.cw, hF.fits, ?_⟩
  refine je_int ?_
  exact ⟨_, _, _, .inl (.inl rfl), rfl, at1, q⟩
theorem ok_code_cells (B : Tops w K mg) (R : RawK K mg "code_cells" s_code_cells "code") (D_need_code : Def P w K mg base 11 "need_code" ["code"] C_need_code) (D_cell_bound : Def P w K mg base 6 "cell_bound" ["code"] C_cell_bound) :
    DefK P w K mg base 12 "code_cells" "code" (C_code fun c => .pol (cellsP c)) := by
  have nd := sc_code_cells.nd
  refine def_mkK R sc_code_cells fun f cdv A outer s H E hr ds μ Q hl hC => ?_
  obtain ⟨c, dW, rfl, hF, q⟩ := hC
  refine jss_cons ?_
  refine js_expr ?_
  refine je_d D_need_code (hr.mono (by decide)) ?_
  refine ja_cons ?_
  refine je_v 0 ?_
  refine ja_nil ?_
  refine ⟨rfl, c, rfl, hF.good, ?_⟩
  refine jss_one ?_
  refine js_ret ?_
  refine je_d D_cell_bound (hr.mono (by decide)) ?_
  refine ja_cons ?_
  refine je_v 0 ?_
  refine ja_nil ?_
  exact ⟨rfl, c, dW, rfl, hF.cw, hF.dw, hF.fits, q⟩
theorem ok_code_depth (B : Tops w K mg) (R : RawK K mg "code_depth" s_code_depth "code") (D_need_code : Def P w K mg base 11 "need_code" ["code"] C_need_code) (D_main_bounds : Def P w K mg base 5 "main_bounds" ["code"] C_main_bounds) :
    DefK P w K mg base 12 "code_depth" "code" (C_code fun c => .int (mainB c).dep) := by
  have nd := sc_code_depth.nd
  refine def_mkK R sc_code_depth fun f cdv A outer s H E hr ds μ Q hl hC => ?_
  obtain ⟨c, dW, rfl, hF, q⟩ := hC
  refine jss_cons ?_
  refine js_expr ?_
  refine je_d D_need_code (hr.mono (by decide)) ?_
  refine ja_cons ?_
  refine je_v 0 ?_
  refine ja_nil ?_
  refine ⟨rfl, c, rfl, hF.good, ?_⟩
  refine jss_one ?_
  refine js_ret ?_
  refine je_at ?_
  refine je_d D_main_bounds (hr.mono (by decide)) ?_
  refine ja_cons ?_
  refine je_v 0 ?_
  refine ja_nil ?_
  refine ⟨rfl, c, dW, rfl, hF.cw, hF.fits, ?_⟩
  refine je_int ?_
  exact ⟨_, _, _, .inl (.inl rfl), rfl, at2, q⟩
end
end K27
end FI_
section FJ_
/-! The walk, tenth part: the law's bodies and insides. -/
namespace K27
open PySem PySem.Spec PyProof.Rows L2
section
variable {X : Cx} {e : Expr} {δ : Env'} {μ : Sto} {p pos tpos : Pos} {elts : List Expr} {kk : Nat} {R : List Dt → (Sto → Prop) → Sto → Prop}
theorem JI.imp {tg iter : Expr} {R R' : List Dt → (Sto → Prop) → Sto → Prop} (h : JI X tg iter δ μ R) (l : ∀ items cond μ', R items cond μ' → R' items cond μ') : JI X tg iter δ μ R' := fun σ G H RR at_ k =>
  h σ G H RR at_ fun J items cond G' H' μ' hm fr src q => k J items cond G' H' μ' hm fr src (l _ _ _ q)
end
def bodP (rows : List Row) (n : Nat) : Pol := (List.range n).filterMap fun r => (endOf rows r).map fun k => (((r : Nat) : Int), ((k : Nat) : Int))
theorem bodP_succ (rows : List Row) (n : Nat) : bodP rows (n + 1) = bodP rows n ++ (match endOf rows n with | some k => [(((n : Nat) : Int), ((k : Nat) : Int))] | none => []) := by
  unfold bodP
  rw [List.range_succ, List.filterMap_append]
  congr 1
  cases e : endOf rows n with
  | none => simp [e]
  | some k => simp [e]
theorem bodP_mem {rows : List Row} {n : Nat} {t : Int × Int} (h : t ∈ bodP rows n) : ∃ r k : Nat, r < n ∧ endOf rows r = some k ∧ t = ((r : Int), (k : Int)) := by
  unfold bodP at h
  obtain ⟨r, h1, h2⟩ := List.mem_filterMap.mp h
  obtain ⟨k, h3, h4⟩ := Option.map_eq_some_iff.mp h2
  exact ⟨r, k, List.mem_range.mp h1, h3, h4.symm⟩
theorem bodP_srt (rows : List Row) : ∀ n, (bodP rows n).Pairwise fun a b => a.1 < b.1
  | 0 => .nil
  | n + 1 => by
    rw [bodP_succ]
    refine List.pairwise_append.mpr ⟨bodP_srt rows n, ?_, fun a ha b hb => ?_⟩
    · split <;> simp
    · obtain ⟨r, k, h1, _, rfl⟩ := bodP_mem ha
      split at hb
      · simp at hb; subst hb; simp only; omega
      · simp at hb
theorem bodP_nodup (rows : List Row) (n : Nat) : (keysP (bodP rows n)).Nodup := List.pairwise_map.mpr ((bodP_srt rows n).imp fun h e => by omega)
theorem bodP_put {rows : List Row} {n k : Nat} (h : endOf rows n = some k) : putD ((bodP rows n).map kvD) (.inl (n : Nat)) (.int (k : Nat)) = (bodP rows (n + 1)).map kvD := by
  rw [bodP_succ, h]
  unfold putD
  rw [any_kv, if_neg (by
    intro hk
    have hk := of_decide_eq_true hk
    unfold keysP at hk
    obtain ⟨t, ht, e⟩ := List.mem_map.mp hk
    obtain ⟨r, k', h1, _, rfl⟩ := bodP_mem ht
    simp only at e
    omega), List.map_append]
  rfl
theorem bodP_len (rows : List Row) (n : Nat) : (bodP rows n).length ≤ n := by
  unfold bodP
  exact Nat.le_trans (List.length_filterMap_le _ _) (by rw [List.length_range]; exact Nat.le_refl _)
theorem bodP_lk {rows : List Row} {n r k : Nat} (hr : r < n) (h : endOf rows r = some k) : (r : Int) ∈ keysP (bodP rows n) ∧ lkP (bodP rows n) r = k := by
  have hm : ((r : Int), (k : Int)) ∈ bodP rows n := by
    unfold bodP
    exact List.mem_filterMap.mpr ⟨r, List.mem_range.mpr hr, by rw [h]; rfl⟩
  exact ⟨List.mem_map.mpr ⟨_, hm, rfl⟩, lk_mem (bodP_nodup rows n) _ hm⟩
/-- ascending numbers that are a rearrangement are the same -/
theorem sorted_eq {ns ms : List Int} (h1 : ns.Perm ms) (h2 : ns.Pairwise (· ≤ ·)) (h3 : ms.Pairwise (· < ·)) (h0 : ∀ x ∈ ms, 0 ≤ x) : ns = ms := by
  have hnd : ms.Nodup := h3.imp fun h e => by omega
  have hns : ns.Nodup := h1.nodup_iff.mpr hnd
  have key : ns.map (fun x => (x, (1 : Int))) = ms.map fun x => (x, (1 : Int)) := by
    refine can_uniq ⟨?_, ?_, ?_⟩ ⟨?_, ?_, ?_⟩ fun f => S_perm (h1.map _) f
    · exact List.pairwise_map.mpr ((hns.and h2).imp fun {a b} ⟨hne, hl⟩ => by simp only; omega)
    · intro t ht
      obtain ⟨x, hx, rfl⟩ := List.mem_map.mp ht
      exact h0 x (h1.mem_iff.mp hx)
    · intro t ht
      obtain ⟨x, hx, rfl⟩ := List.mem_map.mp ht
      exact Int.le_refl 1
    · exact List.pairwise_map.mpr h3
    · intro t ht
      obtain ⟨x, hx, rfl⟩ := List.mem_map.mp ht
      exact h0 x hx
    · intro t ht
      obtain ⟨x, hx, rfl⟩ := List.mem_map.mp ht
      exact Int.le_refl 1
  have := congrArg (List.map fun t : Int × Int => t.1) key
  rw [List.map_map, List.map_map] at this
  have e : ∀ l : List Int, l.map ((fun t : Int × Int => t.1) ∘ fun x => (x, (1 : Int))) = l := fun l => by
    induction l with
    | nil => rfl
    | cons x l ih => rw [List.map_cons, ih]; rfl
  rw [e, e] at this
  exact this
theorem bodP_keys (rows : List Row) : ∀ n, keysP (bodP rows n) = ((List.range n).filter fun r => (endOf rows r).isSome).map fun r => ((r : Nat) : Int)
  | 0 => rfl
  | n + 1 => by
    rw [bodP_succ, List.range_succ, List.filter_append, List.map_append, ← bodP_keys rows n]
    unfold keysP
    rw [List.map_append]
    congr 1
    cases e : endOf rows n with
    | none => simp [e]
    | some k => simp [e]
theorem range_filter (p : Nat → Bool) (m : Nat) : ∀ n, m ≤ n → (List.range n).filter (fun r => decide (r < m) && p r) = (List.range m).filter p := by
  intro n hn
  induction n with
  | zero =>
    have : m = 0 := by omega
    subst this; rfl
  | succ n ih =>
    rw [List.range_succ, List.filter_append]
    rcases Nat.lt_or_ge n m with h | h
    · have e : m = n + 1 := by omega
      subst e
      have e2 : (List.range n).filter (fun r => decide (r < n + 1) && p r) = (List.range n).filter p := List.filter_congr fun r hr => by
        rw [decide_eq_true (by have := List.mem_range.mp hr; omega), Bool.true_and]
      rw [e2, List.range_succ, List.filter_append]
      congr 1
      rw [List.filter_cons, List.filter_cons, decide_eq_true (by omega), Bool.true_and]; rfl
    · rw [ih h]
      have e3 : [n].filter (fun r => decide (r < m) && p r) = [] := by
        rw [List.filter_cons, decide_eq_false (by omega), Bool.false_and]; rfl
      rw [e3, List.append_nil]
theorem around_of_keys (rows : List Row) {n m : Nat} (hm : m ≤ n) : ((List.range n).filter fun r => (endOf rows r).isSome).filter (fun r => decide (r < m) && inside rows m r) = around rows m := by
  rw [List.filter_filter]
  unfold around
  rw [← range_filter (inside rows m) m n hm]
  refine List.filter_congr fun r _ => ?_
  unfold inside
  cases e : endOf rows r with
  | none => simp
  | some k => simp
def insD (rows : List Row) : Dt := .lst ((List.range (rows.length + 1)).map fun m => .lst ((around rows m).map natD))
theorem insD_get {rows : List Row} {m : Nat} (h : m ≤ rows.length) : ((List.range (rows.length + 1)).map fun m => Dt.lst ((around rows m).map natD))[m]? = some (.lst ((around rows m).map natD)) := by
  rw [List.getElem?_map, List.getElem?_range (by omega)]; rfl
section
variable {P : Program} {w : World} {K : PySem.W.Frag} {mg : Str → Option Value} {base : Heap}
abbrev C_L_bodies : Ct := fun ds μ Q => ∃ rows d, ds = [d] ∧ SeqA μ d (Rows.dts rows) ∧ RowsFit rows ∧ ∀ l, μ l = none → Q (.ref l) (μ.set l (.dct ((bodP rows rows.length).map kvD)))
theorem SeqA.set {μ : Sto} {d y : Dt} {xs : List Dt} {l : Addr} (h : SeqA μ d xs) (hl : μ l = none) : SeqA (μ.set l y) d xs := by
  rcases h with h | h | ⟨c, h1, h2⟩
  · exact .inl h
  · exact .inr (.inl h)
  · exact .inr (.inr ⟨c, h1, Sto.le_set hl c _ h2⟩)
/-- enumerate of a list or a tuple -/
theorem ji_enA {X : Cx} {e : Expr} {δ : Env'} {μ : Sto} {p pos tpos : Pos} {elts : List Expr} {kk : Nat} {R : List Dt → (Sto → Prop) → Sto → Prop} {d : Dt} {ds : List Dt} (hg : Gl X "enumerate") (hm : X.mg "enumerate" = none) (hs : SeqA μ d ds)
    (h : ∀ R' : Dt → Sto → Prop, R' d μ → JE X e δ μ R') (hr : R (enD ds) (fun μ => SeqA μ d ds) μ) (hst : starEach [e] X.env = [(false, eval e X.env)] := by rfl) : JI X (.Tuple elts kk tpos) (.Call (.Name "enumerate" p) [e] [] pos) δ μ R := by
  have weak : ∀ {K : PySem.W.Frag} {G0 : Hp} {J : L2.It} {items : List Dt} {c c' : Sto → Prop}, Src K G0 J items c' → (∀ μ, c μ → c' μ) → Src K G0 J items c := fun s hc =>
    ⟨fun i G H μ d e hm h1 h2 => s.step i G H μ d e hm (hc μ h1) h2, fun G H μ e hm h1 => s.stop G H μ e hm (hc μ h1)⟩
  rcases hs with ht | ht | ⟨c, h1, h2⟩
  · exact fun σ G H RR at_ k => (ji_enT (R := fun items cond μ' => items = enD ds ∧ (∀ μ, SeqA μ d ds → cond μ) ∧ μ' = μ) hg hm (h _ ⟨ds, ht, rfl, fun _ _ => trivial, rfl⟩) hst) σ G H RR at_ fun J items cond G' H' μ' hm' fr src ⟨e1, e2, e3⟩ => by
      subst e1; subst e3
      exact k J _ _ G' H' _ hm' fr (weak src e2) hr
  · exact fun σ G H RR at_ k => (ji_enL (R := fun items cond μ' => items = enD ds ∧ (∀ μ, SeqA μ d ds → cond μ) ∧ μ' = μ) hg hm (h _ (.inl ⟨ds, ht, rfl, fun _ _ => trivial, rfl⟩)) hst) σ G H RR at_ fun J items cond G' H' μ' hm' fr src ⟨e1, e2, e3⟩ => by
      subst e1; subst e3
      exact k J _ _ G' H' _ hm' fr (weak src e2) hr
  · exact fun σ G H RR at_ k => (ji_enL (R := fun items cond μ' => items = enD ds ∧ (∀ μ, SeqA μ d ds → cond μ) ∧ μ' = μ) hg hm (h _ (.inr ⟨c, ds, h1, h2, rfl, fun μ hs => by
      rcases hs with hs | hs | ⟨c', h3, h4⟩
      · rcases hs with hs | ⟨ps, hs, _⟩ <;> rw [h1] at hs <;> cases hs
      · rw [h1] at hs; cases hs
      · rw [h1] at h3; cases h3; exact h4, rfl⟩)) hst) σ G H RR at_ fun J items cond G' H' μ' hm' fr src ⟨e1, e2, e3⟩ => by
      subst e1; subst e3
      exact k J _ _ G' H' _ hm' fr (weak src e2) hr
theorem ok_L_bodies (B : Tops w K mg) (R : Raw K mg "_law_bodies" s_L_bodies ["_law_rows"]) : Def P w K mg base 1 "_law_bodies" ["_law_rows"] C_L_bodies := by
  have nd := sc_L_bodies.nd
  refine def_mk R sc_L_bodies fun f cdv A outer s H E hr ds μ Q hl hC => ?_
  obtain ⟨rows, d, rfl, hs, hf, q⟩ := hC
  refine jss_cons ?_
  refine js_v 1 ?_
  refine je_dictM fun l hl => ?_
  refine jss_cons ?_
  refine js_forI (fun items i δ μ' => ∃ x2 x3, δ = [some d, some (.ref l), x2, x3] ∧ μ' = μ.set l (.dct ((bodP rows i).map kvD))) PassesOwn.never rfl ?_
  refine ji_enA rfl B.enumerate (hs.set hl) (fun R' q' => je_v 0 q') ?_
  refine ⟨⟨none, none, rfl, rfl⟩, fun _ _ _ ⟨_, _, _, e⟩ => by rw [e]; exact hs.set hl, fun i x hd δ μ' hI => ?_, fun δ μ' hI => ?_⟩
  · obtain ⟨x2, x3, rfl, rfl⟩ := hI
    obtain ⟨d', hd', rfl⟩ := enD_get hd
    obtain ⟨r, hr0, rfl⟩ := getR hd'
    have hi : i < rows.length := (List.getElem?_eq_some_iff.mp hr0).1
    have hno : endOf rows i = none → bodP rows (i + 1) = bodP rows i := fun e => by rw [bodP_succ, e, List.append_nil]
    refine jg_tup rfl (.inl rfl) rfl ?_
    refine jgs_cons ?_
    refine jg_v 2 ?_
    refine jgs_cons ?_
    refine jg_v 3 ?_
    refine jgs_nil ?_
    refine jss_one ?_
    refine js_if ?_
    refine jt_w ?_
    refine jw_and ?_
    refine jt_c (jc_eqS ?_)
    refine je_at ?_
    refine je_v 3 ?_
    refine je_int ?_
    refine ⟨_, _, _, .inl (.inl rfl), rfl, at0, ?_⟩
    refine je_str ?_
    refine ⟨_, _, rfl, rfl, ?_⟩
    refine ⟨_, rfl, ?_⟩
    refine ⟨fun h => ?_, fun h => ⟨fun h => (by cases h), fun _ => jss_nil ⟨_, _, rfl, ?_⟩⟩⟩
    · obtain ⟨p, k, rfl⟩ := name_rep (of_decide_eq_true h)
      have hend : endOf rows i = if decide (i < k) && isAgn rows[k]? i then some k else none := by unfold endOf; rw [hr0]
      refine jw_and ?_
      refine jt_ltlt ?_
      refine je_v 2 ?_
      refine je_at ?_
      refine je_v 3 ?_
      refine je_int ?_
      refine ⟨_, _, _, .inl (.inl rfl), rfl, at2, ?_⟩
      refine ⟨_, _, rfl, rfl, fun h1 => ?_, fun h1 => ⟨fun h => (by cases h), fun _ => ⟨fun h => (by cases h), fun _ => jss_nil ⟨_, _, rfl, ?_⟩⟩⟩⟩
      · have h1' : i < k := by have := of_decide_eq_true h1; omega
        refine je_lenB B.len ?_
        refine je_v 0 ?_
        refine ⟨_, .inr ⟨_, hs.set hl, rfl⟩, ?_⟩
        rw [dts_len]
        refine ⟨_, rfl, ?_⟩
        refine ⟨fun h2 => ?_, fun h2 => ⟨fun h => (by cases h), fun _ => jss_nil ⟨_, _, rfl, ?_⟩⟩⟩
        · have hk : k < rows.length := by have := of_decide_eq_true h2; omega
          obtain ⟨r2, hr2⟩ : ∃ r, rows[k]? = some r := ⟨_, List.getElem?_eq_getElem hk⟩
          refine jw_and1 ?_
          refine jt_c (jc_eqV hr.units ?_)
          refine je_at ?_
          refine je_v 0 ?_
          refine je_at ?_
          refine je_v 3 ?_
          refine je_int ?_
          refine ⟨_, _, _, .inl (.inl rfl), rfl, at2, ?_⟩
          refine ⟨_, _, _, hs.set hl, rfl, at_nat (dts_get hr2), ?_⟩
          refine je_tup ?_
          refine ja_cons ?_
          refine je_str ?_
          refine ja_cons ?_
          refine je_v 2 ?_
          refine ja_nil ?_
          refine ⟨by show 2 ≤ sizeLine; decide, ?_⟩
          refine ⟨_, _, ⟨.inl rfl, (hf.1 r2 (List.mem_of_getElem? hr2)).fit (by decide)⟩, ⟨.inl rfl, Fq.fit (n := 1) (fq_tup (n := 0) fun x hx => by
            simp only [List.mem_cons, List.not_mem_nil, or_false] at hx
            rcases hx with rfl | rfl
            · exact fq_str (by decide +kernel)
            · exact fq_int _) (by decide)⟩, ?_⟩
          have e2 : PyData.eqv (Row.dt r2).py (Dt.tup [.str "again", .int i]).py = isAgn (some r2) i := eqv_agn r2 i
          rw [e2]
          refine ⟨_, rfl, ?_⟩
          refine ⟨fun hT => ?_, fun hF => jss_nil ⟨_, _, rfl, ?_⟩⟩
          · have hk' : endOf rows i = some k := by rw [hend, hr2, hT, decide_eq_true h1']; rfl
            refine jss_one ?_
            refine js_dput (hu_of hr) ?_
            refine je_at ?_
            refine je_v 3 ?_
            refine je_int ?_
            refine ⟨_, _, _, .inl (.inl rfl), rfl, at2, ?_⟩
            refine je_v 1 ?_
            refine je_v 2 ?_
            refine ⟨_, _, .inl (i : Nat), rfl, rfl, Sto.set_same, ?_, ?_⟩
            · rw [List.length_map]
              have := bodP_len rows i
              have := hf.2
              show _ < 2 ^ 24
              omega
            · refine ⟨_, _, rfl, ?_⟩
              rw [Sto.set_set]
              have := bodP_put hk'
              rw [← this]; rfl
          · rw [hno (by rw [hend, hr2, hF, Bool.and_false]; rfl)]
        · have hk : rows[k]? = none := List.getElem?_eq_none (by have := of_decide_eq_false h2; omega)
          rw [hno (by rw [hend, hk]; simp [isAgn])]
      · have h1' : ¬ i < k := by have := of_decide_eq_false h1; omega
        rw [hno (by rw [hend, decide_eq_false h1', Bool.false_and]; rfl)]
    · have hn : r.name ≠ "repeat" := of_decide_eq_false h
      rw [hno (by
        unfold endOf
        rw [hr0]
        cases r with
        | rep p k => exact absurd rfl hn
        | _ => rfl)]
  · obtain ⟨x2, x3, rfl, rfl⟩ := hI
    rw [enD_len, dts_len]
    refine jss_one ?_
    refine js_ret ?_
    refine je_v 1 ?_
    exact q l hl
abbrev C_L_insides : Ct := fun ds μ Q => ∃ rows d l, ds = [d, .ref l] ∧ SeqA μ d (Rows.dts rows) ∧ rows.length ≤ 1000 ∧ μ l = some (.dct ((bodP rows rows.length).map kvD)) ∧ Q (insD rows) μ
theorem ok_L_insides (B : Tops w K mg) (R : Raw K mg "_law_insides" s_L_insides ["_law_rows", "_law_bodies_here"]) : Def P w K mg base 1 "_law_insides" ["_law_rows", "_law_bodies_here"] C_L_insides := by
  have nd := sc_L_insides.nd
  refine def_mk R sc_L_insides fun f cdv A outer s H E hr ds μ Q hl hC => ?_
  obtain ⟨rows, d, l, rfl, hs, hlen, hL, q⟩ := hC
  refine jss_one ?_
  refine js_ret ?_
  refine je_lc1 2 (blkOk_by (N := n_L_insides) (sc := defScope s_L_insides) (own := [("_law_at", 2)]) (by decide +kernel)) (by decide) ?_
  refine ji_range1 rfl B.range ?_
  refine je_add ?_
  refine je_lenB B.len ?_
  refine je_v 0 ?_
  refine ⟨_, .inr ⟨_, hs, rfl⟩, ?_⟩
  rw [dts_len]
  refine je_int ?_
  refine ⟨_, _, rfl, rfl, ?_⟩
  refine ⟨_, rfl, by omega, by omega, ?_⟩
  have et : (((rows.length : Nat) : Int) + 1).toNat = rows.length + 1 := by omega
  rw [et]
  refine lcR_pure mon_name mon_yes _ (fun x => match x with | .int i => some (.lst ((around rows i.toNat).map natD)) | _ => none) (by rw [rgD_len]; show _ ≤ 2 ^ 24; omega) trivial (fun i x hd => ?_) ?_
  · obtain ⟨hi, rfl⟩ := rgD_get hd
    rw [Int.zero_add]
    refine ⟨fun _ s' H' C' cl' fp' => ?_, fun h => (by cases h)⟩
    refine je_lc1if 3 (blkOk_by (N := n_L_insides) (own := [("_law_r", 3)]) (by rfl)) (by decide) ?_
    refine ji_lst ?_
    refine je_sortedIB B.sorted ?_
    refine je_listDB B.list ?_
    refine je_v 1 ?_
    refine ⟨l, _, rfl, hL, ?_⟩
    rw [keysD_kv]
    refine ⟨_, rfl, fun ns h1 h2 => ?_⟩
    have ens : ns = keysP (bodP rows rows.length) := sorted_eq h1 h2 (List.pairwise_map.mpr (bodP_srt rows _)) fun x hx => by
      unfold keysP at hx
      obtain ⟨t, ht, rfl⟩ := List.mem_map.mp hx
      obtain ⟨r, k, _, _, rfl⟩ := bodP_mem ht
      simp only; omega
    subst ens
    rw [bodP_keys]
    refine ⟨_, rfl, ?_⟩
    refine lcR_pure mon_name mon_one _ (fun x => match x with | .int r => if decide (r.toNat < i) && inside rows i r.toNat then some (.int r) else none | _ => none) ?_ trivial (fun j x hd s'' H'' C'' cl'' fp'' => ?_) ?_
    · rw [List.length_map, List.length_map]
      refine Nat.le_trans (List.length_filter_le _ _) ?_
      rw [List.length_range]
      show _ ≤ 2 ^ 24
      omega
    · rw [List.map_map, List.getElem?_map] at hd
      obtain ⟨r, hr1, rfl⟩ := Option.map_eq_some_iff.mp hd
      have hm := List.mem_filter.mp (List.mem_of_getElem? hr1)
      have hrl := List.mem_range.mp hm.1
      obtain ⟨k, hk⟩ := Option.isSome_iff_exists.mp hm.2
      obtain ⟨hk1, hk2⟩ := bodP_lk hrl hk
      have ei : inside rows i r = decide ((i : Int) ≤ (k : Int)) := by
        unfold inside
        rw [hk]
        exact decide_eq_decide.mpr (by omega)
      refine jt_ltle ?_
      refine je_v 3 ?_
      refine je_v 2 ?_
      refine ⟨_, _, rfl, rfl, fun h => ?_, fun h => ⟨fun h => (by cases h), fun _ => ⟨?_, rfl⟩⟩⟩
      · have hri : r < i := by
          have h' : ((r : Nat) : Int) < ((i : Nat) : Int) := of_decide_eq_true h
          omega
        refine je_dget (hu_of hr) (fun _ _ => rfl) ?_
        refine je_v 1 ?_
        refine je_v 3 ?_
        refine ⟨_, _, _, .inr ⟨_, rfl, hL⟩, .inl rfl, val_kv' _ _ hk1, ?_⟩
        rw [hk2]
        refine ⟨_, rfl, fun hT s3 H3 C3 cl3 fp3 => ?_, fun hF => ⟨?_, rfl⟩⟩
        · refine je_v 3 ?_
          refine ⟨?_, rfl⟩
          show (if decide (((r : Nat) : Int).toNat < i) && inside rows i ((r : Nat) : Int).toNat then _ else _) = _
          rw [Int.toNat_natCast, ei, hT, decide_eq_true hri]; rfl
        · show (if decide (((r : Nat) : Int).toNat < i) && inside rows i ((r : Nat) : Int).toNat then _ else _) = _
          rw [Int.toNat_natCast, ei, hF, Bool.and_false]; rfl
      · have hri : ¬ r < i := by
          have h' : ¬ ((r : Nat) : Int) < ((i : Nat) : Int) := of_decide_eq_false h
          omega
        show (if decide (((r : Nat) : Int).toNat < i) && inside rows i ((r : Nat) : Int).toNat then _ else _) = _
        rw [Int.toNat_natCast, decide_eq_false hri, Bool.false_and]; rfl
    · refine ⟨?_, rfl⟩
      show some (Dt.lst ((around rows ((i : Nat) : Int).toNat).map natD)) = some (.lst _)
      rw [Int.toNat_natCast]
      congr 2
      rw [List.map_map, List.filterMap_map]
      have hi' : i ≤ rows.length := by omega
      rw [← around_of_keys rows hi', ← filterMap_if]
      congr 1
  · have e : (rgD 0 (rows.length + 1)).filterMap (fun x => match x with | .int i => some (Dt.lst ((around rows i.toNat).map natD)) | _ => none) = (List.range (rows.length + 1)).map fun m => Dt.lst ((around rows m).map natD) := by
      unfold rgD
      rw [List.filterMap_map]
      refine filterMap_all fun m _ => ?_
      show some (Dt.lst ((around rows ((0 : Int) + (m : Nat)).toNat).map natD)) = _
      rw [Int.zero_add, Int.toNat_natCast]
    rw [e]; exact q
end
end K27
end FJ_
section FK_
/-! The walk, eleventh part: the law's own bounds. -/
namespace K27
open PySem PySem.Spec PyProof.Rows L2
section
variable {P : Program} {w : World} {K : PySem.W.Frag} {mg : Str → Option Value} {base : Heap}
theorem one_dt : Dt.tup [.tup [.int 0, .int 1]] = Pol.dt oneP := rfl
theorem wAt_take {rows : List Row} {at_ : Nat} : weightOf rows ((around rows at_).take (around rows at_).length) = wAt rows at_ := by rw [List.take_length]; rfl
theorem RW.nearM {rows : List Row} {ear : List Bd} {dW i : Nat} (h : RW rows ear dW i) {at_ : Nat} (ha : at_ < rows.length) {q : Pol} (hq : LM (dW * i) (1 + EB i) q) : Can (mulP (wAt rows at_) q) ∧ (mulP (wAt rows at_) q).length ≤ 1000 := by
  have hd := h.d1
  have hm : LM (dN dW i) (32 * (1 + EB i)) (mulP (wAt rows at_) q) := (h.w ha).mul hq (by omega) (Int.le_refl _) (by decide)
  exact ⟨hm.can, hm.lens (by omega)⟩
theorem RW.w1 {rows : List Row} {ear : List Bd} {dW i : Nat} (h : RW rows ear dW i) : LM (dW * i) (1 + EB i) oneP :=
  lm_one (Int.mul_nonneg (by omega) (by omega)) (by have := EB_nonneg i; omega)
abbrev C_L_read_off : Ct := fun ds μ Q => ∃ c dW, ds = [Code.dt c] ∧ CW c dW ∧ (∀ rows ∈ c.rts, RowsFit rows) ∧ Q (.lst ((bnds c.rts).map Bd.dt)) μ
theorem ok_L_read_off (B : Tops w K mg) (R : Raw K mg "_law_read_off" s_L_read_off ["_law_code"]) (D_L_bodies : Def P w K mg base 1 "_law_bodies" ["_law_rows"] C_L_bodies) (D_L_insides : Def P w K mg base 1 "_law_insides" ["_law_rows", "_law_bodies_here"] C_L_insides)
    (D_L_plus : Def P w K mg base 1 "_law_plus" ["_law_one", "_law_other"] C_L_plus) (D_L_times : Def P w K mg base 1 "_law_times" ["_law_one", "_law_other"] C_L_times) : Def P w K mg base 2 "_law_read_off" ["_law_code"] C_L_read_off := by
  have nd := sc_L_read_off.nd
  refine def_mk R sc_L_read_off fun f cdv A outer s H E hr ds μ Q hl hC => ?_
  obtain ⟨c, dW, rfl, hW, hf, q⟩ := hC
  refine jss_cons ?_
  refine js_v 1 ?_
  refine je_lstM ?_
  refine ja_nil ?_
  refine ⟨by show 0 ≤ sizeLine; decide, fun lf hlf => ?_⟩
  refine jss_cons ?_
  refine js_forI (fun items i δ μ' => ∃ x2 x3 x4 x5 x6 x7 x8 x9 x10 x11 x12 x13 x14 x15, δ = [some (Code.dt c), some (.ref lf), x2, x3, x4, x5, x6, x7, x8, x9, x10, x11, x12, x13, x14, x15] ∧ μ' = μ.set lf (.lst ((bnds (c.rts.take i)).map Bd.dt))) PassesOwn.never rfl ?_
  refine ji_tup ?_
  refine je_at ?_
  refine je_v 0 ?_
  refine je_int ?_
  refine ⟨_, _, _, .inl (.inl rfl), rfl, at2, ?_⟩
  refine ⟨_, .inl rfl, ?_⟩
  refine ⟨⟨none, none, none, none, none, none, none, none, none, none, none, none, none, none, rfl, rfl⟩, fun _ _ _ _ => trivial, fun i d hd δ μ' hI => ?_, fun δ μ' hI => ?_⟩
  · obtain ⟨x2, x3, x4, x5, x6, x7, x8, x9, x10, x11, x12, x13, x14, x15, rfl, rfl⟩ := hI
    rw [List.getElem?_map] at hd
    obtain ⟨rows, he, rfl⟩ := Option.map_eq_some_iff.mp hd
    have hR := hW.rw i rows he
    have hfr := hf rows (List.mem_of_getElem? he)
    generalize hear : bnds (c.rts.take i) = ear at hR
    refine jg_v 2 ?_
    refine jss_cons ?_
    refine js_asg ?_
    refine je_drop ?_
    refine je_tup ?_
    refine ja_cons ?_
    refine je_d D_L_insides (hr.mono (by decide)) ?_
    refine ja_cons ?_
    refine je_v 2 ?_
    refine ja_cons ?_
    refine je_d D_L_bodies (hr.mono (by decide)) ?_
    refine ja_cons ?_
    refine je_v 2 ?_
    refine ja_nil ?_
    refine ⟨rfl, rows, _, rfl, .inl (.inl rfl), hfr, fun l hl => ?_⟩
    refine ja_nil ?_
    refine ⟨rfl, rows, _, l, rfl, .inl (.inl rfl), hfr.2, Sto.set_same, ?_⟩
    refine ja_cons ?_
    refine je_unit ?_
    refine ja_cons ?_
    refine je_unit ?_
    refine ja_cons ?_
    refine je_int ?_
    refine ja_nil ?_
    refine ⟨by show 4 ≤ sizeLine; decide, _, Sto.le_set hl, ?_⟩
    refine jg_tup rfl (.inl rfl) rfl ?_
    refine jgs_cons ?_
    refine jg_v 3 ?_
    refine jgs_cons ?_
    refine jg_v 4 ?_
    refine jgs_cons ?_
    refine jg_v 5 ?_
    refine jgs_cons ?_
    refine jg_v 6 ?_
    refine jgs_nil ?_
    refine jss_cons ?_
    refine js_forI (fun items n δ μ' => ∃ x7 x8 x9 x10 x11 x12 x13 x14 x15, δ = [some (Code.dt c), some (.ref lf), some (.tup (Rows.dts rows)), some (insD rows), some (.pol (rbN rows ear n).clk), some (.pol (rbN rows ear n).cho), some (.int (rbN rows ear n).dep), x7, x8, x9, x10, x11, x12, x13, x14, x15] ∧
      μ' = μ.set lf (.lst (ear.map Bd.dt))) PassesOwn.never rfl ?_
    refine ji_enT rfl B.enumerate ?_
    refine je_v 2 ?_
    refine ⟨_, .inl rfl, ?_⟩
    refine ⟨⟨_, _, _, _, _, _, _, _, _, rfl, rfl⟩, fun _ _ _ _ => trivial, fun n d hd δ μ' hI => ?_, fun δ μ' hI => ?_⟩
    · obtain ⟨x7, x8, x9, x10, x11, x12, x13, x14, x15, rfl, rfl⟩ := hI
      obtain ⟨d', hd', rfl⟩ := enD_get hd
      obtain ⟨r, hr0, rfl⟩ := getR hd'
      have hn : n < rows.length := (List.getElem?_eq_some_iff.mp hr0).1
      have hwL : Lim (wAt rows n) := by rw [← wAt_take]; exact hR.wL hn _
      obtain ⟨hL1, hL2⟩ := hR.rbL (Nat.le_of_lt hn)
      obtain ⟨hs1, hs2⟩ := law_step hR hn
      refine jg_tup rfl (.inl rfl) rfl ?_
      refine jgs_cons ?_
      refine jg_v 7 ?_
      refine jgs_cons ?_
      refine jg_v 8 ?_
      refine jgs_nil ?_
      refine jss_cons ?_
      refine js_asg ?_
      refine je_tup ?_
      refine ja_cons ?_
      refine je_tup ?_
      refine ja_cons ?_
      refine je_tup ?_
      refine ja_cons ?_
      refine je_int ?_
      refine ja_cons ?_
      refine je_int ?_
      refine ja_nil ?_
      refine ⟨by show 2 ≤ sizeLine; decide, ?_⟩
      refine ja_nil ?_
      refine ⟨by show 1 ≤ sizeLine; decide, ?_⟩
      refine ja_cons ?_
      refine je_tup ?_
      refine ja_cons ?_
      refine je_tup ?_
      refine ja_cons ?_
      refine je_int ?_
      refine ja_cons ?_
      refine je_int ?_
      refine ja_nil ?_
      refine ⟨by show 2 ≤ sizeLine; decide, ?_⟩
      refine ja_nil ?_
      refine ⟨by show 1 ≤ sizeLine; decide, ?_⟩
      refine ja_nil ?_
      refine ⟨by show 2 ≤ sizeLine; decide, ?_⟩
      refine jg_tup rfl (.inl rfl) rfl ?_
      refine jgs_cons ?_
      refine jg_v 9 ?_
      refine jgs_cons ?_
      refine jg_v 10 ?_
      refine jgs_nil ?_
      refine jss_mid (fun δ μ' => ∃ wd x11 x12 x13 x14 x15, δ = [some (Code.dt c), some (.ref lf), some (.tup (Rows.dts rows)), some (insD rows), some (.pol (rbN rows ear n).clk), some (.pol (rbN rows ear n).cho), some (.int (rbN rows ear n).dep), some (natD n), some r.dt, some wd, some (Pol.dt oneP), x11, x12, x13, x14, x15] ∧
        μ' = μ.set lf (.lst (ear.map Bd.dt)) ∧ PV wd (wAt rows n)) ?_ fun δ μ' hI => ?_
      · refine js_forI (fun items j δ μ' => ∃ wd x11 x12 x13 x14 x15, δ = [some (Code.dt c), some (.ref lf), some (.tup (Rows.dts rows)), some (insD rows), some (.pol (rbN rows ear n).clk), some (.pol (rbN rows ear n).cho), some (.int (rbN rows ear n).dep), some (natD n), some r.dt, some wd, some (Pol.dt oneP), x11, x12, x13, x14, x15] ∧
          μ' = μ.set lf (.lst (ear.map Bd.dt)) ∧ PV wd (weightOf rows ((around rows n).take j))) PassesOwn.never rfl ?_
        refine ji_lst ?_
        refine je_at ?_
        refine je_v 3 ?_
        refine je_v 7 ?_
        refine ⟨_, _, _, .inr (.inl rfl), rfl, at_nat (insD_get (Nat.le_of_lt hn)), ?_⟩
        refine ⟨_, rfl, ?_⟩
        refine ⟨⟨_, _, _, _, _, _, rfl, rfl, pv_dt oneP⟩, fun _ _ _ _ => trivial, fun j d hd δ μ' hI => ?_, fun δ μ' hI => ?_⟩
        · obtain ⟨wd, x11, x12, x13, x14, x15, rfl, rfl, hwd⟩ := hI
          rw [List.getElem?_map] at hd
          obtain ⟨r', hr', rfl⟩ := Option.map_eq_some_iff.mp hd
          obtain ⟨p, k, h1, h2, h3⟩ := hR.arep n r' (List.mem_of_getElem? hr')
          refine jg_v 11 ?_
          refine jss_one ?_
          refine js_v 9 ?_
          refine je_d D_L_times (hr.mono (by decide)) ?_
          refine ja_cons ?_
          refine je_v 9 ?_
          refine ja_cons ?_
          refine je_at ?_
          refine je_at ?_
          refine je_v 2 ?_
          refine je_v 11 ?_
          refine ⟨_, _, _, .inl (.inl rfl), rfl, at_nat (dts_get h1), ?_⟩
          refine je_int ?_
          refine ⟨_, _, _, .inl (.inl rfl), rfl, at1, ?_⟩
          refine ja_nil ?_
          refine ⟨rfl, _, _, _, _, rfl, hwd, pv_dt p, hR.wL hn j, h2, h3, ?_⟩
          refine ⟨_, some (natD r'), x12, x13, x14, x15, rfl, rfl, ?_⟩
          rw [take_succ' hr', weight_succ, polAt_of h1]
          exact pv_pol _
        · obtain ⟨wd, x11, x12, x13, x14, x15, rfl, rfl, hwd⟩ := hI
          rw [List.length_map, wAt_take] at hwd
          exact ⟨_, _, _, _, _, _, rfl, rfl, hwd⟩
      obtain ⟨wd, x11, x12, x13, x14, x15, rfl, rfl, hwd⟩ := hI
      refine jss_cons ?_
      refine js_v 12 ?_
      refine je_lenB B.len ?_
      refine je_at ?_
      refine je_v 3 ?_
      refine je_v 7 ?_
      refine ⟨_, _, _, .inr (.inl rfl), rfl, at_nat (insD_get (Nat.le_of_lt hn)), ?_⟩
      refine ⟨_, .inr ⟨_, .inr (.inl rfl), rfl⟩, ?_⟩
      rw [List.length_map]
      refine jss_mid (fun δ μ' => ∃ x11 x13 x14 x15 nd0, ∃ np ch : Pol, ∃ inn : Int, δ = [some (Code.dt c), some (.ref lf), some (.tup (Rows.dts rows)), some (insD rows), some (.pol (rbN rows ear n).clk), some (.pol ch), some (.int (rbN rows ear n).dep), some (natD n), some r.dt, some wd, some nd0, x11, some (.int inn), x13, x14, x15] ∧
        μ' = μ.set lf (.lst (ear.map Bd.dt)) ∧ PV nd0 np ∧ LM (dW * i) (1 + EB i) np ∧ stepB rows ear (rbN rows ear n) n = ⟨addP (rbN rows ear n).clk (mulP (wAt rows n) np), ch, mx (rbN rows ear n).dep inn⟩) ?_ fun δ μ' hI => ?_
      · refine js_if ?_
        refine jt_c (jc_eqS ?_)
        refine je_at ?_
        refine je_v 8 ?_
        refine je_int ?_
        refine ⟨_, _, _, .inl (.inl rfl), rfl, at0, ?_⟩
        refine je_str ?_
        refine ⟨_, _, rfl, rfl, ?_⟩
        refine ⟨_, rfl, ?_⟩
        refine ⟨fun hT => ?_, fun hF => ?_⟩
        · obtain ⟨k, rfl⟩ := name_cal (of_decide_eq_true hT)
          obtain ⟨he1, he2⟩ := hR.earI hr0
          obtain ⟨hE1, hE2⟩ := hR.earL he2
          obtain ⟨hC1, hC2⟩ := hR.callL hn he2
          refine jss_cons ?_
          refine js_asg ?_
          refine je_at ?_
          refine je_v 1 ?_
          refine je_at ?_
          refine je_v 8 ?_
          refine je_int ?_
          refine ⟨_, _, _, .inl (.inl rfl), rfl, at1, ?_⟩
          refine ⟨_, _, _, .inr (.inr ⟨_, rfl, Sto.set_same⟩), rfl, at_nat (bd_get he1), ?_⟩
          refine jg_tup rfl (.inl rfl) rfl ?_
          refine jgs_cons ?_
          refine jg_v 13 ?_
          refine jgs_cons ?_
          refine jg_v 14 ?_
          refine jgs_cons ?_
          refine jg_v 15 ?_
          refine jgs_nil ?_
          refine jss_one ?_
          refine js_par3 10 5 12 rfl nd rfl rfl rfl (by decide) (by decide) (by decide) rfl rfl rfl ?_ rfl
          refine ja_cons ?_
          refine je_d D_L_plus (hr.mono (by decide)) ?_
          refine ja_cons ?_
          refine je_v 10 ?_
          refine ja_cons ?_
          refine je_v 13 ?_
          refine ja_nil ?_
          refine ⟨rfl, _, _, oneP, _, rfl, pv_dt oneP, pv_pol _, can_one, by decide, hE1.can, hE1.len, ?_⟩
          refine ja_cons ?_
          refine je_d D_L_plus (hr.mono (by decide)) ?_
          refine ja_cons ?_
          refine je_v 5 ?_
          refine ja_cons ?_
          refine je_d D_L_times (hr.mono (by decide)) ?_
          refine ja_cons ?_
          refine je_v 9 ?_
          refine ja_cons ?_
          refine je_v 14 ?_
          refine ja_nil ?_
          refine ⟨rfl, _, _, _, _, rfl, hwd, pv_pol _, hwL, hE2.can, hE2.len, ?_⟩
          refine ja_nil ?_
          refine ⟨rfl, _, _, _, _, rfl, pv_pol _, pv_pol _, hL2.can, hL2.len, hC2.can, hC2.len, ?_⟩
          refine ja_cons ?_
          refine je_add ?_
          refine je_add ?_
          refine je_v 12 ?_
          refine je_int ?_
          refine ⟨_, _, rfl, rfl, ?_⟩
          refine je_v 15 ?_
          refine ⟨_, _, rfl, rfl, ?_⟩
          refine ja_nil ?_
          refine ⟨_, _, _, rfl, ?_⟩
          refine ⟨_, _, _, _, _, _, _, _, rfl, rfl, pv_pol _, hR.nearL he2, ?_⟩
          rw [hs2 _ he2]
          unfold stepB
          rw [hr0]; rfl
        · refine jss_one ?_
          refine js_if ?_
          refine jt_c (jc_eqS ?_)
          refine je_at ?_
          refine je_v 8 ?_
          refine je_int ?_
          refine ⟨_, _, _, .inl (.inl rfl), rfl, at0, ?_⟩
          refine je_str ?_
          refine ⟨_, _, rfl, rfl, ?_⟩
          refine ⟨_, rfl, ?_⟩
          refine ⟨fun hT => ?_, fun hF2 => ?_⟩
          · obtain ⟨pl, t, i', x, rfl⟩ := name_cho (of_decide_eq_true hT)
            refine jss_one ?_
            refine js_v 5 ?_
            refine je_d D_L_plus (hr.mono (by decide)) ?_
            refine ja_cons ?_
            refine je_v 5 ?_
            refine ja_cons ?_
            refine je_v 9 ?_
            refine ja_nil ?_
            refine ⟨rfl, _, _, _, _, rfl, pv_pol _, hwd, hL2.can, hL2.len, hwL.can, hwL.len, ?_⟩
            refine ⟨_, _, _, _, _, _, _, _, rfl, rfl, pv_dt oneP, hR.w1, ?_⟩
            rw [hs1]
            unfold stepB
            rw [hr0]; rfl
          · refine jss_nil ?_
            refine ⟨_, _, _, _, _, _, _, _, rfl, rfl, pv_dt oneP, hR.w1, ?_⟩
            rw [hs1]
            unfold stepB
            rw [hr0]
            cases r with
            | cho pl t i' x => exact absurd rfl (of_decide_eq_false hF2)
            | cal k => exact absurd rfl (of_decide_eq_false hF)
            | _ => rfl
      obtain ⟨x11, x13, x14, x15, nd0, np, ch, inn, rfl, rfl, hnd, hnp, hst⟩ := hI
      obtain ⟨hm1, hm2⟩ := hR.nearM hn hnp
      have hd1 := hR.d1
      refine jss_one ?_
      refine js_par 4 6 rfl nd rfl rfl (by decide) rfl rfl ?_ rfl
      refine ja_cons ?_
      refine je_d D_L_plus (hr.mono (by decide)) ?_
      refine ja_cons ?_
      refine je_v 4 ?_
      refine ja_cons ?_
      refine je_d D_L_times (hr.mono (by decide)) ?_
      refine ja_cons ?_
      refine je_v 9 ?_
      refine ja_cons ?_
      refine je_v 10 ?_
      refine ja_nil ?_
      refine ⟨rfl, _, _, _, _, rfl, hwd, hnd, hwL, hnp.can, hnp.lens (by omega), ?_⟩
      refine ja_nil ?_
      refine ⟨rfl, _, _, _, _, rfl, pv_pol _, pv_pol _, hL1.can, hL1.len, hm1, hm2, ?_⟩
      refine ja_cons ?_
      refine je_maxB B.max ?_
      refine ja_cons ?_
      refine je_v 6 ?_
      refine ja_cons ?_
      refine je_v 12 ?_
      refine ja_nil ?_
      refine ⟨_, _, rfl, ?_⟩
      refine ja_nil ?_
      refine ⟨_, _, rfl, ?_⟩
      have e : rbN rows ear (n + 1) = ⟨addP (rbN rows ear n).clk (mulP (wAt rows n) np), ch, mx (rbN rows ear n).dep inn⟩ := hst
      refine ⟨some (natD n), some r.dt, some wd, some nd0, x11, some (.int inn), x13, x14, x15, ?_, rfl⟩
      rw [e]
      rfl
    · obtain ⟨x7, x8, x9, x10, x11, x12, x13, x14, x15, rfl, rfl⟩ := hI
      rw [enD_len, dts_len]
      refine jss_one ?_
      refine js_expr ?_
      refine je_append ?_
      refine je_v 1 ?_
      refine ⟨_, rfl, ⟨_, Sto.set_same⟩, ?_⟩
      refine je_tup ?_
      refine ja_cons ?_
      refine je_v 4 ?_
      refine ja_cons ?_
      refine je_v 5 ?_
      refine ja_cons ?_
      refine je_v 6 ?_
      refine ja_nil ?_
      refine ⟨by show 3 ≤ sizeLine; decide, ?_⟩
      refine ⟨_, Sto.set_same, ?_, ?_⟩
      · rw [← hear, List.length_map, bnds_len]
        have := hW.rl
        have := List.length_take_le' i c.rts
        show _ < 2 ^ 24
        omega
      · refine ⟨_, _, _, _, _, _, _, _, _, _, _, _, _, _, rfl, ?_⟩
        rw [Sto.set_set, bnds_take he, List.map_append, hear]; rfl
  · obtain ⟨x2, x3, x4, x5, x6, x7, x8, x9, x10, x11, x12, x13, x14, x15, rfl, rfl⟩ := hI
    rw [List.length_map, List.take_length]
    refine jss_one ?_
    refine js_ret ?_
    refine je_pub ?_
    refine je_v 1 ?_
    refine ⟨_, _, rfl, Sto.set_same, ?_⟩
    rw [Sto.del_set hlf]
    exact q
theorem fq_code {c : Code} (h : ∀ rows ∈ c.rts, RowsFit rows) : Fq 10 (.tup (c.rts.map fun r => .tup (Rows.dts r))) := fq_tup (n := 9) fun x hx => by
  obtain ⟨rows, hr, rfl⟩ := List.mem_map.mp hx
  refine fq_tup (n := 8) fun y hy => ?_
  unfold Rows.dts at hy
  obtain ⟨r, hr', rfl⟩ := List.mem_map.mp hy
  exact (h rows hr).1 r hr'
abbrev C_L_bounds : Ct := fun ds μ Q => ∃ c dW, ds = [Code.dt c] ∧ CW c dW ∧ dW ≤ 5 ∧ (∀ rows ∈ c.rts, RowsFit rows) ∧ Q (.tup [.pol (mainB c).clk, .pol (mainB c).cho, .pol (cellsP c), .int (mainB c).dep]) μ
theorem ok_L_bounds (B : Tops w K mg) (R : Raw K mg "_law_bounds" s_L_bounds ["_law_code"]) (D_L_read_off : Def P w K mg base 2 "_law_read_off" ["_law_code"] C_L_read_off) (D_L_plus : Def P w K mg base 1 "_law_plus" ["_law_one", "_law_other"] C_L_plus)
    (D_L_constant : Def P w K mg base 1 "_law_constant" ["_law_many"] C_L_constant) : Def P w K mg base 3 "_law_bounds" ["_law_code"] C_L_bounds := by
  have nd := sc_L_bounds.nd
  refine def_mk R sc_L_bounds fun f cdv A outer s H E hr ds μ Q hl hC => ?_
  obtain ⟨c, dW, rfl, hW, hdW, hf, q⟩ := hC
  refine jss_mid (fun δ μ' => ∃ x4 x5, δ = [some (Code.dt c), some (.pol (mainB c).clk), some (.pol (mainB c).cho), some (.int (mainB c).dep), x4, x5] ∧ μ' = μ) ?_ fun δ μ' hI => ?_
  · refine js_asg ?_
    refine JE.imp (Q := fun d μ' => d = Bd.dt (mainB c) ∧ μ' = μ) ?_ fun d μ' ⟨e1, e2⟩ => ?_
    · refine je_ifexp ?_
      refine jt_c (jc_neV hr.units ?_)
      refine je_at ?_
      refine je_v 0 ?_
      refine je_int ?_
      refine ⟨_, _, _, .inl (.inl rfl), rfl, at2, ?_⟩
      refine je_unit ?_
      refine ⟨_, _, ⟨.inl rfl, (fq_code hf).fit (by decide)⟩, ⟨.inl rfl, (fq_pol []).fit (by decide)⟩, ?_⟩
      refine ⟨_, rfl, ?_⟩
      rcases List.eq_nil_or_concat (bnds c.rts) with e | ⟨l0, b, e⟩
      · have e0 : c.rts = [] := by
          have := bnds_len c.rts
          rw [e] at this
          exact List.length_eq_zero_iff.mp this.symm
        have em : mainB c = Bd.zero := by unfold mainB; rw [e]; rfl
        rw [em]
        refine ⟨fun hT => (by rw [e0, List.map_nil, eq_unit] at hT; cases hT), fun hF => ?_⟩
        refine je_tup ?_
        refine ja_cons ?_
        refine je_unit ?_
        refine ja_cons ?_
        refine je_unit ?_
        refine ja_cons ?_
        refine je_int ?_
        refine ja_nil ?_
        exact ⟨by show 3 ≤ sizeLine; decide, rfl, rfl⟩
      · have em : mainB c = b := by unfold mainB; rw [e, List.concat_eq_append, List.getLast?_append]; rfl
        rw [em]
        refine ⟨fun hT => ?_, fun hF => ?_⟩
        · refine je_at ?_
          refine je_d D_L_read_off (hr.mono (by decide)) ?_
          refine ja_cons ?_
          refine je_v 0 ?_
          refine ja_nil ?_
          refine ⟨rfl, c, dW, rfl, hW, hf, ?_⟩
          refine je_neg ?_
          refine je_int ?_
          refine ⟨_, rfl, ?_⟩
          rw [e, List.concat_eq_append, List.map_append]
          exact ⟨_, _, _, .inr (.inl rfl), rfl, at_last _ _, rfl, rfl⟩
        · exfalso
          have e0 : c.rts ≠ [] := fun e0 => by
            rw [e0] at e
            have e : ([] : List Bd) = l0.concat b := e
            rw [List.concat_eq_append] at e
            exact absurd e (by simp)
          cases hc : c.rts with
          | nil => exact e0 hc
          | cons a l => rw [hc, List.map_cons, ne_unit] at hF; cases hF
    subst e1; subst e2
    refine jg_tup rfl (.inl rfl) rfl ?_
    refine jgs_cons ?_
    refine jg_v 1 ?_
    refine jgs_cons ?_
    refine jg_v 2 ?_
    refine jgs_cons ?_
    refine jg_v 3 ?_
    refine jgs_nil ?_
    exact ⟨_, _, rfl, rfl⟩
  obtain ⟨x4, x5, rfl, rfl⟩ := hI
  have hm := hW.main.2.1
  have hcL := hW.constL
  refine jss_cons ?_
  refine js_v 4 ?_
  refine je_d D_L_plus (hr.mono (by decide)) ?_
  refine ja_cons ?_
  refine je_d D_L_constant (hr.mono (by decide)) ?_
  refine ja_cons ?_
  refine je_add ?_
  refine je_lenB B.len ?_
  refine je_at ?_
  refine je_v 0 ?_
  refine je_int ?_
  refine ⟨_, _, _, .inl (.inl rfl), rfl, at1, ?_⟩
  refine ⟨_, .inr ⟨_, .inl (.inl rfl), rfl⟩, ?_⟩
  rw [List.length_map]
  refine je_v 3 ?_
  refine ⟨_, _, rfl, rfl, ?_⟩
  refine ja_nil ?_
  refine ⟨rfl, _, rfl, hW.const, ?_⟩
  refine ja_cons ?_
  refine je_v 2 ?_
  refine ja_nil ?_
  refine ⟨rfl, _, _, _, _, rfl, pv_dt _, pv_pol _, hcL.can, hcL.lens (by decide), hm.can, hm.lens (by omega), ?_⟩
  refine jss_cons ?_
  refine js_forI (fun items i δ μ'' => ∃ x5, δ = [some (Code.dt c), some (.pol (mainB c).clk), some (.pol (mainB c).cho), some (.int (mainB c).dep), some (.pol (cellsN c i)), x5] ∧ μ'' = μ') PassesOwn.never rfl ?_
  refine ji_tup ?_
  refine je_at ?_
  refine je_v 0 ?_
  refine je_int ?_
  refine ⟨_, _, _, .inl (.inl rfl), rfl, at0, ?_⟩
  refine ⟨_, .inl rfl, ?_⟩
  refine ⟨⟨_, rfl, rfl⟩, fun _ _ _ _ => trivial, fun i d hd δ μ'' hI => ?_, fun δ μ'' hI => ?_⟩
  · obtain ⟨x5, rfl, rfl⟩ := hI
    rw [List.getElem?_map] at hd
    obtain ⟨p, hp, rfl⟩ := Option.map_eq_some_iff.mp hd
    have hpl := hW.tp p (List.mem_of_getElem? hp)
    have hcl := hW.cellsL hdW (Nat.le_of_lt (List.getElem?_eq_some_iff.mp hp).1)
    refine jg_v 5 ?_
    refine jss_one ?_
    refine js_v 4 ?_
    refine je_d D_L_plus (hr.mono (by decide)) ?_
    refine ja_cons ?_
    refine je_v 4 ?_
    refine ja_cons ?_
    refine je_v 5 ?_
    refine ja_nil ?_
    refine ⟨rfl, _, _, _, p, rfl, pv_pol _, pv_dt p, hcl.can, hcl.len, hpl.can, hpl.lens (by decide), ?_⟩
    refine ⟨some (Pol.dt p), ?_, rfl⟩
    rw [cellsN_succ hp]; rfl
  · obtain ⟨x5, rfl, rfl⟩ := hI
    rw [List.length_map]
    have e : cellsN c c.tapes.length = cellsP c := by unfold cellsN cellsP; rw [List.take_length]
    rw [e]
    refine jss_one ?_
    refine js_ret ?_
    refine je_tup ?_
    refine ja_cons ?_
    refine je_v 1 ?_
    refine ja_cons ?_
    refine je_v 2 ?_
    refine ja_cons ?_
    refine je_v 4 ?_
    refine ja_cons ?_
    refine je_v 3 ?_
    refine ja_nil ?_
    exact ⟨by show 4 ≤ sizeLine; decide, q⟩
end
end K27
end FK_
section FL_
/-! The walk, twelfth part: the law's sums of steps and choices. -/
namespace K27
open PySem PySem.Spec PyProof.Rows L2
def valB (stp : Bool) (b : Bd) (n : Int) : Int := if stp then val b.clk n else val b.cho n
def isCho : Option Row → Bool
  | some (.cho ..) => true
  | _ => false
def baseV (stp : Bool) (rows : List Row) (ear : List Bd) (n : Int) (at_ : Nat) : Int :=
  (if stp || isCho rows[at_]? then 1 else 0) + (match rows[at_]? with | some (.cal r) => valB stp (earAt ear r) n | _ => 0)
theorem valB_step {rows : List Row} {ear : List Bd} {dW i : Nat} (h : RW rows ear dW i) {at_ : Nat} (ha : at_ < rows.length) (stp : Bool) (n : Int) :
    valB stp (stepB rows ear (rbN rows ear at_) at_) n = valB stp (rbN rows ear at_) n + baseV stp rows ear n at_ * val (wAt rows at_) n := by
  have hw := (h.w ha).can
  obtain ⟨h1, h2, _⟩ := h.rb (Nat.le_of_lt ha)
  unfold stepB baseV
  split
  · next pl t j x e =>
    rw [e]
    cases stp
    · simp only [valB, isCho, Bool.false_or, if_true, Int.add_zero, Int.one_mul]
      exact val_addP _ _ _
    · simp only [valB, isCho, Bool.true_or, if_true, Int.add_zero, Int.one_mul]
      exact val_addP _ _ _
  · next r e =>
    rw [e]
    obtain ⟨_, hm⟩ := h.earI e
    obtain ⟨e1, e2, _⟩ := h.eb _ hm
    cases stp
    · simp only [valB, isCho, Bool.false_or, Bool.false_eq_true, if_false, Int.zero_add]
      rw [val_addP, val_mulP hw e2.can, Int.mul_comm]
    · simp only [valB, isCho, Bool.true_or, if_true]
      rw [val_addP, val_addP, val_mulP hw e1.can, Int.add_mul, Int.one_mul, Int.mul_comm (val (earAt ear r).clk n)]
      omega
  · next h3 h4 =>
    have ec : isCho rows[at_]? = false := by
      unfold isCho
      split
      · next pl t j x e => exact absurd e (h3 pl t j x)
      · rfl
    have em : (match rows[at_]? with | some (.cal r) => valB stp (earAt ear r) n | _ => 0) = 0 := by
      split
      · next r e => exact absurd e (h4 r)
      · rfl
    rw [ec, em]
    cases stp
    · simp [valB]
    · simp only [valB, Bool.true_or, if_true, Int.add_zero, Int.one_mul]
      exact val_addP _ _ _
theorem S_le {p : Pol} {f g : Int → Int} (hp : ∀ t ∈ p, 0 ≤ t.2 ∧ f t.1 ≤ g t.1) : S p f ≤ S p g := by
  induction p with
  | nil => exact Int.le_refl _
  | cons t p ih =>
    rw [S_cons, S_cons]
    have h1 := hp t List.mem_cons_self
    have h2 := ih fun u hu => hp u (List.mem_cons_of_mem _ hu)
    have := Int.mul_le_mul_of_nonneg_left h1.2 h1.1
    omega
theorem pow_le16 {n : Nat} (hn : n ≤ 4) {e : Int} (he : e ≤ 2) : 0 ≤ (n : Int) ^ e.toNat ∧ (n : Int) ^ e.toNat ≤ 16 := by
  have h1 : n ^ e.toNat ≤ 4 ^ 2 := Nat.le_trans (Nat.pow_le_pow_left hn _) (Nat.pow_le_pow_right (by decide) (by omega))
  have h2 : ((n : Int) ^ e.toNat) = ((n ^ e.toNat : Nat) : Int) := by rw [Int.natCast_pow]
  rw [h2]
  have h3 : (4 : Nat) ^ 2 = 16 := by decide
  omega
theorem val_small {p : Pol} (h : LM 2 3 p) {n : Nat} (hn : n ≤ 4) : -(2 ^ 64) < val p n ∧ val p n < 2 ^ 64 := by
  have h1 : val p n ≤ S p fun _ => 16 * 1 := S_le fun t ht => ⟨by have := h.can.cf t ht; omega, (pow_le16 hn (h.deg t ht)).2⟩
  have h2 : (S p fun _ => 0 * 1) ≤ val p n := S_le fun t ht => ⟨by have := h.can.cf t ht; omega, (pow_le16 hn (h.deg t ht)).1⟩
  rw [S_smul] at h1 h2
  have h3 := h.e1
  unfold E1 at h3
  omega
theorem val_w_succ {rows : List Row} {ear : List Bd} {dW i : Nat} (h : RW rows ear dW i) {at_ : Nat} (ha : at_ < rows.length) {j r k : Nat} {p : Pol} (hr : (around rows at_)[j]? = some r) (hp : rows[r]? = some (.rep p k)) (n : Int) :
    val (weightOf rows ((around rows at_).take (j + 1))) n = val (weightOf rows ((around rows at_).take j)) n * val p n := by
  rw [take_succ' hr, weight_succ, polAt_of hp, val_mulP (h.wt at_ ha j).can (h.pol r p k hp).can]
section
variable {P : Program} {w : World} {K : PySem.W.Frag} {mg : Str → Option Value} {base : Heap}
abbrev C_L_summed : Ct := fun ds μ Q => ∃ c dW, ∃ n : Nat, ∃ kind stp, ds = [Code.dt c, .int n, .str kind] ∧ n ≤ 4 ∧ ((kind = "steps" ∧ stp = true) ∨ (kind = "choices" ∧ stp = false)) ∧ CW c dW ∧ (∀ rows ∈ c.rts, RowsFit rows) ∧ Q (.int (valB stp (mainB c) n)) μ
theorem ok_L_summed (B : Tops w K mg) (R : Raw K mg "_law_summed" s_L_summed ["_law_code", "_law_n", "_law_kind"]) (D_L_bodies : Def P w K mg base 1 "_law_bodies" ["_law_rows"] C_L_bodies) (D_L_insides : Def P w K mg base 1 "_law_insides" ["_law_rows", "_law_bodies_here"] C_L_insides)
    (D_L_value : Def P w K mg base 1 "_law_value" ["_law_poly", "_law_n"] C_L_value) : Def P w K mg base 2 "_law_summed" ["_law_code", "_law_n", "_law_kind"] C_L_summed := by
  have nd := sc_L_summed.nd
  refine def_mk R sc_L_summed fun f cdv A outer s H E hr ds μ Q hl hC => ?_
  obtain ⟨c, dW, n0, kind, stp, rfl, hn0, hks, hW, hf, q⟩ := hC
  have hks1 : decide (kind = "steps") = stp := by
    rcases hks with ⟨rfl, rfl⟩ | ⟨rfl, rfl⟩ <;> decide
  refine jss_cons ?_
  refine js_v 3 ?_
  refine je_lstM ?_
  refine ja_cons ?_
  refine je_int ?_
  refine ja_nil ?_
  refine ⟨by show 1 ≤ sizeLine; decide, fun lf hlf => ?_⟩
  refine jss_cons ?_
  refine js_forI (fun items i δ μ' => ∃ x4 x5 x6 x7 x8 x9 x10, δ = [some (Code.dt c), some (.int n0), some (.str kind), some (.ref lf), x4, x5, x6, x7, x8, x9, x10] ∧
    μ' = μ.set lf (.lst (.int 0 :: (bnds (c.rts.take i)).map fun b => .int (valB stp b n0)))) PassesOwn.never rfl ?_
  refine ji_tup ?_
  refine je_at ?_
  refine je_v 0 ?_
  refine je_int ?_
  refine ⟨_, _, _, .inl (.inl rfl), rfl, at2, ?_⟩
  refine ⟨_, .inl rfl, ?_⟩
  refine ⟨⟨none, none, none, none, none, none, none, rfl, rfl⟩, fun _ _ _ _ => trivial, fun i d hd δ μ' hI => ?_, fun δ μ' hI => ?_⟩
  · obtain ⟨x4, x5, x6, x7, x8, x9, x10, rfl, rfl⟩ := hI
    rw [List.getElem?_map] at hd
    obtain ⟨rows, he, rfl⟩ := Option.map_eq_some_iff.mp hd
    have hR := hW.rw i rows he
    have hfr := hf rows (List.mem_of_getElem? he)
    generalize hear : bnds (c.rts.take i) = ear at hR
    refine jg_v 4 ?_
    refine jss_mid (fun δ μ' => ∃ x7 x8 x9 x10, δ = [some (Code.dt c), some (.int n0), some (.str kind), some (.ref lf), some (.tup (Rows.dts rows)), some (insD rows), some (.int 0), x7, x8, x9, x10] ∧
      μ' = μ.set lf (.lst (.int 0 :: ear.map fun b => .int (valB stp b n0)))) ?_ fun δ μ' hI => ?_
    · refine js_par 5 6 rfl nd rfl rfl (by decide) rfl rfl ?_ rfl
      refine ja_cons ?_
      refine je_drop ?_
      refine je_d D_L_insides (hr.mono (by decide)) ?_
      refine ja_cons ?_
      refine je_v 4 ?_
      refine ja_cons ?_
      refine je_d D_L_bodies (hr.mono (by decide)) ?_
      refine ja_cons ?_
      refine je_v 4 ?_
      refine ja_nil ?_
      refine ⟨rfl, rows, _, rfl, .inl (.inl rfl), hfr, fun l hl => ?_⟩
      refine ja_nil ?_
      refine ⟨rfl, rows, _, l, rfl, .inl (.inl rfl), hfr.2, Sto.set_same, ?_⟩
      refine ⟨_, Sto.le_set hl, ?_⟩
      refine ja_cons ?_
      refine je_int ?_
      refine ja_nil ?_
      refine ⟨_, _, rfl, ?_⟩
      exact ⟨_, _, _, _, rfl, rfl⟩
    obtain ⟨x7, x8, x9, x10, rfl, rfl⟩ := hI
    refine jss_cons ?_
    refine js_forI (fun items n δ μ' => ∃ x7 x8 x9 x10, δ = [some (Code.dt c), some (.int n0), some (.str kind), some (.ref lf), some (.tup (Rows.dts rows)), some (insD rows), some (.int (valB stp (rbN rows ear n) n0)), x7, x8, x9, x10] ∧
      μ' = μ.set lf (.lst (.int 0 :: ear.map fun b => .int (valB stp b n0)))) PassesOwn.never rfl ?_
    refine ji_enT rfl B.enumerate ?_
    refine je_v 4 ?_
    refine ⟨_, .inl rfl, ?_⟩
    have e0 : valB stp (rbN rows ear 0) n0 = 0 := by cases stp <;> rfl
    refine ⟨⟨_, _, _, _, by rw [e0], rfl⟩, fun _ _ _ _ => trivial, fun n d hd δ μ' hI => ?_, fun δ μ' hI => ?_⟩
    · obtain ⟨x7, x8, x9, x10, rfl, rfl⟩ := hI
      obtain ⟨d', hd', rfl⟩ := enD_get hd
      obtain ⟨r, hr0, rfl⟩ := getR hd'
      have hn : n < rows.length := (List.getElem?_eq_some_iff.mp hr0).1
      refine jg_tup rfl (.inl rfl) rfl ?_
      refine jgs_cons ?_
      refine jg_v 7 ?_
      refine jgs_cons ?_
      refine jg_v 8 ?_
      refine jgs_nil ?_
      refine jss_mid (fun δ μ' => ∃ x10, δ = [some (Code.dt c), some (.int n0), some (.str kind), some (.ref lf), some (.tup (Rows.dts rows)), some (insD rows), some (.int (valB stp (rbN rows ear n) n0)), some (natD n), some r.dt, some (.int (if stp || isCho rows[n]? then 1 else 0)), x10] ∧
        μ' = μ.set lf (.lst (.int 0 :: ear.map fun b => .int (valB stp b n0)))) ?_ fun δ μ' hI => ?_
      · refine js_v 9 ?_
        refine je_ifexp ?_
        refine jt_w ?_
        refine jw_or ?_
        refine jt_c (jc_eqS ?_)
        refine je_v 2 ?_
        refine je_str ?_
        refine ⟨_, _, rfl, rfl, ?_⟩
        refine ⟨_, rfl, ?_⟩
        refine ⟨fun h => ⟨fun _ => ?_, fun h => (by cases h)⟩, fun h => ?_⟩
        · refine je_int ?_
          rw [hks1] at h
          rw [h]
          exact ⟨_, rfl, rfl⟩
        · rw [hks1] at h
          rw [h]
          refine jw_or1 ?_
          refine jt_c (jc_eqS ?_)
          refine je_at ?_
          refine je_v 8 ?_
          refine je_int ?_
          refine ⟨_, _, _, .inl (.inl rfl), rfl, at0, ?_⟩
          refine je_str ?_
          refine ⟨_, _, rfl, rfl, ?_⟩
          refine ⟨_, rfl, ?_⟩
          refine ⟨fun hT => ?_, fun hF => ?_⟩
          · obtain ⟨pl, t, i', x, rfl⟩ := name_cho (of_decide_eq_true hT)
            refine je_int ?_
            rw [hr0]
            exact ⟨_, rfl, rfl⟩
          · have ec : isCho rows[n]? = false := by
              rw [hr0]
              cases r with
              | cho pl t i' x => exact absurd rfl (of_decide_eq_false hF)
              | _ => rfl
            refine je_int ?_
            rw [ec]
            exact ⟨_, rfl, rfl⟩
      obtain ⟨x10, rfl, rfl⟩ := hI
      refine jss_mid (fun δ μ' => ∃ x10, δ = [some (Code.dt c), some (.int n0), some (.str kind), some (.ref lf), some (.tup (Rows.dts rows)), some (insD rows), some (.int (valB stp (rbN rows ear n) n0)), some (natD n), some r.dt, some (.int (baseV stp rows ear n0 n)), x10] ∧
        μ' = μ.set lf (.lst (.int 0 :: ear.map fun b => .int (valB stp b n0)))) ?_ fun δ μ' hI => ?_
      · refine js_if ?_
        refine jt_c (jc_eqS ?_)
        refine je_at ?_
        refine je_v 8 ?_
        refine je_int ?_
        refine ⟨_, _, _, .inl (.inl rfl), rfl, at0, ?_⟩
        refine je_str ?_
        refine ⟨_, _, rfl, rfl, ?_⟩
        refine ⟨_, rfl, ?_⟩
        refine ⟨fun hT => ?_, fun hF => ?_⟩
        · obtain ⟨k, rfl⟩ := name_cal (of_decide_eq_true hT)
          obtain ⟨he1, he2⟩ := hR.earI hr0
          refine jss_one ?_
          refine js_v 9 ?_
          refine je_add ?_
          refine je_v 9 ?_
          refine je_at ?_
          refine je_v 3 ?_
          refine je_add ?_
          refine je_int ?_
          refine je_at ?_
          refine je_v 8 ?_
          refine je_int ?_
          refine ⟨_, _, _, .inl (.inl rfl), rfl, at1, ?_⟩
          refine ⟨_, _, rfl, rfl, ?_⟩
          have ei : (1 : Int) + (k : Nat) = ((k + 1 : Nat) : Int) := by omega
          rw [ei]
          refine ⟨_, _, _, .inr (.inr ⟨_, rfl, Sto.set_same⟩), rfl, at_nat (x := .int (valB stp (earAt ear k) n0)) (by rw [List.getElem?_cons_succ, List.getElem?_map, he1]; rfl), ?_⟩
          refine ⟨_, _, rfl, rfl, ?_⟩
          refine ⟨x10, ?_, rfl⟩
          unfold baseV
          rw [hr0]; rfl
        · refine jss_nil ?_
          refine ⟨x10, ?_, rfl⟩
          unfold baseV
          rw [hr0]
          cases r with
          | cal k => exact absurd rfl (of_decide_eq_false hF)
          | _ => simp only [Int.add_zero]
      obtain ⟨x10, rfl, rfl⟩ := hI
      refine jss_mid (fun δ μ' => ∃ x10, δ = [some (Code.dt c), some (.int n0), some (.str kind), some (.ref lf), some (.tup (Rows.dts rows)), some (insD rows), some (.int (valB stp (rbN rows ear n) n0)), some (natD n), some r.dt, some (.int (baseV stp rows ear n0 n * val (wAt rows n) n0)), x10] ∧
        μ' = μ.set lf (.lst (.int 0 :: ear.map fun b => .int (valB stp b n0)))) ?_ fun δ μ' hI => ?_
      · refine js_forI (fun items j δ μ' => ∃ x10, δ = [some (Code.dt c), some (.int n0), some (.str kind), some (.ref lf), some (.tup (Rows.dts rows)), some (insD rows), some (.int (valB stp (rbN rows ear n) n0)), some (natD n), some r.dt, some (.int (baseV stp rows ear n0 n * val (weightOf rows ((around rows n).take j)) n0)), x10] ∧
          μ' = μ.set lf (.lst (.int 0 :: ear.map fun b => .int (valB stp b n0)))) PassesOwn.never rfl ?_
        refine ji_lst ?_
        refine je_at ?_
        refine je_v 5 ?_
        refine je_v 7 ?_
        refine ⟨_, _, _, .inr (.inl rfl), rfl, at_nat (insD_get (Nat.le_of_lt hn)), ?_⟩
        refine ⟨_, rfl, ?_⟩
        have ew : val (weightOf rows ((around rows n).take 0)) n0 = 1 := val_one _
        refine ⟨⟨_, by rw [ew, Int.mul_one], rfl⟩, fun _ _ _ _ => trivial, fun j d hd δ μ' hI => ?_, fun δ μ' hI => ?_⟩
        · obtain ⟨x10, rfl, rfl⟩ := hI
          rw [List.getElem?_map] at hd
          obtain ⟨r', hr', rfl⟩ := Option.map_eq_some_iff.mp hd
          obtain ⟨p, k, h1, h2, h3⟩ := hR.arep n r' (List.mem_of_getElem? hr')
          have hp := hR.pol r' p k h1
          refine jg_v 10 ?_
          refine jss_one ?_
          refine js_v 9 ?_
          refine je_mul ?_
          refine je_v 9 ?_
          refine je_d D_L_value (hr.mono (by decide)) ?_
          refine ja_cons ?_
          refine je_at ?_
          refine je_at ?_
          refine je_v 4 ?_
          refine je_v 10 ?_
          refine ⟨_, _, _, .inl (.inl rfl), rfl, at_nat (dts_get h1), ?_⟩
          refine je_int ?_
          refine ⟨_, _, _, .inl (.inl rfl), rfl, at1, ?_⟩
          refine ja_cons ?_
          refine je_v 1 ?_
          refine ja_nil ?_
          refine ⟨rfl, _, _, n0, rfl, pv_dt p, hp.can, hp.deg.mono (by decide), hn0, ?_⟩
          refine ⟨_, _, rfl, rfl, .inr (val_small hp hn0), ?_⟩
          refine ⟨some (natD r'), ?_, rfl⟩
          rw [val_w_succ hR hn hr' h1, ← Int.mul_assoc]
          rfl
        · obtain ⟨x10, rfl, rfl⟩ := hI
          rw [List.length_map, wAt_take]
          exact ⟨_, rfl, rfl⟩
      obtain ⟨x10, rfl, rfl⟩ := hI
      refine jss_one ?_
      refine js_v 6 ?_
      refine je_add ?_
      refine je_v 6 ?_
      refine je_v 9 ?_
      refine ⟨_, _, rfl, rfl, ?_⟩
      have e := valB_step hR hn stp n0
      refine ⟨some (natD n), some r.dt, some (.int (baseV stp rows ear n0 n * val (wAt rows n) n0)), x10, ?_, rfl⟩
      have e2 : valB stp (rbN rows ear (n + 1)) n0 = _ := e
      rw [e2]
      rfl
    · obtain ⟨x7, x8, x9, x10, rfl, rfl⟩ := hI
      rw [enD_len, dts_len]
      refine jss_one ?_
      refine js_expr ?_
      refine je_append ?_
      refine je_v 3 ?_
      refine ⟨_, rfl, ⟨_, Sto.set_same⟩, ?_⟩
      refine je_v 6 ?_
      refine ⟨_, Sto.set_same, ?_, ?_⟩
      · rw [← hear, List.length_cons, List.length_map, bnds_len]
        have := hW.rl
        have := List.length_take_le' i c.rts
        show _ < 2 ^ 24
        omega
      · refine ⟨_, _, _, _, _, _, _, rfl, ?_⟩
        rw [Sto.set_set, bnds_take he, List.map_append, hear]; rfl
  · obtain ⟨x4, x5, x6, x7, x8, x9, x10, rfl, rfl⟩ := hI
    rw [List.length_map, List.take_length]
    refine jss_one ?_
    refine js_ret ?_
    refine je_drop ?_
    refine je_at ?_
    refine je_v 3 ?_
    refine je_neg ?_
    refine je_int ?_
    refine ⟨_, rfl, ?_⟩
    rcases List.eq_nil_or_concat (bnds c.rts) with e | ⟨l0, b, e⟩
    · have em : mainB c = Bd.zero := by unfold mainB; rw [e]; rfl
      have ez : valB stp (mainB c) n0 = 0 := by rw [em]; cases stp <;> rfl
      rw [e]
      rw [ez] at q
      exact ⟨_, _, _, .inr (.inr ⟨_, rfl, Sto.set_same⟩), rfl, at_last [] _, μ, Sto.le_set hlf, q⟩
    · have em : mainB c = b := by unfold mainB; rw [e, List.concat_eq_append, List.getLast?_append]; rfl
      rw [e]
      rw [em] at q
      rw [List.concat_eq_append, List.map_append, List.map_cons, List.map_nil, ← List.cons_append]
      exact ⟨_, _, _, .inr (.inr ⟨_, rfl, Sto.set_same⟩), rfl, at_last _ _, μ, Sto.le_set hlf, q⟩
end
end K27
end FL_
section FM_
/-! The walk, thirteenth part: the deck. -/
namespace K27
open PySem PySem.Spec PyProof.Rows L2
def dkv (c : Addr) (m k : Int) : List (Key × Dt) := [(.inr "cells", .ref c), (.inr "mixed", .int m), (.inr "draws", .int k)]
def Deck (a c : Addr) (μ : Sto) : Prop := a ≠ c ∧ ∃ (xs : List Int) (m k : Int), μ a = some (.dct (dkv c m k)) ∧ μ c = some (.lst (xs.map .int)) ∧ xs.length ≤ 1000
def Keep (a c : Addr) (μ μ' : Sto) : Prop := ∀ b x, b ≠ a → b ≠ c → μ b = some x → μ' b = some x
def DK (a c : Addr) (μ μ' : Sto) : Prop := Deck a c μ' ∧ Keep a c μ μ'
theorem Keep.refl {a c : Addr} {μ : Sto} : Keep a c μ μ := fun _ _ _ _ h => h
theorem Keep.trans {a c : Addr} {μ μ1 μ2 : Sto} (h : Keep a c μ μ1) (h' : Keep a c μ1 μ2) : Keep a c μ μ2 := fun b x h1 h2 h3 => h' b x h1 h2 (h b x h1 h2 h3)
theorem DK.trans {a c : Addr} {μ μ1 μ2 : Sto} (h : DK a c μ μ1) (h' : DK a c μ1 μ2) : DK a c μ μ2 := ⟨h'.1, h.2.trans h'.2⟩
theorem Deck.dk {a c : Addr} {μ : Sto} (h : Deck a c μ) : DK a c μ μ := ⟨h, .refl⟩
theorem Deck.fresh {a c p : Addr} {μ : Sto} (h : Deck a c μ) (hp : μ p = none) : p ≠ a ∧ p ≠ c := by
  obtain ⟨_, xs, m, k, h1, h2, _⟩ := h
  exact ⟨fun e => (by rw [e, h1] at hp; cases hp), fun e => (by rw [e, h2] at hp; cases hp)⟩
theorem Deck.set {a c p : Addr} {μ : Sto} {x : Dt} (h : Deck a c μ) (h1 : p ≠ a) (h2 : p ≠ c) : Deck a c (μ.set p x) := by
  obtain ⟨h0, xs, m, k, e1, e2, e3⟩ := h
  exact ⟨h0, xs, m, k, by rw [Sto.set_ne (Ne.symm h1)]; exact e1, by rw [Sto.set_ne (Ne.symm h2)]; exact e2, e3⟩
theorem dk_cells (c : Addr) (m k : Int) : valD (dkv c m k) (.inr "cells") = some (.ref c) := rfl
theorem dk_mixed (c : Addr) (m k : Int) : valD (dkv c m k) (.inr "mixed") = some (.int m) := rfl
theorem dk_draws (c : Addr) (m k : Int) : valD (dkv c m k) (.inr "draws") = some (.int k) := rfl
theorem dk_put (c : Addr) (m k j : Int) : putD (dkv c m k) (.inr "draws") (.int j) = dkv c m j := rfl
theorem fit_ints (xs : List Int) : Fit (.lst (xs.map .int)) := (fq_lst (n := 0) fun x hx => by
  obtain ⟨k, _, rfl⟩ := List.mem_map.mp hx
  exact fq_int k).fit (by decide)
section
variable {P : Program} {w : World} {K : PySem.W.Frag} {mg : Str → Option Value} {base : Heap}
abbrev C_L_deck : Ct := fun ds μ Q => ∃ ns : List Int, ds = [.scr ns] ∧ ∀ a c μ', Deck a c μ' → Q (.ref a) μ'
theorem cutD_63 (ns : List Int) : cutD (ns.map .int) none (some 63) = (ns.take 63).map .int := by
  unfold cutD
  have h1 : HT.sIx (ns.map Dt.int).length (ns.map Dt.int).length (some 63) = min 63 (ns.map Dt.int).length := HT.sIx_nat _ _ 63
  rw [h1, HT.sIx_none, List.drop_zero, Nat.sub_zero, List.map_take, List.length_map]
  rcases Nat.le_total 63 ns.length with h | h
  · rw [Nat.min_eq_left h]
  · rw [Nat.min_eq_right h, List.take_of_length_le (by rw [List.length_map]; exact Nat.le_refl _), List.take_of_length_le (by rw [List.length_map]; exact h)]
theorem ok_L_deck (B : Tops w K mg) (R : Raw K mg "_law_deck" s_L_deck ["_law_script"]) : Def P w K mg base 1 "_law_deck" ["_law_script"] C_L_deck := by
  have nd := sc_L_deck.nd
  refine def_mk R sc_L_deck fun f cdv A outer s H E hr ds μ Q hl hC => ?_
  obtain ⟨ns, rfl, q⟩ := hC
  refine jss_cons ?_
  refine js_v 1 ?_
  refine je_int ?_
  refine jss_cons ?_
  refine js_forI (fun items i δ μ' => ∃ m x2, δ = [some (.scr ns), some (.int m), x2] ∧ μ' = μ) PassesOwn.never rfl ?_
  refine ji_lst ?_
  refine je_slScr ?_
  refine je_v 0 ?_
  refine jo_none ?_
  refine jo_some ?_
  refine je_int ?_
  refine ⟨_, rfl, ?_⟩
  refine ⟨_, rfl, ?_⟩
  rw [cutD_63]
  refine ⟨_, rfl, ?_⟩
  refine ⟨⟨_, none, rfl, rfl⟩, fun _ _ _ _ => trivial, fun i d hd δ μ' hI => ?_, fun δ μ' hI => ?_⟩
  · obtain ⟨m, x2, rfl, rfl⟩ := hI
    rw [List.getElem?_map] at hd
    obtain ⟨j, hj, rfl⟩ := Option.map_eq_some_iff.mp hd
    refine jg_v 2 ?_
    refine jss_one ?_
    refine js_v 1 ?_
    refine je_mod ?_
    refine je_intB B.int ?_
    refine je_add ?_
    refine je_add ?_
    refine je_mul ?_
    refine je_v 1 ?_
    refine je_int ?_
    refine ⟨_, _, rfl, rfl, .inr ⟨by decide, by decide⟩, ?_⟩
    refine je_mod ?_
    refine je_intB B.int ?_
    refine je_v 2 ?_
    refine ⟨_, rfl, ?_⟩
    refine je_int ?_
    refine ⟨_, _, rfl, rfl, by decide, ?_⟩
    refine ⟨_, _, rfl, rfl, ?_⟩
    refine je_int ?_
    refine ⟨_, _, rfl, rfl, ?_⟩
    refine ⟨_, rfl, ?_⟩
    refine je_int ?_
    refine ⟨_, _, rfl, rfl, by decide, ?_⟩
    exact ⟨_, _, rfl, rfl⟩
  · obtain ⟨m, x2, rfl, rfl⟩ := hI
    refine jss_one ?_
    refine js_ret ?_
    refine je_dispM (kvs := [(_, _), (_, _), (_, _)]) (pps_cons pe_w pe_w (pps_cons pe_w pe_w (pps_cons pe_w pe_w pps_nil))) rfl rfl (by simp) (by decide) ?_
    refine je_str ?_
    refine je_revM ?_
    refine je_listLB B.list ?_
    refine je_slScr ?_
    refine je_v 0 ?_
    refine jo_none ?_
    refine jo_some ?_
    refine je_int ?_
    refine ⟨_, rfl, ?_⟩
    refine ⟨_, rfl, ?_⟩
    rw [cutD_63]
    refine ⟨_, .inr (.inl rfl), ?_⟩
    refine ⟨_, .inl rfl, fun c hc => ?_⟩
    refine ⟨.inr "cells", rfl, ?_⟩
    refine je_str ?_
    refine je_v 1 ?_
    refine ⟨.inr "mixed", rfl, ?_⟩
    refine je_str ?_
    refine je_int ?_
    refine ⟨.inr "draws", rfl, ?_⟩
    refine ⟨by show 3 ≤ 15; decide, fun a ha => ?_⟩
    have hac : a ≠ c := fun e => by rw [e, Sto.set_same] at ha; cases ha
    refine q a c _ ⟨hac, ((ns.take 63).reverse), m, 0, Sto.set_same, ?_, ?_⟩
    · rw [Sto.set_ne (Ne.symm hac), Sto.set_same, List.map_reverse]
    · rw [List.length_reverse]
      have := List.length_take_le 63 ns
      omega
abbrev C_L_draw : Ct := fun ds μ Q => ∃ a c many, ds = [.ref a, .int many] ∧ Deck a c μ ∧ 0 < many ∧ many < 1073741824 ∧ ∀ (n : Nat) μ', (n : Int) < many → DK a c μ μ' → Q (.int n) μ'
theorem ok_L_draw (B : Tops w K mg) (R : Raw K mg "_law_draw" s_L_draw ["_law_deck_here", "_law_many"]) : Def P w K mg base 1 "_law_draw" ["_law_deck_here", "_law_many"] C_L_draw := by
  have nd := sc_L_draw.nd
  refine def_mk R sc_L_draw fun f cdv A outer s H E hr ds μ Q hl hC => ?_
  obtain ⟨a, c, many, rfl, ⟨hac, xs, m, k, hA, hC, hx⟩, h0, h1, q⟩ := hC
  have hmod : ∀ i : Int, ((i % many).toNat : Int) < many ∧ ((i % many).toNat : Int) = i % many := fun i => by
    have := Int.emod_nonneg i (show many ≠ 0 by omega)
    have := Int.emod_lt_of_pos i h0
    omega
  refine jss_cons ?_
  refine js_dput (hu_of hr) ?_
  refine je_add ?_
  refine je_dgetS (hu_of hr) (fun _ _ => rfl) ?_
  refine je_v 0 ?_
  refine je_str ?_
  refine ⟨_, _, _, .inr ⟨_, rfl, hA⟩, rfl, dk_draws _ _ _, ?_⟩
  refine je_int ?_
  refine ⟨_, _, rfl, rfl, ?_⟩
  refine je_v 0 ?_
  refine je_str ?_
  refine ⟨_, _, .inr "draws", rfl, rfl, hA, by show 3 < sizeLine; decide, ?_⟩
  rw [dk_put]
  have hA1 : (μ.set a (.dct (dkv c m (k + 1)))) a = some (.dct (dkv c m (k + 1))) := Sto.set_same
  have hC1 : (μ.set a (.dct (dkv c m (k + 1)))) c = some (.lst (xs.map .int)) := by rw [Sto.set_ne (Ne.symm hac)]; exact hC
  have hK1 : Keep a c μ (μ.set a (.dct (dkv c m (k + 1)))) := fun b x e1 e2 e3 => by rw [Sto.set_ne e1]; exact e3
  generalize μ.set a (.dct (dkv c m (k + 1))) = μ1 at hA1 hC1 hK1
  generalize k + 1 = k1 at hA1
  refine jss_cons ?_
  refine js_v 2 ?_
  refine je_add ?_
  refine je_dgetS (hu_of hr) (fun _ _ => rfl) ?_
  refine je_v 0 ?_
  refine je_str ?_
  refine ⟨_, _, _, .inr ⟨_, rfl, hA1⟩, rfl, dk_mixed _ _ _, ?_⟩
  refine je_mul ?_
  refine je_int ?_
  refine je_dgetS (hu_of hr) (fun _ _ => rfl) ?_
  refine je_v 0 ?_
  refine je_str ?_
  refine ⟨_, _, _, .inr ⟨_, rfl, hA1⟩, rfl, dk_draws _ _ _, ?_⟩
  refine ⟨_, _, rfl, rfl, .inl ⟨by decide, by decide⟩, ?_⟩
  refine ⟨_, _, rfl, rfl, ?_⟩
  refine jss_mid (fun δ μ' => ∃ num x3, δ = [some (.ref a), some (.int many), some (.int num), x3] ∧ μ' a = some (.dct (dkv c m k1)) ∧ DK a c μ μ') ?_ fun δ μ' hI => ?_
  · refine js_if ?_
    refine jt_c (jc_neV hr.units ?_)
    refine je_dgetS (hu_of hr) (fun _ _ => rfl) ?_
    refine je_v 0 ?_
    refine je_str ?_
    refine ⟨_, _, _, .inr ⟨_, rfl, hA1⟩, rfl, dk_cells _ _ _, ?_⟩
    refine je_lst ?_
    refine ja_nil ?_
    refine ⟨by show 0 ≤ sizeLine; decide, ?_⟩
    refine ⟨_, _, ⟨.inr ⟨_, .inr ⟨_, rfl, hC1⟩, rfl⟩, fit_ints _⟩, ⟨.inl rfl, fit_lnil⟩, ?_⟩
    refine ⟨_, rfl, ?_⟩
    rcases List.eq_nil_or_concat xs with e | ⟨ys, y, e⟩
    · rw [e]
      refine ⟨fun hT => (by rw [List.map_nil, lst_nil0] at hT; cases hT), fun hF => ?_⟩
      refine jss_nil ?_
      exact ⟨_, _, rfl, hA1, ⟨hac, xs, m, k1, hA1, hC1, hx⟩, hK1⟩
    · rw [List.concat_eq_append] at e
      have hys : ys.length ≤ 999 := by rw [e, List.length_append] at hx; simp at hx; omega
      have hC1' : μ1 c = some (.lst (ys.map .int ++ [.int y])) := by rw [hC1, e, List.map_append]; rfl
      refine ⟨fun hT => ?_, fun hF => ?_⟩
      · refine jss_cons ?_
        refine js_v 3 ?_
        refine je_pop ?_
        refine je_dgetS (hu_of hr) (fun _ _ => rfl) ?_
        refine je_v 0 ?_
        refine je_str ?_
        refine ⟨_, _, _, .inr ⟨_, rfl, hA1⟩, rfl, dk_cells _ _ _, ?_⟩
        refine ⟨_, _, .int y, rfl, hC1', ?_, ?_⟩
        · have : (ys.map Dt.int ++ [Dt.int y]).length - 1 = (ys.map Dt.int).length := by rw [List.length_append]; simp
          rw [this]
          simp
        rw [List.dropLast_concat]
        have hA2 : (μ1.set c (.lst (ys.map .int))) a = some (.dct (dkv c m k1)) := by rw [Sto.set_ne hac]; exact hA1
        have hC2 : (μ1.set c (.lst (ys.map .int))) c = some (.lst (ys.map .int)) := Sto.set_same
        have hK2 : Keep a c μ (μ1.set c (.lst (ys.map .int))) := fun b x e1 e2 e3 => by rw [Sto.set_ne e2]; exact hK1 b x e1 e2 e3
        generalize μ1.set c (.lst (ys.map .int)) = μ2 at hA2 hC2 hK2
        refine jss_cons ?_
        refine js_if ?_
        refine jt_c (jc_ge ?_)
        refine je_v 3 ?_
        refine je_pow ?_
        refine je_int ?_
        refine je_int ?_
        refine ⟨_, _, rfl, rfl, ⟨by decide, by decide, by decide⟩, ?_⟩
        refine ⟨_, _, rfl, rfl, ?_⟩
        refine ⟨_, rfl, ?_⟩
        refine ⟨fun hT => ?_, fun hF => ?_⟩
        · refine jss_cons ?_
          refine js_expr ?_
          refine je_append ?_
          refine je_dgetS (hu_of hr) (fun _ _ => rfl) ?_
          refine je_v 0 ?_
          refine je_str ?_
          refine ⟨_, _, _, .inr ⟨_, rfl, hA2⟩, rfl, dk_cells _ _ _, ?_⟩
          refine ⟨_, rfl, ⟨_, hC2⟩, ?_⟩
          refine je_div ?_
          refine je_v 3 ?_
          refine je_maxB B.max ?_
          refine ja_cons ?_
          refine je_int ?_
          refine ja_cons ?_
          refine je_v 1 ?_
          refine ja_nil ?_
          refine ⟨_, _, rfl, ?_⟩
          refine ⟨_, _, rfl, rfl, ?_, ?_⟩
          · constructor
            · split <;> omega
            · split <;> omega
          refine ⟨_, hC2, by rw [List.length_map]; show _ < 2 ^ 24; omega, ?_⟩
          refine jss_one ?_
          refine js_ret ?_
          refine je_mod ?_
          refine je_intB B.int ?_
          refine je_v 3 ?_
          refine ⟨_, rfl, ?_⟩
          refine je_v 1 ?_
          refine ⟨_, _, rfl, rfl, h0, ?_⟩
          obtain ⟨z1, z2⟩ := hmod y
          rw [← z2]
          refine q _ _ z1 ⟨⟨hac, ys ++ [y / (if many > 2 then many else 2)], m, k1, ?_, ?_, ?_⟩, fun b x e1 e2 e3 => ?_⟩
          · rw [Sto.set_ne hac]; exact hA2
          · rw [Sto.set_same, List.map_append]; rfl
          · rw [List.length_append]; simp; omega
          · rw [Sto.set_ne e2]; exact hK2 b x e1 e2 e3
        · refine jss_nil ?_
          refine jss_one ?_
          refine js_v 2 ?_
          refine je_add ?_
          refine je_v 2 ?_
          refine je_mod ?_
          refine je_intB B.int ?_
          refine je_v 3 ?_
          refine ⟨_, rfl, ?_⟩
          refine je_int ?_
          refine ⟨_, _, rfl, rfl, by decide, ?_⟩
          refine ⟨_, _, rfl, rfl, ?_⟩
          exact ⟨_, _, rfl, hA2, ⟨hac, ys, m, k1, hA2, hC2, by omega⟩, hK2⟩
      · exfalso
        rw [e, List.map_append] at hF
        cases ys with
        | nil => rw [List.map_nil, List.nil_append, List.map_cons, lst_nil] at hF; cases hF
        | cons z ys => rw [List.map_cons, List.cons_append, lst_nil] at hF; cases hF
  obtain ⟨num, x3, rfl, hA2, hDK⟩ := hI
  have hsm : ∀ i j : Int, 0 < j → j < 2 ^ 32 → -(2 ^ 64) < i % j ∧ i % j < 2 ^ 64 := fun i j hj hj2 => by
    have := Int.emod_nonneg i (show j ≠ 0 by omega)
    have := Int.emod_lt_of_pos i hj
    omega
  refine jss_cons ?_
  refine js_v 2 ?_
  refine je_mod ?_
  refine je_intB B.int ?_
  refine je_add ?_
  refine je_mul ?_
  refine je_v 2 ?_
  refine je_int ?_
  refine ⟨_, _, rfl, rfl, .inr ⟨by decide, by decide⟩, ?_⟩
  refine je_int ?_
  refine ⟨_, _, rfl, rfl, ?_⟩
  refine ⟨_, rfl, ?_⟩
  refine je_int ?_
  refine ⟨_, _, rfl, rfl, by decide, ?_⟩
  refine jss_cons ?_
  refine js_v 2 ?_
  refine je_mod ?_
  refine je_intB B.int ?_
  refine je_add ?_
  refine je_add ?_
  refine je_mul ?_
  refine je_v 2 ?_
  refine je_v 2 ?_
  refine ⟨_, _, rfl, rfl, .inl (hsm _ _ (by decide) (by decide)), ?_⟩
  refine je_mul ?_
  refine je_int ?_
  refine je_dgetS (hu_of hr) (fun _ _ => rfl) ?_
  refine je_v 0 ?_
  refine je_str ?_
  refine ⟨_, _, _, .inr ⟨_, rfl, hA2⟩, rfl, dk_draws _ _ _, ?_⟩
  refine ⟨_, _, rfl, rfl, .inl ⟨by decide, by decide⟩, ?_⟩
  refine ⟨_, _, rfl, rfl, ?_⟩
  refine je_int ?_
  refine ⟨_, _, rfl, rfl, ?_⟩
  refine ⟨_, rfl, ?_⟩
  refine je_int ?_
  refine ⟨_, _, rfl, rfl, by decide, ?_⟩
  refine jss_cons ?_
  refine js_v 2 ?_
  refine je_mod ?_
  refine je_intB B.int ?_
  refine je_mul ?_
  refine je_v 2 ?_
  refine je_int ?_
  refine ⟨_, _, rfl, rfl, .inr ⟨by decide, by decide⟩, ?_⟩
  refine ⟨_, rfl, ?_⟩
  refine je_int ?_
  refine ⟨_, _, rfl, rfl, by decide, ?_⟩
  refine jss_one ?_
  refine js_ret ?_
  refine je_mod ?_
  refine je_intB B.int ?_
  refine je_div ?_
  refine je_v 2 ?_
  refine je_int ?_
  refine ⟨_, _, rfl, rfl, ⟨by decide, by decide⟩, ?_⟩
  refine ⟨_, rfl, ?_⟩
  refine je_v 1 ?_
  refine ⟨_, _, rfl, rfl, h0, ?_⟩
  obtain ⟨z1, z2⟩ := hmod (((num * 41358 + 107) % 2147483629 * ((num * 41358 + 107) % 2147483629) + 50441 * k1 + 203) % 2147483587 * 40014 % 2147483563 / 64)
  rw [← z2]
  exact q _ _ z1 hDK
abbrev C_L_pick : Ct := fun ds μ Q => ∃ a c d, ds = [.ref a, d] ∧ Deck a c μ ∧ ((∃ xs, (d = .tup xs ∨ d = .lst xs) ∧ 1 ≤ xs.length ∧ xs.length ≤ 100000 ∧ ∀ x ∈ xs, ∀ μ', DK a c μ μ' → Q x μ') ∨
  (∃ z : Str, d = .str z ∧ 1 ≤ z.length ∧ z.length ≤ 100000 ∧ ∀ ch ∈ z.cps.toList, ∀ μ', DK a c μ μ' → Q (.str ⟨#[ch]⟩) μ'))
theorem ok_L_pick (B : Tops w K mg) (R : Raw K mg "_law_pick" s_L_pick ["_law_deck_here", "_law_some"]) (D_L_draw : Def P w K mg base 1 "_law_draw" ["_law_deck_here", "_law_many"] C_L_draw) : Def P w K mg base 2 "_law_pick" ["_law_deck_here", "_law_some"] C_L_pick := by
  have nd := sc_L_pick.nd
  refine def_mk R sc_L_pick fun f cdv A outer s H E hr ds μ Q hl hC => ?_
  obtain ⟨a, c, d, rfl, hD, hq⟩ := hC
  refine jss_one ?_
  refine js_ret ?_
  refine je_ixA (fun _ _ => rfl) ?_
  refine je_v 1 ?_
  refine je_d D_L_draw (hr.mono (by decide)) ?_
  refine ja_cons ?_
  refine je_v 0 ?_
  refine ja_cons ?_
  refine je_lenB B.len ?_
  refine je_v 1 ?_
  rcases hq with ⟨xs, hx, h1, h2, q⟩ | ⟨z, rfl, h1, h2, q⟩
  · have hS : ∀ μ : Sto, SeqA μ d xs := fun μ => by
      rcases hx with rfl | rfl
      · exact .inl (.inl rfl)
      · exact .inr (.inl rfl)
    refine ⟨_, .inr ⟨_, hS _, rfl⟩, ?_⟩
    refine ja_nil ?_
    refine ⟨rfl, a, c, _, rfl, hD, by omega, by omega, fun n μ' hn hDK => ?_⟩
    have hn' : n < xs.length := by omega
    refine .inl ⟨xs, n, xs[n], hS _, rfl, at_nat (List.getElem?_eq_getElem hn'), ?_⟩
    exact q _ (List.getElem_mem hn') _ hDK
  · refine ⟨_, .inl ⟨z, rfl, by show _ ≤ 2 ^ 24; omega, rfl⟩, ?_⟩
    refine ja_nil ?_
    refine ⟨rfl, a, c, _, rfl, hD, by omega, by omega, fun n μ' hn hDK => ?_⟩
    have hn' : n < z.cps.toList.length := by
      have e : z.length = z.cps.toList.length := by rw [Array.length_toList]; rfl
      omega
    refine .inr ⟨z, n, z.cps.toList[n], rfl, rfl, by show _ ≤ 2 ^ 24; omega, at_nat (List.getElem?_eq_getElem hn'), ?_⟩
    exact q _ (List.getElem_mem hn') _ hDK
end
end K27
end FM_
section FN_
/-! The walk, fourteenth part: tests, simple rows. -/
namespace K27
open PySem PySem.Spec PyProof.Rows L2
theorem aabbzm_ok : ∀ ch ∈ ("aabbzm" : Str).cps.toList, (⟨#[ch]⟩ : Str) ∈ letters1 := by decide +kernel
theorem abzm_ok : ∀ ch ∈ ("abzm" : Str).cps.toList, (⟨#[ch]⟩ : Str) ∈ letters1 := by decide +kernel
section
variable {P : Program} {w : World} {K : PySem.W.Frag} {mg : Str → Option Value} {base : Heap}
abbrev C_L_some_test (D : Nat) : Ct := fun ds μ Q => ∃ a c, ∃ nt ni deep : Nat, ds = [.ref a, .int nt, .int ni, .int deep] ∧ Deck a c μ ∧ 1 ≤ nt ∧ nt ≤ 1000 ∧ 1 ≤ ni ∧ ni ≤ 1000 ∧ deep ≤ D ∧ ∀ t μ', Tst.ok nt ni t → t.dep ≤ deep → DK a c μ μ' → Q (Tst.dt t) μ'
theorem ok_L_some_test (B : Tops w K mg) (R : Raw K mg "_law_some_test" s_L_some_test ["_law_deck_here", "_law_tapes", "_law_indexes", "_law_deep"]) (D_L_draw : Def P w K mg base 1 "_law_draw" ["_law_deck_here", "_law_many"] C_L_draw)
    (D_L_pick : Def P w K mg base 2 "_law_pick" ["_law_deck_here", "_law_some"] C_L_pick) (D : Nat) (D_rec : ∀ D', D = D' + 1 → Def P w K mg base (2 + D) "_law_some_test" ["_law_deck_here", "_law_tapes", "_law_indexes", "_law_deep"] (C_L_some_test D')) :
    Def P w K mg base (3 + D) "_law_some_test" ["_law_deck_here", "_law_tapes", "_law_indexes", "_law_deep"] (C_L_some_test D) := by
  have nd := sc_L_some_test.nd
  have e3 : 3 + D = (2 + D) + 1 := by omega
  rw [e3]
  refine def_mk R sc_L_some_test fun f cdv A outer s H E hr ds μ Q hl hC => ?_
  obtain ⟨a, c, nt, ni, deep, rfl, hD, h1, h2, h3, h4, h5, q⟩ := hC
  refine jss_cons ?_
  refine js_v 4 ?_
  refine je_d D_L_draw (hr.mono (by omega)) ?_
  refine ja_cons ?_
  refine je_v 0 ?_
  refine ja_cons ?_
  refine je_int ?_
  refine ja_nil ?_
  refine ⟨rfl, a, c, _, rfl, hD, by decide, by decide, fun way μ1 hw k1 => ?_⟩
  have hrest : ∀ μ1, DK a c μ μ1 → JSs (cx P w K mg base n_L_some_test "_law_some_test" s_L_some_test f cdv A outer s H E) ((defBody s_L_some_test).drop 2) [some (.ref a), some (.int nt), some (.int ni), some (.int deep), some (.int way), none, none, none, none] μ1 { nx := fun _ μ' => Q .non μ', rt := Q } := fun μ1 k1 => by
    refine jss_cons ?_
    refine js_asg ?_
    refine je_tup ?_
    refine ja_cons ?_
    refine je_d D_L_draw (hr.mono (by omega)) ?_
    refine ja_cons ?_
    refine je_v 0 ?_
    refine ja_cons ?_
    refine je_v 1 ?_
    refine ja_nil ?_
    refine ⟨rfl, a, c, _, rfl, k1.1, by omega, by omega, fun t μ2 ht k2 => ?_⟩
    refine ja_cons ?_
    refine je_d D_L_draw (hr.mono (by omega)) ?_
    refine ja_cons ?_
    refine je_v 0 ?_
    refine ja_cons ?_
    refine je_v 1 ?_
    refine ja_nil ?_
    refine ⟨rfl, a, c, _, rfl, k2.1, by omega, by omega, fun u μ3 hu k3 => ?_⟩
    refine ja_cons ?_
    refine je_d D_L_draw (hr.mono (by omega)) ?_
    refine ja_cons ?_
    refine je_v 0 ?_
    refine ja_cons ?_
    refine je_v 2 ?_
    refine ja_nil ?_
    refine ⟨rfl, a, c, _, rfl, k3.1, by omega, by omega, fun i μ4 hi k4 => ?_⟩
    refine ja_cons ?_
    refine je_d D_L_draw (hr.mono (by omega)) ?_
    refine ja_cons ?_
    refine je_v 0 ?_
    refine ja_cons ?_
    refine je_v 2 ?_
    refine ja_nil ?_
    refine ⟨rfl, a, c, _, rfl, k4.1, by omega, by omega, fun j μ5 hj k5 => ?_⟩
    refine ja_nil ?_
    refine ⟨by show 4 ≤ sizeLine; decide, ?_⟩
    refine jg_tup rfl (.inl rfl) rfl ?_
    refine jgs_cons ?_
    refine jg_v 5 ?_
    refine jgs_cons ?_
    refine jg_v 6 ?_
    refine jgs_cons ?_
    refine jg_v 7 ?_
    refine jgs_cons ?_
    refine jg_v 8 ?_
    refine jgs_nil ?_
    refine jss_one ?_
    refine js_ret ?_
    refine je_d D_L_pick (hr.mono (by omega)) ?_
    refine ja_cons ?_
    refine je_v 0 ?_
    refine ja_cons ?_
    refine je_lst ?_
    refine ja_cons ?_
    refine je_tup ?_
    refine ja_cons ?_
    refine je_str ?_
    refine ja_cons ?_
    refine je_v 5 ?_
    refine ja_cons ?_
    refine je_v 7 ?_
    refine ja_cons ?_
    refine je_d D_L_pick (hr.mono (by omega)) ?_
    refine ja_cons ?_
    refine je_v 0 ?_
    refine ja_cons ?_
    refine je_str ?_
    refine ja_nil ?_
    refine ⟨rfl, a, c, _, rfl, k5.1, .inr ⟨_, rfl, by decide, by decide, fun ch hch μ6 k6 => ?_⟩⟩
    refine ja_nil ?_
    refine ⟨by show 4 ≤ sizeLine; decide, ?_⟩
    refine ja_cons ?_
    refine je_tup ?_
    refine ja_cons ?_
    refine je_str ?_
    refine ja_cons ?_
    refine je_v 5 ?_
    refine ja_cons ?_
    refine je_v 7 ?_
    refine ja_cons ?_
    refine je_v 6 ?_
    refine ja_cons ?_
    refine je_v 8 ?_
    refine ja_nil ?_
    refine ⟨by show 5 ≤ sizeLine; decide, ?_⟩
    refine ja_cons ?_
    refine je_tup ?_
    refine ja_cons ?_
    refine je_str ?_
    refine ja_cons ?_
    refine je_v 5 ?_
    refine ja_cons ?_
    refine je_v 7 ?_
    refine ja_nil ?_
    refine ⟨by show 3 ≤ sizeLine; decide, ?_⟩
    refine ja_cons ?_
    refine je_tup ?_
    refine ja_cons ?_
    refine je_str ?_
    refine ja_cons ?_
    refine je_v 5 ?_
    refine ja_cons ?_
    refine je_v 7 ?_
    refine ja_nil ?_
    refine ⟨by show 3 ≤ sizeLine; decide, ?_⟩
    refine ja_cons ?_
    refine je_tup ?_
    refine ja_cons ?_
    refine je_str ?_
    refine ja_cons ?_
    refine je_v 7 ?_
    refine ja_cons ?_
    refine je_v 8 ?_
    refine ja_nil ?_
    refine ⟨by show 3 ≤ sizeLine; decide, ?_⟩
    refine ja_nil ?_
    refine ⟨by show 5 ≤ sizeLine; decide, ?_⟩
    refine ja_nil ?_
    refine ⟨rfl, a, c, _, rfl, k6.1, .inl ⟨_, .inr rfl, by show 1 ≤ 5; decide, by show 5 ≤ 100000; decide, fun x hx μ7 k7 => ?_⟩⟩
    have kk := (((((k1.trans k2).trans k3).trans k4).trans k5).trans k6).trans k7
    have ht' : t < nt := by omega
    have hu' : u < nt := by omega
    have hi' : i < ni := by omega
    have hj' : j < ni := by omega
    simp only [List.mem_cons, List.not_mem_nil, or_false] at hx
    rcases hx with rfl | rfl | rfl | rfl | rfl
    · exact q (.is t i ⟨#[ch]⟩) _ ⟨ht', hi', aabbzm_ok ch hch⟩ (Nat.zero_le _) kk
    · exact q (.equal t i u j) _ ⟨ht', hi', hu', hj'⟩ (Nat.zero_le _) kk
    · exact q (.empty t i) _ ⟨ht', hi'⟩ (Nat.zero_le _) kk
    · exact q (.inside t i) _ ⟨ht', hi'⟩ (Nat.zero_le _) kk
    · exact q (.at_ i j) _ ⟨hi', hj'⟩ (Nat.zero_le _) kk
  refine jss_cons ?_
  refine js_if ?_
  refine jt_w ?_
  refine jw_and ?_
  refine jt_c (jc_eqI ?_)
  refine je_v 4 ?_
  refine je_int ?_
  refine ⟨_, _, rfl, rfl, ?_⟩
  refine ⟨_, rfl, ?_⟩
  refine ⟨fun h => ?_, fun h => ⟨fun h => (by cases h), fun _ => jss_nil (hrest _ k1)⟩⟩
  refine jw_and1 ?_
  refine jt_c (jc_gt ?_)
  refine je_v 3 ?_
  refine je_int ?_
  refine ⟨_, _, rfl, rfl, ?_⟩
  refine ⟨_, rfl, ?_⟩
  refine ⟨fun hT => ?_, fun hF => jss_nil (hrest _ k1)⟩
  have hd : 0 < deep := by
    have h' : (0 : Int) < (deep : Int) := of_decide_eq_true hT
    omega
  obtain ⟨D', eD⟩ : ∃ D', D = D' + 1 := ⟨D - 1, by omega⟩
  refine jss_one ?_
  refine js_ret ?_
  refine je_tup ?_
  refine ja_cons ?_
  refine je_str ?_
  refine ja_cons ?_
  refine je_d (D_rec D' eD) hr ?_
  refine ja_cons ?_
  refine je_v 0 ?_
  refine ja_cons ?_
  refine je_v 1 ?_
  refine ja_cons ?_
  refine je_v 2 ?_
  refine ja_cons ?_
  refine je_sub ?_
  refine je_v 3 ?_
  refine je_int ?_
  refine ⟨_, _, rfl, rfl, ?_⟩
  refine ja_nil ?_
  have ed : ((deep : Nat) : Int) - 1 = ((deep - 1 : Nat) : Int) := by omega
  rw [ed]
  refine ⟨rfl, a, c, nt, ni, deep - 1, rfl, k1.1, h1, h2, h3, h4, by omega, fun t μ2 ht htd k2 => ?_⟩
  refine ja_nil ?_
  refine ⟨by show 2 ≤ sizeLine; decide, ?_⟩
  exact q (.neg t) _ ht (by show t.dep + 1 ≤ deep; omega) (k1.trans k2)
theorem all_some_test (B : Tops w K mg) (R : Raw K mg "_law_some_test" s_L_some_test ["_law_deck_here", "_law_tapes", "_law_indexes", "_law_deep"]) (D_L_draw : Def P w K mg base 1 "_law_draw" ["_law_deck_here", "_law_many"] C_L_draw)
    (D_L_pick : Def P w K mg base 2 "_law_pick" ["_law_deck_here", "_law_some"] C_L_pick) : ∀ D : Nat, Def P w K mg base (3 + D) "_law_some_test" ["_law_deck_here", "_law_tapes", "_law_indexes", "_law_deep"] (C_L_some_test D)
  | 0 => ok_L_some_test B R D_L_draw D_L_pick 0 fun D' e => by omega
  | D + 1 => ok_L_some_test B R D_L_draw D_L_pick (D + 1) fun D' e => by
    have e' : D' = D := by omega
    subst e'
    have e2 : 2 + (D' + 1) = 3 + D' := by omega
    rw [e2]
    exact all_some_test B R D_L_draw D_L_pick D'
/-- zero, up, down, same, set, copy, clear -/
def Row.plain : Row → Bool
  | .st .. => true | .cpy .. => true | .clr .. => true | .zero .. => true | .up .. => true | .down .. => true | .same .. => true
  | _ => false
abbrev C_L_simple : Ct := fun ds μ Q => ∃ a c, ∃ nt ni : Nat, ds = [.ref a, .int nt, .int ni] ∧ Deck a c μ ∧ 1 ≤ nt ∧ nt ≤ 1000 ∧ 1 ≤ ni ∧ ni ≤ 1000 ∧ ∀ r μ', (∀ np, Row.ok nt ni np r) → r.plain = true → DK a c μ μ' → Q (Row.dt r) μ'
theorem ok_L_simple (B : Tops w K mg) (R : Raw K mg "_law_simple" s_L_simple ["_law_deck_here", "_law_tapes", "_law_indexes"]) (D_L_draw : Def P w K mg base 1 "_law_draw" ["_law_deck_here", "_law_many"] C_L_draw) (D_L_pick : Def P w K mg base 2 "_law_pick" ["_law_deck_here", "_law_some"] C_L_pick) :
    Def P w K mg base 3 "_law_simple" ["_law_deck_here", "_law_tapes", "_law_indexes"] C_L_simple := by
  have nd := sc_L_simple.nd
  refine def_mk R sc_L_simple fun f cdv A outer s H E hr ds μ Q hl hC => ?_
  obtain ⟨a, c, nt, ni, rfl, hD, h1, h2, h3, h4, q⟩ := hC
  refine jss_cons ?_
  refine js_asg ?_
  refine je_tup ?_
  refine ja_cons ?_
  refine je_add ?_
  refine je_int ?_
  refine je_d D_L_draw (hr.mono (by decide)) ?_
  refine ja_cons ?_
  refine je_v 0 ?_
  refine ja_cons ?_
  refine je_maxB B.max ?_
  refine ja_cons ?_
  refine je_int ?_
  refine ja_cons ?_
  refine je_sub ?_
  refine je_v 1 ?_
  refine je_int ?_
  refine ⟨_, _, rfl, rfl, ?_⟩
  refine ja_nil ?_
  refine ⟨_, _, rfl, ?_⟩
  refine ja_nil ?_
  refine ⟨rfl, a, c, _, rfl, hD, by split <;> omega, by split <;> omega, fun t0 μ2 ht k2 => ?_⟩
  have ht' : nt > 1 → 1 + t0 < nt := fun h => by
    split at ht <;> omega
  refine ⟨_, _, rfl, rfl, ?_⟩
  have et : (1 : Int) + (t0 : Nat) = ((1 + t0 : Nat) : Int) := by omega
  rw [et]
  generalize htt : 1 + t0 = t at ht'
  refine ja_cons ?_
  refine je_d D_L_draw (hr.mono (by decide)) ?_
  refine ja_cons ?_
  refine je_v 0 ?_
  refine ja_cons ?_
  refine je_v 1 ?_
  refine ja_nil ?_
  refine ⟨rfl, a, c, _, rfl, k2.1, by omega, by omega, fun u μ3 hu k3 => ?_⟩
  refine ja_cons ?_
  refine je_d D_L_draw (hr.mono (by decide)) ?_
  refine ja_cons ?_
  refine je_v 0 ?_
  refine ja_cons ?_
  refine je_v 2 ?_
  refine ja_nil ?_
  refine ⟨rfl, a, c, _, rfl, k3.1, by omega, by omega, fun i μ4 hi k4 => ?_⟩
  refine ja_cons ?_
  refine je_d D_L_draw (hr.mono (by decide)) ?_
  refine ja_cons ?_
  refine je_v 0 ?_
  refine ja_cons ?_
  refine je_v 2 ?_
  refine ja_nil ?_
  refine ⟨rfl, a, c, _, rfl, k4.1, by omega, by omega, fun j μ5 hj k5 => ?_⟩
  have k15 := ((k2.trans k3).trans k4).trans k5
  have hu' : u < nt := by omega
  have hi' : i < ni := by omega
  have hj' : j < ni := by omega
  refine ja_nil ?_
  refine ⟨by show 4 ≤ sizeLine; decide, ?_⟩
  refine jg_tup rfl (.inl rfl) rfl ?_
  refine jgs_cons ?_
  refine jg_v 3 ?_
  refine jgs_cons ?_
  refine jg_v 4 ?_
  refine jgs_cons ?_
  refine jg_v 5 ?_
  refine jgs_cons ?_
  refine jg_v 6 ?_
  refine jgs_nil ?_
  refine jss_cons ?_
  refine js_v 7 ?_
  refine je_lst ?_
  refine ja_cons ?_
  refine je_tup ?_
  refine ja_cons ?_
  refine je_str ?_
  refine ja_cons ?_
  refine je_v 5 ?_
  refine ja_nil ?_
  refine ⟨by show 2 ≤ sizeLine; decide, ?_⟩
  refine ja_cons ?_
  refine je_tup ?_
  refine ja_cons ?_
  refine je_str ?_
  refine ja_cons ?_
  refine je_v 5 ?_
  refine ja_nil ?_
  refine ⟨by show 2 ≤ sizeLine; decide, ?_⟩
  refine ja_cons ?_
  refine je_tup ?_
  refine ja_cons ?_
  refine je_str ?_
  refine ja_cons ?_
  refine je_v 5 ?_
  refine ja_nil ?_
  refine ⟨by show 2 ≤ sizeLine; decide, ?_⟩
  refine ja_cons ?_
  refine je_tup ?_
  refine ja_cons ?_
  refine je_str ?_
  refine ja_cons ?_
  refine je_v 5 ?_
  refine ja_nil ?_
  refine ⟨by show 2 ≤ sizeLine; decide, ?_⟩
  refine ja_cons ?_
  refine je_tup ?_
  refine ja_cons ?_
  refine je_str ?_
  refine ja_cons ?_
  refine je_v 5 ?_
  refine ja_cons ?_
  refine je_v 6 ?_
  refine ja_nil ?_
  refine ⟨by show 3 ≤ sizeLine; decide, ?_⟩
  refine ja_nil ?_
  refine ⟨by show 5 ≤ sizeLine; decide, ?_⟩
  refine jss_mid (fun δ μ' => ∃ xs, δ = [some (.ref a), some (.int nt), some (.int ni), some (.int (t : Nat)), some (.int u), some (.int i), some (.int j), some (.lst xs)] ∧ DK a c μ μ' ∧ 1 ≤ xs.length ∧ xs.length ≤ 100 ∧
    ∀ x ∈ xs, ∃ r, x = Row.dt r ∧ (∀ np, Row.ok nt ni np r) ∧ r.plain = true) ?_ fun δ μ' hI => ?_
  · refine js_if ?_
    refine jt_c (jc_gt ?_)
    refine je_v 1 ?_
    refine je_int ?_
    refine ⟨_, _, rfl, rfl, ?_⟩
    refine ⟨_, rfl, ?_⟩
    refine ⟨fun hT => ?_, fun hF => ?_⟩
    · have hnt : nt > 1 := by
        have h' : (1 : Int) < (nt : Int) := of_decide_eq_true hT
        omega
      have htl := ht' hnt
      have ht1 : 1 ≤ t := by omega
      refine jss_one ?_
      refine js_v 7 ?_
      refine je_catL ?_
      refine je_v 7 ?_
      refine je_lst ?_
      refine ja_cons ?_
      refine je_tup ?_
      refine ja_cons ?_
      refine je_str ?_
      refine ja_cons ?_
      refine je_v 3 ?_
      refine ja_cons ?_
      refine je_v 5 ?_
      refine ja_cons ?_
      refine je_d D_L_pick (hr.mono (by decide)) ?_
      refine ja_cons ?_
      refine je_v 0 ?_
      refine ja_cons ?_
      refine je_str ?_
      refine ja_nil ?_
      refine ⟨rfl, a, c, _, rfl, k5.1, .inr ⟨_, rfl, by decide, by decide, fun ch hch μ6 k6 => ?_⟩⟩
      refine ja_nil ?_
      refine ⟨by show 4 ≤ sizeLine; decide, ?_⟩
      refine ja_cons ?_
      refine je_tup ?_
      refine ja_cons ?_
      refine je_str ?_
      refine ja_cons ?_
      refine je_v 3 ?_
      refine ja_cons ?_
      refine je_v 5 ?_
      refine ja_cons ?_
      refine je_v 4 ?_
      refine ja_cons ?_
      refine je_v 6 ?_
      refine ja_nil ?_
      refine ⟨by show 5 ≤ sizeLine; decide, ?_⟩
      refine ja_cons ?_
      refine je_tup ?_
      refine ja_cons ?_
      refine je_str ?_
      refine ja_cons ?_
      refine je_v 3 ?_
      refine ja_cons ?_
      refine je_v 5 ?_
      refine ja_nil ?_
      refine ⟨by show 3 ≤ sizeLine; decide, ?_⟩
      refine ja_cons ?_
      refine je_tup ?_
      refine ja_cons ?_
      refine je_str ?_
      refine ja_cons ?_
      refine je_v 3 ?_
      refine ja_cons ?_
      refine je_v 5 ?_
      refine ja_cons ?_
      refine je_str ?_
      refine ja_nil ?_
      refine ⟨by show 4 ≤ sizeLine; decide, ?_⟩
      refine ja_nil ?_
      refine ⟨by show 4 ≤ sizeLine; decide, ?_⟩
      refine ⟨_, _, .inl rfl, .inl rfl, by show 9 ≤ sizeLine; decide, ?_⟩
      refine ⟨_, rfl, k15.trans k6, by show 1 ≤ 9; decide, by show 9 ≤ 100; decide, fun x hx => ?_⟩
      simp only [List.cons_append, List.nil_append, List.mem_cons, List.not_mem_nil, or_false] at hx
      rcases hx with rfl | rfl | rfl | rfl | rfl | rfl | rfl | rfl | rfl
      · exact ⟨.zero i, rfl, fun np => hi', rfl⟩
      · exact ⟨.up i, rfl, fun np => hi', rfl⟩
      · exact ⟨.up i, rfl, fun np => hi', rfl⟩
      · exact ⟨.down i, rfl, fun np => hi', rfl⟩
      · exact ⟨.same i j, rfl, fun np => ⟨hi', hj'⟩, rfl⟩
      · exact ⟨.st t i ⟨#[ch]⟩, rfl, fun np => ⟨ht1, htl, hi', abzm_ok ch hch⟩, rfl⟩
      · exact ⟨.cpy t i u j, rfl, fun np => ⟨ht1, htl, hi', hu', hj'⟩, rfl⟩
      · exact ⟨.clr t i, rfl, fun np => ⟨ht1, htl, hi'⟩, rfl⟩
      · exact ⟨.st t i "a", rfl, fun np => ⟨ht1, htl, hi', by decide⟩, rfl⟩
    · refine jss_nil ?_
      refine ⟨_, rfl, k15, by show 1 ≤ 5; decide, by show 5 ≤ 100; decide, fun x hx => ?_⟩
      simp only [List.mem_cons, List.not_mem_nil, or_false] at hx
      rcases hx with rfl | rfl | rfl | rfl | rfl
      · exact ⟨.zero i, rfl, fun np => hi', rfl⟩
      · exact ⟨.up i, rfl, fun np => hi', rfl⟩
      · exact ⟨.up i, rfl, fun np => hi', rfl⟩
      · exact ⟨.down i, rfl, fun np => hi', rfl⟩
      · exact ⟨.same i j, rfl, fun np => ⟨hi', hj'⟩, rfl⟩
  obtain ⟨xs, rfl, kk, hx1, hx2, hx⟩ := hI
  refine jss_one ?_
  refine js_ret ?_
  refine je_d D_L_pick (hr.mono (by decide)) ?_
  refine ja_cons ?_
  refine je_v 0 ?_
  refine ja_cons ?_
  refine je_v 7 ?_
  refine ja_nil ?_
  refine ⟨rfl, a, c, _, rfl, kk.1, .inl ⟨xs, .inr rfl, hx1, by omega, fun x hxm μ7 k7 => ?_⟩⟩
  obtain ⟨r, rfl, h1, h2⟩ := hx x hxm
  exact q r _ h1 h2 (kk.trans k7)
end
end K27
end FN_
section FO_
/-! The walk, fifteenth part: blocks and their laying out. -/
namespace K27
open PySem PySem.Spec PyProof.Rows L2
def polyR : List Pol := [[(0, 1)], [(0, 2)], [(1, 1)], [(0, 1), (1, 1)], [(0, 3)], []]
/-- a row of a block: no repeat, no again, no target yet -/
def Row.pre : Row → Bool
  | .rep .. => false | .agn .. => false | .jmp (some _) => false | .unl _ (some _) => false
  | _ => true
def ItOk (nt ni p : Nat) : Nat → It → Prop
  | _, .row r => r.ok nt ni p ∧ r.pre = true
  | 0, .rep _ _ => False
  | d + 1, .rep q b => q ∈ polyR ∧ b.length ≤ 6 ∧ ∀ x ∈ b, ItOk nt ni p d x
theorem itok_row {nt ni p d : Nat} {r : Row} (h : r.ok nt ni p) (h' : r.pre = true) : ItOk nt ni p d (.row r) := by
  cases d <;> exact ⟨h, h'⟩
theorem itok_row' {nt ni p d : Nat} {r : Row} (h : ItOk nt ni p d (.row r)) : r.ok nt ni p ∧ r.pre = true := by
  cases d <;> exact h
theorem its_map : ∀ its : List It, Its.dts its = its.map It.dt
  | [] => rfl
  | x :: r => by rw [List.map_cons, ← its_map r]; rfl
theorem plain_pre {r : Row} (h : r.plain = true) : r.pre = true := by
  cases r <;> first | rfl | cases h
section
variable {P : Program} {w : World} {K : PySem.W.Frag} {mg : Str → Option Value} {base : Heap}
abbrev C_L_block (D : Nat) : Ct := fun ds μ Q => ∃ a c, ∃ nt ni p size deep : Nat, ds = [.ref a, .int nt, .int ni, .int p, .int size, .int deep] ∧ Deck a c μ ∧ (1 ≤ nt ∧ nt ≤ 1000) ∧ (1 ≤ ni ∧ ni ≤ 1000) ∧ p ≤ 1000 ∧ (1 ≤ size ∧ size ≤ 6) ∧ deep ≤ D ∧
  ∀ its μ', (∀ x ∈ its, ItOk nt ni p deep x) → its.length ≤ 2 * size → DK a c μ μ' → Q (.lst (Its.dts its)) μ'
/-- what the list holds on the way -/
def BlkI (a c lf : Addr) (nt ni p deep : Nat) (μ μ' : Sto) (n : Nat) : Prop := ∃ its, μ' lf = some (.lst (Its.dts its)) ∧ (∀ x ∈ its, ItOk nt ni p deep x) ∧ its.length ≤ 2 * n ∧ DK a c μ μ'
theorem blk_add {a c lf : Addr} {nt ni p deep n : Nat} {μ μ1 μ2 : Sto} {its : List It} {xs : List It} (h1 : μ2 lf = some (.lst (Its.dts its))) (h2 : ∀ x ∈ its, ItOk nt ni p deep x) (h3 : its.length ≤ 2 * n) (h4 : DK a c μ μ2) (ha : lf ≠ a) (hc : lf ≠ c) (h0 : μ lf = none)
    (hx : ∀ x ∈ xs, ItOk nt ni p deep x) (hxl : xs.length ≤ 2) : BlkI a c lf nt ni p deep μ (μ2.set lf (.lst (Its.dts its ++ Its.dts xs))) (n + 1) := by
  refine ⟨its ++ xs, ?_, fun x hm => ?_, by rw [List.length_append]; omega, h4.1.set ha hc, fun b x e1 e2 e3 => ?_⟩
  · rw [Sto.set_same, its_map, its_map, its_map, List.map_append]
  · rcases List.mem_append.mp hm with hm | hm
    · exact h2 x hm
    · exact hx x hm
  · rw [Sto.set_ne (fun e => by rw [e, h0] at e3; cases e3)]
    exact h4.2 b x e1 e2 e3
theorem its_small {its : List It} {n : Nat} (h : its.length ≤ 2 * n) (hn : n ≤ 6) (k : Nat) (hk : k ≤ 2) : (Its.dts its).length + k ≤ sizeLine := by
  rw [its_map, List.length_map]
  show _ ≤ 2 ^ 24
  omega
theorem its_small' {its : List It} {n : Nat} (h : its.length ≤ 2 * n) (hn : n ≤ 6) : (Its.dts its).length < sizeLine := by
  have := its_small h hn 2 (by decide)
  omega
theorem ok_L_block (B : Tops w K mg) (R : Raw K mg "_law_block" s_L_block ["_law_deck_here", "_law_tapes", "_law_indexes", "_law_p", "_law_size", "_law_deep"]) (D_L_draw : Def P w K mg base 1 "_law_draw" ["_law_deck_here", "_law_many"] C_L_draw)
    (D_L_pick : Def P w K mg base 2 "_law_pick" ["_law_deck_here", "_law_some"] C_L_pick) (D_L_some_test : Def P w K mg base 8 "_law_some_test" ["_law_deck_here", "_law_tapes", "_law_indexes", "_law_deep"] (C_L_some_test 5))
    (D_L_simple : Def P w K mg base 3 "_law_simple" ["_law_deck_here", "_law_tapes", "_law_indexes"] C_L_simple) (D : Nat)
    (D_rec : ∀ D', D = D' + 1 → Def P w K mg base (8 + D) "_law_block" ["_law_deck_here", "_law_tapes", "_law_indexes", "_law_p", "_law_size", "_law_deep"] (C_L_block D')) :
    Def P w K mg base (9 + D) "_law_block" ["_law_deck_here", "_law_tapes", "_law_indexes", "_law_p", "_law_size", "_law_deep"] (C_L_block D) := by
  have nd := sc_L_block.nd
  have e9 : 9 + D = (8 + D) + 1 := by omega
  rw [e9]
  refine def_mk R sc_L_block fun f cdv A outer s H E hr ds μ Q hl hC => ?_
  obtain ⟨a, c, nt, ni, p, size, deep, rfl, hD, ⟨h1, h2⟩, ⟨h3, h4⟩, h5, ⟨h6, h7⟩, h8, q⟩ := hC
  refine jss_cons ?_
  refine js_v 6 ?_
  refine je_lstM ?_
  refine ja_nil ?_
  refine ⟨by show 0 ≤ sizeLine; decide, fun lf hlf => ?_⟩
  obtain ⟨hla, hlc⟩ := hD.fresh hlf
  refine jss_cons ?_
  refine js_forI (fun items i δ μ' => ∃ x7 x8 x9 x10 x11, δ = [some (.ref a), some (.int nt), some (.int ni), some (.int p), some (.int size), some (.int deep), some (.ref lf), x7, x8, x9, x10, x11] ∧ BlkI a c lf nt ni p deep μ μ' i ∧ items.length ≤ size) PassesOwn.never rfl ?_
  refine ji_range1 rfl B.range ?_
  refine je_add ?_
  refine je_int ?_
  refine je_d D_L_draw (hr.mono (by omega)) ?_
  refine ja_cons ?_
  refine je_v 0 ?_
  refine ja_cons ?_
  refine je_v 4 ?_
  refine ja_nil ?_
  refine ⟨rfl, a, c, _, rfl, hD.set hla hlc, by omega, by omega, fun n0 μ1 hn0 k1 => ?_⟩
  refine ⟨_, _, rfl, rfl, ?_⟩
  refine ⟨_, rfl, by omega, by omega, ?_⟩
  have hk0 : Keep a c μ (μ.set lf (.lst [])) := fun b x e1 e2 e3 => by
    rw [Sto.set_ne (fun e => by rw [e, hlf] at e3; cases e3)]; exact e3
  refine ⟨⟨none, none, none, none, none, rfl, ⟨[], ?_, fun x hx => (by simp at hx), Nat.zero_le _, k1.1, hk0.trans k1.2⟩, by rw [rgD_len]; omega⟩, fun _ _ _ _ => trivial, fun i d hd δ μ' hI => ?_, fun δ μ' hI => ?_⟩
  · exact k1.2 lf _ hla hlc Sto.set_same
  · obtain ⟨x7, x8, x9, x10, x11, rfl, ⟨its, hl1, hits, hlen, kk⟩, hil⟩ := hI
    have hi6 : i ≤ 6 := by
      have := (List.getElem?_eq_some_iff.mp hd).1
      omega
    refine jg_v 7 ?_
    refine jss_cons ?_
    refine js_v 8 ?_
    refine je_d D_L_draw (hr.mono (by omega)) ?_
    refine ja_cons ?_
    refine je_v 0 ?_
    refine ja_cons ?_
    refine je_int ?_
    refine ja_nil ?_
    refine ⟨rfl, a, c, _, rfl, kk.1, by decide, by decide, fun way μ2 _ k2 => ?_⟩
    have kk2 := kk.trans k2
    have hl2 : μ2 lf = some (.lst (Its.dts its)) := k2.2 lf _ hla hlc hl1
    -- the end of each way
    have fin : ∀ {μ3 : Sto} (xs : List It), DK a c μ2 μ3 → (∀ x ∈ xs, ItOk nt ni p deep x) → xs.length ≤ 2 → BlkI a c lf nt ni p deep μ (μ3.set lf (.lst (Its.dts its ++ Its.dts xs))) (i + 1) := fun xs k3 hx hxl =>
      blk_add (μ1 := μ) (k3.2 lf _ hla hlc hl2) hits hlen (kk2.trans k3) hla hlc hlf hx hxl
    have at3 : ∀ {μ3 : Sto}, DK a c μ2 μ3 → μ3 lf = some (.lst (Its.dts its)) := fun k3 => k3.2 lf _ hla hlc hl2
    have hs1 := its_small' hlen hi6
    refine jss_one ?_
    refine js_if ?_
    refine JT.imp (Q := fun b μ' => μ' = μ2 ∧ (b = true → 0 < deep)) ?_ fun b μ' ⟨eμ, hb⟩ => ?_
    · refine jt_w ?_
      refine jw_and ?_
      refine jt_c (jc_lt ?_)
      refine je_v 8 ?_
      refine je_int ?_
      refine ⟨_, _, rfl, rfl, ?_⟩
      refine ⟨_, rfl, ?_⟩
      refine ⟨fun h => ?_, fun h => ⟨rfl, fun h => (by cases h)⟩⟩
      refine jw_and1 ?_
      refine jt_c (jc_gt ?_)
      refine je_v 5 ?_
      refine je_int ?_
      refine ⟨_, _, rfl, rfl, ?_⟩
      refine ⟨_, rfl, rfl, fun h => ?_⟩
      have h' : (0 : Int) < (deep : Int) := of_decide_eq_true h
      omega
    subst eμ
    refine ⟨fun hT => ?_, fun hF => ?_⟩
    · have hdp := hb hT
      obtain ⟨D', eD⟩ : ∃ D', D = D' + 1 := ⟨D - 1, by omega⟩
      obtain ⟨deep', ed⟩ : ∃ d', deep = d' + 1 := ⟨deep - 1, by omega⟩
      refine jss_cons ?_
      refine js_v 9 ?_
      refine je_d D_L_pick (hr.mono (by omega)) ?_
      refine ja_cons ?_
      refine je_v 0 ?_
      refine ja_cons ?_
      refine je_tup ?_
      refine ja_cons ?_
      refine je_tup ?_
      refine ja_cons ?_
      refine je_tup ?_
      refine ja_cons ?_
      refine je_int ?_
      refine ja_cons ?_
      refine je_int ?_
      refine ja_nil ?_
      refine ⟨by show 2 ≤ sizeLine; decide, ?_⟩
      refine ja_nil ?_
      refine ⟨by show 1 ≤ sizeLine; decide, ?_⟩
      refine ja_cons ?_
      refine je_tup ?_
      refine ja_cons ?_
      refine je_tup ?_
      refine ja_cons ?_
      refine je_int ?_
      refine ja_cons ?_
      refine je_int ?_
      refine ja_nil ?_
      refine ⟨by show 2 ≤ sizeLine; decide, ?_⟩
      refine ja_nil ?_
      refine ⟨by show 1 ≤ sizeLine; decide, ?_⟩
      refine ja_cons ?_
      refine je_tup ?_
      refine ja_cons ?_
      refine je_tup ?_
      refine ja_cons ?_
      refine je_int ?_
      refine ja_cons ?_
      refine je_int ?_
      refine ja_nil ?_
      refine ⟨by show 2 ≤ sizeLine; decide, ?_⟩
      refine ja_nil ?_
      refine ⟨by show 1 ≤ sizeLine; decide, ?_⟩
      refine ja_cons ?_
      refine je_tup ?_
      refine ja_cons ?_
      refine je_tup ?_
      refine ja_cons ?_
      refine je_int ?_
      refine ja_cons ?_
      refine je_int ?_
      refine ja_nil ?_
      refine ⟨by show 2 ≤ sizeLine; decide, ?_⟩
      refine ja_cons ?_
      refine je_tup ?_
      refine ja_cons ?_
      refine je_int ?_
      refine ja_cons ?_
      refine je_int ?_
      refine ja_nil ?_
      refine ⟨by show 2 ≤ sizeLine; decide, ?_⟩
      refine ja_nil ?_
      refine ⟨by show 2 ≤ sizeLine; decide, ?_⟩
      refine ja_cons ?_
      refine je_tup ?_
      refine ja_cons ?_
      refine je_tup ?_
      refine ja_cons ?_
      refine je_int ?_
      refine ja_cons ?_
      refine je_int ?_
      refine ja_nil ?_
      refine ⟨by show 2 ≤ sizeLine; decide, ?_⟩
      refine ja_nil ?_
      refine ⟨by show 1 ≤ sizeLine; decide, ?_⟩
      refine ja_cons ?_
      refine je_un ?_
      refine je_unit ?_
      refine ⟨[], .inr ⟨[], rfl, rfl⟩, ?_⟩
      refine ja_nil ?_
      refine ⟨by show 6 ≤ sizeLine; decide, ?_⟩
      refine ja_nil ?_
      refine ⟨rfl, a, c, _, rfl, k2.1, .inl ⟨_, .inl rfl, by show 1 ≤ 6; decide, by show 6 ≤ 100000; decide, fun x hx μ3 k3 => ?_⟩⟩
      have hx' : ∃ q ∈ polyR, x = Pol.dt q := by
        simp only [List.mem_cons, List.not_mem_nil, or_false] at hx
        rcases hx with rfl | rfl | rfl | rfl | rfl | rfl
        · exact ⟨[(0, 1)], by simp [polyR], rfl⟩
        · exact ⟨[(0, 2)], by simp [polyR], rfl⟩
        · exact ⟨[(1, 1)], by simp [polyR], rfl⟩
        · exact ⟨[(0, 1), (1, 1)], by simp [polyR], rfl⟩
        · exact ⟨[(0, 3)], by simp [polyR], rfl⟩
        · exact ⟨[], by simp [polyR], rfl⟩
      obtain ⟨pq, hpq, rfl⟩ := hx'
      refine jss_one ?_
      refine js_expr ?_
      refine je_append ?_
      refine je_v 6 ?_
      refine ⟨_, rfl, ⟨_, at3 k3⟩, ?_⟩
      refine je_tup ?_
      refine ja_cons ?_
      refine je_str ?_
      refine ja_cons ?_
      refine je_v 9 ?_
      refine ja_cons ?_
      refine je_d (D_rec D' eD) hr ?_
      refine ja_cons ?_
      refine je_v 0 ?_
      refine ja_cons ?_
      refine je_v 1 ?_
      refine ja_cons ?_
      refine je_v 2 ?_
      refine ja_cons ?_
      refine je_v 3 ?_
      refine ja_cons ?_
      refine je_int ?_
      refine ja_cons ?_
      refine je_sub ?_
      refine je_v 5 ?_
      refine je_int ?_
      refine ⟨_, _, rfl, rfl, ?_⟩
      refine ja_nil ?_
      have edi : ((deep : Nat) : Int) - 1 = ((deep' : Nat) : Int) := by omega
      rw [edi]
      refine ⟨rfl, a, c, nt, ni, p, 3, deep', rfl, k3.1, ⟨h1, h2⟩, ⟨h3, h4⟩, h5, by decide, by omega, fun b2 μ4 hb2 hb2l k4 => ?_⟩
      refine ja_nil ?_
      refine ⟨by show 3 ≤ sizeLine; decide, ?_⟩
      have k34 := k3.trans k4
      refine ⟨_, at3 k34, hs1, ?_⟩
      refine ⟨_, _, _, _, _, rfl, fin [.rep pq b2] k34 (fun x hx => ?_) (by simp), hil⟩
      simp only [List.mem_singleton] at hx
      subst hx
      rw [ed]
      exact ⟨hpq, hb2l, hb2⟩
    · refine jss_one ?_
      refine js_if ?_
      refine JT.imp (Q := fun b μ'' => μ'' = μ' ∧ (b = true → 0 < p)) ?_ fun b μ'' ⟨eμ, hb⟩ => ?_
      · refine jt_w ?_
        refine jw_and ?_
        refine jt_c (jc_eqI ?_)
        refine je_v 8 ?_
        refine je_int ?_
        refine ⟨_, _, rfl, rfl, ?_⟩
        refine ⟨_, rfl, ?_⟩
        refine ⟨fun h => ?_, fun h => ⟨rfl, fun h => (by cases h)⟩⟩
        refine jw_and1 ?_
        refine jt_c (jc_gt ?_)
        refine je_v 3 ?_
        refine je_int ?_
        refine ⟨_, _, rfl, rfl, ?_⟩
        refine ⟨_, rfl, rfl, fun h => ?_⟩
        have h' : (0 : Int) < (p : Int) := of_decide_eq_true h
        omega
      subst eμ
      refine ⟨fun hT => ?_, fun hF => ?_⟩
      · have hp0 := hb hT
        refine jss_one ?_
        refine js_expr ?_
        refine je_append ?_
        refine je_v 6 ?_
        refine ⟨_, rfl, ⟨_, hl2⟩, ?_⟩
        refine je_tup ?_
        refine ja_cons ?_
        refine je_str ?_
        refine ja_cons ?_
        refine je_d D_L_draw (hr.mono (by omega)) ?_
        refine ja_cons ?_
        refine je_v 0 ?_
        refine ja_cons ?_
        refine je_v 3 ?_
        refine ja_nil ?_
        refine ⟨rfl, a, c, _, rfl, k2.1, by omega, by omega, fun r μ3 hr3 k3 => ?_⟩
        refine ja_nil ?_
        refine ⟨by show 2 ≤ sizeLine; decide, ?_⟩
        refine ⟨_, at3 k3, hs1, ?_⟩
        refine ⟨_, _, _, _, _, rfl, fin [.row (.cal r)] k3 (fun x hx => ?_) (by simp), hil⟩
        simp only [List.mem_singleton] at hx
        subst hx
        exact itok_row (show r < p by omega) rfl
      · refine jss_one ?_
        refine js_if ?_
        refine jt_c (jc_eqI ?_)
        refine je_v 8 ?_
        refine je_int ?_
        refine ⟨_, _, rfl, rfl, ?_⟩
        refine ⟨_, rfl, ?_⟩
        refine ⟨fun hT => ?_, fun hF => ?_⟩
        · refine jss_one ?_
          refine js_expr ?_
          refine je_append ?_
          refine je_v 6 ?_
          refine ⟨_, rfl, ⟨_, hl2⟩, ?_⟩
          refine je_tup ?_
          refine ja_cons ?_
          refine je_str ?_
          refine ja_nil ?_
          refine ⟨by show 1 ≤ sizeLine; decide, ?_⟩
          refine ⟨_, hl2, hs1, ?_⟩
          refine ⟨_, _, _, _, _, rfl, fin [.row (.jmp none)] k2.1.dk (fun x hx => ?_) (by simp), hil⟩
          simp only [List.mem_singleton] at hx
          subst hx
          exact itok_row trivial rfl
        · refine jss_one ?_
          refine js_if ?_
          refine jt_c (jc_inT ?_)
          refine je_v 8 ?_
          refine je_tup ?_
          refine ja_cons ?_
          refine je_int ?_
          refine ja_cons ?_
          refine je_int ?_
          refine ja_nil ?_
          refine ⟨by show 2 ≤ sizeLine; decide, ?_⟩
          refine ⟨_, rfl, rfl, rfl, ?_⟩
          refine ⟨_, rfl, ?_⟩
          refine ⟨fun hT => ?_, fun hF => ?_⟩
          · refine jss_one ?_
            refine js_expr ?_
            refine je_append ?_
            refine je_v 6 ?_
            refine ⟨_, rfl, ⟨_, hl2⟩, ?_⟩
            refine je_tup ?_
            refine ja_cons ?_
            refine je_str ?_
            refine ja_cons ?_
            refine je_d D_L_some_test (hr.mono (by omega)) ?_
            refine ja_cons ?_
            refine je_v 0 ?_
            refine ja_cons ?_
            refine je_v 1 ?_
            refine ja_cons ?_
            refine je_v 2 ?_
            refine ja_cons ?_
            refine je_d D_L_pick (hr.mono (by omega)) ?_
            refine ja_cons ?_
            refine je_v 0 ?_
            refine ja_cons ?_
            refine je_tup ?_
            refine ja_cons ?_
            refine je_int ?_
            refine ja_cons ?_
            refine je_int ?_
            refine ja_cons ?_
            refine je_int ?_
            refine ja_nil ?_
            refine ⟨by show 3 ≤ sizeLine; decide, ?_⟩
            refine ja_nil ?_
            refine ⟨rfl, a, c, _, rfl, k2.1, .inl ⟨_, .inl rfl, by show 1 ≤ 3; decide, by show 3 ≤ 100000; decide, fun x hx μ3 k3 => ?_⟩⟩
            have hx' : ∃ dd : Nat, x = .int (dd : Nat) ∧ dd ≤ 5 := by
              simp only [List.mem_cons, List.not_mem_nil, or_false] at hx
              rcases hx with rfl | rfl | rfl
              · exact ⟨2, rfl, by decide⟩
              · exact ⟨2, rfl, by decide⟩
              · exact ⟨5, rfl, by decide⟩
            obtain ⟨dd, rfl, hdd⟩ := hx'
            refine ja_nil ?_
            refine ⟨rfl, a, c, nt, ni, dd, rfl, k3.1, h1, h2, h3, h4, hdd, fun t μ4 ht htd k4 => ?_⟩
            refine ja_nil ?_
            refine ⟨by show 2 ≤ sizeLine; decide, ?_⟩
            have k34 := k3.trans k4
            refine ⟨_, at3 k34, hs1, ?_⟩
            refine ⟨_, _, _, _, _, rfl, fin [.row (.unl t none)] k34 (fun x hx => ?_) (by simp), hil⟩
            simp only [List.mem_singleton] at hx
            subst hx
            exact itok_row ⟨ht, by omega⟩ rfl
          · refine jss_one ?_
            refine js_if ?_
            refine jt_c (jc_eqI ?_)
            refine je_v 8 ?_
            refine je_int ?_
            refine ⟨_, _, rfl, rfl, ?_⟩
            refine ⟨_, rfl, ?_⟩
            refine ⟨fun hT => ?_, fun hF => ?_⟩
            · refine jss_cons ?_
              refine js_v 10 ?_
              refine je_lst ?_
              refine ja_cons ?_
              refine je_tup ?_
              refine ja_cons ?_
              refine je_str ?_
              refine ja_cons ?_
              refine je_d D_L_pick (hr.mono (by omega)) ?_
              refine ja_cons ?_
              refine je_v 0 ?_
              refine ja_cons ?_
              refine je_tup ?_
              refine ja_cons ?_
              refine je_str ?_
              refine ja_cons ?_
              refine je_str ?_
              refine ja_nil ?_
              refine ⟨by show 2 ≤ sizeLine; decide, ?_⟩
              refine ja_nil ?_
              refine ⟨rfl, a, c, _, rfl, k2.1, .inl ⟨_, .inl rfl, by show 1 ≤ 2; decide, by show 2 ≤ 100000; decide, fun x hx μ3 k3 => ?_⟩⟩
              have hx' : ∃ pl ∈ players, x = .str pl := by
                simp only [List.mem_cons, List.not_mem_nil, or_false] at hx
                rcases hx with rfl | rfl
                · exact ⟨"one", by decide, rfl⟩
                · exact ⟨"two", by decide, rfl⟩
              obtain ⟨pl, hpl, rfl⟩ := hx'
              refine ja_nil ?_
              refine ⟨by show 2 ≤ sizeLine; decide, ?_⟩
              refine ja_nil ?_
              refine ⟨by show 1 ≤ sizeLine; decide, ?_⟩
              refine jss_one ?_
              refine js_expr ?_
              refine je_extend ?_
              refine je_v 6 ?_
              refine ⟨_, rfl, ⟨_, at3 k3⟩, ?_⟩
              refine je_ifexp ?_
              refine jt_c (jc_gt ?_)
              refine je_d D_L_draw (hr.mono (by omega)) ?_
              refine ja_cons ?_
              refine je_v 0 ?_
              refine ja_cons ?_
              refine je_int ?_
              refine ja_nil ?_
              refine ⟨rfl, a, c, _, rfl, k3.1, by decide, by decide, fun n4 μ4 _ k4 => ?_⟩
              have k34 := k3.trans k4
              refine je_int ?_
              refine ⟨_, _, rfl, rfl, ?_⟩
              refine ⟨_, rfl, ?_⟩
              refine ⟨fun hT => ?_, fun hF => ?_⟩
              · refine je_catL ?_
                refine je_lst ?_
                refine ja_cons ?_
                refine je_tup ?_
                refine ja_cons ?_
                refine je_str ?_
                refine ja_cons ?_
                refine je_d D_L_some_test (hr.mono (by omega)) ?_
                refine ja_cons ?_
                refine je_v 0 ?_
                refine ja_cons ?_
                refine je_v 1 ?_
                refine ja_cons ?_
                refine je_v 2 ?_
                refine ja_cons ?_
                refine je_int ?_
                refine ja_nil ?_
                refine ⟨rfl, a, c, nt, ni, 2, rfl, k34.1, h1, h2, h3, h4, by decide, fun t μ5 ht htd k5 => ?_⟩
                refine ja_nil ?_
                refine ⟨by show 2 ≤ sizeLine; decide, ?_⟩
                refine ja_nil ?_
                refine ⟨by show 1 ≤ sizeLine; decide, ?_⟩
                refine je_v 10 ?_
                refine ⟨_, _, .inl rfl, .inl rfl, by show 2 ≤ sizeLine; decide, ?_⟩
                have k345 := k34.trans k5
                refine ⟨_, _, at3 k345, .inl rfl, its_small hlen hi6 2 (by decide), ?_⟩
                refine ⟨_, _, _, _, _, rfl, fin [.row (.unl t none), .row (.win pl)] k345 (fun x hx => ?_) (by simp), hil⟩
                simp only [List.mem_cons, List.not_mem_nil, or_false] at hx
                rcases hx with rfl | rfl
                · exact itok_row ⟨ht, by omega⟩ rfl
                · exact itok_row hpl rfl
              · refine je_v 10 ?_
                refine ⟨_, _, at3 k34, .inl rfl, its_small hlen hi6 1 (by decide), ?_⟩
                refine ⟨_, _, _, _, _, rfl, fin [.row (.win pl)] k34 (fun x hx => ?_) (by simp), hil⟩
                simp only [List.mem_singleton] at hx
                subst hx
                exact itok_row hpl rfl
            · refine jss_one ?_
              refine js_if ?_
              refine JT.imp (Q := fun b μ3 => μ3 = μ'' ∧ (b = true → 1 < nt)) ?_ fun b μ3 ⟨eμ, hb⟩ => ?_
              · refine jt_w ?_
                refine jw_and ?_
                refine jt_c (jc_inT ?_)
                refine je_v 8 ?_
                refine je_tup ?_
                refine ja_cons ?_
                refine je_int ?_
                refine ja_cons ?_
                refine je_int ?_
                refine ja_cons ?_
                refine je_int ?_
                refine ja_cons ?_
                refine je_int ?_
                refine ja_nil ?_
                refine ⟨by show 4 ≤ sizeLine; decide, ?_⟩
                refine ⟨_, rfl, rfl, rfl, ?_⟩
                refine ⟨_, rfl, ?_⟩
                refine ⟨fun h => ?_, fun h => ⟨rfl, fun h => (by cases h)⟩⟩
                refine jw_and1 ?_
                refine jt_c (jc_gt ?_)
                refine je_v 1 ?_
                refine je_int ?_
                refine ⟨_, _, rfl, rfl, ?_⟩
                refine ⟨_, rfl, rfl, fun h => ?_⟩
                have h' : (1 : Int) < (nt : Int) := of_decide_eq_true h
                omega
              subst eμ
              refine ⟨fun hT => ?_, fun hF => ?_⟩
              · have hnt := hb hT
                refine jss_cons ?_
                refine js_v 11 ?_
                refine je_d D_L_pick (hr.mono (by omega)) ?_
                refine ja_cons ?_
                refine je_v 0 ?_
                refine ja_cons ?_
                refine je_tup ?_
                refine ja_cons ?_
                refine je_str ?_
                refine ja_cons ?_
                refine je_str ?_
                refine ja_cons ?_
                refine je_str ?_
                refine ja_cons ?_
                refine je_str ?_
                refine ja_cons ?_
                refine je_str ?_
                refine ja_cons ?_
                refine je_str ?_
                refine ja_cons ?_
                refine je_str ?_
                refine ja_nil ?_
                refine ⟨by show 7 ≤ sizeLine; decide, ?_⟩
                refine ja_nil ?_
                refine ⟨rfl, a, c, _, rfl, k2.1, .inl ⟨_, .inl rfl, by show 1 ≤ 7; decide, by show 7 ≤ 100000; decide, fun x hx μ4 k4 => ?_⟩⟩
                have hx' : ∃ ls ∈ letters2, x = .str ls := by
                  simp only [List.mem_cons, List.not_mem_nil, or_false] at hx
                  rcases hx with rfl | rfl | rfl | rfl | rfl | rfl | rfl <;> exact ⟨_, by decide, rfl⟩
                obtain ⟨ls, hls, rfl⟩ := hx'
                refine jss_one ?_
                refine js_expr ?_
                refine je_append ?_
                refine je_v 6 ?_
                refine ⟨_, rfl, ⟨_, at3 k4⟩, ?_⟩
                refine je_tup ?_
                refine ja_cons ?_
                refine je_str ?_
                refine ja_cons ?_
                refine je_d D_L_pick (hr.mono (by omega)) ?_
                refine ja_cons ?_
                refine je_v 0 ?_
                refine ja_cons ?_
                refine je_tup ?_
                refine ja_cons ?_
                refine je_str ?_
                refine ja_cons ?_
                refine je_str ?_
                refine ja_nil ?_
                refine ⟨by show 2 ≤ sizeLine; decide, ?_⟩
                refine ja_nil ?_
                refine ⟨rfl, a, c, _, rfl, k4.1, .inl ⟨_, .inl rfl, by show 1 ≤ 2; decide, by show 2 ≤ 100000; decide, fun x hx μ5 k5 => ?_⟩⟩
                have hx' : ∃ pl ∈ players, x = .str pl := by
                  simp only [List.mem_cons, List.not_mem_nil, or_false] at hx
                  rcases hx with rfl | rfl
                  · exact ⟨"one", by decide, rfl⟩
                  · exact ⟨"two", by decide, rfl⟩
                obtain ⟨pl, hpl, rfl⟩ := hx'
                refine ja_cons ?_
                refine je_add ?_
                refine je_int ?_
                refine je_d D_L_draw (hr.mono (by omega)) ?_
                refine ja_cons ?_
                refine je_v 0 ?_
                refine ja_cons ?_
                refine je_sub ?_
                refine je_v 1 ?_
                refine je_int ?_
                refine ⟨_, _, rfl, rfl, ?_⟩
                refine ja_nil ?_
                refine ⟨rfl, a, c, _, rfl, k5.1, by omega, by omega, fun t6 μ6 ht6 k6 => ?_⟩
                refine ⟨_, _, rfl, rfl, ?_⟩
                have et : (1 : Int) + (t6 : Nat) = ((1 + t6 : Nat) : Int) := by omega
                rw [et]
                refine ja_cons ?_
                refine je_d D_L_draw (hr.mono (by omega)) ?_
                refine ja_cons ?_
                refine je_v 0 ?_
                refine ja_cons ?_
                refine je_v 2 ?_
                refine ja_nil ?_
                refine ⟨rfl, a, c, _, rfl, k6.1, by omega, by omega, fun i7 μ7 hi7 k7 => ?_⟩
                refine ja_cons ?_
                refine je_v 11 ?_
                refine ja_nil ?_
                refine ⟨by show 5 ≤ sizeLine; decide, ?_⟩
                have kk4 := ((k4.trans k5).trans k6).trans k7
                refine ⟨_, at3 kk4, hs1, ?_⟩
                refine ⟨_, _, _, _, _, rfl, fin [.row (.cho pl (1 + t6) i7 ls)] kk4 (fun x hx => ?_) (by simp), hil⟩
                simp only [List.mem_singleton] at hx
                subst hx
                exact itok_row ⟨hpl, by omega, by omega, by omega, hls⟩ rfl
              · refine jss_one ?_
                refine js_expr ?_
                refine je_append ?_
                refine je_v 6 ?_
                refine ⟨_, rfl, ⟨_, hl2⟩, ?_⟩
                refine je_d D_L_simple (hr.mono (by omega)) ?_
                refine ja_cons ?_
                refine je_v 0 ?_
                refine ja_cons ?_
                refine je_v 1 ?_
                refine ja_cons ?_
                refine je_v 2 ?_
                refine ja_nil ?_
                refine ⟨rfl, a, c, nt, ni, rfl, k2.1, h1, h2, h3, h4, fun r μ4 hro hrp k4 => ?_⟩
                refine ⟨_, at3 k4, hs1, ?_⟩
                refine ⟨_, _, _, _, _, rfl, fin [.row r] k4 (fun x hx => ?_) (by simp), hil⟩
                simp only [List.mem_singleton] at hx
                subst hx
                exact itok_row (hro p) (plain_pre hrp)
  · obtain ⟨x7, x8, x9, x10, x11, rfl, ⟨its, hl1, hits, hlen, kk⟩, hil⟩ := hI
    refine jss_one ?_
    refine js_ret ?_
    refine je_pub ?_
    refine je_v 6 ?_
    refine ⟨_, _, rfl, hl1, ?_⟩
    refine q its _ hits (by omega) ⟨?_, fun b x e1 e2 e3 => ?_⟩
    · obtain ⟨g0, xs, m, k, g1, g2, g3⟩ := kk.1
      exact ⟨g0, xs, m, k, by show (if a = lf then none else μ' a) = _; rw [if_neg (Ne.symm hla)]; exact g1, by show (if c = lf then none else μ' c) = _; rw [if_neg (Ne.symm hlc)]; exact g2, g3⟩
    · have hne : b ≠ lf := fun e => by rw [e, hlf] at e3; cases e3
      show (if b = lf then none else μ' b) = _
      rw [if_neg hne]
      exact kk.2 b x e1 e2 e3
theorem all_block (B : Tops w K mg) (R : Raw K mg "_law_block" s_L_block ["_law_deck_here", "_law_tapes", "_law_indexes", "_law_p", "_law_size", "_law_deep"]) (D_L_draw : Def P w K mg base 1 "_law_draw" ["_law_deck_here", "_law_many"] C_L_draw)
    (D_L_pick : Def P w K mg base 2 "_law_pick" ["_law_deck_here", "_law_some"] C_L_pick) (D_L_some_test : Def P w K mg base 8 "_law_some_test" ["_law_deck_here", "_law_tapes", "_law_indexes", "_law_deep"] (C_L_some_test 5))
    (D_L_simple : Def P w K mg base 3 "_law_simple" ["_law_deck_here", "_law_tapes", "_law_indexes"] C_L_simple) :
    ∀ D : Nat, Def P w K mg base (9 + D) "_law_block" ["_law_deck_here", "_law_tapes", "_law_indexes", "_law_p", "_law_size", "_law_deep"] (C_L_block D)
  | 0 => ok_L_block B R D_L_draw D_L_pick D_L_some_test D_L_simple 0 fun D' e => by omega
  | D + 1 => ok_L_block B R D_L_draw D_L_pick D_L_some_test D_L_simple (D + 1) fun D' e => by
    have e' : D' = D := by omega
    subst e'
    have e2 : 8 + (D' + 1) = 9 + D' := by omega
    rw [e2]
    exact all_block B R D_L_draw D_L_pick D_L_some_test D_L_simple D'
end
end K27
end FO_
section FP_
/-! The walk, sixteenth part: a block laid out as rows. -/
namespace K27
open PySem PySem.Spec PyProof.Rows L2
mutual
def It.lay : Nat → It → List Row
  | _, .row r => [r]
  | n, .rep p b => .rep p (n + 1 + (Its.lay (n + 1) b).length) :: (Its.lay (n + 1) b ++ [.agn n])
def Its.lay : Nat → List It → List Row
  | _, [] => []
  | n, x :: r => It.lay n x ++ Its.lay (n + (It.lay n x).length) r
end
theorem lay_append (n : Nat) (xs ys : List It) : Its.lay n (xs ++ ys) = Its.lay n xs ++ Its.lay (n + (Its.lay n xs).length) ys := by
  induction xs generalizing n with
  | nil => simp [Its.lay]
  | cons x xs ih =>
    rw [List.cons_append, Its.lay, Its.lay, ih, List.append_assoc, List.length_append, Nat.add_assoc]
theorem lay_succ {n i : Nat} {its : List It} {x : It} (h : its[i]? = some x) : Its.lay n (its.take (i + 1)) = Its.lay n (its.take i) ++ It.lay (n + (Its.lay n (its.take i)).length) x := by
  rw [take_succ' h, lay_append]
  simp [Its.lay]
theorem lay_pre (n : Nat) (its : List It) (i : Nat) : (Its.lay n (its.take i)).length ≤ (Its.lay n its).length := by
  conv => rhs; rw [← List.take_append_drop i its, lay_append, List.length_append]
  omega
theorem dts_app (a b : List Row) : Rows.dts (a ++ b) = Rows.dts a ++ Rows.dts b := by unfold Rows.dts; rw [List.map_append]
section
variable {P : Program} {w : World} {K : PySem.W.Frag} {mg : Str → Option Value} {base : Heap}
abbrev C_L_laid (D : Nat) : Ct := fun ds μ Q => ∃ its xs l, ∃ nt ni p : Nat, ds = [.lst (Its.dts its), .ref l] ∧ μ l = some (.lst xs) ∧ (∀ x ∈ its, ItOk nt ni p D x) ∧ xs.length + (Its.lay xs.length its).length ≤ 1000 ∧ Q .non (μ.set l (.lst (xs ++ Rows.dts (Its.lay xs.length its))))
theorem ok_L_laid (B : Tops w K mg) (R : Raw K mg "_law_laid" s_L_laid ["_law_block_here", "_law_rows"]) (D : Nat) (D_rec : ∀ D', D = D' + 1 → Def P w K mg base D "_law_laid" ["_law_block_here", "_law_rows"] (C_L_laid D')) :
    Def P w K mg base (1 + D) "_law_laid" ["_law_block_here", "_law_rows"] (C_L_laid D) := by
  have nd := sc_L_laid.nd
  have e1 : 1 + D = D + 1 := by omega
  rw [e1]
  refine def_mk R sc_L_laid fun f cdv A outer s H E hr ds μ Q hl hC => ?_
  obtain ⟨its, xs, l, nt, ni, p, rfl, hL, hits, hlen, q⟩ := hC
  have hxl : xs.length ≤ 1000 := by omega
  refine jss_one ?_
  refine js_forI (fun items i δ μ' => ∃ x2 x3, δ = [some (.lst (Its.dts its)), some (.ref l), x2, x3] ∧ μ' = μ.set l (.lst (xs ++ Rows.dts (Its.lay xs.length (its.take i))))) PassesOwn.never rfl ?_
  refine ji_lst ?_
  refine je_v 0 ?_
  refine ⟨_, rfl, ?_⟩
  refine ⟨⟨none, none, rfl, ?_⟩, fun _ _ _ _ => trivial, fun i d hd δ μ' hI => ?_, fun δ μ' hI => ?_⟩
  · rw [List.take_zero]
    show μ = μ.set l (.lst (xs ++ []))
    rw [List.append_nil, Sto.set_eq hL]
  · obtain ⟨x2, x3, rfl, rfl⟩ := hI
    rw [its_map, List.getElem?_map] at hd
    obtain ⟨x, hx, rfl⟩ := Option.map_eq_some_iff.mp hd
    have hok := hits x (List.mem_of_getElem? hx)
    have hpre := lay_pre xs.length its (i + 1)
    have hsu := lay_succ (n := xs.length) hx
    generalize hcur : Its.lay xs.length (its.take i) = cur at hsu
    rw [hsu, List.length_append] at hpre
    have ecl : (xs ++ Rows.dts cur).length = xs.length + cur.length := by rw [List.length_append, dts_len]
    refine jg_v 2 ?_
    cases x with
    | row r =>
      obtain ⟨_, hpr⟩ := itok_row' hok
      refine jss_one ?_
      refine js_if ?_
      refine jt_c (jc_eqS ?_)
      refine je_at ?_
      refine je_v 2 ?_
      refine je_int ?_
      refine ⟨_, _, _, .inl (.inl rfl), rfl, at0, ?_⟩
      refine je_str ?_
      refine ⟨_, _, rfl, rfl, ?_⟩
      refine ⟨_, rfl, ?_⟩
      refine ⟨fun hT => ?_, fun hF => ?_⟩
      · obtain ⟨p', k, rfl⟩ := name_rep (of_decide_eq_true hT)
        cases hpr
      · refine jss_one ?_
        refine js_expr ?_
        refine je_append ?_
        refine je_v 1 ?_
        refine ⟨_, rfl, ⟨_, Sto.set_same⟩, ?_⟩
        refine je_v 2 ?_
        refine ⟨_, Sto.set_same, ?_, ?_⟩
        · rw [ecl]
          show _ < 2 ^ 24
          have := lay_pre xs.length its i
          rw [hcur] at this
          omega
        · refine ⟨_, _, rfl, ?_⟩
          rw [Sto.set_set, hsu, dts_app, ← List.append_assoc]
          simp only [It.lay]
          rfl
    | rep pq b =>
      cases D with
      | zero => exact hok.elim
      | succ D' =>
        obtain ⟨hq1, hq2, hb⟩ := hok
        simp only [It.lay, List.length_cons, List.length_append, List.length_nil] at hpre
        refine jss_one ?_
        refine js_if ?_
        refine jt_c (jc_eqS ?_)
        refine je_at ?_
        refine je_v 2 ?_
        refine je_int ?_
        refine ⟨_, _, _, .inl (.inl rfl), rfl, at0, ?_⟩
        refine je_str ?_
        refine ⟨_, _, rfl, rfl, ?_⟩
        refine ⟨_, rfl, ?_⟩
        refine ⟨fun hT => ?_, fun hF => absurd rfl (of_decide_eq_false hF)⟩
        refine jss_cons ?_
        refine js_v 3 ?_
        refine je_lenB B.len ?_
        refine je_v 1 ?_
        refine ⟨_, .inr ⟨_, .inr (.inr ⟨_, rfl, Sto.set_same⟩), rfl⟩, ?_⟩
        rw [ecl]
        refine jss_cons ?_
        refine js_expr ?_
        refine je_append ?_
        refine je_v 1 ?_
        refine ⟨_, rfl, ⟨_, Sto.set_same⟩, ?_⟩
        refine je_v 2 ?_
        refine ⟨_, Sto.set_same, by rw [ecl]; show _ < 2 ^ 24; omega, ?_⟩
        rw [Sto.set_set]
        refine jss_cons ?_
        refine js_expr ?_
        refine je_d (D_rec D' rfl) hr ?_
        refine ja_cons ?_
        refine je_at ?_
        refine je_v 2 ?_
        refine je_int ?_
        refine ⟨_, _, _, .inl (.inl rfl), rfl, at2, ?_⟩
        refine ja_cons ?_
        refine je_v 1 ?_
        refine ja_nil ?_
        have ecl2 : (xs ++ Rows.dts cur ++ [(It.rep pq b).dt]).length = xs.length + cur.length + 1 := by rw [List.length_append, ecl]; rfl
        refine ⟨rfl, b, _, l, nt, ni, p, rfl, Sto.set_same, hb, by rw [ecl2]; omega, ?_⟩
        rw [Sto.set_set, ecl2]
        generalize hbody : Its.lay (xs.length + cur.length + 1) b = body at hpre
        have ecl3 : (xs ++ Rows.dts cur ++ [(It.rep pq b).dt] ++ Rows.dts body).length = xs.length + cur.length + 1 + body.length := by rw [List.length_append, ecl2, dts_len]
        refine jss_cons ?_
        refine js_setL ?_
        refine je_tup ?_
        refine ja_cons ?_
        refine je_str ?_
        refine ja_cons ?_
        refine je_at ?_
        refine je_v 2 ?_
        refine je_int ?_
        refine ⟨_, _, _, .inl (.inl rfl), rfl, at1, ?_⟩
        refine ja_cons ?_
        refine je_lenB B.len ?_
        refine je_v 1 ?_
        refine ⟨_, .inr ⟨_, .inr (.inr ⟨_, rfl, Sto.set_same⟩), rfl⟩, ?_⟩
        rw [ecl3]
        refine ja_nil ?_
        refine ⟨by show 3 ≤ sizeLine; decide, ?_⟩
        refine je_v 1 ?_
        refine je_v 3 ?_
        refine ⟨_, _, _, xs.length + cur.length, rfl, rfl, Sto.set_same, ?_, ?_⟩
        · unfold ixN
          rw [if_pos (by omega), if_pos (by rw [ecl3]; omega), Int.toNat_natCast]
        have eset : (xs ++ Rows.dts cur ++ [(It.rep pq b).dt] ++ Rows.dts body).set (xs.length + cur.length) (Dt.tup [.str "repeat", Pol.dt pq, .int ((xs.length + cur.length + 1 + body.length : Nat))]) =
            xs ++ Rows.dts cur ++ [(Row.rep pq (xs.length + cur.length + 1 + body.length)).dt] ++ Rows.dts body := by
          rw [List.append_assoc (xs ++ Rows.dts cur), List.set_append_right _ _ (by rw [ecl]; omega), ecl, Nat.sub_self, List.append_assoc (xs ++ Rows.dts cur)]
          rfl
        rw [Sto.set_set, eset]
        refine jss_one ?_
        refine js_expr ?_
        refine je_append ?_
        refine je_v 1 ?_
        refine ⟨_, rfl, ⟨_, Sto.set_same⟩, ?_⟩
        refine je_tup ?_
        refine ja_cons ?_
        refine je_str ?_
        refine ja_cons ?_
        refine je_v 3 ?_
        refine ja_nil ?_
        refine ⟨by show 2 ≤ sizeLine; decide, ?_⟩
        refine ⟨_, Sto.set_same, ?_, ?_⟩
        · rw [List.length_append, List.length_append, ecl, dts_len]
          show _ < 2 ^ 24
          simp only [List.length_singleton]
          omega
        · refine ⟨_, _, rfl, ?_⟩
          rw [Sto.set_set, hsu, dts_app]
          have e5 : It.lay (xs.length + cur.length) (.rep pq b) = .rep pq (xs.length + cur.length + 1 + body.length) :: (body ++ [.agn (xs.length + cur.length)]) := by
            simp only [It.lay]
            rw [hbody]
          rw [e5]
          unfold Rows.dts
          rw [List.map_cons, List.map_append, List.append_assoc, List.append_assoc, List.append_assoc]
          rfl
  · obtain ⟨x2, x3, rfl, rfl⟩ := hI
    rw [its_map, List.length_map, List.take_length]
    exact q
theorem all_laid (B : Tops w K mg) (R : Raw K mg "_law_laid" s_L_laid ["_law_block_here", "_law_rows"]) : ∀ D : Nat, Def P w K mg base (1 + D) "_law_laid" ["_law_block_here", "_law_rows"] (C_L_laid D)
  | 0 => ok_L_laid B R 0 fun D' e => by omega
  | D + 1 => ok_L_laid B R (D + 1) fun D' e => by
    have e' : D' = D := by omega
    subst e'
    have e2 : D' + 1 = 1 + D' := by omega
    rw [e2]
    exact all_laid B R D'
end
end K27
end FP_
section MN_
/-! Plain mathematics, sixth part: rows well nested. -/
namespace K27
open PySem PySem.Spec PyProof.Rows L2
/-- how many repeats of a stretch are around a place -/
def cnt (R : List Row) (n m at_ : Nat) : Nat := ((List.range' n m).filter fun r => decide (r < at_) && inside R at_ r).length
theorem cnt_app (R : List Row) (n m1 m2 at_ : Nat) : cnt R n (m1 + m2) at_ = cnt R n m1 at_ + cnt R (n + m1) m2 at_ := by
  unfold cnt
  have e : List.range' n (m1 + m2) = List.range' n m1 ++ List.range' (n + m1) m2 := by
    rw [List.range'_append_1]
  rw [e, List.filter_append, List.length_append]
theorem cnt_zero {R : List Row} {n m at_ : Nat} (h : ∀ r, n ≤ r → r < n + m → ¬ (r < at_ ∧ inside R at_ r = true)) : cnt R n m at_ = 0 := by
  unfold cnt
  rw [List.length_eq_zero_iff, List.filter_eq_nil_iff]
  intro r hr
  obtain ⟨h1, h2⟩ := List.mem_range'_1.mp hr
  rw [Bool.and_eq_true_iff]
  intro ⟨h3, h4⟩
  exact h r h1 h2 ⟨of_decide_eq_true h3, h4⟩
theorem around_cnt {R : List Row} {at_ : Nat} (h : at_ ≤ R.length) : (around R at_).length = cnt R 0 R.length at_ := by
  unfold cnt around
  rw [← List.range_eq_range', range_filter (inside R at_) at_ R.length h]
/-- the rows from n on, m of them, are well nested, at most d deep -/
structure SegOk (R : List Row) (n m d : Nat) : Prop where
  rp : ∀ (at_ : Nat) (p : Pol) (k : Nat), n ≤ at_ → at_ < n + m → R[at_]? = some (.rep p k) → at_ < k ∧ k < n + m ∧ R[k]? = some (.agn at_)
  ag : ∀ (at_ a : Nat), n ≤ at_ → at_ < n + m → R[at_]? = some (.agn a) → n ≤ a ∧ a < at_ ∧ ∃ p, R[a]? = some (.rep p at_)
  lam : ∀ (e at_ : Nat) (pe : Pol) (ke : Nat) (pa : Pol) (ka : Nat), n ≤ e → e < at_ → at_ < n + m → R[e]? = some (.rep pe ke) → R[at_]? = some (.rep pa ka) → at_ ≤ ke → ka ≤ ke
  dep : ∀ at_, cnt R n m at_ ≤ d
theorem inside_iff {R : List Row} {at_ r : Nat} : inside R at_ r = true ↔ ∃ k, endOf R r = some k ∧ at_ ≤ k := by
  unfold inside
  cases e : endOf R r with
  | none => simp
  | some k => simp
theorem SegOk.nil {R : List Row} {n d : Nat} : SegOk R n 0 d :=
  ⟨fun at_ p k h1 h2 => by omega, fun at_ a h1 h2 => by omega, fun e at_ pe ke pa ka h1 h2 h3 => by omega, fun at_ => by
    rw [cnt_zero fun r h1 h2 => by omega]; exact Nat.zero_le _⟩
theorem SegOk.cat {R : List Row} {n m1 m2 d : Nat} (h : SegOk R n m1 d) (h' : SegOk R (n + m1) m2 d) : SegOk R n (m1 + m2) d where
  rp at_ p k h1 h2 e := by
    rcases Nat.lt_or_ge at_ (n + m1) with hl | hl
    · obtain ⟨a1, a2, a3⟩ := h.rp at_ p k h1 hl e
      exact ⟨a1, by omega, a3⟩
    · obtain ⟨a1, a2, a3⟩ := h'.rp at_ p k hl (by omega) e
      exact ⟨a1, by omega, a3⟩
  ag at_ a h1 h2 e := by
    rcases Nat.lt_or_ge at_ (n + m1) with hl | hl
    · exact h.ag at_ a h1 hl e
    · obtain ⟨a1, a2, a3⟩ := h'.ag at_ a hl (by omega) e
      exact ⟨by omega, a2, a3⟩
  lam e at_ pe ke pa ka h1 h2 h3 e1 e2 h4 := by
    rcases Nat.lt_or_ge e (n + m1) with hl | hl
    · obtain ⟨a1, a2, a3⟩ := h.rp e pe ke h1 hl e1
      exact h.lam e at_ pe ke pa ka h1 h2 (by omega) e1 e2 h4
    · exact h'.lam e at_ pe ke pa ka hl h2 (by omega) e1 e2 h4
  dep at_ := by
    rw [cnt_app]
    rcases Nat.lt_or_ge (n + m1) at_ with hl | hl
    · rw [cnt_zero (n := n) (m := m1) fun r h1 h2 ⟨_, h4⟩ => by
        obtain ⟨k, h5, h6⟩ := inside_iff.mp h4
        obtain ⟨p, h7, _, _⟩ := endOf_some h5
        have := (h.rp r p k h1 h2 h7).2.1
        omega, Nat.zero_add]
      exact h'.dep at_
    · rw [cnt_zero (n := n + m1) (m := m2) fun r h1 h2 ⟨h3, _⟩ => by omega, Nat.add_zero]
      exact h.dep at_
theorem SegOk.one {R : List Row} {n d : Nat} {r : Row} (h : R[n]? = some r) (h1 : ∀ p k, r ≠ .rep p k) (h2 : ∀ k, r ≠ .agn k) : SegOk R n 1 d where
  rp at_ p k a1 a2 e := by
    have : at_ = n := by omega
    subst this
    rw [h] at e
    cases e
    exact absurd rfl (h1 p k)
  ag at_ a a1 a2 e := by
    have : at_ = n := by omega
    subst this
    rw [h] at e
    cases e
    exact absurd rfl (h2 a)
  lam e at_ pe ke pa ka a1 a2 a3 := by omega
  dep at_ := by
    rw [cnt_zero fun r' a1 a2 ⟨_, h4⟩ => by
      have : r' = n := by omega
      subst this
      obtain ⟨k, h5, h6⟩ := inside_iff.mp h4
      obtain ⟨p, h7, _, _⟩ := endOf_some h5
      rw [h] at h7
      cases h7
      exact absurd rfl (h1 p k)]
    exact Nat.zero_le _
theorem SegOk.loop {R : List Row} {n m d : Nat} {p : Pol} (h0 : R[n]? = some (.rep p (n + 1 + m))) (hb : SegOk R (n + 1) m d) (h1 : R[n + 1 + m]? = some (.agn n)) : SegOk R n (m + 2) (d + 1) where
  rp at_ q k a1 a2 e := by
    rcases Nat.lt_or_ge n at_ with hl | hl
    · rcases Nat.lt_or_ge at_ (n + 1 + m) with hl2 | hl2
      · obtain ⟨b1, b2, b3⟩ := hb.rp at_ q k (by omega) hl2 e
        exact ⟨b1, by omega, b3⟩
      · have : at_ = n + 1 + m := by omega
        subst this
        rw [h1] at e; cases e
    · have : at_ = n := by omega
      subst this
      rw [h0] at e
      cases e
      exact ⟨by omega, by omega, h1⟩
  ag at_ a a1 a2 e := by
    rcases Nat.lt_or_ge n at_ with hl | hl
    · rcases Nat.lt_or_ge at_ (n + 1 + m) with hl2 | hl2
      · obtain ⟨b1, b2, b3⟩ := hb.ag at_ a (by omega) hl2 e
        exact ⟨by omega, b2, b3⟩
      · have : at_ = n + 1 + m := by omega
        subst this
        rw [h1] at e
        cases e
        exact ⟨Nat.le_refl _, by omega, p, h0⟩
    · have : at_ = n := by omega
      subst this
      rw [h0] at e; cases e
  lam e at_ pe ke pa ka a1 a2 a3 e1 e2 a4 := by
    have hat : at_ < n + 1 + m := by
      rcases Nat.lt_or_ge at_ (n + 1 + m) with hl | hl
      · exact hl
      · have : at_ = n + 1 + m := by omega
        subst this
        rw [h1] at e2; cases e2
    rcases Nat.lt_or_ge n e with hl | hl
    · exact hb.lam e at_ pe ke pa ka (by omega) a2 hat e1 e2 a4
    · have : e = n := by omega
      subst this
      rw [h0] at e1
      cases e1
      have := (hb.rp at_ pa ka (by omega) hat e2).2.1
      omega
  dep at_ := by
    have e : m + 2 = 1 + (m + 1) := by omega
    rw [e, cnt_app, cnt_app]
    have c1 : cnt R n 1 at_ ≤ 1 := by
      unfold cnt
      exact Nat.le_trans (List.length_filter_le _ _) (by simp)
    have c2 : cnt R (n + 1 + m) 1 at_ = 0 := cnt_zero fun r' a1 a2 ⟨_, h4⟩ => by
      have : r' = n + 1 + m := by omega
      subst this
      obtain ⟨k, h5, h6⟩ := inside_iff.mp h4
      obtain ⟨p, h7, _, _⟩ := endOf_some h5
      rw [h1] at h7; cases h7
    have := hb.dep at_
    omega
/-- the rows at n are those of L -/
def Agree (R : List Row) (n : Nat) (L : List Row) : Prop := ∀ i r, L[i]? = some r → R[n + i]? = some r
theorem Agree.left {R : List Row} {n : Nat} {A B : List Row} (h : Agree R n (A ++ B)) : Agree R n A := fun i r e => h i r (by
  rw [List.getElem?_append_left (List.getElem?_eq_some_iff.mp e).1]; exact e)
theorem Agree.right {R : List Row} {n : Nat} {A B : List Row} (h : Agree R n (A ++ B)) : Agree R (n + A.length) B := fun i r e => by
  have := h (A.length + i) r (by rw [List.getElem?_append_right (by omega)]; rw [Nat.add_sub_cancel_left]; exact e)
  rw [← Nat.add_assoc] at this
  exact this
mutual
theorem it_seg {R : List Row} {nt ni p : Nat} : ∀ (x : It) (d n : Nat), ItOk nt ni p d x → Agree R n (It.lay n x) → SegOk R n (It.lay n x).length d
  | .row r, d, n, h, ha => by
    obtain ⟨_, hp⟩ := itok_row' h
    simp only [It.lay] at ha ⊢
    have h0 := ha 0 r rfl
    rw [Nat.add_zero] at h0
    refine SegOk.one h0 (fun p k e => ?_) fun k e => ?_
    · subst e; cases hp
    · subst e; cases hp
  | .rep q b, 0, n, h, _ => h.elim
  | .rep q b, d + 1, n, h, ha => by
    simp only [It.lay] at ha ⊢
    generalize hbd : Its.lay (n + 1) b = body at ha ⊢
    have e : (Row.rep q (n + 1 + body.length) :: (body ++ [Row.agn n])).length = body.length + 2 := by simp
    rw [e]
    have h0 := ha 0 _ rfl
    rw [Nat.add_zero] at h0
    have ha' : Agree R (n + 1) (body ++ [Row.agn n]) := fun i r e => by
      have := ha (i + 1) r (by rw [List.getElem?_cons_succ]; exact e)
      rwa [show n + (i + 1) = n + 1 + i by omega] at this
    have h1 := ha'.right 0 _ rfl
    rw [Nat.add_zero] at h1
    have hb := its_seg b d (n + 1) h.2.2 (by rw [hbd]; exact ha'.left)
    rw [hbd] at hb
    exact SegOk.loop h0 hb h1
theorem its_seg {R : List Row} {nt ni p : Nat} : ∀ (its : List It) (d n : Nat), (∀ x ∈ its, ItOk nt ni p d x) → Agree R n (Its.lay n its) → SegOk R n (Its.lay n its).length d
  | [], d, n, _, _ => by
    simp only [Its.lay, List.length_nil]
    exact .nil
  | x :: r, d, n, h, ha => by
    simp only [Its.lay] at ha ⊢
    rw [List.length_append]
    exact (it_seg x d n (h x List.mem_cons_self) ha.left).cat (its_seg r d _ (fun y hy => h y (List.mem_cons_of_mem _ hy)) ha.right)
end
/-- rows as a block gives them -/
def Row.okL (nt ni p : Nat) (r : Row) : Prop := r.ok nt ni p ∧ (∀ q k, r = .rep q k → q ∈ polyR) ∧ (∀ t, tgOf r = some t → t = none)
theorem polyR_can : ∀ q ∈ polyR, Can q ∧ LM 1 3 q := by
  have key : ∀ q : Pol, (q.Pairwise fun a b => a.1 < b.1) → (∀ t ∈ q, 0 ≤ t.1) → (∀ t ∈ q, 1 ≤ t.2) → (∀ t ∈ q, t.1 ≤ 1) → E1 q ≤ 3 → Can q ∧ LM 1 3 q := fun q a b c d e => ⟨⟨a, b, c⟩, ⟨⟨a, b, c⟩, d, e⟩⟩
  intro q hq
  simp only [polyR, List.mem_cons, List.not_mem_nil, or_false] at hq
  rcases hq with rfl | rfl | rfl | rfl | rfl | rfl <;> exact key _ (by decide) (by decide) (by decide) (by decide) (by decide)
theorem pre_tg {r : Row} (h : r.pre = true) : ∀ t, tgOf r = some t → t = none := fun t ht => by
  cases r with
  | jmp k => cases ht; cases t with
    | none => rfl
    | some k => cases h
  | unl u k => cases ht; cases t with
    | none => rfl
    | some k => cases h
  | _ => cases ht
mutual
theorem it_rows {nt ni p : Nat} : ∀ (x : It) (d n : Nat), ItOk nt ni p d x → ∀ r ∈ It.lay n x, Row.okL nt ni p r
  | .row r, d, n, h, r', hr => by
    obtain ⟨ho, hp⟩ := itok_row' h
    simp only [It.lay, List.mem_singleton] at hr
    subst hr
    exact ⟨ho, fun q k e => (by subst e; cases hp), pre_tg hp⟩
  | .rep q b, 0, n, h, _, _ => h.elim
  | .rep q b, d + 1, n, h, r', hr => by
    simp only [It.lay, List.mem_cons, List.mem_append, List.not_mem_nil, or_false] at hr
    rcases hr with rfl | hr | rfl
    · exact ⟨(polyR_can q h.1).1, fun q' k e => (by cases e; exact h.1), fun t ht => (by cases ht)⟩
    · exact its_rows b d (n + 1) h.2.2 r' hr
    · exact ⟨trivial, fun q k e => (by cases e), fun t ht => (by cases ht)⟩
theorem its_rows {nt ni p : Nat} : ∀ (its : List It) (d n : Nat), (∀ x ∈ its, ItOk nt ni p d x) → ∀ r ∈ Its.lay n its, Row.okL nt ni p r
  | [], _, _, _, r, hr => by simp [Its.lay] at hr
  | x :: xs, d, n, h, r, hr => by
    simp only [Its.lay, List.mem_append] at hr
    rcases hr with hr | hr
    · exact it_rows x d n (h x List.mem_cons_self) r hr
    · exact its_rows xs d _ (fun y hy => h y (List.mem_cons_of_mem _ hy)) r hr
end
def cD : Nat → Nat
  | 0 => 1
  | d + 1 => 2 + 6 * cD d
theorem cD_pos : ∀ d, 1 ≤ cD d
  | 0 => Nat.le_refl _
  | d + 1 => by unfold cD; omega
mutual
theorem it_len {nt ni p : Nat} : ∀ (x : It) (d n : Nat), ItOk nt ni p d x → (It.lay n x).length ≤ cD d
  | .row r, d, n, _ => by simp only [It.lay, List.length_singleton]; exact cD_pos d
  | .rep q b, 0, n, h => h.elim
  | .rep q b, d + 1, n, h => by
    simp only [It.lay, List.length_cons, List.length_append, List.length_nil]
    have ih := its_len b d (n + 1) h.2.2
    have : b.length * cD d ≤ 6 * cD d := Nat.mul_le_mul_right _ h.2.1
    unfold cD
    omega
theorem its_len {nt ni p : Nat} : ∀ (its : List It) (d n : Nat), (∀ x ∈ its, ItOk nt ni p d x) → (Its.lay n its).length ≤ its.length * cD d
  | [], _, _, _ => by simp [Its.lay]
  | x :: xs, d, n, h => by
    simp only [Its.lay, List.length_append, List.length_cons]
    have h1 := it_len x d n (h x List.mem_cons_self)
    have h2 := its_len xs d (n + (It.lay n x).length) fun y hy => h y (List.mem_cons_of_mem _ hy)
    rw [Nat.succ_mul]
    omega
end
/-! ### what a well nested routine gives -/
/-- all the rows are well nested -/
def Nested (R : List Row) (d : Nat) : Prop := SegOk R 0 R.length d
section
variable {R : List Row} {d : Nat}
theorem Nested.ends (h : Nested R d) {at_ k : Nat} {p : Pol} (e : R[at_]? = some (.rep p k)) : endOf R at_ = some k := by
  have hl := (List.getElem?_eq_some_iff.mp e).1
  obtain ⟨h1, _, h3⟩ := h.rp at_ p k (Nat.zero_le _) (by omega) e
  exact endOf_of e h1 h3
theorem Nested.loopOk (h : Nested R d) {at_ : Nat} (hat : at_ < R.length) : LoopOk R at_ := by
  unfold LoopOk
  split
  · next p k e =>
    refine ⟨h.ends e, fun e' he' k' hk' => ?_⟩
    obtain ⟨h1, k2, h2, h3⟩ := mem_around.mp he'
    rw [hk'] at h2
    cases h2
    obtain ⟨p', h4, _, _⟩ := endOf_some hk'
    exact h.lam e' at_ p' k' p k (Nat.zero_le _) h1 (by omega) h4 e h3
  · next a e =>
    obtain ⟨_, h2, p, h3⟩ := h.ag at_ a (Nat.zero_le _) (by omega) e
    exact ⟨h2, h.ends h3⟩
  · trivial
theorem Nested.depth (h : Nested R d) {at_ : Nat} (hat : at_ ≤ R.length) : (around R at_).length ≤ d := by
  rw [around_cnt hat]; exact h.dep at_
theorem around_range (R : List Row) {m : Nat} (hm : m ≤ R.length) : around R m = (List.range R.length).filter fun r => decide (r < m) && inside R m r :=
  (range_filter (inside R m) m R.length hm).symm
theorem around_eq {m m' : Nat} (hm : m ≤ R.length) (hm' : m' ≤ R.length) (h : ∀ r, r < R.length → ((r < m ∧ inside R m r = true) ↔ (r < m' ∧ inside R m' r = true))) : around R m = around R m' := by
  rw [around_range R hm, around_range R hm']
  refine List.filter_congr fun r hr => ?_
  have := h r (List.mem_range.mp hr)
  rw [Bool.eq_iff_iff, Bool.and_eq_true_iff, Bool.and_eq_true_iff, decide_eq_true_iff, decide_eq_true_iff]
  exact this
/-- a row that is no repeat has a place behind it within the same repeats -/
theorem Nested.target (h : Nested R d) {at_ : Nat} (hat : at_ < R.length) (hr : ∀ p k, R[at_]? ≠ some (.rep p k)) (hr2 : ∀ a, R[at_]? ≠ some (.agn a)) : ∃ k, at_ < k ∧ k ≤ R.length ∧ around R k = around R at_ := by
  rcases List.eq_nil_or_concat (around R at_) with e | ⟨l, e0, e⟩
  · refine ⟨R.length, hat, Nat.le_refl _, ?_⟩
    rw [e]
    refine List.eq_nil_iff_forall_not_mem.mpr fun r hm => ?_
    obtain ⟨h1, k, h2, h3⟩ := mem_around.mp hm
    obtain ⟨p, h4, _, h5⟩ := endOf_some h2
    have := (List.getElem?_eq_some_iff.mp h5).1
    omega
  · rw [List.concat_eq_append] at e
    have he : e0 ∈ around R at_ := by rw [e]; simp
    obtain ⟨h1, k, h2, h3⟩ := mem_around.mp he
    obtain ⟨p, h4, h5, h6⟩ := endOf_some h2
    have hk := (List.getElem?_eq_some_iff.mp h6).1
    have hmax : ∀ r ∈ around R at_, r ≤ e0 := fun r hm => by
      have hs : (around R at_).Pairwise (· < ·) := by
        unfold around
        exact List.Pairwise.filter _ List.pairwise_lt_range
      rw [e] at hs hm
      rcases List.mem_append.mp hm with hm | hm
      · exact Nat.le_of_lt ((List.pairwise_append.mp hs).2.2 r hm e0 (by simp))
      · simp at hm; omega
    refine ⟨k, ?_, Nat.le_of_lt hk, around_eq (Nat.le_of_lt hk) (Nat.le_of_lt hat) fun r hrl => ⟨fun ⟨a1, a2⟩ => ?_, fun ⟨a1, a2⟩ => ?_⟩⟩
    · rcases Nat.lt_or_ge at_ k with hl | hl
      · exact hl
      · have : at_ = k := by omega
        subst this
        exact absurd h6 (hr2 e0)
    · obtain ⟨kr, b1, b2⟩ := inside_iff.mp a2
      obtain ⟨pr, b3, b4, b5⟩ := endOf_some b1
      refine ⟨?_, inside_iff.mpr ⟨kr, b1, by omega⟩⟩
      rcases Nat.lt_or_ge r at_ with hl | hl
      · exact hl
      · exfalso
        have hne : r ≠ at_ := fun z => by rw [z] at b3; exact hr pr kr b3
        have hle := h.lam e0 r p k pr kr (Nat.zero_le _) (by omega) (by omega) h4 b3 (by omega)
        have : kr = k := by omega
        subst this
        rw [h6] at b5
        cases b5
        omega
    · obtain ⟨kr, b1, b2⟩ := inside_iff.mp a2
      obtain ⟨pr, b3, b4, b5⟩ := endOf_some b1
      have hre := hmax r (mem_around.mpr ⟨a1, kr, b1, b2⟩)
      refine ⟨by omega, inside_iff.mpr ⟨kr, b1, ?_⟩⟩
      rcases Nat.lt_or_ge r e0 with hl | hl
      · exact h.lam r e0 pr kr p k (Nat.zero_le _) hl (by omega) b3 h4 (by omega)
      · have : r = e0 := by omega
        subst this
        rw [h2] at b1
        cases b1
        exact Nat.le_refl _
end
end K27
end MN_
section MQ_
/-! Plain mathematics, seventh part: targets filled in, whole codes. -/
namespace K27
open PySem PySem.Spec PyProof.Rows L2
/-- the same repeats and agains -/
structure Frame (R R' : List Row) : Prop where
  len : R'.length = R.length
  rp : ∀ (i : Nat) (p : Pol) (k : Nat), R'[i]? = some (.rep p k) ↔ R[i]? = some (.rep p k)
  ag : ∀ (i a : Nat), R'[i]? = some (.agn a) ↔ R[i]? = some (.agn a)
theorem endOf_iff {R : List Row} {r k : Nat} : endOf R r = some k ↔ ∃ p, R[r]? = some (.rep p k) ∧ r < k ∧ R[k]? = some (.agn r) :=
  ⟨endOf_some, fun ⟨_, h1, h2, h3⟩ => endOf_of h1 h2 h3⟩
theorem Frame.endOf {R R' : List Row} (h : Frame R R') (r : Nat) : endOf R' r = endOf R r := by
  refine Option.ext fun k => ?_
  have h1 := endOf_iff (R := R') (r := r) (k := k)
  have h2 := endOf_iff (R := R) (r := r) (k := k)
  rw [h1, h2]
  exact ⟨fun ⟨p, a, b, c⟩ => ⟨p, (h.rp r p k).mp a, b, (h.ag k r).mp c⟩, fun ⟨p, a, b, c⟩ => ⟨p, (h.rp r p k).mpr a, b, (h.ag k r).mpr c⟩⟩
theorem Frame.inside {R R' : List Row} (h : Frame R R') (m r : Nat) : inside R' m r = inside R m r := by
  unfold K27.inside
  rw [h.endOf]
theorem Frame.around {R R' : List Row} (h : Frame R R') (m : Nat) : around R' m = around R m := by
  unfold K27.around
  exact List.filter_congr fun r _ => h.inside m r
theorem Frame.nested {R R' : List Row} {d : Nat} (h : Frame R R') (n : Nested R d) : Nested R' d := by
  unfold Nested at n ⊢
  rw [h.len]
  exact ⟨fun at_ p k h1 h2 e => let ⟨a1, a2, a3⟩ := n.rp at_ p k h1 h2 ((h.rp _ _ _).mp e); ⟨a1, a2, (h.ag _ _).mpr a3⟩,
    fun at_ a h1 h2 e => let ⟨a1, a2, p, a3⟩ := n.ag at_ a h1 h2 ((h.ag _ _).mp e); ⟨a1, a2, p, (h.rp _ _ _).mpr a3⟩,
    fun e at_ pe ke pa ka h1 h2 h3 e1 e2 h4 => n.lam e at_ pe ke pa ka h1 h2 h3 ((h.rp _ _ _).mp e1) ((h.rp _ _ _).mp e2) h4,
    fun at_ => by
      have := n.dep at_
      unfold cnt at this ⊢
      rw [List.filter_congr fun r _ => by rw [h.inside at_ r]]
      exact this⟩
def setT : Row → Nat → Row
  | .jmp _, k => .jmp (some k)
  | .unl t _, k => .unl t (some k)
  | r, _ => r
/-- r' stands where r stood, its target filled in -/
def Fill1 (R : List Row) (i : Nat) (r r' : Row) : Prop := (tgOf r = none ∧ r' = r) ∨ ((∃ t, tgOf r = some t) ∧ ∃ k, i < k ∧ k ≤ R.length ∧ around R k = around R i ∧ r' = setT r k)
theorem set_dt {r : Row} {k : Nat} (h : tgOf r = some none) : (setT r k).dt = .tup (Dt.str r.name :: r.args ++ [natD k]) := by
  cases r with
  | jmp t => cases h; rfl
  | unl u t => cases h; rfl
  | _ => cases h
theorem set_ok {r : Row} {k nt ni p : Nat} (h : r.ok nt ni p) : (setT r k).ok nt ni p := by cases r <;> exact h
theorem set_tg {r : Row} {k : Nat} {t : Option Nat} (h : tgOf r = some t) : tgOf (setT r k) = some (some k) := by
  cases r with
  | jmp t => rfl
  | unl u t => rfl
  | _ => cases h
theorem tg_full {r : Row} (h : ∀ t, tgOf r = some t → ∃ k, t = some k) : r.full = true := by
  cases r with
  | jmp t => obtain ⟨k, rfl⟩ := h t rfl; rfl
  | unl u t => obtain ⟨k, rfl⟩ := h t rfl; rfl
  | _ => rfl
theorem set_rep {r : Row} {k : Nat} {t : Option Nat} (h : tgOf r = some t) : (∀ p j, r ≠ .rep p j ∧ setT r k ≠ .rep p j) ∧ (∀ j, r ≠ .agn j ∧ setT r k ≠ .agn j) := by
  cases r with
  | jmp t => exact ⟨fun p j => ⟨fun e => (by cases e), fun e => (by cases e)⟩, fun j => ⟨fun e => (by cases e), fun e => (by cases e)⟩⟩
  | unl u t => exact ⟨fun p j => ⟨fun e => (by cases e), fun e => (by cases e)⟩, fun j => ⟨fun e => (by cases e), fun e => (by cases e)⟩⟩
  | _ => cases h
/-- R' is R with its targets filled in -/
def Filled (R R' : List Row) : Prop := R'.length = R.length ∧ ∀ i r, R[i]? = some r → ∃ r', R'[i]? = some r' ∧ Fill1 R i r r'
theorem Filled.frame {R R' : List Row} (h : Filled R R') : Frame R R' where
  len := h.1
  rp i p k := by
    constructor
    · intro e
      have hl := (List.getElem?_eq_some_iff.mp e).1
      rw [h.1] at hl
      obtain ⟨r', e1, hf⟩ := h.2 i _ (List.getElem?_eq_getElem hl)
      rw [e] at e1
      cases e1
      rcases hf with ⟨_, e2⟩ | ⟨⟨t, ht⟩, j, _, _, _, e2⟩
      · rw [List.getElem?_eq_getElem hl, ← e2]
      · exact absurd e2.symm ((set_rep ht).1 p k).2
    · intro e
      obtain ⟨r', e1, hf⟩ := h.2 i _ e
      rcases hf with ⟨_, e2⟩ | ⟨⟨t, ht⟩, _⟩
      · rw [e1, e2]
      · cases ht
  ag i a := by
    constructor
    · intro e
      have hl := (List.getElem?_eq_some_iff.mp e).1
      rw [h.1] at hl
      obtain ⟨r', e1, hf⟩ := h.2 i _ (List.getElem?_eq_getElem hl)
      rw [e] at e1
      cases e1
      rcases hf with ⟨_, e2⟩ | ⟨⟨t, ht⟩, j, _, _, _, e2⟩
      · rw [List.getElem?_eq_getElem hl, ← e2]
      · exact absurd e2.symm ((set_rep ht).2 a).2
    · intro e
      obtain ⟨r', e1, hf⟩ := h.2 i _ e
      rcases hf with ⟨_, e2⟩ | ⟨⟨t, ht⟩, _⟩
      · rw [e1, e2]
      · cases ht
/-- a routine as the law draws it -/
structure Rt (nt ni p d : Nat) (rows : List Row) : Prop where
  len : rows.length ≤ 602
  ok : ∀ r ∈ rows, r.ok nt ni p ∧ r.full = true ∧ ∀ q k, r = .rep q k → LM 1 3 q
  nest : Nested rows d
  jump : ∀ at_ < rows.length, JumpOk rows at_
theorem Filled.rt {R R' : List Row} {nt ni p d : Nat} (h : Filled R R') (hl : R.length ≤ 602) (hok : ∀ r ∈ R, Row.okL nt ni p r) (hn : Nested R d) : Rt nt ni p d R' := by
  have hf := h.frame
  have back : ∀ (i : Nat) (r' : Row), R'[i]? = some r' → ∃ r, R[i]? = some r ∧ Fill1 R i r r' := fun i r' e => by
    have hl := (List.getElem?_eq_some_iff.mp e).1
    rw [h.1] at hl
    obtain ⟨r2, e1, hf⟩ := h.2 i _ (List.getElem?_eq_getElem hl)
    rw [e] at e1
    cases e1
    exact ⟨_, List.getElem?_eq_getElem hl, hf⟩
  refine ⟨by rw [h.1]; exact hl, fun r' hr' => ?_, hf.nested hn, fun at_ _ r' t e ht => ?_⟩
  · obtain ⟨i, hi⟩ := List.mem_iff_getElem?.mp hr'
    obtain ⟨r, e, hfil⟩ := back i r' hi
    obtain ⟨o1, o2, o3⟩ := hok r (List.mem_of_getElem? e)
    rcases hfil with ⟨h1, rfl⟩ | ⟨⟨t, ht⟩, k, _, _, _, rfl⟩
    · exact ⟨o1, tg_full fun t e => (by rw [h1] at e; cases e), fun q k e => (polyR_can q (o2 q k e)).2⟩
    · exact ⟨set_ok o1, tg_full fun t' e => (by rw [set_tg ht] at e; cases e; exact ⟨k, rfl⟩), fun q k' e => absurd e ((set_rep ht).1 q k').2⟩
  · obtain ⟨r, e0, hfil⟩ := back at_ r' e
    rcases hfil with ⟨h1, rfl⟩ | ⟨⟨t', ht'⟩, k, h1, h2, h3, rfl⟩
    · rw [h1] at ht; cases ht
    · rw [set_tg ht'] at ht
      cases ht
      exact ⟨k, rfl, h1, by rw [h.1]; exact h2, by rw [hf.around, hf.around]; exact h3⟩
/-! ### weights -/
theorem weight_lm {rows : List Row} {e0 : Int} (he : 0 ≤ e0) : ∀ (rs : List Nat), (∀ r ∈ rs, LM 1 e0 (polAt rows r)) → LM (rs.length : Nat) (e0 ^ rs.length) (weightOf rows rs) := by
  intro rs
  have key : ∀ (l : List Nat), (∀ r ∈ l, LM 1 e0 (polAt rows r)) → LM (l.reverse.length : Nat) (e0 ^ l.reverse.length) (weightOf rows l.reverse) := by
    intro l
    induction l with
    | nil => intro _; exact lm_one (by decide) (by simp)
    | cons x l ih =>
      intro h
      have ih' := ih fun r hr => h r (List.mem_cons_of_mem _ hr)
      rw [List.reverse_cons, weight_succ, List.length_append]
      refine ih'.mul (h x List.mem_cons_self) (by simp) ?_ (Int.pow_nonneg he)
      rw [List.length_singleton, Int.pow_succ]
      exact Int.le_refl _
  intro h
  have := key rs.reverse fun r hr => h r (List.mem_reverse.mp hr)
  rwa [List.reverse_reverse] at this
theorem Rt.pol {nt ni p d : Nat} {rows : List Row} (h : Rt nt ni p d rows) {r k : Nat} {q : Pol} (e : rows[r]? = some (.rep q k)) : LM 1 3 q := (h.ok _ (List.mem_of_getElem? e)).2.2 q k rfl
/-- the facts of a routine, once those before it are known; for weights of at most d repeats -/
theorem Rt.rw {nt ni i d dW : Nat} {rows : List Row} {ear : List Bd} (h : Rt nt ni i d rows) (hw : ∀ at_ < rows.length, ∀ j, LM dW 32 (weightOf rows ((around rows at_).take j)))
    (he : ∀ b ∈ ear, LM (dW * i) (EB i) b.clk ∧ LM (dW * i) (EB i) b.cho ∧ DepOk i b.dep) (hel : ear.length = i) (hi : i ≤ 3) (hd : dW ≤ 5) : RW rows ear dW i where
  len := h.len
  pol at_ p k e := (h.pol e).mono (by decide) (Int.le_refl _)
  wt := hw
  eb := he
  cal at_ r e := by
    have := (h.ok _ (List.mem_of_getElem? e)).1
    rw [hel]
    exact this
  i3 := hi
  dw := hd
/-- weights of routines whose depth is at most 2 -/
theorem Rt.w2 {nt ni p : Nat} {rows : List Row} (h : Rt nt ni p 2 rows) : ∀ at_ < rows.length, ∀ j, LM (2 : Nat) 32 (weightOf rows ((around rows at_).take j)) := fun at_ hat j => by
  have hlen : ((around rows at_).take j).length ≤ 2 := Nat.le_trans (List.length_take_le' _ _) (h.nest.depth (Nat.le_of_lt hat))
  have hpol : ∀ r ∈ (around rows at_).take j, LM 1 3 (polAt rows r) := fun r hr => by
    obtain ⟨_, k, h1, _⟩ := mem_around.mp (List.mem_of_mem_take hr)
    obtain ⟨q, h2, _, _⟩ := endOf_some h1
    rw [polAt_of h2]
    exact h.pol h2
  have := weight_lm (by decide) _ hpol
  refine this.mono (by omega) ?_
  generalize ((around rows at_).take j).length = n at hlen
  match n, hlen with
  | 0, _ => decide
  | 1, _ => decide
  | 2, _ => decide
/-- what is drawn is a full code -/
theorem full_of {c : Code} {dW : Nat} {d : Nat} (t0 : c.tapes[0]? = some [(1, 1)]) (tp : ∀ p ∈ c.tapes, LM 2 3 p) (ip : ∀ p ∈ c.idx, LM 2 3 p) (tl : c.tapes.length ≤ 3) (il : 1 ≤ c.idx.length ∧ c.idx.length ≤ 1000) (rl : c.rts.length ≤ 4) (hd : dW ≤ 5)
    (hr : ∀ (i : Nat) (rows : List Row), c.rts[i]? = some rows → Rt c.tapes.length c.idx.length i d rows ∧ ∀ at_ < rows.length, ∀ j, LM dW 32 (weightOf rows ((around rows at_).take j))) : CodeFull c dW := by
  have hb : ∀ i, i ≤ c.rts.length → ∀ b ∈ bnds (c.rts.take i), LM (dW * i) (EB i) b.clk ∧ LM (dW * i) (EB i) b.cho ∧ DepOk i b.dep := by
    intro i
    induction i with
    | zero => intro _ b hb; simp [bnds] at hb
    | succ i ih =>
      intro hi b hb
      have e : c.rts[i]? = some c.rts[i] := List.getElem?_eq_getElem (by omega)
      rw [bnds_take e] at hb
      obtain ⟨h1, h2⟩ := hr i _ e
      have hrw := h1.rw h2 (ih (by omega)) (by rw [bnds_len, List.length_take]; omega) (by omega) hd
      rcases List.mem_append.mp hb with hb | hb
      · exact LMB.mono (Nat.le_succ i) (ih (by omega) b hb)
      · simp only [List.mem_singleton] at hb
        subst hb
        exact hrw.tot
  refine ⟨⟨⟨t0, fun p hp => ⟨(tp p hp).can, (tp p hp).lens (by decide)⟩, fun p hp => ⟨(ip p hp).can, (ip p hp).lens (by decide)⟩, by omega, il.2, by omega, fun i rows e => ?_⟩, fun i rows e at_ hat => ?_⟩, ⟨rl, fun i rows e => ?_, tl, tp, il⟩, hd⟩
  · obtain ⟨h1, _⟩ := hr i rows e
    refine ⟨Nat.le_trans h1.len (by decide), fun r hm => ?_⟩
    obtain ⟨o1, o2, o3⟩ := h1.ok r hm
    exact ⟨o1, o2, fun q k er => (o3 q k er).lens (by decide)⟩
  · obtain ⟨h1, _⟩ := hr i rows e
    exact ⟨h1.nest.loopOk hat, h1.jump at_ hat⟩
  · obtain ⟨h1, h2⟩ := hr i rows e
    have hl := (List.getElem?_eq_some_iff.mp e).1
    exact h1.rw h2 (hb i (Nat.le_of_lt hl)) (by rw [bnds_len, List.length_take]; omega) (by omega) hd
end K27
end MQ_
section FQ_
/-! The walk, seventeenth part: a routine is drawn. -/
namespace K27
open PySem PySem.Spec PyProof.Rows L2
section
variable {X : Cx} {scope : Scope} {iter elt c : Expr} {own : List (Str × Nat)} {x y : Str} {px py pos spos : Pos} {δ : Env'} {μ : Sto} {D : DE}
/-- y = [elt for x in .. if c], y in slot j, x in slot i -/
theorem js_lcA1if (j i : Nat) (ok : BlkOk X.N X.env.scope scope own) (hi : i ∈ own.map (·.2))
    (h : JI X (.Name x px) iter δ μ fun items cond μ1 => lcR X scope elt (asName i) (tsOne X scope c) cond (fun ys μ2 => D.nx (δ.set j (some (.lst ys))) μ2) (wipeD δ (own.map (·.2))) items [] μ1)
    (hx : X.N[i]? = some x := by rfl) (hy : X.N[j]? = some y := by rfl) (hyl : X.env.scope.names.lookup y = some .local := by rfl) (hsw : swapsWith (.ListComp elt [⟨.Name x px, iter, [c], 0⟩] scope pos) (some (.Name y py)) spos.line X.env = pure true := by rfl)
    (hl : ∀ (cl : List (Str × Addr)) (C : Addr), Loc (compEnvC scope cl C X.env).scope x := by intro _ _; first | exact Or.inl rfl | exact Or.inr rfl)
    (hf : ∀ (s : Shared) (H : Hp) (C : Addr) (cl : List (Str × Addr)) (fp : List Addr), (X.blk s H scope (compEnvC scope cl C X.env) fp).fn x = true ∨ (X.blk s H scope (compEnvC scope cl C X.env) fp).env.scope.names.lookup x = some .local := by intro _ _ _ _ _; first | exact .inl rfl | exact .inr rfl)
    (hc : X.calm = true := by rfl) (hN : X.N.Nodup := by first | assumption | decide +kernel) (hs : ∀ y, foldedSetIterable iter X.env y = pure y := by intro _; rfl) : JS X (.Assign [.Name y py] (.ListComp elt [⟨.Name x px, iter, [c], 0⟩] scope pos) spos) δ μ D :=
  js_lcG hc hN hy hyl hsw ok (asg_name hi) tst_one (fun s H C cl fp => pg_name (X := X.blk s H scope (compEnvC scope cl C X.env) fp) hN hx (hl cl C) (hf s H C cl fp)) (fun s H C cl fp => pts_one ⟨fun pins s' σ' H' Q' I h => h s H C cl fp pins s' I⟩) h hs
theorem js_lcA1 (j i : Nat) (ok : BlkOk X.N X.env.scope scope own) (hi : i ∈ own.map (·.2))
    (h : JI X (.Name x px) iter δ μ fun items cond μ1 => lcR X scope elt (asName i) tsYes cond (fun ys μ2 => D.nx (δ.set j (some (.lst ys))) μ2) (wipeD δ (own.map (·.2))) items [] μ1)
    (hx : X.N[i]? = some x := by rfl) (hy : X.N[j]? = some y := by rfl) (hyl : X.env.scope.names.lookup y = some .local := by rfl) (hsw : swapsWith (.ListComp elt [⟨.Name x px, iter, [], 0⟩] scope pos) (some (.Name y py)) spos.line X.env = pure true := by rfl)
    (hl : ∀ (cl : List (Str × Addr)) (C : Addr), Loc (compEnvC scope cl C X.env).scope x := by intro _ _; first | exact Or.inl rfl | exact Or.inr rfl)
    (hf : ∀ (s : Shared) (H : Hp) (C : Addr) (cl : List (Str × Addr)) (fp : List Addr), (X.blk s H scope (compEnvC scope cl C X.env) fp).fn x = true ∨ (X.blk s H scope (compEnvC scope cl C X.env) fp).env.scope.names.lookup x = some .local := by intro _ _ _ _ _; first | exact .inl rfl | exact .inr rfl)
    (hc : X.calm = true := by rfl) (hN : X.N.Nodup := by first | assumption | decide +kernel) (hs : ∀ y, foldedSetIterable iter X.env y = pure y := by intro _; rfl) : JS X (.Assign [.Name y py] (.ListComp elt [⟨.Name x px, iter, [], 0⟩] scope pos) spos) δ μ D :=
  js_lcG hc hN hy hyl hsw ok (asg_name hi) tst_yes (fun s H C cl fp => pg_name (X := X.blk s H scope (compEnvC scope cl C X.env) fp) hN hx (hl cl C) (hf s H C cl fp)) (fun _ _ _ _ _ => pts_nil) h hs
end
theorem okL_fit {nt ni p : Nat} {R : List Row} (h : ∀ r ∈ R, Row.okL nt ni p r) (hl : R.length ≤ 1000) : RowsFit R := ⟨fun r hr => Row.fq (h r hr).1, hl⟩
theorem fit_rows {R : List Row} (h : RowsFit R) : Fit (.lst (Rows.dts R)) := (fq_lst (n := 8) fun x hx => by
  unfold Rows.dts at hx
  obtain ⟨r, hr, rfl⟩ := List.mem_map.mp hx
  exact h.1 r hr).fit (by decide)
theorem eqv_lsts : ∀ xs ys : List Nat, PyData.eqv (Dt.lst (xs.map natD)).py (Dt.lst (ys.map natD)).py = decide (xs = ys)
  | [], [] => by simp [Dt.py, Dt.pys, PyData.eqv, PyData.eqvAll]
  | [], y :: ys => by simp [Dt.py, Dt.pys, PyData.eqv, PyData.eqvAll]
  | x :: xs, [] => by simp [Dt.py, Dt.pys, PyData.eqv, PyData.eqvAll]
  | x :: xs, y :: ys => by
    have ih := eqv_lsts xs ys
    simp only [Dt.py, PyData.eqv] at ih ⊢
    rw [List.map_cons, List.map_cons]
    simp only [Dt.pys, PyData.eqvAll]
    rw [ih, natD_inj, ← Bool.decide_and]
    exact decide_eq_decide.mpr (by rw [List.cons.injEq])
theorem dts_inj_len (R : List Row) (i : Nat) (r : Row) : (Rows.dts R).set i r.dt = Rows.dts (R.set i r) := by unfold Rows.dts; rw [List.map_set]
theorem agree_self (A B : List Row) : Agree (A ++ B) 0 A := fun i r e => by
  rw [Nat.zero_add, List.getElem?_append_left (List.getElem?_eq_some_iff.mp e).1]; exact e
section
variable {P : Program} {w : World} {K : PySem.W.Frag} {mg : Str → Option Value} {base : Heap}
abbrev C_L_routine : Ct := fun ds μ Q => ∃ a c, ∃ nt ni p size : Nat, ds = [.ref a, .int nt, .int ni, .int p, .int size] ∧ Deck a c μ ∧ (1 ≤ nt ∧ nt ≤ 1000) ∧ (1 ≤ ni ∧ ni ≤ 1000) ∧ p ≤ 1000 ∧ (1 ≤ size ∧ size ≤ 6) ∧
  ∀ rows μ', Rt nt ni p 2 rows → DK a c μ μ' → Q (.tup (Rows.dts rows)) μ'
theorem ok_L_routine (B : Tops w K mg) (R : Raw K mg "_law_routine" s_L_routine ["_law_deck_here", "_law_tapes", "_law_indexes", "_law_p", "_law_size"]) (D_L_draw : Def P w K mg base 1 "_law_draw" ["_law_deck_here", "_law_many"] C_L_draw)
    (D_L_pick : Def P w K mg base 2 "_law_pick" ["_law_deck_here", "_law_some"] C_L_pick) (D_L_some_test : Def P w K mg base 8 "_law_some_test" ["_law_deck_here", "_law_tapes", "_law_indexes", "_law_deep"] (C_L_some_test 5))
    (D_L_block : Def P w K mg base 11 "_law_block" ["_law_deck_here", "_law_tapes", "_law_indexes", "_law_p", "_law_size", "_law_deep"] (C_L_block 2)) (D_L_laid : Def P w K mg base 3 "_law_laid" ["_law_block_here", "_law_rows"] (C_L_laid 2))
    (D_L_bodies : Def P w K mg base 1 "_law_bodies" ["_law_rows"] C_L_bodies) (D_L_insides : Def P w K mg base 1 "_law_insides" ["_law_rows", "_law_bodies_here"] C_L_insides) :
    Def P w K mg base 12 "_law_routine" ["_law_deck_here", "_law_tapes", "_law_indexes", "_law_p", "_law_size"] C_L_routine := by
  have nd := sc_L_routine.nd
  refine def_mk R sc_L_routine fun f cdv A outer s H E hr ds μ Q hl hC => ?_
  obtain ⟨a, c, nt, ni, p, size, rfl, hD, ⟨h1, h2⟩, ⟨h3, h4⟩, h5, ⟨h6, h7⟩, q⟩ := hC
  refine jss_cons ?_
  refine js_v 5 ?_
  refine je_lstM ?_
  refine ja_nil ?_
  refine ⟨by show 0 ≤ sizeLine; decide, fun l0 hl0 => ?_⟩
  obtain ⟨hla, hlc⟩ := hD.fresh hl0
  have keep0 : ∀ {μ1 : Sto} {x : Dt}, Keep a c (μ.set l0 x) μ1 → Keep a c μ μ1 := fun hk b y e1 e2 e3 => hk b y e1 e2 (Sto.le_set hl0 b y e3)
  refine jss_cons ?_
  refine js_expr ?_
  refine je_d D_L_laid (hr.mono (by decide)) ?_
  refine ja_cons ?_
  refine je_d D_L_block (hr.mono (by decide)) ?_
  refine ja_cons ?_
  refine je_v 0 ?_
  refine ja_cons ?_
  refine je_v 1 ?_
  refine ja_cons ?_
  refine je_v 2 ?_
  refine ja_cons ?_
  refine je_v 3 ?_
  refine ja_cons ?_
  refine je_v 4 ?_
  refine ja_cons ?_
  refine je_int ?_
  refine ja_nil ?_
  refine ⟨rfl, a, c, nt, ni, p, size, 2, rfl, hD.set hla hlc, ⟨h1, h2⟩, ⟨h3, h4⟩, h5, ⟨h6, h7⟩, Nat.le_refl _, fun its μ1 hits hitl k1 => ?_⟩
  have hL0 : μ1 l0 = some (.lst []) := k1.2 l0 _ hla hlc Sto.set_same
  have hlen := its_len its 2 0 hits
  have hlen2 : (Its.lay 0 its).length ≤ 600 := by
    have : its.length * cD 2 ≤ 12 * cD 2 := Nat.mul_le_mul_right _ (by omega)
    have : cD 2 = 50 := rfl
    omega
  refine ja_cons ?_
  refine je_v 5 ?_
  refine ja_nil ?_
  refine ⟨rfl, its, [], l0, nt, ni, p, rfl, hL0, hits, by show 0 + (Its.lay 0 its).length ≤ 1000; omega, ?_⟩
  show JSs _ _ _ (μ1.set l0 (.lst (Rows.dts (Its.lay 0 its)))) _
  have hokL := its_rows its 2 0 hits
  have hseg : ∀ B : List Row, SegOk (Its.lay 0 its ++ B) 0 (Its.lay 0 its).length 2 := fun B => its_seg its 2 0 hits (agree_self _ B)
  have hk1 : DK a c μ (μ1.set l0 (.lst (Rows.dts (Its.lay 0 its)))) := ⟨k1.1.set hla hlc, fun b y e1 e2 e3 => by
    rw [Sto.set_ne (fun e => by rw [e, hl0] at e3; cases e3)]
    exact keep0 k1.2 b y e1 e2 e3⟩
  generalize hLL : Its.lay 0 its = L at hlen hlen2 hokL hseg hk1
  have hL1 : (μ1.set l0 (.lst (Rows.dts L))) l0 = some (.lst (Rows.dts L)) := Sto.set_same
  generalize μ1.set l0 (.lst (Rows.dts L)) = μ2 at hk1 hL1
  have hfitL := okL_fit hokL (by omega)
  refine jss_mid (fun δ μ' => ∃ l' R2, δ = [some (.ref a), some (.int nt), some (.int ni), some (.int p), some (.int size), some (.ref l'), none, none, none, none, none] ∧ μ' l' = some (.lst (Rows.dts R2)) ∧ l' ≠ a ∧ l' ≠ c ∧ μ l' = none ∧ DK a c μ μ' ∧ R2.length ≤ 602 ∧
    (∀ r ∈ R2, Row.okL nt ni p r) ∧ Nested R2 2) ?_ fun δ μ' hI => ?_
  · refine js_if ?_
    refine JT.imp (Q := fun b μ3 => DK a c μ μ3 ∧ μ3 l0 = some (.lst (Rows.dts L))) ?_ fun b μ3 ⟨k3, hL3⟩ => ?_
    · refine jt_w ?_
      refine jw_and ?_
      refine jt_c (jc_neV hr.units ?_)
      refine je_v 5 ?_
      refine je_lst ?_
      refine ja_nil ?_
      refine ⟨by show 0 ≤ sizeLine; decide, ?_⟩
      refine ⟨_, _, ⟨.inr ⟨_, .inr ⟨_, rfl, hL1⟩, rfl⟩, fit_rows hfitL⟩, ⟨.inl rfl, fit_lnil⟩, ?_⟩
      refine ⟨_, rfl, ?_⟩
      refine ⟨fun h => ?_, fun h => ⟨hk1, hL1⟩⟩
      refine jw_and1 ?_
      refine jt_c (jc_gt ?_)
      refine je_d D_L_draw (hr.mono (by decide)) ?_
      refine ja_cons ?_
      refine je_v 0 ?_
      refine ja_cons ?_
      refine je_int ?_
      refine ja_nil ?_
      refine ⟨rfl, a, c, _, rfl, hk1.1, by decide, by decide, fun n3 μ3 _ k3 => ?_⟩
      refine je_int ?_
      refine ⟨_, _, rfl, rfl, ?_⟩
      exact ⟨_, rfl, hk1.trans k3, k3.2 l0 _ hla hlc hL1⟩
    refine ⟨fun hT => ?_, fun hF => ?_⟩
    · refine jss_one ?_
      refine js_v 5 ?_
      refine je_catM ?_
      refine je_v 5 ?_
      refine je_lst ?_
      refine ja_cons ?_
      refine je_tup ?_
      refine ja_cons ?_
      refine je_str ?_
      refine ja_cons ?_
      refine je_d D_L_some_test (hr.mono (by decide)) ?_
      refine ja_cons ?_
      refine je_v 0 ?_
      refine ja_cons ?_
      refine je_v 1 ?_
      refine ja_cons ?_
      refine je_v 2 ?_
      refine ja_cons ?_
      refine je_int ?_
      refine ja_nil ?_
      refine ⟨rfl, a, c, nt, ni, 1, rfl, k3.1, h1, h2, h3, h4, by decide, fun t μ4 ht htd k4 => ?_⟩
      refine ja_nil ?_
      refine ⟨by show 2 ≤ sizeLine; decide, ?_⟩
      refine ja_cons ?_
      refine je_tup ?_
      refine ja_cons ?_
      refine je_str ?_
      refine ja_cons ?_
      refine je_d D_L_pick (hr.mono (by decide)) ?_
      refine ja_cons ?_
      refine je_v 0 ?_
      refine ja_cons ?_
      refine je_tup ?_
      refine ja_cons ?_
      refine je_str ?_
      refine ja_cons ?_
      refine je_str ?_
      refine ja_cons ?_
      refine je_str ?_
      refine ja_nil ?_
      refine ⟨by show 3 ≤ sizeLine; decide, ?_⟩
      refine ja_nil ?_
      refine ⟨rfl, a, c, _, rfl, k4.1, .inl ⟨_, .inl rfl, by show 1 ≤ 3; decide, by show 3 ≤ 100000; decide, fun x hx μ5 k5 => ?_⟩⟩
      have hx' : ∃ pl ∈ players, x = .str pl := by
        simp only [List.mem_cons, List.not_mem_nil, or_false] at hx
        rcases hx with rfl | rfl | rfl
        · exact ⟨"one", by decide, rfl⟩
        · exact ⟨"one", by decide, rfl⟩
        · exact ⟨"two", by decide, rfl⟩
      obtain ⟨pl, hpl, rfl⟩ := hx'
      refine ja_nil ?_
      refine ⟨by show 2 ≤ sizeLine; decide, ?_⟩
      refine ja_nil ?_
      refine ⟨by show 2 ≤ sizeLine; decide, ?_⟩
      have k345 := (k3.trans k4).trans k5
      have hL5 : μ5 l0 = some (.lst (Rows.dts L)) := (k4.trans k5).2 l0 _ hla hlc hL3
      refine ⟨_, _, .inr ⟨_, rfl, hL5⟩, .inl rfl, by rw [dts_len]; show _ + 2 ≤ 2 ^ 24; omega, fun l' hl' => ?_⟩
      have hf' := k345.1.fresh hl'
      have hμl' : μ l' = none := by
        cases e : μ l' with
        | none => rfl
        | some y => have := k345.2 l' y hf'.1 hf'.2 e; rw [hl'] at this; cases this
      refine ⟨l', L ++ [.unl t none, .win pl], rfl, ?_, hf'.1, hf'.2, hμl', ⟨k345.1.set hf'.1 hf'.2, fun b y e1 e2 e3 => ?_⟩, ?_, fun r hr' => ?_, ?_⟩
      · rw [Sto.set_same, dts_app]; rfl
      · rw [Sto.set_ne (fun e => by rw [e, hμl'] at e3; cases e3)]
        exact k345.2 b y e1 e2 e3
      · rw [List.length_append]; show L.length + 2 ≤ 602; omega
      · rcases List.mem_append.mp hr' with hr' | hr'
        · exact hokL r hr'
        · simp only [List.mem_cons, List.not_mem_nil, or_false] at hr'
          rcases hr' with rfl | rfl
          · exact ⟨⟨ht, by omega⟩, fun q k e => (by cases e), fun t' e => (by cases e; rfl)⟩
          · exact ⟨hpl, fun q k e => (by cases e), fun t' e => (by cases e)⟩
      · unfold Nested
        have e1 : (L ++ [Row.unl t none, .win pl]).length = L.length + (1 + 1) := by rw [List.length_append]; rfl
        rw [e1]
        refine (hseg _).cat ((SegOk.one (r := .unl t none) (by rw [Nat.zero_add, List.getElem?_append_right (Nat.le_refl _)]; simp) (fun p k e => (by cases e)) fun k e => (by cases e)).cat (SegOk.one (r := .win pl) (by rw [Nat.zero_add, List.getElem?_append_right (by omega)]; simp) (fun p k e => (by cases e)) fun k e => (by cases e)))
    · refine jss_nil ?_
      refine ⟨l0, L, rfl, hL3, hla, hlc, hl0, k3, by omega, hokL, ?_⟩
      have := hseg []
      rw [List.append_nil] at this
      exact this
  obtain ⟨l', R2, rfl, hL2, hl'a, hl'c, hμl', k2, hR2, hok2, hn2⟩ := hI
  have hfit2 := okL_fit hok2 (by omega)
  refine jss_cons ?_
  refine js_v 6 ?_
  refine je_drop ?_
  refine je_d D_L_insides (hr.mono (by decide)) ?_
  refine ja_cons ?_
  refine je_v 5 ?_
  refine ja_cons ?_
  refine je_d D_L_bodies (hr.mono (by decide)) ?_
  refine ja_cons ?_
  refine je_v 5 ?_
  refine ja_nil ?_
  refine ⟨rfl, R2, _, rfl, .inr (.inr ⟨_, rfl, hL2⟩), hfit2, fun lb hlb => ?_⟩
  refine ja_nil ?_
  have hseqb : SeqA (μ'.set lb (.dct ((bodP R2 R2.length).map kvD))) (.ref l') (Rows.dts R2) := (show SeqA μ' (.ref l') (Rows.dts R2) from .inr (.inr ⟨_, rfl, hL2⟩)).set hlb
  refine ⟨rfl, R2, _, lb, rfl, hseqb, hfit2.2, Sto.set_same, ?_⟩
  refine ⟨_, Sto.le_set hlb, ?_⟩
  refine jss_cons ?_
  refine js_forI (fun items i δ μ3 => ∃ x7 x8 x9 x10 R3, δ = [some (.ref a), some (.int nt), some (.int ni), some (.int p), some (.int size), some (.ref l'), some (insD R2), x7, x8, x9, x10] ∧ μ3 l' = some (.lst (Rows.dts R3)) ∧ DK a c μ μ3 ∧ R3.length = R2.length ∧
    (∀ j r, R2[j]? = some r → ∃ r', R3[j]? = some r' ∧ (j < i → Fill1 R2 j r r') ∧ (i ≤ j → r' = r))) PassesOwn.never rfl ?_
  refine ji_enL rfl B.enumerate ?_
  refine je_listLB B.list ?_
  refine je_v 5 ?_
  refine ⟨_, .inr (.inr ⟨_, rfl, hL2⟩), ?_⟩
  refine .inl ⟨_, rfl, ?_⟩
  refine ⟨⟨none, none, none, none, R2, rfl, hL2, k2, rfl, fun j r e => ⟨r, e, fun h => (by omega), fun _ => rfl⟩⟩, fun _ _ _ _ => trivial, fun i d hd δ μ3 hI => ?_, fun δ μ3 hI => ?_⟩
  · obtain ⟨x7, x8, x9, x10, R3, rfl, hL3, k3, hl3, hfill⟩ := hI
    obtain ⟨d', hd', rfl⟩ := enD_get hd
    obtain ⟨r, hr0, rfl⟩ := getR hd'
    have hi := (List.getElem?_eq_some_iff.mp hr0).1
    have hrm := List.mem_of_getElem? hr0
    obtain ⟨hro, _, hrt⟩ := hok2 r hrm
    refine jg_tup rfl (.inl rfl) rfl ?_
    refine jgs_cons ?_
    refine jg_v 7 ?_
    refine jgs_cons ?_
    refine jg_v 8 ?_
    refine jgs_nil ?_
    refine jss_one ?_
    refine js_if ?_
    refine jt_c (jc_inT ?_)
    refine je_at ?_
    refine je_v 8 ?_
    refine je_int ?_
    refine ⟨_, _, _, .inl (.inl rfl), rfl, at0, ?_⟩
    refine je_tup ?_
    refine ja_cons ?_
    refine je_str ?_
    refine ja_cons ?_
    refine je_str ?_
    refine ja_nil ?_
    refine ⟨by show 2 ≤ sizeLine; decide, ?_⟩
    refine ⟨_, rfl, rfl, rfl, ?_⟩
    have ein := in_jump r
    refine ⟨_, rfl, ?_⟩
    refine ⟨fun hT => ?_, fun hF => ?_⟩
    · have hs : (tgOf r).isSome = true := by rw [← ein]; exact hT
      obtain ⟨t, ht⟩ := Option.isSome_iff_exists.mp hs
      have htn := hrt t ht
      subst htn
      refine jss_cons ?_
      refine js_lcA1if 9 10 (blkOk_by (N := n_L_routine) (sc := defScope s_L_routine) (own := [("_law_k", 10)]) (by decide +kernel)) (by decide) ?_
      refine ji_range2 rfl B.range ?_
      refine ja_cons ?_
      refine je_add ?_
      refine je_v 7 ?_
      refine je_int ?_
      refine ⟨_, _, rfl, rfl, ?_⟩
      refine ja_cons ?_
      refine je_add ?_
      refine je_lenB B.len ?_
      refine je_v 5 ?_
      refine ⟨_, .inr ⟨_, .inr (.inr ⟨_, rfl, hL3⟩), rfl⟩, ?_⟩
      rw [dts_len, hl3]
      refine je_int ?_
      refine ⟨_, _, rfl, rfl, ?_⟩
      refine ja_nil ?_
      refine ⟨_, _, rfl, ⟨by omega, by omega, by omega, by omega⟩, ?_⟩
      have ecount : (((R2.length : Nat) : Int) + 1 - (((i : Nat) : Int) + 1)).toNat = R2.length - i := by omega
      rw [ecount]
      refine lcR_pure mon_name mon_one _ (fun x => match x with | .int k => if decide (around R2 k.toNat = around R2 i) then some (.int k) else none | _ => none) (by rw [rgD_len]; show _ ≤ 2 ^ 24; omega) trivial (fun j x hd s' H' C' cl' fp' => ?_) ?_
      · obtain ⟨hj, rfl⟩ := rgD_get hd
        have ek : (((i : Nat) : Int) + 1) + (j : Nat) = ((i + 1 + j : Nat) : Int) := by omega
        rw [ek]
        refine jt_c (jc_eqV hr.units ?_)
        refine je_at ?_
        refine je_v 6 ?_
        refine je_v 10 ?_
        refine ⟨_, _, _, .inr (.inl rfl), rfl, at_nat (insD_get (by omega)), ?_⟩
        refine je_at ?_
        refine je_v 6 ?_
        refine je_v 7 ?_
        refine ⟨_, _, _, .inr (.inl rfl), rfl, at_nat (insD_get (Nat.le_of_lt hi)), ?_⟩
        refine ⟨_, _, ⟨.inl rfl, fit_nats _⟩, ⟨.inl rfl, fit_nats _⟩, ?_⟩
        rw [eqv_lsts]
        refine ⟨_, rfl, fun hT s3 H3 C3 cl3 fp3 => ?_, fun hF => ⟨?_, rfl⟩⟩
        · refine je_v 10 ?_
          refine ⟨?_, rfl⟩
          show (if decide (around R2 ((i + 1 + j : Nat) : Int).toNat = around R2 i) then _ else _) = _
          rw [Int.toNat_natCast, hT]; rfl
        · show (if decide (around R2 ((i + 1 + j : Nat) : Int).toNat = around R2 i) then _ else _) = _
          rw [Int.toNat_natCast, hF]; rfl
      · -- the places that are found
        have hmem : ∀ x, x ∈ (rgD (((i : Nat) : Int) + 1) (R2.length - i)).filterMap (fun x => match x with | .int k => if decide (around R2 k.toNat = around R2 i) then some (Dt.int k) else none | _ => none) ↔ ∃ k : Nat, x = natD k ∧ i < k ∧ k ≤ R2.length ∧ around R2 k = around R2 i := fun x => by
          rw [List.mem_filterMap]
          constructor
          · rintro ⟨y, hy, he⟩
            obtain ⟨j, hj⟩ := List.mem_iff_getElem?.mp hy
            obtain ⟨hj2, rfl⟩ := rgD_get hj
            have ek : (((i : Nat) : Int) + 1) + (j : Nat) = ((i + 1 + j : Nat) : Int) := by omega
            rw [ek] at he
            have he : (if decide (around R2 ((i + 1 + j : Nat) : Int).toNat = around R2 i) then some (Dt.int ((i + 1 + j : Nat) : Int)) else none) = some x := he
            rw [Int.toNat_natCast] at he
            split at he
            · next hd => cases he; exact ⟨i + 1 + j, rfl, by omega, by omega, of_decide_eq_true hd⟩
            · cases he
          · rintro ⟨k, rfl, hk1, hk2, hk3⟩
            refine ⟨.int (k : Nat), ?_, ?_⟩
            · refine List.mem_iff_getElem?.mpr ⟨k - (i + 1), ?_⟩
              unfold rgD
              rw [List.getElem?_map, List.getElem?_range (by omega)]
              show some (Dt.int (((i : Nat) : Int) + 1 + ((k - (i + 1) : Nat) : Int))) = _
              congr 2
              omega
            · show (if decide (around R2 ((k : Nat) : Int).toNat = around R2 i) then _ else _) = _
              rw [Int.toNat_natCast, hk3, decide_eq_true rfl]; rfl
        have hlenS : ((rgD (((i : Nat) : Int) + 1) (R2.length - i)).filterMap (fun x => match x with | .int k => if decide (around R2 k.toNat = around R2 i) then some (Dt.int k) else none | _ => none)).length ≤ 1000 := by
          refine Nat.le_trans (List.length_filterMap_le _ _) ?_
          rw [rgD_len]; omega
        generalize (rgD (((i : Nat) : Int) + 1) (R2.length - i)).filterMap (fun x => match x with | .int k => if decide (around R2 k.toNat = around R2 i) then some (Dt.int k) else none | _ => none) = S at hmem hlenS
        have hne : 1 ≤ S.length := by
          obtain ⟨k, hk1, hk2, hk3⟩ := hn2.target hi (fun p' k' e => by rw [hr0] at e; cases e; cases ht) (fun a' e => by rw [hr0] at e; cases e; cases ht)
          have := (hmem (natD k)).mpr ⟨k, rfl, hk1, hk2, hk3⟩
          exact List.length_pos_of_mem this
        refine jss_one ?_
        refine js_setL ?_
        refine je_catT ?_
        refine je_v 8 ?_
        refine je_tup ?_
        refine ja_cons ?_
        refine je_d D_L_pick (hr.mono (by decide)) ?_
        refine ja_cons ?_
        refine je_v 0 ?_
        refine ja_cons ?_
        refine je_v 9 ?_
        refine ja_nil ?_
        refine ⟨rfl, a, c, _, rfl, k3.1, .inl ⟨S, .inr rfl, hne, by omega, fun x hx μ4 k4 => ?_⟩⟩
        obtain ⟨k, rfl, hk1, hk2, hk3⟩ := (hmem x).mp hx
        have hL4 : μ4 l' = some (.lst (Rows.dts R3)) := k4.2 l' _ hl'a hl'c hL3
        refine ja_nil ?_
        refine ⟨by show 1 ≤ sizeLine; decide, ?_⟩
        have hal : r.args.length ≤ 4 := by
          cases r <;> simp [Row.args, optD] <;> (try split) <;> simp
        refine ⟨_, _, rfl, rfl, by rw [List.length_cons]; show _ + 1 ≤ 2 ^ 24; omega, ?_⟩
        refine je_v 5 ?_
        refine je_v 7 ?_
        refine ⟨_, _, _, i, rfl, rfl, hL4, ?_, ?_⟩
        · unfold ixN
          rw [if_pos (by omega), if_pos (by rw [dts_len]; omega), Int.toNat_natCast]
        · have eset : (Rows.dts R3).set i (Dt.tup (Dt.str r.name :: r.args ++ [natD k])) = Rows.dts (R3.set i (setT r k)) := by
            rw [← set_dt ht]
            exact dts_inj_len R3 i (setT r k)
          refine ⟨_, _, _, _, R3.set i (setT r k), rfl, ?_, ⟨k4.1.set hl'a hl'c, fun b y e1 e2 e3 => ?_⟩, by rw [List.length_set]; exact hl3, fun j r' e => ?_⟩
          · rw [Sto.set_same]
            exact congrArg (fun z => some (Dt.lst z)) eset
          · rw [Sto.set_ne (fun e => by rw [e, hμl'] at e3; cases e3)]
            exact (k3.trans k4).2 b y e1 e2 e3
          · by_cases hji : i = j
            · subst hji
              rw [hr0] at e
              cases e
              refine ⟨setT r k, List.getElem?_set_self (by omega), fun _ => .inr ⟨⟨_, ht⟩, k, hk1, hk2, hk3, rfl⟩, fun h => (by omega)⟩
            · obtain ⟨r'', e1, e2, e3⟩ := hfill j r' e
              refine ⟨r'', by rw [List.getElem?_set_ne hji]; exact e1, fun h => e2 (by omega), fun h => e3 (by omega)⟩
    · have hs : (tgOf r).isSome = false := by rw [← ein]; exact hF
      have htn : tgOf r = none := by
        cases e : tgOf r with
        | none => rfl
        | some t => rw [e] at hs; cases hs
      refine jss_nil ?_
      refine ⟨_, _, _, _, R3, rfl, hL3, k3, hl3, fun j r' e => ?_⟩
      obtain ⟨r'', e1, e2, e3⟩ := hfill j r' e
      refine ⟨r'', e1, fun h => ?_, fun h => e3 (by omega)⟩
      rcases Nat.lt_or_ge j i with hlt | hge
      · exact e2 hlt
      · have : j = i := by omega
        subst this
        rw [hr0] at e
        cases e
        exact .inl ⟨htn, e3 (Nat.le_refl _)⟩
  · obtain ⟨x7, x8, x9, x10, R3, rfl, hL3, k3, hl3, hfill⟩ := hI
    rw [enD_len, dts_len] at hfill
    refine jss_one ?_
    refine js_ret ?_
    refine je_tupleB B.tuple ?_
    refine je_v 5 ?_
    refine ⟨_, .inr ⟨_, rfl, hL3⟩, ?_⟩
    refine q R3 _ (Filled.rt (R := R2) ⟨hl3, fun i r e => ?_⟩ hR2 hok2 hn2) k3
    obtain ⟨r', e1, e2, _⟩ := hfill i r e
    exact ⟨r', e1, e2 (List.getElem?_eq_some_iff.mp e).1⟩
end
end K27
end FQ_
section FR_
/-! The walk, eighteenth part: a code is drawn. -/
namespace K27
open PySem PySem.Spec PyProof.Rows L2
def sizesP : List Pol := [[(0, 1)], [(0, 2)], [(1, 1)], [(0, 1), (1, 1)], [], [(0, 1), (2, 1)]]
def topsP : List Pol := [[(0, 1)], [(0, 2)], [(1, 1)], []]
theorem lm_by {q : Pol} (a : q.Pairwise fun a b => a.1 < b.1) (b : ∀ t ∈ q, 0 ≤ t.1) (c : ∀ t ∈ q, 1 ≤ t.2) (d : ∀ t ∈ q, t.1 ≤ 2) (e : E1 q ≤ 3) : LM 2 3 q := ⟨⟨a, b, c⟩, d, e⟩
theorem sizes_lm : ∀ q ∈ sizesP, LM 2 3 q := by
  intro q hq
  simp only [sizesP, List.mem_cons, List.not_mem_nil, or_false] at hq
  rcases hq with rfl | rfl | rfl | rfl | rfl | rfl <;> exact lm_by (by decide) (by decide) (by decide) (by decide) (by decide)
theorem tops_lm : ∀ q ∈ topsP, LM 2 3 q := by
  intro q hq
  simp only [topsP, List.mem_cons, List.not_mem_nil, or_false] at hq
  rcases hq with rfl | rfl | rfl | rfl <;> exact lm_by (by decide) (by decide) (by decide) (by decide) (by decide)
theorem in_lm : LM 2 3 [(1, 1)] := lm_by (by decide) (by decide) (by decide) (by decide) (by decide)
section
variable {P : Program} {w : World} {K : PySem.W.Frag} {mg : Str → Option Value} {base : Heap}
abbrev C_L_some_code : Ct := fun ds μ Q => ∃ a c, ds = [.ref a, .int 4, .int 6] ∧ Deck a c μ ∧ ∀ cd μ', CodeFull cd 2 → DK a c μ μ' → Q (Code.dt cd) μ'
theorem ok_L_some_code (B : Tops w K mg) (R : Raw K mg "_law_some_code" s_L_some_code ["_law_deck_here", "_law_routines", "_law_size"]) (D_L_draw : Def P w K mg base 1 "_law_draw" ["_law_deck_here", "_law_many"] C_L_draw)
    (D_L_pick : Def P w K mg base 2 "_law_pick" ["_law_deck_here", "_law_some"] C_L_pick) (D_L_routine : Def P w K mg base 12 "_law_routine" ["_law_deck_here", "_law_tapes", "_law_indexes", "_law_p", "_law_size"] C_L_routine) :
    Def P w K mg base 13 "_law_some_code" ["_law_deck_here", "_law_routines", "_law_size"] C_L_some_code := by
  have nd := sc_L_some_code.nd
  refine def_mk R sc_L_some_code fun f cdv A outer s H E hr ds μ Q hl hC => ?_
  obtain ⟨a, c, rfl, hD, q⟩ := hC
  refine jss_mid (fun δ μ' => ∃ ps : List Pol, δ = [some (.ref a), some (.int 4), some (.int 6), some (.lst (ps.map Pol.dt)), none, none, none, none] ∧ ps.length ≤ 2 ∧ (∀ p ∈ ps, LM 2 3 p) ∧ DK a c μ μ') ?_ fun δ μ' hI => ?_
  · refine js_lcA1 3 7 (blkOk_by (N := n_L_some_code) (sc := defScope s_L_some_code) (own := [("_law_turn", 7)]) (by decide +kernel)) (by decide) ?_
    refine ji_range1 rfl B.range ?_
    refine je_d D_L_pick (hr.mono (by decide)) ?_
    refine ja_cons ?_
    refine je_v 0 ?_
    refine ja_cons ?_
    refine je_tup ?_
    refine ja_cons ?_
    refine je_int ?_
    refine ja_cons ?_
    refine je_int ?_
    refine ja_cons ?_
    refine je_int ?_
    refine ja_cons ?_
    refine je_int ?_
    refine ja_cons ?_
    refine je_int ?_
    refine ja_nil ?_
    refine ⟨by show 5 ≤ sizeLine; decide, ?_⟩
    refine ja_nil ?_
    refine ⟨rfl, a, c, _, rfl, hD, .inl ⟨_, .inl rfl, by show 1 ≤ 5; decide, by show 5 ≤ 100000; decide, fun x hx μ1 k1 => ?_⟩⟩
    have hx' : ∃ n : Nat, x = .int (n : Nat) ∧ n ≤ 2 := by
      simp only [List.mem_cons, List.not_mem_nil, or_false] at hx
      rcases hx with rfl | rfl | rfl | rfl | rfl
      · exact ⟨1, rfl, by decide⟩
      · exact ⟨1, rfl, by decide⟩
      · exact ⟨2, rfl, by decide⟩
      · exact ⟨2, rfl, by decide⟩
      · exact ⟨0, rfl, by decide⟩
    obtain ⟨n, rfl, hn⟩ := hx'
    refine ⟨_, rfl, by omega, by omega, ?_⟩
    rw [Int.toNat_natCast]
    refine lcR_inv mon_name mon_yes _ (by rw [rgD_len]; show _ ≤ 2 ^ 24; omega) (fun i acc μ2 => ∃ ps : List Pol, acc = ps.map Pol.dt ∧ ps.length = i ∧ (∀ p ∈ ps, LM 2 3 p) ∧ DK a c μ μ2) ⟨[], rfl, rfl, fun p hp => by simp at hp, k1⟩ (fun _ _ _ _ => trivial) (fun i d hd acc μ2 hI => ?_) (fun acc μ2 hI => ?_)
    · obtain ⟨ps, rfl, hps1, hps2, k2⟩ := hI
      refine ⟨fun _ s' H' C' cl' fp' => ?_, fun h => (by cases h)⟩
      refine je_d D_L_pick (hr.mono (by decide)) ?_
      refine ja_cons ?_
      refine je_v 0 ?_
      refine ja_cons ?_
      refine je_tup ?_
      refine ja_cons ?_
      refine je_tup ?_
      refine ja_cons ?_
      refine je_tup ?_
      refine ja_cons ?_
      refine je_int ?_
      refine ja_cons ?_
      refine je_int ?_
      refine ja_nil ?_
      refine ⟨by show 2 ≤ sizeLine; decide, ?_⟩
      refine ja_nil ?_
      refine ⟨by show 1 ≤ sizeLine; decide, ?_⟩
      refine ja_cons ?_
      refine je_tup ?_
      refine ja_cons ?_
      refine je_tup ?_
      refine ja_cons ?_
      refine je_int ?_
      refine ja_cons ?_
      refine je_int ?_
      refine ja_nil ?_
      refine ⟨by show 2 ≤ sizeLine; decide, ?_⟩
      refine ja_nil ?_
      refine ⟨by show 1 ≤ sizeLine; decide, ?_⟩
      refine ja_cons ?_
      refine je_tup ?_
      refine ja_cons ?_
      refine je_tup ?_
      refine ja_cons ?_
      refine je_int ?_
      refine ja_cons ?_
      refine je_int ?_
      refine ja_nil ?_
      refine ⟨by show 2 ≤ sizeLine; decide, ?_⟩
      refine ja_nil ?_
      refine ⟨by show 1 ≤ sizeLine; decide, ?_⟩
      refine ja_cons ?_
      refine je_tup ?_
      refine ja_cons ?_
      refine je_tup ?_
      refine ja_cons ?_
      refine je_int ?_
      refine ja_cons ?_
      refine je_int ?_
      refine ja_nil ?_
      refine ⟨by show 2 ≤ sizeLine; decide, ?_⟩
      refine ja_cons ?_
      refine je_tup ?_
      refine ja_cons ?_
      refine je_int ?_
      refine ja_cons ?_
      refine je_int ?_
      refine ja_nil ?_
      refine ⟨by show 2 ≤ sizeLine; decide, ?_⟩
      refine ja_nil ?_
      refine ⟨by show 2 ≤ sizeLine; decide, ?_⟩
      refine ja_cons ?_
      refine je_un ?_
      refine je_unit ?_
      refine ⟨[], .inr ⟨[], rfl, rfl⟩, ?_⟩
      refine ja_cons ?_
      refine je_tup ?_
      refine ja_cons ?_
      refine je_tup ?_
      refine ja_cons ?_
      refine je_int ?_
      refine ja_cons ?_
      refine je_int ?_
      refine ja_nil ?_
      refine ⟨by show 2 ≤ sizeLine; decide, ?_⟩
      refine ja_cons ?_
      refine je_tup ?_
      refine ja_cons ?_
      refine je_int ?_
      refine ja_cons ?_
      refine je_int ?_
      refine ja_nil ?_
      refine ⟨by show 2 ≤ sizeLine; decide, ?_⟩
      refine ja_nil ?_
      refine ⟨by show 2 ≤ sizeLine; decide, ?_⟩
      refine ja_nil ?_
      refine ⟨by show 6 ≤ sizeLine; decide, ?_⟩
      refine ja_nil ?_
      refine ⟨rfl, a, c, _, rfl, k2.1, .inl ⟨_, .inl rfl, by show 1 ≤ 6; decide, by show 6 ≤ 100000; decide, fun x hx μ3 k3 => ?_⟩⟩
      have hx' : ∃ q ∈ sizesP, x = Pol.dt q := by
        simp only [List.mem_cons, List.not_mem_nil, or_false] at hx
        rcases hx with rfl | rfl | rfl | rfl | rfl | rfl
        · exact ⟨[(0, 1)], by simp [sizesP], rfl⟩
        · exact ⟨[(0, 2)], by simp [sizesP], rfl⟩
        · exact ⟨[(1, 1)], by simp [sizesP], rfl⟩
        · exact ⟨[(0, 1), (1, 1)], by simp [sizesP], rfl⟩
        · exact ⟨[], by simp [sizesP], rfl⟩
        · exact ⟨[(0, 1), (2, 1)], by simp [sizesP], rfl⟩
      obtain ⟨pq, hpq, rfl⟩ := hx'
      refine ⟨ps ++ [pq], by rw [List.map_append]; rfl, by rw [List.length_append, hps1]; rfl, fun p hp => ?_, k2.trans k3⟩
      rcases List.mem_append.mp hp with hp | hp
      · exact hps2 p hp
      · simp only [List.mem_singleton] at hp
        subst hp
        exact sizes_lm _ hpq
    · obtain ⟨ps, rfl, hps1, hps2, k2⟩ := hI
      rw [rgD_len] at hps1
      exact ⟨ps, rfl, by omega, hps2, k2⟩
  obtain ⟨ps, rfl, hps1, hps2, k1⟩ := hI
  refine jss_mid (fun δ μ'' => ∃ ts : List Pol, δ = [some (.ref a), some (.int 4), some (.int 6), some (.lst (ps.map Pol.dt)), some (.lst (ts.map Pol.dt)), none, none, none] ∧ 1 ≤ ts.length ∧ ts.length ≤ 2 ∧ (∀ p ∈ ts, LM 2 3 p) ∧ DK a c μ μ'') ?_ fun δ μ'' hI => ?_
  · refine js_lcA1 4 7 (blkOk_by (N := n_L_some_code) (sc := defScope s_L_some_code) (own := [("_law_turn", 7)]) (by decide +kernel)) (by decide) ?_
    refine ji_range1 rfl B.range ?_
    refine je_add ?_
    refine je_int ?_
    refine je_d D_L_draw (hr.mono (by decide)) ?_
    refine ja_cons ?_
    refine je_v 0 ?_
    refine ja_cons ?_
    refine je_int ?_
    refine ja_nil ?_
    refine ⟨rfl, a, c, _, rfl, k1.1, by decide, by decide, fun n μ1 hn k2 => ?_⟩
    refine ⟨_, _, rfl, rfl, ?_⟩
    refine ⟨_, rfl, by omega, by omega, ?_⟩
    have en : ((1 : Int) + (n : Nat)).toNat = n + 1 := by omega
    rw [en]
    refine lcR_inv mon_name mon_yes _ (by rw [rgD_len]; show _ ≤ 2 ^ 24; omega) (fun i acc μ2 => ∃ ts : List Pol, acc = ts.map Pol.dt ∧ ts.length = i ∧ (∀ p ∈ ts, LM 2 3 p) ∧ DK a c μ μ2) ⟨[], rfl, rfl, fun p hp => by simp at hp, k1.trans k2⟩ (fun _ _ _ _ => trivial) (fun i d hd acc μ2 hI => ?_) (fun acc μ2 hI => ?_)
    · obtain ⟨ts, rfl, hts1, hts2, k3⟩ := hI
      refine ⟨fun _ s' H' C' cl' fp' => ?_, fun h => (by cases h)⟩
      refine je_d D_L_pick (hr.mono (by decide)) ?_
      refine ja_cons ?_
      refine je_v 0 ?_
      refine ja_cons ?_
      refine je_tup ?_
      refine ja_cons ?_
      refine je_tup ?_
      refine ja_cons ?_
      refine je_tup ?_
      refine ja_cons ?_
      refine je_int ?_
      refine ja_cons ?_
      refine je_int ?_
      refine ja_nil ?_
      refine ⟨by show 2 ≤ sizeLine; decide, ?_⟩
      refine ja_nil ?_
      refine ⟨by show 1 ≤ sizeLine; decide, ?_⟩
      refine ja_cons ?_
      refine je_tup ?_
      refine ja_cons ?_
      refine je_tup ?_
      refine ja_cons ?_
      refine je_int ?_
      refine ja_cons ?_
      refine je_int ?_
      refine ja_nil ?_
      refine ⟨by show 2 ≤ sizeLine; decide, ?_⟩
      refine ja_nil ?_
      refine ⟨by show 1 ≤ sizeLine; decide, ?_⟩
      refine ja_cons ?_
      refine je_tup ?_
      refine ja_cons ?_
      refine je_tup ?_
      refine ja_cons ?_
      refine je_int ?_
      refine ja_cons ?_
      refine je_int ?_
      refine ja_nil ?_
      refine ⟨by show 2 ≤ sizeLine; decide, ?_⟩
      refine ja_nil ?_
      refine ⟨by show 1 ≤ sizeLine; decide, ?_⟩
      refine ja_cons ?_
      refine je_un ?_
      refine je_unit ?_
      refine ⟨[], .inr ⟨[], rfl, rfl⟩, ?_⟩
      refine ja_nil ?_
      refine ⟨by show 4 ≤ sizeLine; decide, ?_⟩
      refine ja_nil ?_
      refine ⟨rfl, a, c, _, rfl, k3.1, .inl ⟨_, .inl rfl, by show 1 ≤ 4; decide, by show 4 ≤ 100000; decide, fun x hx μ3 k4 => ?_⟩⟩
      have hx' : ∃ q ∈ topsP, x = Pol.dt q := by
        simp only [List.mem_cons, List.not_mem_nil, or_false] at hx
        rcases hx with rfl | rfl | rfl | rfl
        · exact ⟨[(0, 1)], by simp [topsP], rfl⟩
        · exact ⟨[(0, 2)], by simp [topsP], rfl⟩
        · exact ⟨[(1, 1)], by simp [topsP], rfl⟩
        · exact ⟨[], by simp [topsP], rfl⟩
      obtain ⟨pq, hpq, rfl⟩ := hx'
      refine ⟨ts ++ [pq], by rw [List.map_append]; rfl, by rw [List.length_append, hts1]; rfl, fun p hp => ?_, k3.trans k4⟩
      rcases List.mem_append.mp hp with hp | hp
      · exact hts2 p hp
      · simp only [List.mem_singleton] at hp
        subst hp
        exact tops_lm _ hpq
    · obtain ⟨ts, rfl, hts1, hts2, k3⟩ := hI
      rw [rgD_len] at hts1
      exact ⟨ts, rfl, by omega, by omega, hts2, k3⟩
  obtain ⟨ts, rfl, hts0, hts1, hts2, k2⟩ := hI
  refine jss_cons ?_
  refine js_v 5 ?_
  refine je_lstM ?_
  refine ja_nil ?_
  refine ⟨by show 0 ≤ sizeLine; decide, fun lf hlf => ?_⟩
  obtain ⟨hla, hlc⟩ := k2.1.fresh hlf
  have hlf0 : μ lf = none := by
    cases e : μ lf with
    | none => rfl
    | some y => have := k2.2 lf y hla hlc e; rw [hlf] at this; cases this
  have hset : ∀ {μ3 : Sto} {y : Dt}, DK a c μ μ3 → DK a c μ (μ3.set lf y) := fun k => ⟨k.1.set hla hlc, fun b z e1 e2 e3 => by
    rw [Sto.set_ne (fun e => by rw [e, hlf0] at e3; cases e3)]
    exact k.2 b z e1 e2 e3⟩
  refine jss_cons ?_
  refine js_forI (fun items i δ μ3 => ∃ x6 x7, ∃ rts : List (List Row), δ = [some (.ref a), some (.int 4), some (.int 6), some (.lst (ps.map Pol.dt)), some (.lst (ts.map Pol.dt)), some (.ref lf), x6, x7] ∧ μ3 lf = some (.lst (rts.map fun r => .tup (Rows.dts r))) ∧ DK a c μ μ3 ∧ rts.length = i ∧ items.length ≤ 4 ∧
    (∀ (j : Nat) (rows : List Row), rts[j]? = some rows → Rt (ps.length + 1) ts.length j 2 rows)) PassesOwn.never rfl ?_
  refine ji_range1 rfl B.range ?_
  refine je_add ?_
  refine je_d D_L_draw (hr.mono (by decide)) ?_
  refine ja_cons ?_
  refine je_v 0 ?_
  refine ja_cons ?_
  refine je_v 1 ?_
  refine ja_nil ?_
  refine ⟨rfl, a, c, _, rfl, k2.1.set hla hlc, by decide, by decide, fun n μ1 hn k3 => ?_⟩
  refine je_int ?_
  refine ⟨_, _, rfl, rfl, ?_⟩
  refine ⟨_, rfl, by omega, by omega, ?_⟩
  refine ⟨⟨none, none, [], rfl, k3.2 lf _ hla hlc Sto.set_same, (hset k2).trans k3, rfl, by rw [rgD_len]; omega, fun j rows e => by simp at e⟩, fun _ _ _ _ => trivial, fun i d hd δ μ3 hI => ?_, fun δ μ3 hI => ?_⟩
  · obtain ⟨x6, x7, rts, rfl, hL, k4, hrl, hil, hrt⟩ := hI
    obtain ⟨hi, rfl⟩ := rgD_get hd
    have hi4 : i < 4 := by
      have := (List.getElem?_eq_some_iff.mp hd).1
      omega
    rw [Int.zero_add]
    refine jg_v 6 ?_
    refine jss_one ?_
    refine js_expr ?_
    refine je_append ?_
    refine je_v 5 ?_
    refine ⟨_, rfl, ⟨_, hL⟩, ?_⟩
    refine je_d D_L_routine (hr.mono (by decide)) ?_
    refine ja_cons ?_
    refine je_v 0 ?_
    refine ja_cons ?_
    refine je_add ?_
    refine je_lenB B.len ?_
    refine je_v 3 ?_
    refine ⟨_, .inr ⟨_, .inr (.inl rfl), rfl⟩, ?_⟩
    rw [List.length_map]
    refine je_int ?_
    refine ⟨_, _, rfl, rfl, ?_⟩
    refine ja_cons ?_
    refine je_lenB B.len ?_
    refine je_v 4 ?_
    refine ⟨_, .inr ⟨_, .inr (.inl rfl), rfl⟩, ?_⟩
    rw [List.length_map]
    refine ja_cons ?_
    refine je_v 6 ?_
    refine ja_cons ?_
    refine je_v 2 ?_
    refine ja_nil ?_
    refine ⟨rfl, a, c, ps.length + 1, ts.length, i, 6, rfl, k4.1, ⟨by omega, by omega⟩, ⟨hts0, by omega⟩, by omega, by decide, fun rows μ5 hR k5 => ?_⟩
    have hL5 := k5.2 lf _ hla hlc hL
    refine ⟨_, hL5, by rw [List.length_map]; show _ < 2 ^ 24; omega, ?_⟩
    refine ⟨_, _, rts ++ [rows], rfl, ?_, hset (k4.trans k5), by rw [List.length_append, hrl]; rfl, hil, fun j rows' e => ?_⟩
    · rw [Sto.set_same, List.map_append]; rfl
    · rcases Nat.lt_or_ge j rts.length with hlt | hge
      · rw [List.getElem?_append_left hlt] at e
        exact hrt j rows' e
      · have hj : j = rts.length := by
          have := (List.getElem?_eq_some_iff.mp e).1
          rw [List.length_append, List.length_singleton] at this
          omega
        subst hj
        rw [List.getElem?_append_right (Nat.le_refl _), Nat.sub_self] at e
        cases e
        rw [hrl]
        exact hR
  · obtain ⟨x6, x7, rts, rfl, hL, k4, hrl, hil, hrt⟩ := hI
    refine jss_one ?_
    refine js_ret ?_
    refine je_tup ?_
    refine ja_cons ?_
    refine je_catT ?_
    refine je_tup ?_
    refine ja_cons ?_
    refine je_tup ?_
    refine ja_cons ?_
    refine je_tup ?_
    refine ja_cons ?_
    refine je_int ?_
    refine ja_cons ?_
    refine je_int ?_
    refine ja_nil ?_
    refine ⟨by show 2 ≤ sizeLine; decide, ?_⟩
    refine ja_nil ?_
    refine ⟨by show 1 ≤ sizeLine; decide, ?_⟩
    refine ja_nil ?_
    refine ⟨by show 1 ≤ sizeLine; decide, ?_⟩
    refine je_tupleB B.tuple ?_
    refine je_v 3 ?_
    refine ⟨_, .inl rfl, ?_⟩
    refine ⟨_, _, rfl, rfl, by rw [List.length_map]; show 1 + _ ≤ 2 ^ 24; omega, ?_⟩
    refine ja_cons ?_
    refine je_tupleB B.tuple ?_
    refine je_v 4 ?_
    refine ⟨_, .inl rfl, ?_⟩
    refine ja_cons ?_
    refine je_tupleB B.tuple ?_
    refine je_v 5 ?_
    refine ⟨_, .inr ⟨_, rfl, hL⟩, ?_⟩
    refine ja_nil ?_
    refine ⟨by show 3 ≤ sizeLine; decide, ?_⟩
    refine q ⟨[(1, 1)] :: ps, ts, rts⟩ _ (full_of (d := 2) rfl (fun p hp => ?_) hts2 (by show ps.length + 1 ≤ 3; omega) ⟨hts0, by show ts.length ≤ 1000; omega⟩ (by show rts.length ≤ 4; omega) (by decide) fun i rows e => ⟨hrt i rows e, (hrt i rows e).w2⟩) k4
    rcases List.mem_cons.mp hp with rfl | hp
    · exact in_lm
    · exact hps2 p hp
end
end K27
end FR_
section FW_
/-! What the law's def needs of a code. -/
namespace K27
open PySem PySem.Spec PyProof.Rows L2
/-- a code whose routines were taken away -/
def bare (c : Code) : Code := { c with rts := [] }
theorem bare_full {c : Code} {dW : Nat} (h : CodeFull c dW) : CodeFull (bare c) dW := by
  have no : ∀ (i : Nat) (rows : List Row), ¬ ([] : List (List Row))[i]? = some rows := fun i rows e => by simp at e
  exact ⟨⟨⟨h.good.t0, h.good.tp, h.good.ip, h.good.tl, h.good.il, Nat.zero_le _, fun i rows e => (no i rows e).elim⟩, fun i rows e at_ hat => (no i rows e).elim⟩, ⟨Nat.zero_le _, fun i rows e => (no i rows e).elim, h.cw.tl, h.cw.tp, h.cw.il⟩, h.dw⟩
theorem EB4 : EB 4 < 2 ^ 60 := by decide
section
variable {c : Code} {dW : Nat}
theorem main_lims (h : CodeFull c dW) : Lim (mainB c).clk ∧ Lim (mainB c).cho ∧ Lim (cellsP c) ∧ Deg (mainB c).clk 900 ∧ Deg (mainB c).cho 900 ∧ Deg (cellsP c) 900 ∧ Shrt (mainB c).dep := by
  obtain ⟨h1, h2, h3⟩ := h.cw.main
  have hd : (dW : Int) * ((4 : Nat) : Int) ≤ 900 := by have := h.dw; omega
  have hE := EB4
  have hc := h.cw.cells h.dw (n := c.tapes.length) (Nat.le_refl _)
  have hcl := h.cw.cellsL h.dw (n := c.tapes.length) (Nat.le_refl _)
  have e : cellsN c c.tapes.length = cellsP c := by unfold cellsN cellsP; rw [List.take_length]
  rw [e] at hc hcl
  refine ⟨h1.lim hd (by omega), h2.lim hd (by omega), hcl, h1.deg.mono hd, h2.deg.mono hd, hc.deg.mono (by decide), shrt_of h3.1 ?_⟩
  have := h3.2
  omega
theorem told_shows (h : CodeFull c dW) : Shows (.tup [.pol (mainB c).clk, .pol (mainB c).cho, .pol (cellsP c), .int (mainB c).dep]) :=
  let ⟨a, b, d, e, f, g, i⟩ := main_lims h
  shows_told a b d e f g i
theorem val_lim {p : Pol} (h : Lim p) (hd : Deg p 16) {n : Nat} (hn : n ≤ 4) : (val p n).natAbs < 2 ^ 1000 := by
  have hp : ∀ e : Int, e ≤ 16 → 0 ≤ (n : Int) ^ e.toNat ∧ (n : Int) ^ e.toNat ≤ 2 ^ 32 := fun e he => by
    have h1 : n ^ e.toNat ≤ 4 ^ 16 := Nat.le_trans (Nat.pow_le_pow_left hn _) (Nat.pow_le_pow_right (by decide) (by omega))
    have h2 : ((n : Int) ^ e.toNat) = ((n ^ e.toNat : Nat) : Int) := by rw [Int.natCast_pow]
    rw [h2]
    have h3 : (4 : Nat) ^ 16 = 2 ^ 32 := by decide
    omega
  have h1 : val p n ≤ S p fun _ => 2 ^ 32 * 1 := S_le fun t ht => ⟨by have := h.can.cf t ht; omega, by rw [Int.mul_one]; exact (hp t.1 (hd t ht)).2⟩
  have h2 : (S p fun _ => 0 * 1) ≤ val p n := S_le fun t ht => ⟨by have := h.can.cf t ht; omega, by rw [Int.zero_mul]; exact (hp t.1 (hd t ht)).1⟩
  rw [S_smul] at h1 h2
  have h3 := h.e1
  unfold E1 at h3
  have h4 : (val p n).natAbs < 2 ^ 97 := by omega
  exact Nat.lt_trans h4 (Nat.pow_lt_pow_right (by decide) (by decide))
theorem main_vals (h : CodeFull c 2) {n : Nat} (hn : n ≤ 4) : Deg (mainB c).clk 16 ∧ Deg (mainB c).cho 16 ∧ Shows (.tup [.int (val (mainB c).clk n), .int (val (mainB c).cho n)]) := by
  obtain ⟨h1, h2, _⟩ := h.cw.main
  obtain ⟨l1, l2, _⟩ := main_lims h
  have d1 : Deg (mainB c).clk 16 := h1.deg.mono (by decide)
  have d2 : Deg (mainB c).cho 16 := h2.deg.mono (by decide)
  exact ⟨d1, d2, shows_two (val_lim l1 d1 hn) (val_lim l2 d2 hn)⟩
end
end K27
end FW_
section FX_
/-! One turn of the law. -/
namespace K27
open PySem PySem.Spec PyProof.Rows L2
section
variable {P : Program} {w : World} {K : PySem.W.Frag} {mg : Str → Option Value} {base : Heap}
/-- the defs that the law's own text calls -/
structure LawDefs (P : Program) (w : World) (K : PySem.W.Frag) (mg : Str → Option Value) (base : Heap) : Prop where
  deck : Def P w K mg base 1 "_law_deck" ["_law_script"] C_L_deck
  draw : Def P w K mg base 1 "_law_draw" ["_law_deck_here", "_law_many"] C_L_draw
  some_code : Def P w K mg base 13 "_law_some_code" ["_law_deck_here", "_law_routines", "_law_size"] C_L_some_code
  bounds : Def P w K mg base 3 "_law_bounds" ["_law_code"] C_L_bounds
  summed : Def P w K mg base 2 "_law_summed" ["_law_code", "_law_n", "_law_kind"] C_L_summed
  clock : DefK P w K mg base 12 "code_clock" "code" (C_code fun c => .pol (mainB c).clk)
  choices : DefK P w K mg base 12 "code_choices" "code" (C_code fun c => .pol (mainB c).cho)
  cells : DefK P w K mg base 12 "code_cells" "code" (C_code fun c => .pol (cellsP c))
  depth : DefK P w K mg base 12 "code_depth" "code" (C_code fun c => .int (mainB c).dep)
  is_poly : Def P w K mg base 4 "is_poly" ["thing"] C_is_poly_value
  value_at : Def P w K mg base 5 "value_at" ["poly", "number"] C_poly_value
abbrev toldD (c : Code) : Dt := .tup [.pol (mainB c).clk, .pol (mainB c).cho, .pol (cellsP c), .int (mainB c).dep]
abbrev lawX (P : Program) (w : World) (K : PySem.W.Frag) (mg : Str → Option Value) (base : Heap) (f : Addr) (cdv : Value) (s : Shared) (H : Hp) (E : XK) : Cx := cx P w K mg base n_law "law" s_law f cdv callerA [] s H E
def lawR (ns : List Int) (a c : Addr) (δ : Env') (μ : Sto) : Prop := ∃ x2 x3 x4 x5 x6 x7, δ = [some (.scr ns), some (.ref a), x2, x3, x4, x5, x6, x7, none, none, none, none] ∧ Deck a c μ
abbrev lawTurn : List Stmt := match defBody s_law with
  | _ :: .For _ _ b _ _ :: _ => b
  | _ => []
theorem cut_two (x y z : Dt) : cutD [x, y, z] none (some 2) = [x, y] := by
  unfold cutD
  have h1 : HT.sIx 3 3 (some 2) = min 2 3 := HT.sIx_nat _ _ 2
  have h0 : HT.sIx 3 0 none = 0 := HT.sIx_none _ _
  show ((([x, y, z] : List Dt).drop (HT.sIx 3 0 none)).take (HT.sIx 3 3 (some 2) - HT.sIx 3 0 none)) = [x, y]
  rw [h0, h1]
  rfl
theorem cut_three (x y z u : Dt) : cutD [x, y, z, u] none (some 3) = [x, y, z] := by
  unfold cutD
  have h1 : HT.sIx 4 4 (some 3) = min 3 4 := HT.sIx_nat _ _ 3
  have h0 : HT.sIx 4 0 none = 0 := HT.sIx_none _ _
  show ((([x, y, z, u] : List Dt).drop (HT.sIx 4 0 none)).take (HT.sIx 4 4 (some 3) - HT.sIx 4 0 none)) = [x, y, z]
  rw [h0, h1]
  rfl
theorem fit_nil : Fit (.lst []) := ⟨rfl, by simp [Dt.py, Dt.pys, SeqAt.shaped, PyData.canLay0, PyData.canLayAll0, PyData.depth, PyData.depthAll]⟩
theorem not_eq_self {x : Str} (h : (!decide (x = x)) = true) : False := by simp at h
section
variable {f : Addr} {cdv : Value} {s : Shared} {H : Hp} {E : XK}
theorem law_turn (B : Tops w K mg) (L : LawDefs P w K mg base) (hr : Room 13 (lawX P w K mg base f cdv s H E).A) (ns : List Int) {a c : Addr} {t : Int} {x3 x4 x5 x6 x7 : Option Dt} {μ : Sto} (hD : Deck a c μ) :
    JSs (lawX P w K mg base f cdv s H E) lawTurn [some (.scr ns), some (.ref a), some (.int t), x3, x4, x5, x6, x7, none, none, none, none] μ { nx := lawR ns a c, rt := fun d _ => d = .bl true, bk := fun _ _ => False, ct := fun _ _ => False } := by
  have nd := sc_law.nd
  have hgd : (lawX P w K mg base f cdv s H E).A.guards = some [] := rfl
  have hu := hr.units
  -- _law_code = _law_some_code(_law_deck_here, 4, 6)
  refine jss_cons ?_
  refine js_v 3 ?_
  refine je_d L.some_code hr ?_
  refine ja_cons ?_
  refine je_v 1 ?_
  refine ja_cons ?_
  refine je_int ?_
  refine ja_cons ?_
  refine je_int ?_
  refine ja_nil ?_
  refine ⟨rfl, a, c, rfl, hD, fun cd μ1 hF k1 => ?_⟩
  -- if _law_draw(_law_deck_here, 12) == 0:
  refine jss_mid (fun δ μ' => ∃ cd, δ = [some (.scr ns), some (.ref a), some (.int t), some (Code.dt cd), x4, x5, x6, x7, none, none, none, none] ∧ CodeFull cd 2 ∧ Deck a c μ') ?_ fun δ μ' hI => ?_
  · refine js_if ?_
    refine jt_c (jc_eqI ?_)
    refine je_d L.draw (hr.mono (by decide)) ?_
    refine ja_cons ?_
    refine je_v 1 ?_
    refine ja_cons ?_
    refine je_int ?_
    refine ja_nil ?_
    refine ⟨rfl, a, c, _, rfl, k1.1, by decide, by decide, fun n μ2 hn k2 => ?_⟩
    refine je_int ?_
    refine ⟨_, _, rfl, rfl, ?_⟩
    refine ⟨_, rfl, ?_⟩
    refine ⟨fun hT => ?_, fun hF' => ?_⟩
    · refine jss_one ?_
      refine js_v 3 ?_
      refine je_catT ?_
      refine je_slT ?_
      refine je_v 3 ?_
      refine jo_none ?_
      refine jo_some ?_
      refine je_int ?_
      refine ⟨_, rfl, ?_⟩
      refine ⟨_, .inl rfl, ?_⟩
      refine je_tup ?_
      refine ja_cons ?_
      refine je_tup ?_
      refine ja_nil ?_
      refine ⟨by decide, ?_⟩
      refine ja_nil ?_
      refine ⟨by decide, ?_⟩
      refine ⟨_, _, rfl, rfl, by show 2 + 1 ≤ sizeLine; decide, ?_⟩
      rw [cut_two]
      exact ⟨bare cd, rfl, bare_full hF, k2.1⟩
    · refine jss_nil ?_
      exact ⟨cd, rfl, hF, k2.1⟩
  clear hF k1 hD
  obtain ⟨cd, rfl, hF, hD⟩ := hI
  -- _law_due = _law_bounds(_law_code)
  refine jss_cons ?_
  refine js_v 4 ?_
  refine je_d L.bounds (hr.mono (by decide)) ?_
  refine ja_cons ?_
  refine je_v 3 ?_
  refine ja_nil ?_
  refine ⟨rfl, cd, 2, rfl, hF.cw, hF.dw, hF.fits, ?_⟩
  -- if _law_turn & 1 == 0:
  refine jss_mid (fun δ μ'' => δ = [some (.scr ns), some (.ref a), some (.int t), some (Code.dt cd), some (toldD cd), some (toldD cd), x6, x7, none, none, none, none] ∧ μ'' = μ') ?_ fun δ μ'' hI => ?_
  · refine js_if ?_
    refine jt_c (jc_eqI ?_)
    refine je_band ?_
    refine je_v 2 ?_
    refine je_int ?_
    refine ⟨_, _, rfl, rfl, ?_⟩
    refine je_int ?_
    refine ⟨_, _, rfl, rfl, ?_⟩
    refine ⟨_, rfl, ?_⟩
    refine ⟨fun hT => ?_, fun hF' => ?_⟩
    · refine jss_one ?_
      refine js_v 5 ?_
      refine je_tup ?_
      refine ja_cons ?_
      refine je_d L.clock.def_ (hr.mono (by decide)) ?_
      refine ja_cons ?_
      refine je_v 3 ?_
      refine ja_nil ?_
      refine ⟨rfl, cd, 2, rfl, hF, ?_⟩
      refine ja_cons ?_
      refine je_d L.choices.def_ (hr.mono (by decide)) ?_
      refine ja_cons ?_
      refine je_v 3 ?_
      refine ja_nil ?_
      refine ⟨rfl, cd, 2, rfl, hF, ?_⟩
      refine ja_cons ?_
      refine je_d L.cells.def_ (hr.mono (by decide)) ?_
      refine ja_cons ?_
      refine je_v 3 ?_
      refine ja_nil ?_
      refine ⟨rfl, cd, 2, rfl, hF, ?_⟩
      refine ja_cons ?_
      refine je_d L.depth.def_ (hr.mono (by decide)) ?_
      refine ja_cons ?_
      refine je_v 3 ?_
      refine ja_nil ?_
      refine ⟨rfl, cd, 2, rfl, hF, ?_⟩
      refine ja_nil ?_
      refine ⟨by show 4 ≤ sizeLine; decide, ?_⟩
      exact ⟨rfl, rfl⟩
    · refine jss_one ?_
      refine js_v 5 ?_
      refine je_tup ?_
      refine ja_cons ?_
      refine je_kw L.clock (hr.mono (by decide)) ?_
      refine je_v 3 ?_
      refine ⟨cd, 2, rfl, hF, ?_⟩
      refine ja_cons ?_
      refine je_kw L.choices (hr.mono (by decide)) ?_
      refine je_v 3 ?_
      refine ⟨cd, 2, rfl, hF, ?_⟩
      refine ja_cons ?_
      refine je_kw L.cells (hr.mono (by decide)) ?_
      refine je_v 3 ?_
      refine ⟨cd, 2, rfl, hF, ?_⟩
      refine ja_cons ?_
      refine je_kw L.depth (hr.mono (by decide)) ?_
      refine je_v 3 ?_
      refine ⟨cd, 2, rfl, hF, ?_⟩
      refine ja_nil ?_
      refine ⟨by show 4 ≤ sizeLine; decide, ?_⟩
      exact ⟨rfl, rfl⟩
  obtain ⟨rfl, rfl⟩ := hI
  have hS := told_shows hF
  obtain ⟨l1, l2, l3, _⟩ := main_lims hF
  -- if repr(_law_told) != repr(_law_due) or ..
  refine jss_cons ?_
  refine js_if ?_
  refine jt_w ?_
  refine jw_or ?_
  refine jt_c (jc_neS ?_)
  refine je_reprB hgd hu B.repr ?_
  refine je_v 5 ?_
  refine ⟨hS, ?_⟩
  refine je_reprB hgd hu B.repr ?_
  refine je_v 4 ?_
  refine ⟨hS, ?_⟩
  refine ⟨_, _, rfl, rfl, ?_⟩
  refine ⟨_, rfl, ?_⟩
  refine ⟨fun h => (not_eq_self h).elim, fun h => ?_⟩
  refine jw_or1 ?_
  refine jt_c (jc_neV hr.units ?_)
  refine je_lc1if 10 (blkOk_by (N := n_law) (sc := defScope s_law) (own := [("_law_it", 10)]) (by decide +kernel)) (by decide) ?_
  refine ji_tup ?_
  refine je_slT ?_
  refine je_v 5 ?_
  refine jo_none ?_
  refine jo_some ?_
  refine je_int ?_
  refine ⟨_, rfl, ?_⟩
  refine ⟨_, .inl rfl, ?_⟩
  refine ⟨_, .inl rfl, ?_⟩
  rw [cut_three]
  refine lcR_pure mon_name mon_one _ (fun _ => none) (by show 3 ≤ sizeLine; decide) trivial (fun i d hd s' H' C' cl' fp' => ?_) ?_
  · have hd' : ∃ p : Pol, d = .pol p ∧ Lim p := by
      rcases List.mem_of_getElem? hd with h
      simp only [List.mem_cons, List.not_mem_nil, or_false] at h
      rcases h with rfl | rfl | rfl
      · exact ⟨_, rfl, l1⟩
      · exact ⟨_, rfl, l2⟩
      · exact ⟨_, rfl, l3⟩
    obtain ⟨p, rfl, hp⟩ := hd'
    refine jt_c (jc_isnotB ?_)
    refine je_d L.is_poly (hr.mono (by decide)) ?_
    refine ja_cons ?_
    refine je_v 10 ?_
    refine ja_nil ?_
    refine ⟨rfl, _, p, rfl, pv_pol _, hp.can, hp.len, ?_⟩
    refine je_bl ?_
    refine ⟨_, _, rfl, rfl, ?_⟩
    exact ⟨_, rfl, fun h => (by cases h), fun _ => ⟨rfl, rfl⟩⟩
  refine je_lst ?_
  refine ja_nil ?_
  refine ⟨by show 0 ≤ sizeLine; decide, ?_⟩
  refine ⟨.lst [], .lst [], ⟨.inl rfl, fit_nil⟩, ⟨.inl rfl, fit_nil⟩, ?_⟩
  refine ⟨_, rfl, ?_⟩
  refine ⟨fun hT => ?_, fun hF' => ?_⟩
  · exact absurd hT (by decide)
  refine jss_nil ?_
  -- _law_n = _law_draw(_law_deck_here, 5)
  refine jss_cons ?_
  refine js_v 6 ?_
  refine je_d L.draw (hr.mono (by decide)) ?_
  refine ja_cons ?_
  refine je_v 1 ?_
  refine ja_cons ?_
  refine je_int ?_
  refine ja_nil ?_
  refine ⟨rfl, a, c, _, rfl, hD, by decide, by decide, fun n μ2 hn k2 => ?_⟩
  have hn4 : n ≤ 4 := by omega
  obtain ⟨d1, d2, hS2⟩ := main_vals hF hn4
  -- _law_near = ..
  refine jss_cons ?_
  refine js_v 7 ?_
  refine je_tup ?_
  refine ja_cons ?_
  refine je_d L.summed (hr.mono (by decide)) ?_
  refine ja_cons ?_
  refine je_v 3 ?_
  refine ja_cons ?_
  refine je_v 6 ?_
  refine ja_cons ?_
  refine je_str ?_
  refine ja_nil ?_
  refine ⟨rfl, cd, 2, n, "steps", true, rfl, hn4, .inl ⟨rfl, rfl⟩, hF.cw, hF.fits, ?_⟩
  refine ja_cons ?_
  refine je_d L.summed (hr.mono (by decide)) ?_
  refine ja_cons ?_
  refine je_v 3 ?_
  refine ja_cons ?_
  refine je_v 6 ?_
  refine ja_cons ?_
  refine je_str ?_
  refine ja_nil ?_
  refine ⟨rfl, cd, 2, n, "choices", false, rfl, hn4, .inr ⟨rfl, rfl⟩, hF.cw, hF.fits, ?_⟩
  refine ja_nil ?_
  refine ⟨by show 2 ≤ sizeLine; decide, ?_⟩
  -- if repr(..) != repr(_law_near)
  refine jss_one ?_
  refine js_if ?_
  refine jt_c (jc_neS ?_)
  refine je_reprB hgd hu B.repr ?_
  refine je_tup ?_
  refine ja_cons ?_
  refine je_d L.value_at (hr.mono (by decide)) ?_
  refine ja_cons ?_
  refine je_at ?_
  refine je_v 5 ?_
  refine je_int ?_
  refine ⟨_, _, _, .inl (.inl rfl), rfl, at0, ?_⟩
  refine ja_cons ?_
  refine je_v 6 ?_
  refine ja_nil ?_
  refine ⟨rfl, _, _, n, rfl, pv_pol _, l1, d1, hn4, ?_⟩
  refine ja_cons ?_
  refine je_d L.value_at (hr.mono (by decide)) ?_
  refine ja_cons ?_
  refine je_at ?_
  refine je_v 5 ?_
  refine je_int ?_
  refine ⟨_, _, _, .inl (.inl rfl), rfl, at1, ?_⟩
  refine ja_cons ?_
  refine je_v 6 ?_
  refine ja_nil ?_
  refine ⟨rfl, _, _, n, rfl, pv_pol _, l2, d2, hn4, ?_⟩
  refine ja_nil ?_
  refine ⟨by show 2 ≤ sizeLine; decide, ?_⟩
  refine ⟨hS2, ?_⟩
  refine je_reprB hgd hu B.repr ?_
  refine je_v 7 ?_
  refine ⟨hS2, ?_⟩
  refine ⟨_, _, rfl, rfl, ?_⟩
  refine ⟨_, rfl, ?_⟩
  refine ⟨fun h => (not_eq_self h).elim, fun h => ?_⟩
  refine jss_nil ?_
  exact ⟨_, _, _, _, _, _, rfl, k2.1⟩
end
end
end K27
end FX_
section FY_
/-! The law's last code: five loops, one in the other. -/
namespace K27
open PySem PySem.Spec PyProof.Rows L2
def moreP : Pol := [(0, 1), (1, 1)]
def lastRows : List Row := [.rep moreP 10, .rep moreP 9, .rep moreP 8, .rep moreP 7, .rep moreP 6, .cho "one" 1 0 "ab", .agn 4, .agn 3, .agn 2, .agn 1, .agn 0]
def lastCode : Code := ⟨[[(1, 1)], [(0, 1)]], [[(0, 1)]], [lastRows]⟩
theorem more_lm : LM 1 2 moreP := ⟨⟨by unfold moreP; decide, by unfold moreP; decide, by unfold moreP; decide⟩, by unfold moreP Deg; decide, by decide⟩
theorem last_nest : Nested lastRows 5 := by
  have h5 : SegOk lastRows 5 1 0 := .one (r := .cho "one" 1 0 "ab") rfl (fun _ _ => by simp) fun _ => by simp
  have h4 : SegOk lastRows 4 3 1 := .loop (n := 4) (m := 1) rfl h5 rfl
  have h3 : SegOk lastRows 3 5 2 := .loop (n := 3) (m := 3) rfl h4 rfl
  have h2 : SegOk lastRows 2 7 3 := .loop (n := 2) (m := 5) rfl h3 rfl
  have h1 : SegOk lastRows 1 9 4 := .loop (n := 1) (m := 7) rfl h2 rfl
  exact .loop (n := 0) (m := 9) rfl h1 rfl
theorem last_rows {r : Row} (h : r ∈ lastRows) : (∃ k, r = .rep moreP k) ∨ (∃ k, r = .agn k) ∨ r = .cho "one" 1 0 "ab" := by
  unfold lastRows at h
  simp only [List.mem_cons, List.not_mem_nil, or_false] at h
  rcases h with h | h | h | h | h | h | h | h | h | h | h
  · exact .inl ⟨_, h⟩
  · exact .inl ⟨_, h⟩
  · exact .inl ⟨_, h⟩
  · exact .inl ⟨_, h⟩
  · exact .inl ⟨_, h⟩
  · exact .inr (.inr h)
  · exact .inr (.inl ⟨_, h⟩)
  · exact .inr (.inl ⟨_, h⟩)
  · exact .inr (.inl ⟨_, h⟩)
  · exact .inr (.inl ⟨_, h⟩)
  · exact .inr (.inl ⟨_, h⟩)
theorem last_rt : Rt 2 1 0 5 lastRows where
  len := by decide
  ok r hr := by
    rcases last_rows hr with ⟨k, rfl⟩ | ⟨k, rfl⟩ | rfl
    · exact ⟨more_lm.can, rfl, fun q k' e => by cases e; exact more_lm.mono (Int.le_refl _) (by decide)⟩
    · exact ⟨trivial, rfl, fun q k' e => by cases e⟩
    · exact ⟨⟨by decide, by decide, by decide, by decide, by decide⟩, rfl, fun q k' e => by cases e⟩
  nest := last_nest
  jump at_ _ r t e ht := by
    rcases last_rows (List.mem_of_getElem? e) with ⟨k, rfl⟩ | ⟨k, rfl⟩ | rfl
    · cases ht
    · cases ht
    · cases ht
theorem last_w : ∀ at_ < lastRows.length, ∀ j, LM (5 : Nat) 32 (weightOf lastRows ((around lastRows at_).take j)) := fun at_ hat j => by
  have hlen : ((around lastRows at_).take j).length ≤ 5 := Nat.le_trans (List.length_take_le' _ _) (last_nest.depth (Nat.le_of_lt hat))
  have hpol : ∀ r ∈ (around lastRows at_).take j, LM 1 2 (polAt lastRows r) := fun r hr => by
    obtain ⟨_, k, h1, _⟩ := mem_around.mp (List.mem_of_mem_take hr)
    obtain ⟨q, h2, _, _⟩ := endOf_some h1
    rw [polAt_of h2]
    rcases last_rows (List.mem_of_getElem? h2) with ⟨k', e⟩ | ⟨k', e⟩ | e
    · cases e; exact more_lm
    · cases e
    · cases e
  refine (weight_lm (by decide) _ hpol).mono (by omega) ?_
  generalize ((around lastRows at_).take j).length = n at hlen
  match n, hlen with
  | 0, _ => decide
  | 1, _ => decide
  | 2, _ => decide
  | 3, _ => decide
  | 4, _ => decide
  | 5, _ => decide
theorem lm_n : LM 2 3 [(1, 1)] := ⟨⟨by decide, by decide, by decide⟩, by unfold Deg; decide, by decide⟩
theorem lm_1 : LM 2 3 [(0, 1)] := ⟨⟨by decide, by decide, by decide⟩, by unfold Deg; decide, by decide⟩
theorem last_full : CodeFull lastCode 5 := by
  refine full_of (d := 5) rfl (fun p hp => ?_) (fun p hp => ?_) (by decide) ⟨by decide, by decide⟩ (by decide) (Nat.le_refl _) fun i rows e => ?_
  · have h : p = [(1, 1)] ∨ p = [(0, 1)] := by simpa [lastCode] using hp
    rcases h with rfl | rfl
    · exact lm_n
    · exact lm_1
  · have h : p = [(0, 1)] := by simpa [lastCode] using hp
    subst h
    exact lm_1
  · cases i with
    | zero =>
      have h : rows = lastRows := by simpa [lastCode] using e.symm
      subst h
      exact ⟨last_rt, last_w⟩
    | succ i => simp [lastCode] at e
end K27
end FY_
section GA_
set_option maxHeartbeats 4000000
/-! The law's def. -/
namespace K27
open PySem PySem.Spec PyProof.Rows L2
section
variable {P : Program} {w : World} {K : PySem.W.Frag} {mg : Str → Option Value} {base : Heap} {f : Addr} {cdv : Value} {s : Shared} {H : Hp} {E : XK}
theorem eq_self_true {x : Str} : (Dt.bl (decide (x = x))) = .bl true := by simp
theorem law_body (B : Tops w K mg) (L : LawDefs P w K mg base) (hr : Room 13 (lawX P w K mg base f cdv s H E).A) (ns : List Int) :
    JSs (lawX P w K mg base f cdv s H E) (defBody s_law) (envOf n_law [.scr ns]) (fun _ => none) { nx := fun _ _ => False, rt := fun d _ => d = .bl true } := by
  have nd := sc_law.nd
  have hgd : (lawX P w K mg base f cdv s H E).A.guards = some [] := rfl
  have hu := hr.units
  refine jss_cons ?_
  refine js_v 1 ?_
  refine je_d L.deck (hr.mono (by decide)) ?_
  refine ja_cons ?_
  refine je_v 0 ?_
  refine ja_nil ?_
  refine ⟨rfl, ns, rfl, fun a c μ hD => ?_⟩
  refine jss_mid (lawR ns a c) ?_ fun δ μ' hI => ?_
  · refine js_forI (fun items i δ μ => lawR ns a c δ μ) PassesOwn.never rfl ?_
    refine ji_range1 rfl B.range ?_
    refine je_int ?_
    refine ⟨_, rfl, by decide, by decide, ?_⟩
    refine ⟨⟨_, _, _, _, _, _, rfl, hD⟩, fun _ _ _ _ => trivial, fun i d hd δ μ hI => ?_, fun δ μ hI => hI⟩
    obtain ⟨x2, x3, x4, x5, x6, x7, rfl, hD⟩ := hI
    obtain ⟨_, rfl⟩ := rgD_get hd
    refine jg_v 2 ?_
    exact (law_turn B L hr ns hD).le ⟨fun _ _ q => q, fun _ _ q => q, fun _ _ q => q.elim, fun _ _ q => q.elim⟩
  obtain ⟨x2, x3, x4, x5, x6, x7, rfl, hD⟩ := hI
  -- _law_more
  refine jss_cons ?_
  refine js_v 8 ?_
  refine je_tup ?_
  refine ja_cons ?_
  refine je_tup ?_
  refine ja_cons ?_
  refine je_int ?_
  refine ja_cons ?_
  refine je_int ?_
  refine ja_nil ?_
  refine ⟨by show 2 ≤ sizeLine; decide, ?_⟩
  refine ja_cons ?_
  refine je_tup ?_
  refine ja_cons ?_
  refine je_int ?_
  refine ja_cons ?_
  refine je_int ?_
  refine ja_nil ?_
  refine ⟨by show 2 ≤ sizeLine; decide, ?_⟩
  refine ja_nil ?_
  refine ⟨by show 2 ≤ sizeLine; decide, ?_⟩
  -- _law_rows
  refine jss_cons ?_
  refine js_v 9 ?_
  refine je_catL ?_
  refine je_catL ?_
  refine je_lc1 11 (blkOk_by (N := n_law) (sc := defScope s_law) (own := [("_law_r", 11)]) (by decide +kernel)) (by decide) ?_
  refine ji_range1 rfl B.range ?_
  refine je_int ?_
  refine ⟨_, rfl, by decide, by decide, ?_⟩
  refine lcR_pure mon_name mon_yes _ (fun d => match d with | .int r => some (.tup [.str "repeat", .tup [pairD (0, 1), pairD (1, 1)], .int (10 - r)]) | _ => none) (by rw [rgD_len]; show 5 ≤ 2 ^ 24; decide) trivial (fun i d hd => ?_) ?_
  · obtain ⟨_, rfl⟩ := rgD_get hd
    refine ⟨fun _ => ?_, fun h => (by cases h)⟩
    intro s' H' C' cl' fp'
    refine je_tup ?_
    refine ja_cons ?_
    refine je_str ?_
    refine ja_cons ?_
    refine je_v 8 ?_
    refine ja_cons ?_
    refine je_sub ?_
    refine je_int ?_
    refine je_v 11 ?_
    refine ⟨_, _, rfl, rfl, ?_⟩
    refine ja_nil ?_
    exact ⟨by show 3 ≤ sizeLine; decide, rfl, rfl⟩
  refine je_lst ?_
  refine ja_cons ?_
  refine je_tup ?_
  refine ja_cons ?_
  refine je_str ?_
  refine ja_cons ?_
  refine je_str ?_
  refine ja_cons ?_
  refine je_int ?_
  refine ja_cons ?_
  refine je_int ?_
  refine ja_cons ?_
  refine je_str ?_
  refine ja_nil ?_
  refine ⟨by show 5 ≤ sizeLine; decide, ?_⟩
  refine ja_nil ?_
  refine ⟨by show 1 ≤ sizeLine; decide, ?_⟩
  refine ⟨_, _, .inl rfl, .inl rfl, by show 5 + 1 ≤ 2 ^ 24; decide, ?_⟩
  refine je_lc1 11 (blkOk_by (N := n_law) (sc := defScope s_law) (own := [("_law_r", 11)]) (by decide +kernel)) (by decide) ?_
  refine ji_range1 rfl B.range ?_
  refine je_int ?_
  refine ⟨_, rfl, by decide, by decide, ?_⟩
  refine lcR_pure mon_name mon_yes _ (fun d => match d with | .int r => some (.tup [.str "again", .int (4 - r)]) | _ => none) (by rw [rgD_len]; show 5 ≤ 2 ^ 24; decide) trivial (fun i d hd => ?_) ?_
  · obtain ⟨_, rfl⟩ := rgD_get hd
    refine ⟨fun _ => ?_, fun h => (by cases h)⟩
    intro s' H' C' cl' fp'
    refine je_tup ?_
    refine ja_cons ?_
    refine je_str ?_
    refine ja_cons ?_
    refine je_sub ?_
    refine je_int ?_
    refine je_v 11 ?_
    refine ⟨_, _, rfl, rfl, ?_⟩
    refine ja_nil ?_
    exact ⟨by show 2 ≤ sizeLine; decide, rfl, rfl⟩
  refine ⟨_, _, .inl rfl, .inl rfl, by show 6 + 5 ≤ 2 ^ 24; decide, ?_⟩
  -- _law_code
  refine jss_cons ?_
  refine js_v 3 ?_
  refine je_tup ?_
  refine ja_cons ?_
  refine je_tup ?_
  refine ja_cons ?_
  refine je_tup ?_
  refine ja_cons ?_
  refine je_tup ?_
  refine ja_cons ?_
  refine je_int ?_
  refine ja_cons ?_
  refine je_int ?_
  refine ja_nil ?_
  refine ⟨by show 2 ≤ sizeLine; decide, ?_⟩
  refine ja_nil ?_
  refine ⟨by show 1 ≤ sizeLine; decide, ?_⟩
  refine ja_cons ?_
  refine je_tup ?_
  refine ja_cons ?_
  refine je_tup ?_
  refine ja_cons ?_
  refine je_int ?_
  refine ja_cons ?_
  refine je_int ?_
  refine ja_nil ?_
  refine ⟨by show 2 ≤ sizeLine; decide, ?_⟩
  refine ja_nil ?_
  refine ⟨by show 1 ≤ sizeLine; decide, ?_⟩
  refine ja_nil ?_
  refine ⟨by show 2 ≤ sizeLine; decide, ?_⟩
  refine ja_cons ?_
  refine je_tup ?_
  refine ja_cons ?_
  refine je_tup ?_
  refine ja_cons ?_
  refine je_tup ?_
  refine ja_cons ?_
  refine je_int ?_
  refine ja_cons ?_
  refine je_int ?_
  refine ja_nil ?_
  refine ⟨by show 2 ≤ sizeLine; decide, ?_⟩
  refine ja_nil ?_
  refine ⟨by show 1 ≤ sizeLine; decide, ?_⟩
  refine ja_nil ?_
  refine ⟨by show 1 ≤ sizeLine; decide, ?_⟩
  refine ja_cons ?_
  refine je_tup ?_
  refine ja_cons ?_
  refine je_tupleB B.tuple ?_
  refine je_v 9 ?_
  refine ⟨_, .inl rfl, ?_⟩
  refine ja_nil ?_
  refine ⟨by show 1 ≤ sizeLine; decide, ?_⟩
  refine ja_nil ?_
  refine ⟨by show 3 ≤ sizeLine; decide, ?_⟩
  -- the end
  refine jss_one ?_
  refine js_ret ?_
  refine je_eqS ?_
  refine je_reprB hgd hu B.repr ?_
  refine je_tup ?_
  refine ja_cons ?_
  refine je_d L.clock.def_ (hr.mono (by decide)) ?_
  refine ja_cons ?_
  refine je_v 3 ?_
  refine ja_nil ?_
  refine ⟨rfl, lastCode, 5, rfl, last_full, ?_⟩
  refine ja_cons ?_
  refine je_d L.choices.def_ (hr.mono (by decide)) ?_
  refine ja_cons ?_
  refine je_v 3 ?_
  refine ja_nil ?_
  refine ⟨rfl, lastCode, 5, rfl, last_full, ?_⟩
  refine ja_cons ?_
  refine je_d L.cells.def_ (hr.mono (by decide)) ?_
  refine ja_cons ?_
  refine je_v 3 ?_
  refine ja_nil ?_
  refine ⟨rfl, lastCode, 5, rfl, last_full, ?_⟩
  refine ja_cons ?_
  refine je_d L.depth.def_ (hr.mono (by decide)) ?_
  refine ja_cons ?_
  refine je_v 3 ?_
  refine ja_nil ?_
  refine ⟨rfl, lastCode, 5, rfl, last_full, ?_⟩
  refine ja_nil ?_
  refine ⟨by show 4 ≤ sizeLine; decide, ?_⟩
  refine ⟨told_shows last_full, ?_⟩
  refine je_reprB hgd hu B.repr ?_
  refine je_d L.bounds (hr.mono (by decide)) ?_
  refine ja_cons ?_
  refine je_v 3 ?_
  refine ja_nil ?_
  refine ⟨rfl, lastCode, 5, rfl, last_full.cw, last_full.dw, last_full.fits, ?_⟩
  refine ⟨told_shows last_full, ?_⟩
  exact ⟨_, _, rfl, rfl, eq_self_true⟩
end
end K27
end GA_
section FT_
/-! parts_of_test. -/
namespace K27
open PySem PySem.Spec PyProof.Rows L2
theorem base_neg {t : Tst} (h : t.base = false) : ∃ u, t = .neg u := by
  cases t with
  | neg u => exact ⟨u, rfl⟩
  | _ => cases h
theorem nums_all {nt ni np : Nat} {t : Tst} (ht : t.ok nt ni) (hb : t.base = true) : ∀ x ∈ zipD (t.kinds.map .str) t.args, NumP nt ni np x := fun x hx => by
  obtain ⟨i, hi⟩ := List.mem_iff_getElem?.mp hx
  obtain ⟨k, y, rfl, h⟩ := zipK_get (Tst.nums (np := np) ht hb) hi
  exact ⟨k, y, rfl, h⟩
section
variable {P : Program} {w : World} {K : PySem.W.Frag} {mg : Str → Option Value} {base : Heap}
theorem ok_parts_of_test (B : Tops w K mg) (R : Raw K mg "parts_of_test" s_parts_of_test ["test"]) : Def P w K mg base 3 "parts_of_test" ["test"] C_parts_of_test := by
  have nd := sc_parts_of_test.nd
  refine def_mk R sc_parts_of_test fun f cdv A outer s H E hr ds μ Q hl hC => ?_
  obtain ⟨t, nt, ni, np, rfl, ht, htd, q⟩ := hC
  obtain ⟨dN, hN, wN⟩ := B.nts
  refine jss_mid (fun δ μ' => ∃ t, δ = [some (Tst.dt t)] ∧ Tst.ok nt ni t ∧ t.base = true ∧ μ' = μ) ?_ fun δ μ' hI => ?_
  · refine js_while PassesOwn.never (fun δ μ' => ∃ t, δ = [some (Tst.dt t)] ∧ Tst.ok nt ni t ∧ μ' = μ) (fun δ _ => slotDep δ) ⟨t, rfl, ht, rfl⟩ fun δ μ' hI => ?_
    obtain ⟨t, rfl, ht, rfl⟩ := hI
    refine jt_c (jc_eqS ?_)
    refine je_at ?_
    refine je_v 0 ?_
    refine je_int ?_
    refine ⟨_, _, _, .inl (.inl (Tst.dt_eq t)), rfl, at0, ?_⟩
    refine je_str ?_
    refine ⟨_, _, rfl, rfl, ?_⟩
    refine ⟨_, rfl, ?_⟩
    refine ⟨fun hT => ?_, fun hF => ⟨t, rfl, ht, ?_, rfl⟩⟩
    · have hb : t.base = false := by
        cases hb : t.base with
        | false => rfl
        | true => exact absurd (of_decide_eq_true hT) (base_not hb)
      obtain ⟨u, rfl⟩ := base_neg hb
      refine jss_one ?_
      refine js_v 0 ?_
      refine je_at ?_
      refine je_v 0 ?_
      refine je_int ?_
      refine ⟨_, _, _, .inl (.inl rfl), rfl, rfl, ?_⟩
      exact ⟨⟨u, rfl, ht, rfl⟩, dep_neg u⟩
    · cases t with
      | neg t => exact absurd rfl (of_decide_eq_false hF)
      | _ => rfl
  · obtain ⟨t, rfl, ht, hb, rfl⟩ := hI
    have htab := Tst.tab hb
    have hn := nums_all (np := np) ht hb
    have hk := tkinds_len t
    refine jss_one ?_
    refine js_ret ?_
    refine je_listZip rfl B.list rfl B.zip rfl ?_
    refine ja_cons ?_
    refine je_wget wN rfl hN (fun _ _ => rfl) ?_
    refine je_at ?_
    refine je_v 0 ?_
    refine je_int ?_
    refine ⟨_, _, _, .inl (.inl (Tst.dt_eq t)), rfl, at0, ?_⟩
    refine ⟨_, _, rfl, htab, ?_⟩
    refine ja_cons ?_
    refine je_slT ?_
    refine je_v 0 ?_
    refine jo_some ?_
    refine je_int ?_
    refine ⟨_, rfl, ?_⟩
    refine jo_none ?_
    refine ⟨_, .inl (Tst.dt_eq t), ?_⟩
    refine ja_nil ?_
    refine ⟨_, _, _, _, rfl, .inl rfl, .inl rfl, ?_⟩
    rw [cutD_one]
    refine q _ hn ?_
    rw [zipD_len, List.length_map]
    omega
end
end K27
end FT_
section GB_
/-! All defs together. Printed by gen_join.py. -/
namespace K27
open PySem PySem.Spec PyProof.Rows L2
/-- every def of the text that the law reaches: its object is written -/
structure Raws (K : PySem.W.Frag) (mg : Str → Option Value) : Prop where
  r_is_integer : Raw K mg "is_integer" s_is_integer ["thing"]
  r_is_from : Raw K mg "is_from" s_is_from ["thing", "least"]
  r_is_tuple : Raw K mg "is_tuple" s_is_tuple ["thing", "many"]
  r_is_word_of : Raw K mg "is_word_of" s_is_word_of ["thing", "signs"]
  r_is_letters : Raw K mg "is_letters" s_is_letters ["thing"]
  r_is_letter : Raw K mg "is_letter" s_is_letter ["thing"]
  r_is_ascending_letters : Raw K mg "is_ascending_letters" s_is_ascending_letters ["thing"]
  r_is_player : Raw K mg "is_player" s_is_player ["thing"]
  r_poly_of : Raw K mg "poly_of" s_poly_of ["counts"]
  r_constant : Raw K mg "constant" s_constant ["number"]
  r_added : Raw K mg "added" s_added ["poly", "other"]
  r_multiplied : Raw K mg "multiplied" s_multiplied ["poly", "other"]
  r_power_of : Raw K mg "power_of" s_power_of ["number", "exponent"]
  r_poly_value : Raw K mg "poly_value" s_poly_value ["poly", "number"]
  r_is_poly_value : Raw K mg "is_poly_value" s_is_poly_value ["thing"]
  r_need_poly : Raw K mg "need_poly" s_need_poly ["poly"]
  r_is_poly : Raw K mg "is_poly" s_is_poly ["thing"]
  r_value_at : Raw K mg "value_at" s_value_at ["poly", "number"]
  r_L_plus : Raw K mg "_law_plus" s_L_plus ["_law_one", "_law_other"]
  r_L_times : Raw K mg "_law_times" s_L_times ["_law_one", "_law_other"]
  r_L_constant : Raw K mg "_law_constant" s_L_constant ["_law_many"]
  r_L_value : Raw K mg "_law_value" s_L_value ["_law_poly", "_law_n"]
  r_is_code_part : Raw K mg "is_code_part" s_is_code_part ["kind", "thing"]
  r_is_numbered_test : Raw K mg "is_numbered_test" s_is_numbered_test ["thing"]
  r_is_row_part : Raw K mg "is_row_part" s_is_row_part ["kind", "thing"]
  r_is_code_row : Raw K mg "is_code_row" s_is_code_row ["thing"]
  r_is_routine : Raw K mg "is_routine" s_is_routine ["thing"]
  r_is_code_value : Raw K mg "is_code_value" s_is_code_value ["thing"]
  r_is_matched : Raw K mg "is_matched" s_is_matched ["rows", "at"]
  r_repeats_around : Raw K mg "repeats_around" s_repeats_around ["rows", "place"]
  r_crosses_earlier : Raw K mg "crosses_earlier" s_crosses_earlier ["rows", "at"]
  r_has_bad_loop : Raw K mg "has_bad_loop" s_has_bad_loop ["rows", "at"]
  r_has_bad_jump : Raw K mg "has_bad_jump" s_has_bad_jump ["rows", "at"]
  r_writes_input : Raw K mg "writes_input" s_writes_input ["row"]
  r_parts_of_row : Raw K mg "parts_of_row" s_parts_of_row ["row"]
  r_has_bad_number : Raw K mg "has_bad_number" s_has_bad_number ["code", "routine", "row"]
  r_fault_of_row : Raw K mg "fault_of_row" s_fault_of_row ["code", "routine", "at"]
  r_certificate_of : Raw K mg "certificate_of" s_certificate_of ["code"]
  r_is_accepted_value : Raw K mg "is_accepted_value" s_is_accepted_value ["thing"]
  r_need_code : Raw K mg "need_code" s_need_code ["code"]
  r_weight_within : Raw K mg "weight_within" s_weight_within ["rows", "around"]
  r_routine_bounds : Raw K mg "routine_bounds" s_routine_bounds ["rows", "earlier"]
  r_main_bounds : Raw K mg "main_bounds" s_main_bounds ["code"]
  r_cell_bound : Raw K mg "cell_bound" s_cell_bound ["code"]
  r_code_clock : RawK K mg "code_clock" s_code_clock "code"
  r_code_choices : RawK K mg "code_choices" s_code_choices "code"
  r_code_cells : RawK K mg "code_cells" s_code_cells "code"
  r_code_depth : RawK K mg "code_depth" s_code_depth "code"
  r_L_bodies : Raw K mg "_law_bodies" s_L_bodies ["_law_rows"]
  r_L_insides : Raw K mg "_law_insides" s_L_insides ["_law_rows", "_law_bodies_here"]
  r_L_read_off : Raw K mg "_law_read_off" s_L_read_off ["_law_code"]
  r_L_bounds : Raw K mg "_law_bounds" s_L_bounds ["_law_code"]
  r_L_summed : Raw K mg "_law_summed" s_L_summed ["_law_code", "_law_n", "_law_kind"]
  r_L_deck : Raw K mg "_law_deck" s_L_deck ["_law_script"]
  r_L_draw : Raw K mg "_law_draw" s_L_draw ["_law_deck_here", "_law_many"]
  r_L_pick : Raw K mg "_law_pick" s_L_pick ["_law_deck_here", "_law_some"]
  r_L_some_test : Raw K mg "_law_some_test" s_L_some_test ["_law_deck_here", "_law_tapes", "_law_indexes", "_law_deep"]
  r_L_simple : Raw K mg "_law_simple" s_L_simple ["_law_deck_here", "_law_tapes", "_law_indexes"]
  r_L_block : Raw K mg "_law_block" s_L_block ["_law_deck_here", "_law_tapes", "_law_indexes", "_law_p", "_law_size", "_law_deep"]
  r_L_laid : Raw K mg "_law_laid" s_L_laid ["_law_block_here", "_law_rows"]
  r_L_routine : Raw K mg "_law_routine" s_L_routine ["_law_deck_here", "_law_tapes", "_law_indexes", "_law_p", "_law_size"]
  r_L_some_code : Raw K mg "_law_some_code" s_L_some_code ["_law_deck_here", "_law_routines", "_law_size"]
  r_parts_of_test : Raw K mg "parts_of_test" s_parts_of_test ["test"]
section
variable {P : Program} {w : World} {K : PySem.W.Frag} {mg : Str → Option Value} {base : Heap}
theorem law_defs (B : Tops w K mg) (R : Raws K mg) : LawDefs P w K mg base := by
  have d_is_integer := ok_is_integer (P := P) (base := base) B R.r_is_integer
  have d_is_from := ok_is_from (P := P) (base := base) B R.r_is_from (D_is_integer := d_is_integer)
  have d_is_tuple := ok_is_tuple (P := P) (base := base) B R.r_is_tuple
  have d_is_word_of := ok_is_word_of (P := P) (base := base) B R.r_is_word_of
  have d_is_letters := ok_is_letters (P := P) (base := base) B R.r_is_letters (D_is_word_of := d_is_word_of)
  have d_is_letter := ok_is_letter (P := P) (base := base) B R.r_is_letter (D_is_letters := d_is_letters)
  have d_is_ascending_letters := ok_is_ascending_letters (P := P) (base := base) B R.r_is_ascending_letters (D_is_letters := d_is_letters)
  have d_is_player := ok_is_player (P := P) (base := base) B R.r_is_player
  have d_poly_of := ok_poly_of (P := P) (base := base) B R.r_poly_of
  have d_constant := ok_constant (P := P) (base := base) B R.r_constant (D_poly_of := d_poly_of)
  have d_added := ok_added (P := P) (base := base) B R.r_added (D_poly_of := d_poly_of)
  have d_multiplied := ok_multiplied (P := P) (base := base) B R.r_multiplied (D_poly_of := d_poly_of)
  have d_power_of := ok_power_of (P := P) (base := base) B R.r_power_of
  have d_poly_value := ok_poly_value (P := P) (base := base) B R.r_poly_value (D_power_of := d_power_of)
  have d_is_poly_value := ok_is_poly_value (P := P) (base := base) B R.r_is_poly_value (D_is_tuple := d_is_tuple) (D_is_from := d_is_from)
  have d_need_poly := ok_need_poly (P := P) (base := base) B R.r_need_poly (D_is_poly_value := d_is_poly_value)
  have d_is_poly := ok_is_poly (P := P) (base := base) B R.r_is_poly (D_is_poly_value := d_is_poly_value)
  have d_value_at := ok_value_at (P := P) (base := base) B R.r_value_at (D_need_poly := d_need_poly) (D_is_from := d_is_from) (D_poly_value := d_poly_value)
  have d_L_plus := ok_L_plus (P := P) (base := base) B R.r_L_plus
  have d_L_times := ok_L_times (P := P) (base := base) B R.r_L_times
  have d_L_constant := ok_L_constant (P := P) (base := base) B R.r_L_constant
  have d_L_value := ok_L_value (P := P) (base := base) B R.r_L_value
  have d_is_code_part := ok_is_code_part (P := P) (base := base) B R.r_is_code_part (D_is_letter := d_is_letter) (D_is_ascending_letters := d_is_ascending_letters) (D_is_player := d_is_player) (D_is_poly_value := d_is_poly_value) (D_is_from := d_is_from)
  have d_is_numbered_test := ok_is_numbered_test (P := P) (base := base) B R.r_is_numbered_test (D_is_tuple := d_is_tuple) (D_is_code_part := d_is_code_part)
  have d_is_row_part := ok_is_row_part (P := P) (base := base) B R.r_is_row_part (D_is_numbered_test := d_is_numbered_test) (D_is_code_part := d_is_code_part)
  have d_is_code_row := ok_is_code_row (P := P) (base := base) B R.r_is_code_row (D_is_row_part := d_is_row_part)
  have d_is_routine := ok_is_routine (P := P) (base := base) B R.r_is_routine (D_is_code_row := d_is_code_row)
  have d_is_code_value := ok_is_code_value (P := P) (base := base) B R.r_is_code_value (D_is_tuple := d_is_tuple) (D_is_poly_value := d_is_poly_value) (D_is_routine := d_is_routine)
  have d_is_matched := ok_is_matched (P := P) (base := base) B R.r_is_matched
  have d_repeats_around := ok_repeats_around (P := P) (base := base) B R.r_repeats_around (D_is_matched := d_is_matched)
  have d_crosses_earlier := ok_crosses_earlier (P := P) (base := base) B R.r_crosses_earlier (D_repeats_around := d_repeats_around)
  have d_has_bad_loop := ok_has_bad_loop (P := P) (base := base) B R.r_has_bad_loop (D_is_matched := d_is_matched) (D_crosses_earlier := d_crosses_earlier)
  have d_has_bad_jump := ok_has_bad_jump (P := P) (base := base) B R.r_has_bad_jump (D_repeats_around := d_repeats_around)
  have d_writes_input := ok_writes_input (P := P) (base := base) B R.r_writes_input
  have d_weight_within := ok_weight_within (P := P) (base := base) B R.r_weight_within (D_constant := d_constant) (D_multiplied := d_multiplied)
  have d_routine_bounds := ok_routine_bounds (P := P) (base := base) B R.r_routine_bounds (D_repeats_around := d_repeats_around) (D_weight_within := d_weight_within) (D_added := d_added) (D_multiplied := d_multiplied)
  have d_main_bounds := ok_main_bounds (P := P) (base := base) B R.r_main_bounds (D_routine_bounds := d_routine_bounds)
  have d_cell_bound := ok_cell_bound (P := P) (base := base) B R.r_cell_bound (D_main_bounds := d_main_bounds) (D_constant := d_constant) (D_added := d_added)
  have d_L_bodies := ok_L_bodies (P := P) (base := base) B R.r_L_bodies
  have d_L_insides := ok_L_insides (P := P) (base := base) B R.r_L_insides
  have d_L_read_off := ok_L_read_off (P := P) (base := base) B R.r_L_read_off (D_L_bodies := d_L_bodies) (D_L_insides := d_L_insides) (D_L_plus := d_L_plus) (D_L_times := d_L_times)
  have d_L_bounds := ok_L_bounds (P := P) (base := base) B R.r_L_bounds (D_L_read_off := d_L_read_off) (D_L_plus := d_L_plus) (D_L_constant := d_L_constant)
  have d_L_summed := ok_L_summed (P := P) (base := base) B R.r_L_summed (D_L_bodies := d_L_bodies) (D_L_insides := d_L_insides) (D_L_value := d_L_value)
  have d_L_deck := ok_L_deck (P := P) (base := base) B R.r_L_deck
  have d_L_draw := ok_L_draw (P := P) (base := base) B R.r_L_draw
  have d_L_pick := ok_L_pick (P := P) (base := base) B R.r_L_pick (D_L_draw := d_L_draw)
  have d_L_some_test := all_some_test (P := P) (base := base) B R.r_L_some_test (D_L_draw := d_L_draw) (D_L_pick := d_L_pick) 5
  have d_L_simple := ok_L_simple (P := P) (base := base) B R.r_L_simple (D_L_draw := d_L_draw) (D_L_pick := d_L_pick)
  have d_L_block := all_block (P := P) (base := base) B R.r_L_block (D_L_draw := d_L_draw) (D_L_pick := d_L_pick) (D_L_some_test := d_L_some_test) (D_L_simple := d_L_simple) 2
  have d_L_laid := all_laid (P := P) (base := base) B R.r_L_laid 2
  have d_L_routine := ok_L_routine (P := P) (base := base) B R.r_L_routine (D_L_draw := d_L_draw) (D_L_pick := d_L_pick) (D_L_some_test := d_L_some_test) (D_L_block := d_L_block) (D_L_laid := d_L_laid) (D_L_bodies := d_L_bodies) (D_L_insides := d_L_insides)
  have d_L_some_code := ok_L_some_code (P := P) (base := base) B R.r_L_some_code (D_L_draw := d_L_draw) (D_L_pick := d_L_pick) (D_L_routine := d_L_routine)
  have d_parts_of_test := ok_parts_of_test (P := P) (base := base) B R.r_parts_of_test
  have d_parts_of_row := ok_parts_of_row (P := P) (base := base) B R.r_parts_of_row (D_parts_of_test := d_parts_of_test)
  have d_has_bad_number := ok_has_bad_number (P := P) (base := base) B R.r_has_bad_number (D_parts_of_row := d_parts_of_row)
  have d_fault_of_row := ok_fault_of_row (P := P) (base := base) B R.r_fault_of_row (D_has_bad_number := d_has_bad_number) (D_writes_input := d_writes_input) (D_has_bad_loop := d_has_bad_loop) (D_has_bad_jump := d_has_bad_jump)
  have d_certificate_of := ok_certificate_of (P := P) (base := base) B R.r_certificate_of (D_fault_of_row := d_fault_of_row)
  have d_is_accepted_value := ok_is_accepted_value (P := P) (base := base) B R.r_is_accepted_value (D_is_code_value := d_is_code_value) (D_certificate_of := d_certificate_of)
  have d_need_code := ok_need_code (P := P) (base := base) B R.r_need_code (D_is_accepted_value := d_is_accepted_value)
  have d_code_clock := ok_code_clock (P := P) (base := base) B R.r_code_clock (D_need_code := d_need_code) (D_main_bounds := d_main_bounds)
  have d_code_choices := ok_code_choices (P := P) (base := base) B R.r_code_choices (D_need_code := d_need_code) (D_main_bounds := d_main_bounds)
  have d_code_cells := ok_code_cells (P := P) (base := base) B R.r_code_cells (D_need_code := d_need_code) (D_cell_bound := d_cell_bound)
  have d_code_depth := ok_code_depth (P := P) (base := base) B R.r_code_depth (D_need_code := d_need_code) (D_main_bounds := d_main_bounds)
  exact ⟨d_L_deck, d_L_draw, d_L_some_code, d_L_bounds, d_L_summed, d_code_clock, d_code_choices, d_code_cells, d_code_depth, d_is_poly, d_value_at⟩
end
end K27
end GB_
section FU_
/-! The law's def where the caller stands alone: what stands around it is known. -/
namespace K27
open PySem PySem.Spec PyProof.Rows L2
section
variable {P : Program} {w : World} {K : PySem.W.Frag} {mg : Str → Option Value} {base : Heap} {x p : Str} {st : Stmt} {f : Addr} {fd : FuncData} {N : List Str} {k : Nat} {s : Shared} {H : Hp} {u : Value} {v : V} {Q : VK} {E : XK}
/-- one call from the top -/
theorem top_run (F : Fun K x x st f fd) (S : FnScope N [p] (defScope st)) (hb : ∀ (s : Shared) (u : Value), BindsTo s fd ⟨[u], []⟩ [(p, u)]) (hr : Room (k + 1) callerA) (e0 : Env0 P w K mg base callerA [] s H) (r : RelV v u)
    (hbody : ∀ cdv, wSs (cx P w K mg base N x st f cdv callerA [] s H E) (defBody st) { nx := fun _ H' => Q .non H', rt := Q } (L2.start N [v]) H) :
    codeAny (model P w) callerA (.call (.ref f) ⟨[u], []⟩) (CR CX0 [] P w H s Q E) s := by
  obtain ⟨oc, od, kV, doc, pm, an, cdv, ct, osl, rfl, lk, hcd⟩ := F.ex
  have up : ∀ b o, base.get? b = some o → s.heap.get? b = some o := fun b o e => (e0.bs b o e).1
  have hin : K.In s.heap := e0.mod.kin.keeps up
  have hkind : ∀ y ∈ [p].zip [u], (defScope st).names.lookup y.1 = some .local ∨ ((defScope st).names.lookup y.1 = some .cell ∧ ((cellsFrom (s.heap.objs.size + 1) (defScope st).names []).lookup y.1).isSome = true) := fun y hy => by
    have hp : y.1 = p := by
      have := (List.of_mem_zip hy).1
      simpa using this
    rcases S.par p (by simp) with q | q
    · exact .inl (hp ▸ q)
    · exact .inr (hp ▸ ⟨q, PySem.W.cellsFrom_some _ _ _ (.inl q)⟩)
  refine codeAny_call_function hr.depth (hin _ _ lk) rfl S.co S.gen rfl (PySem.W.codeRec_of hin hcd) (hb s u _ _ _ _ ?_)
  refine wpAny_newFunctionEnv_cells S.kind hkind fun env he s2 y => ?_
  subst he
  refine ⟨(e0.mod.nolimit.keeps up).keeps y.toInCall.keep, codeAny_func ?_⟩
  have J : Inv (cxOf CX0 P w K mg base N x (defScope st) f cdv callerA [] s H E) [] (L2.start N [v]) H s2 := inv_start S hr.hd e0 rfl (.cons r .nil) y
  have go := (pss_w (X := cx P w K mg base N x st f cdv callerA [] s H E) (st := defBody st)).nox
  refine wpAny_mono (go.run [] s2 _ H _ J (hbody cdv)) (fun fl s3 hs => ?_) fun _ _ hs => hs
  match fl, hs with
  | .ret u', ⟨v', _, H', J', r', q⟩ => exact ⟨v', H', J'.os, J'.bare, J'.base, J'.hok, r', q⟩
  | .next, ⟨_, H', J', q⟩ => exact ⟨.non, H', J'.os, J'.bare, J'.base, J'.hok, rfl, q⟩
  | .brk, ⟨_, _, _, q⟩ => exact q.elim
  | .cont, ⟨_, _, _, q⟩ => exact q.elim
end
/-- the body's judgement, out of nothing known but the script -/
theorem top_body {X : Cx} {N : List Str} {H : Hp} {a : Addr} {ns : List Int} {body : List Stmt} (hS : SqL X.K H a (ns.map V.int))
    (hJ : JSs X body (envOf N [.scr ns]) (fun _ => none) { nx := fun _ _ => False, rt := fun d _ => d = .bl true }) :
    wSs X body { nx := fun _ _ => V.non = V.bl true, rt := fun v _ => v = V.bl true } (L2.start N [.ref a]) H := by
  have hm : Hm X.K H H (fun _ => none) := ⟨Ex.refl H, fun b y e => by cases e⟩
  refine hJ _ H H _ ⟨hm, reps_start (.one (.scr hS))⟩ ⟨fun _ _ _ _ _ _ _ q => q.elim, fun v d G' H' μ' _ _ r e => ?_, fun _ _ _ _ _ _ _ q => q.elim, fun _ _ _ _ _ _ _ q => q.elim⟩
  subst e
  cases r
  rfl
theorem law_walk {l : PySem.W.OpenLaw} {n k : Nat} {q : Program} {loose : List Str} {XP : (Str → Option Value) → Heap → Prop} {YP : World → Heap → Prop} {d : DefRec} {K : Params → PySem.W.Frag} {x p : Str} {st : Stmt} {N : List Str}
    (hn : l.most = some n) (hn2 : n ≤ sizeLine) (hdf : d.params.defaults = []) (hr : Room (k + 1) callerA) (S : FnScope N [p] (defScope st)) (hY : ∀ (w : World) (h : Heap), YP w h → (K w.params).In h)
    (F : ∀ (w : World) (mg : Str → Option Value) (fa : Addr) (h : Heap), (K w.params).In h → h.Ns mainGlobals mg → mg d.name = some (.ref fa) → ∃ fd : FuncData, Fun (K w.params) x x st fa fd ∧ (∀ (s : Shared) (u : Value), BindsTo s fd ⟨[u], []⟩ [(p, u)]) ∧
      ∀ base s H E cdv ns, JSs (cx l.prog w (K w.params) mg base N x st fa cdv callerA [] s H E) (defBody st) (envOf N [.scr ns]) (fun _ => none) { nx := fun _ _ => False, rt := fun d _ => d = .bl true }) :
    PySem.W.WalkO q loose XP YP l.row.toRowW d [] (fun f vs => PySem.call f vs) := by
  refine Att.attach_call hn hdf fun w s0 s1 mg mb fa o pm cd doc a vs ns G Y ho hd hcd hmg hobj hints hlen hg => ?_
  have hK := hY w _ Y
  obtain ⟨fd, F1, F2, F3⟩ := F w mg fa _ hK G.T.g hmg
  have hv := vals_ints hints
  have hlim : ns.length ≤ sizeLine := Nat.le_trans hlen hn2
  obtain ⟨u0, hu0⟩ : ∃ u0 : HO, u0 = .frz { cls := .type "list", data := .seq vs.toArray } (.lst (ns.map V.int)) := ⟨_, rfl⟩
  obtain ⟨H, hHd⟩ : ∃ H : Hp, H = fun b => if b = a ∧ (K w.params).lookup a = none then some u0 else none := ⟨_, rfl⟩
  have hHb : ∀ b, H b = if b = a ∧ (K w.params).lookup a = none then some u0 else none := fun b => by rw [hHd]
  have hH : ∀ b u, H b = some u → b = a ∧ (K w.params).lookup a = none ∧ u = u0 := fun b u e => by
    rw [hHb] at e
    by_cases c : b = a ∧ (K w.params).lookup a = none
    · rw [if_pos c] at e; cases e; exact ⟨c.1, c.2, rfl⟩
    · rw [if_neg c] at e; cases e
  have hS : SqL (K w.params) H a (ns.map V.int) := by
    cases e : (K w.params).lookup a with
    | none => exact .inl (.inr ⟨_, by rw [hHb, if_pos ⟨rfl, e⟩, hu0]⟩)
    | some o' =>
      have e1 := hK a o' e
      rw [hobj] at e1
      cases e1
      exact .inr ⟨_, vs.toArray, _, e, rfl, rfl, rfl, by rw [List.size_toArray, hints.length]; exact hlim, by simpa using hv⟩
  have hOk : HOk l.prog w H s1.heap := fun b u e => by
    obtain ⟨rfl, _, rfl⟩ := hH b u e
    rw [hu0]
    exact ⟨hobj, by rw [List.length_map]; exact hlim, vs, _, hv, hobj⟩
  have free : ∀ b o, s1.heap.get? b = some o → (b = a → (K w.params).lookup a ≠ none ∨ ∃ es ep, o.data = .dict es ep) → H b = none := fun b o e c => by
    cases hb : H b with
    | none => rfl
    | some u =>
      obtain ⟨rfl, h2, _⟩ := hH b u hb
      rcases c rfl with c | ⟨es, ep, c⟩
      · exact absurd h2 c
      · rw [hobj] at e; cases e; cases c
  have seen : ∀ {b : Addr} {m : Str → Option Value}, s1.heap.Ns b m → (hidT s1.heap H).Ns b m := fun {b m} ⟨o, es, ep, e, d, r⟩ => ⟨o, es, ep, hidT_get e (free b o e fun _ => .inr ⟨es, ep, d⟩), d, r⟩
  have hKb : (K w.params).In (hidT s1.heap H) := fun b o e => hidT_get (hK b o e) (free b o (hK b o e) fun h => .inl (by rw [← h, e]; simp))
  have mods : Mod (K w.params) mg (hidT s1.heap H) := ⟨hKb, seen G.T.g, ⟨mb, seen G.T.b, G.T.builtins⟩, let ⟨mc, h1, h2⟩ := G.T.nolimit; ⟨mc, seen h1, h2⟩⟩
  have e0 : Env0 l.prog w (K w.params) mg (hidT s1.heap H) callerA [] s1 H := ⟨rfl, mods, fun _ _ => of_hidT, Nat.le_of_eq (hidT_size _ _), trivial, fun _ hb => (nomatch hb), hOk, .of_eq hg⟩
  refine codeAny_mono (top_run (v := .ref a) (Q := fun v _ => v = .bl true) (E := fun _ _ _ => False) F1 S F2 hr e0 rfl fun cdv => top_body hS (F3 _ _ _ _ cdv ns)) fun r s' h => ?_
  match r, h with
  | .error e, h => exact h.elim
  | .ok .next, h => exact h.elim
  | .ok .brk, h => exact h.elim
  | .ok .cont, h => exact h.elim
  | .ok (.ret u), ⟨v, H', hos, hbare, un, hok', rv, e⟩ =>
    have e' : v = .bl true := e
    subst e'
    have eu : u = Value.bool true := rv
    subst eu
    refine ⟨rfl, OldK.of_keep fun b o e => ?_, hos, hbare⟩
    cases hb : H b with
    | none => exact un.keep b o e hb (fun z => nomatch z) (by simp)
    | some u =>
      obtain ⟨rfl, _, e2⟩ := hH b u hb
      subst e2
      rw [hu0] at hb
      obtain ⟨e3, _⟩ := hok' b _ (un.frzs b _ _ hb)
      rw [hobj] at e
      cases e
      exact e3
end K27
end FU_
section GC_
/-! What the head's facts say, in the walk's own words. -/
namespace K27
open PySem PySem.Spec PyProof.Rows L2
section
variable {P : Program} {w : World} {K : PySem.W.Frag} {mg : Str → Option Value} {h : Heap}
/-- the arguments of a def stand at its parameters -/
def BindsOf (x : Str) (st : Stmt) (ps : List Str) : Prop := ∀ (kV doc pm : Value) (an : Option Addr) (cdv ct : Value) (us : List Value), us.length = ps.length → bindArgs (PySem.W.fnOf x x (defArgs st) (defBody st) (defScope st) .none kV doc pm an cdv ct) ⟨us, []⟩ = pure (ps.zip us)
/-- .. by its name -/
def KwOf (x : Str) (st : Stmt) (p : Str) : Prop := ∀ (kV doc pm : Value) (an : Option Addr) (cdv ct u : Value), bindArgs (PySem.W.fnOf x x (defArgs st) (defBody st) (defScope st) .none kV doc pm an cdv ct) ⟨[], [(p, u)]⟩ = pure [(p, u)]
theorem raw_mk {x : Str} {st : Stmt} {ps : List Str} {f : Addr} {oc : Value} {od an : Option Addr} {osl : Array (Option Value)} {kV doc pm cdv ct : Value} (X : K.In h) (G : h.Ns mainGlobals mg) (hb : BindsOf x st ps)
    (a : PySem.W.nsIn K mainGlobals x = some (some (.ref f))) (l : K.lookup f = some ⟨oc, od, .func (PySem.W.fnOf x x (defArgs st) (defBody st) (defScope st) .none kV doc pm an cdv ct), osl⟩) (c : PySem.W.codeIn K cdv x = true) (k : PySem.W.keepIn K (.ref f) = true) : Raw K mg x st ps :=
  ⟨f, _, fun_mk l c k, PySem.W.mg_of X G a, (fun_mk l c k).binds hb⟩
theorem rawk_mk {x p : Str} {st : Stmt} {f : Addr} {oc : Value} {od an : Option Addr} {osl : Array (Option Value)} {kV doc pm cdv ct : Value} (X : K.In h) (G : h.Ns mainGlobals mg) (hb : BindsOf x st [p]) (hk : KwOf x st p)
    (a : PySem.W.nsIn K mainGlobals x = some (some (.ref f))) (l : K.lookup f = some ⟨oc, od, .func (PySem.W.fnOf x x (defArgs st) (defBody st) (defScope st) .none kV doc pm an cdv ct), osl⟩) (c : PySem.W.codeIn K cdv x = true) (k : PySem.W.keepIn K (.ref f) = true) : RawK K mg x st p :=
  ⟨f, _, fun_mk l c k, PySem.W.mg_of X G a, (fun_mk l c k).binds hb, fun s u => .of_eq (hk _ _ _ _ _ _ u)⟩
/-! the same, the part named by its own fact -/
abbrev RawX (_ : K.In h) (mg : Str → Option Value) (x : Str) (st : Stmt) (ps : List Str) : Prop := Raw K mg x st ps
abbrev RawKX (_ : K.In h) (mg : Str → Option Value) (x : Str) (st : Stmt) (p : Str) : Prop := RawK K mg x st p
abbrev RawsX (_ : K.In h) (mg : Str → Option Value) : Prop := Raws K mg
abbrev TopsX (_ : K.In h) (w : World) (mg : Str → Option Value) : Prop := Tops w K mg
abbrev RepX (_ : K.In h) (G : Hp) (v : V) (d : Dt) : Prop := Rep K G v d
abbrev WDctX (_ : K.In h) (w : World) (d : Addr) (tab : List (Str × Dt)) : Prop := WDct K w d tab
/-! ### the tables of the top -/
theorem rep_words {a : Addr} {its : Array Value} {n : Nat} {od : Option Addr} {osl : Array (Option Value)} {xs : List Str} (l : K.lookup a = some ⟨.type "tuple", od, .seq its n, osl⟩) (hv : Vals (xs.map V.str) its.toList) (hs : its.size ≤ sizeLine) (G : Hp) : Rep K G (.ref a) (tp xs) := by
  refine .tup (vs := xs.map V.str) (.inr ⟨_, its, n, l, rfl, rfl, hs, hv⟩) ?_
  clear l hv hs
  induction xs with
  | nil => exact .nil
  | cons x xs ih => exact .cons (.str x) ih
theorem rep_in {a b : Addr} {n m : Nat} {od od' : Option Addr} {osl osl' : Array (Option Value)} {i j : Tok} (l : K.lookup a = some ⟨.type "tuple", od, .seq #[.ref b] n, osl⟩) (l' : K.lookup b = some ⟨.type "tuple", od', .seq #[.int 1 i, .int 1 j] m, osl'⟩) (G : Hp) :
    Rep K G (.ref a) (.tup [pairD (1, 1)]) :=
  .tup (vs := [.ref b]) (.inr ⟨_, _, n, l, rfl, rfl, (show 1 ≤ sizeLine by decide), .cons rfl .nil⟩) (.one (.tup (vs := [.int 1, .int 1]) (.inr ⟨_, _, m, l', rfl, rfl, (show 2 ≤ sizeLine by decide), .cons ⟨_, rfl⟩ (.cons ⟨_, rfl⟩ .nil)⟩) (.cons (.int 1) (.one (.int 1)))))
theorem lets_mk {x : Str} {t : Tok} (X : K.In h) (G : h.Ns mainGlobals mg) (a : PySem.W.nsIn K mainGlobals "LETTERS" = some (some (.str x t))) (e : x = alpha) : ∃ t, mg "LETTERS" = some (.str alpha t) := ⟨t, e ▸ PySem.W.mg_of X G a⟩
/-- what stands at a key -/
def AtKey (K : PySem.W.Frag) (d : Addr) (z : Str) (x : Dt) : Prop := ∃ v u, PySem.W.nsIn K d z = some (some u) ∧ RelV v u ∧ ∀ G, Rep K G v x
theorem atkey_mk {d a : Addr} {its : Array Value} {n : Nat} {od : Option Addr} {osl : Array (Option Value)} {z : Str} {xs : List Str} (e : PySem.W.nsIn K d z = some (some (.ref a))) (l : K.lookup a = some ⟨.type "tuple", od, .seq its n, osl⟩) (hv : Vals (xs.map V.str) its.toList) (hs : its.size ≤ sizeLine) :
    AtKey K d z (tp xs) := ⟨.ref a, _, e, rfl, rep_words l hv hs⟩
/-- a table by its rows -/
def AllKeys (K : PySem.W.Frag) (d : Addr) : List (Str × Dt) → Prop
  | [] => True
  | (z, x) :: r => AtKey K d z x ∧ AllKeys K d r
theorem AllKeys.get {d : Addr} : ∀ {tab : List (Str × Dt)}, AllKeys K d tab → ∀ z x, tab.lookup z = some x → AtKey K d z x
  | [], _, _, _, e => by cases e
  | (y, v) :: r, ⟨h1, h2⟩, z, x, e => by
    rw [List.lookup_cons] at e
    split at e
    · rename_i q
      cases e
      have q' : z = y := by simpa using q
      rw [q']
      exact h1
    · exact h2.get z x e
theorem wdct_mk {d : Addr} {es : Array DictEntry} {n : Nat} {tab : List (Str × Dt)} (l : K.lookup d = some ⟨.type "dict", none, .dict es n, #[]⟩) (hl : PySem.W.KeysLit w.params es.toList) (hs : (d == sysModules) = false) (ha : AllKeys K d tab) : WDct K w d tab :=
  ⟨⟨es, n, ⟨l, hl, hs⟩⟩, fun z x e => ha.get z x e⟩
/-! ### the law's def -/
theorem room_top : Room 14 callerA := ⟨rfl, by decide, by decide⟩
theorem law_end {f fa : Addr} {oc : Value} {od an : Option Addr} {osl : Array (Option Value)} {kV doc pm cdv ct : Value} (B : Tops w K mg) (R : Raws K mg) (X : K.In h) (G : h.Ns mainGlobals mg) (hmg : mg "law" = some (.ref fa)) (hb : BindsOf "law" s_law ["_law_script"])
    (a : PySem.W.nsIn K mainGlobals "law" = some (some (.ref f))) (l : K.lookup f = some ⟨oc, od, .func (PySem.W.fnOf "law" "law" (defArgs s_law) (defBody s_law) (defScope s_law) .none kV doc pm an cdv ct), osl⟩) (c : PySem.W.codeIn K cdv "law" = true) (k : PySem.W.keepIn K (.ref f) = true) :
    ∃ fd : FuncData, Fun K "law" "law" s_law fa fd ∧ (∀ (s : Shared) (u : Value), BindsTo s fd ⟨[u], []⟩ [("_law_script", u)]) ∧
      ∀ base s H E cdv ns, JSs (cx P w K mg base n_law "law" s_law fa cdv callerA [] s H E) (defBody s_law) (envOf n_law [.scr ns]) (fun _ => none) { nx := fun _ _ => False, rt := fun d _ => d = .bl true } := by
  have e := hmg.symm.trans (PySem.W.mg_of X G a)
  cases e
  exact ⟨_, fun_mk l c k, fun s u => .of_eq (hb _ _ _ _ _ _ [u] rfl), fun base s H E cdv ns => law_body B (law_defs B R) (room_top.deeper _) ns⟩
end
end K27
end GC_
section GD_
/-! How the arguments of each def bind. Printed by gen_head.py. -/
namespace K27
open PySem PySem.Spec PyProof.Rows L2
theorem b_is_integer : BindsOf "is_integer" s_is_integer ["thing"] := fun _ _ _ _ _ _ us hl => match us, hl with | [_], _ => rfl
theorem b_is_from : BindsOf "is_from" s_is_from ["thing", "least"] := fun _ _ _ _ _ _ us hl => match us, hl with | [_, _], _ => rfl
theorem b_is_tuple : BindsOf "is_tuple" s_is_tuple ["thing", "many"] := fun _ _ _ _ _ _ us hl => match us, hl with | [_, _], _ => rfl
theorem b_is_word_of : BindsOf "is_word_of" s_is_word_of ["thing", "signs"] := fun _ _ _ _ _ _ us hl => match us, hl with | [_, _], _ => rfl
theorem b_is_letters : BindsOf "is_letters" s_is_letters ["thing"] := fun _ _ _ _ _ _ us hl => match us, hl with | [_], _ => rfl
theorem b_is_letter : BindsOf "is_letter" s_is_letter ["thing"] := fun _ _ _ _ _ _ us hl => match us, hl with | [_], _ => rfl
theorem b_is_ascending_letters : BindsOf "is_ascending_letters" s_is_ascending_letters ["thing"] := fun _ _ _ _ _ _ us hl => match us, hl with | [_], _ => rfl
theorem b_is_player : BindsOf "is_player" s_is_player ["thing"] := fun _ _ _ _ _ _ us hl => match us, hl with | [_], _ => rfl
theorem b_poly_of : BindsOf "poly_of" s_poly_of ["counts"] := fun _ _ _ _ _ _ us hl => match us, hl with | [_], _ => rfl
theorem b_constant : BindsOf "constant" s_constant ["number"] := fun _ _ _ _ _ _ us hl => match us, hl with | [_], _ => rfl
theorem b_added : BindsOf "added" s_added ["poly", "other"] := fun _ _ _ _ _ _ us hl => match us, hl with | [_, _], _ => rfl
theorem b_multiplied : BindsOf "multiplied" s_multiplied ["poly", "other"] := fun _ _ _ _ _ _ us hl => match us, hl with | [_, _], _ => rfl
theorem b_power_of : BindsOf "power_of" s_power_of ["number", "exponent"] := fun _ _ _ _ _ _ us hl => match us, hl with | [_, _], _ => rfl
theorem b_poly_value : BindsOf "poly_value" s_poly_value ["poly", "number"] := fun _ _ _ _ _ _ us hl => match us, hl with | [_, _], _ => rfl
theorem b_is_poly_value : BindsOf "is_poly_value" s_is_poly_value ["thing"] := fun _ _ _ _ _ _ us hl => match us, hl with | [_], _ => rfl
theorem b_need_poly : BindsOf "need_poly" s_need_poly ["poly"] := fun _ _ _ _ _ _ us hl => match us, hl with | [_], _ => rfl
theorem b_is_poly : BindsOf "is_poly" s_is_poly ["thing"] := fun _ _ _ _ _ _ us hl => match us, hl with | [_], _ => rfl
theorem b_value_at : BindsOf "value_at" s_value_at ["poly", "number"] := fun _ _ _ _ _ _ us hl => match us, hl with | [_, _], _ => rfl
theorem b_L_plus : BindsOf "_law_plus" s_L_plus ["_law_one", "_law_other"] := fun _ _ _ _ _ _ us hl => match us, hl with | [_, _], _ => rfl
theorem b_L_times : BindsOf "_law_times" s_L_times ["_law_one", "_law_other"] := fun _ _ _ _ _ _ us hl => match us, hl with | [_, _], _ => rfl
theorem b_L_constant : BindsOf "_law_constant" s_L_constant ["_law_many"] := fun _ _ _ _ _ _ us hl => match us, hl with | [_], _ => rfl
theorem b_L_value : BindsOf "_law_value" s_L_value ["_law_poly", "_law_n"] := fun _ _ _ _ _ _ us hl => match us, hl with | [_, _], _ => rfl
theorem b_is_code_part : BindsOf "is_code_part" s_is_code_part ["kind", "thing"] := fun _ _ _ _ _ _ us hl => match us, hl with | [_, _], _ => rfl
theorem b_is_numbered_test : BindsOf "is_numbered_test" s_is_numbered_test ["thing"] := fun _ _ _ _ _ _ us hl => match us, hl with | [_], _ => rfl
theorem b_is_row_part : BindsOf "is_row_part" s_is_row_part ["kind", "thing"] := fun _ _ _ _ _ _ us hl => match us, hl with | [_, _], _ => rfl
theorem b_is_code_row : BindsOf "is_code_row" s_is_code_row ["thing"] := fun _ _ _ _ _ _ us hl => match us, hl with | [_], _ => rfl
theorem b_is_routine : BindsOf "is_routine" s_is_routine ["thing"] := fun _ _ _ _ _ _ us hl => match us, hl with | [_], _ => rfl
theorem b_is_code_value : BindsOf "is_code_value" s_is_code_value ["thing"] := fun _ _ _ _ _ _ us hl => match us, hl with | [_], _ => rfl
theorem b_is_matched : BindsOf "is_matched" s_is_matched ["rows", "at"] := fun _ _ _ _ _ _ us hl => match us, hl with | [_, _], _ => rfl
theorem b_repeats_around : BindsOf "repeats_around" s_repeats_around ["rows", "place"] := fun _ _ _ _ _ _ us hl => match us, hl with | [_, _], _ => rfl
theorem b_crosses_earlier : BindsOf "crosses_earlier" s_crosses_earlier ["rows", "at"] := fun _ _ _ _ _ _ us hl => match us, hl with | [_, _], _ => rfl
theorem b_has_bad_loop : BindsOf "has_bad_loop" s_has_bad_loop ["rows", "at"] := fun _ _ _ _ _ _ us hl => match us, hl with | [_, _], _ => rfl
theorem b_has_bad_jump : BindsOf "has_bad_jump" s_has_bad_jump ["rows", "at"] := fun _ _ _ _ _ _ us hl => match us, hl with | [_, _], _ => rfl
theorem b_writes_input : BindsOf "writes_input" s_writes_input ["row"] := fun _ _ _ _ _ _ us hl => match us, hl with | [_], _ => rfl
theorem b_parts_of_row : BindsOf "parts_of_row" s_parts_of_row ["row"] := fun _ _ _ _ _ _ us hl => match us, hl with | [_], _ => rfl
theorem b_has_bad_number : BindsOf "has_bad_number" s_has_bad_number ["code", "routine", "row"] := fun _ _ _ _ _ _ us hl => match us, hl with | [_, _, _], _ => rfl
theorem b_fault_of_row : BindsOf "fault_of_row" s_fault_of_row ["code", "routine", "at"] := fun _ _ _ _ _ _ us hl => match us, hl with | [_, _, _], _ => rfl
theorem b_certificate_of : BindsOf "certificate_of" s_certificate_of ["code"] := fun _ _ _ _ _ _ us hl => match us, hl with | [_], _ => rfl
theorem b_is_accepted_value : BindsOf "is_accepted_value" s_is_accepted_value ["thing"] := fun _ _ _ _ _ _ us hl => match us, hl with | [_], _ => rfl
theorem b_need_code : BindsOf "need_code" s_need_code ["code"] := fun _ _ _ _ _ _ us hl => match us, hl with | [_], _ => rfl
theorem b_weight_within : BindsOf "weight_within" s_weight_within ["rows", "around"] := fun _ _ _ _ _ _ us hl => match us, hl with | [_, _], _ => rfl
theorem b_routine_bounds : BindsOf "routine_bounds" s_routine_bounds ["rows", "earlier"] := fun _ _ _ _ _ _ us hl => match us, hl with | [_, _], _ => rfl
theorem b_main_bounds : BindsOf "main_bounds" s_main_bounds ["code"] := fun _ _ _ _ _ _ us hl => match us, hl with | [_], _ => rfl
theorem b_cell_bound : BindsOf "cell_bound" s_cell_bound ["code"] := fun _ _ _ _ _ _ us hl => match us, hl with | [_], _ => rfl
theorem b_code_clock : BindsOf "code_clock" s_code_clock ["code"] := fun _ _ _ _ _ _ us hl => match us, hl with | [_], _ => rfl
theorem k_code_clock : KwOf "code_clock" s_code_clock "code" := fun _ _ _ _ _ _ _ => rfl
theorem b_code_choices : BindsOf "code_choices" s_code_choices ["code"] := fun _ _ _ _ _ _ us hl => match us, hl with | [_], _ => rfl
theorem k_code_choices : KwOf "code_choices" s_code_choices "code" := fun _ _ _ _ _ _ _ => rfl
theorem b_code_cells : BindsOf "code_cells" s_code_cells ["code"] := fun _ _ _ _ _ _ us hl => match us, hl with | [_], _ => rfl
theorem k_code_cells : KwOf "code_cells" s_code_cells "code" := fun _ _ _ _ _ _ _ => rfl
theorem b_code_depth : BindsOf "code_depth" s_code_depth ["code"] := fun _ _ _ _ _ _ us hl => match us, hl with | [_], _ => rfl
theorem k_code_depth : KwOf "code_depth" s_code_depth "code" := fun _ _ _ _ _ _ _ => rfl
theorem b_L_bodies : BindsOf "_law_bodies" s_L_bodies ["_law_rows"] := fun _ _ _ _ _ _ us hl => match us, hl with | [_], _ => rfl
theorem b_L_insides : BindsOf "_law_insides" s_L_insides ["_law_rows", "_law_bodies_here"] := fun _ _ _ _ _ _ us hl => match us, hl with | [_, _], _ => rfl
theorem b_L_read_off : BindsOf "_law_read_off" s_L_read_off ["_law_code"] := fun _ _ _ _ _ _ us hl => match us, hl with | [_], _ => rfl
theorem b_L_bounds : BindsOf "_law_bounds" s_L_bounds ["_law_code"] := fun _ _ _ _ _ _ us hl => match us, hl with | [_], _ => rfl
theorem b_L_summed : BindsOf "_law_summed" s_L_summed ["_law_code", "_law_n", "_law_kind"] := fun _ _ _ _ _ _ us hl => match us, hl with | [_, _, _], _ => rfl
theorem b_L_deck : BindsOf "_law_deck" s_L_deck ["_law_script"] := fun _ _ _ _ _ _ us hl => match us, hl with | [_], _ => rfl
theorem b_L_draw : BindsOf "_law_draw" s_L_draw ["_law_deck_here", "_law_many"] := fun _ _ _ _ _ _ us hl => match us, hl with | [_, _], _ => rfl
theorem b_L_pick : BindsOf "_law_pick" s_L_pick ["_law_deck_here", "_law_some"] := fun _ _ _ _ _ _ us hl => match us, hl with | [_, _], _ => rfl
theorem b_L_some_test : BindsOf "_law_some_test" s_L_some_test ["_law_deck_here", "_law_tapes", "_law_indexes", "_law_deep"] := fun _ _ _ _ _ _ us hl => match us, hl with | [_, _, _, _], _ => rfl
theorem b_L_simple : BindsOf "_law_simple" s_L_simple ["_law_deck_here", "_law_tapes", "_law_indexes"] := fun _ _ _ _ _ _ us hl => match us, hl with | [_, _, _], _ => rfl
theorem b_L_block : BindsOf "_law_block" s_L_block ["_law_deck_here", "_law_tapes", "_law_indexes", "_law_p", "_law_size", "_law_deep"] := fun _ _ _ _ _ _ us hl => match us, hl with | [_, _, _, _, _, _], _ => rfl
theorem b_L_laid : BindsOf "_law_laid" s_L_laid ["_law_block_here", "_law_rows"] := fun _ _ _ _ _ _ us hl => match us, hl with | [_, _], _ => rfl
theorem b_L_routine : BindsOf "_law_routine" s_L_routine ["_law_deck_here", "_law_tapes", "_law_indexes", "_law_p", "_law_size"] := fun _ _ _ _ _ _ us hl => match us, hl with | [_, _, _, _, _], _ => rfl
theorem b_L_some_code : BindsOf "_law_some_code" s_L_some_code ["_law_deck_here", "_law_routines", "_law_size"] := fun _ _ _ _ _ _ us hl => match us, hl with | [_, _, _], _ => rfl
theorem b_parts_of_test : BindsOf "parts_of_test" s_parts_of_test ["test"] := fun _ _ _ _ _ _ us hl => match us, hl with | [_], _ => rfl
theorem b_law : BindsOf "law" s_law ["_law_script"] := fun _ _ _ _ _ _ us hl => match us, hl with | [_], _ => rfl
end K27
end GD_
open PySem PySem.W PyProof.Rows
set_option maxHeartbeats 0 in
theorem PySem.Challenge.cw_narrowplay_k27_whole_bounds_off_rows_holds : PySem.Challenge.rw_narrowplay_k27_whole_bounds_off_rows.Holds := by
  w_on; o_law; k_head; (case hw => w_witness2)
  k_fill
  refine K27.law_walk (l := PySem.Challenge.rw_narrowplay_k27_whole_bounds_off_rows) (n := 63) (k := 13) (x := "law") (p := "_law_script") (st := K27.s_law) (N := K27.n_law) rfl (by decide) rfl ⟨rfl, by decide, by decide⟩ K27.sc_law (fun w h Y => PySem.W.kIn_of Y) ?F
  case F =>
    intro w mg fa h KX G hmg0
    have hmg : mg "law" = some (.ref fa) := hmg0
    clear hmg0
    have r_is_integer : K27.RawX KX mg "is_integer" K27.s_is_integer ["thing"] := by refine' K27.raw_mk KX G K27.b_is_integer ?a1 ?l1 ?c1 ?k1; (case a1 => k_is); (case l1 => k_is); (case c1 => k_is); (case k1 => k_is)
    have r_is_from : K27.RawX KX mg "is_from" K27.s_is_from ["thing", "least"] := by refine' K27.raw_mk KX G K27.b_is_from ?a2 ?l2 ?c2 ?k2; (case a2 => k_is); (case l2 => k_is); (case c2 => k_is); (case k2 => k_is)
    have r_is_tuple : K27.RawX KX mg "is_tuple" K27.s_is_tuple ["thing", "many"] := by refine' K27.raw_mk KX G K27.b_is_tuple ?a3 ?l3 ?c3 ?k3; (case a3 => k_is); (case l3 => k_is); (case c3 => k_is); (case k3 => k_is)
    have r_is_word_of : K27.RawX KX mg "is_word_of" K27.s_is_word_of ["thing", "signs"] := by refine' K27.raw_mk KX G K27.b_is_word_of ?a4 ?l4 ?c4 ?k4; (case a4 => k_is); (case l4 => k_is); (case c4 => k_is); (case k4 => k_is)
    have r_is_letters : K27.RawX KX mg "is_letters" K27.s_is_letters ["thing"] := by refine' K27.raw_mk KX G K27.b_is_letters ?a5 ?l5 ?c5 ?k5; (case a5 => k_is); (case l5 => k_is); (case c5 => k_is); (case k5 => k_is)
    have r_is_letter : K27.RawX KX mg "is_letter" K27.s_is_letter ["thing"] := by refine' K27.raw_mk KX G K27.b_is_letter ?a6 ?l6 ?c6 ?k6; (case a6 => k_is); (case l6 => k_is); (case c6 => k_is); (case k6 => k_is)
    have r_is_ascending_letters : K27.RawX KX mg "is_ascending_letters" K27.s_is_ascending_letters ["thing"] := by refine' K27.raw_mk KX G K27.b_is_ascending_letters ?a7 ?l7 ?c7 ?k7; (case a7 => k_is); (case l7 => k_is); (case c7 => k_is); (case k7 => k_is)
    have r_is_player : K27.RawX KX mg "is_player" K27.s_is_player ["thing"] := by refine' K27.raw_mk KX G K27.b_is_player ?a8 ?l8 ?c8 ?k8; (case a8 => k_is); (case l8 => k_is); (case c8 => k_is); (case k8 => k_is)
    have r_poly_of : K27.RawX KX mg "poly_of" K27.s_poly_of ["counts"] := by refine' K27.raw_mk KX G K27.b_poly_of ?a9 ?l9 ?c9 ?k9; (case a9 => k_is); (case l9 => k_is); (case c9 => k_is); (case k9 => k_is)
    have r_constant : K27.RawX KX mg "constant" K27.s_constant ["number"] := by refine' K27.raw_mk KX G K27.b_constant ?a10 ?l10 ?c10 ?k10; (case a10 => k_is); (case l10 => k_is); (case c10 => k_is); (case k10 => k_is)
    have r_added : K27.RawX KX mg "added" K27.s_added ["poly", "other"] := by refine' K27.raw_mk KX G K27.b_added ?a11 ?l11 ?c11 ?k11; (case a11 => k_is); (case l11 => k_is); (case c11 => k_is); (case k11 => k_is)
    have r_multiplied : K27.RawX KX mg "multiplied" K27.s_multiplied ["poly", "other"] := by refine' K27.raw_mk KX G K27.b_multiplied ?a12 ?l12 ?c12 ?k12; (case a12 => k_is); (case l12 => k_is); (case c12 => k_is); (case k12 => k_is)
    have r_power_of : K27.RawX KX mg "power_of" K27.s_power_of ["number", "exponent"] := by refine' K27.raw_mk KX G K27.b_power_of ?a13 ?l13 ?c13 ?k13; (case a13 => k_is); (case l13 => k_is); (case c13 => k_is); (case k13 => k_is)
    have r_poly_value : K27.RawX KX mg "poly_value" K27.s_poly_value ["poly", "number"] := by refine' K27.raw_mk KX G K27.b_poly_value ?a14 ?l14 ?c14 ?k14; (case a14 => k_is); (case l14 => k_is); (case c14 => k_is); (case k14 => k_is)
    have r_is_poly_value : K27.RawX KX mg "is_poly_value" K27.s_is_poly_value ["thing"] := by refine' K27.raw_mk KX G K27.b_is_poly_value ?a15 ?l15 ?c15 ?k15; (case a15 => k_is); (case l15 => k_is); (case c15 => k_is); (case k15 => k_is)
    have r_need_poly : K27.RawX KX mg "need_poly" K27.s_need_poly ["poly"] := by refine' K27.raw_mk KX G K27.b_need_poly ?a16 ?l16 ?c16 ?k16; (case a16 => k_is); (case l16 => k_is); (case c16 => k_is); (case k16 => k_is)
    have r_is_poly : K27.RawX KX mg "is_poly" K27.s_is_poly ["thing"] := by refine' K27.raw_mk KX G K27.b_is_poly ?a17 ?l17 ?c17 ?k17; (case a17 => k_is); (case l17 => k_is); (case c17 => k_is); (case k17 => k_is)
    have r_value_at : K27.RawX KX mg "value_at" K27.s_value_at ["poly", "number"] := by refine' K27.raw_mk KX G K27.b_value_at ?a18 ?l18 ?c18 ?k18; (case a18 => k_is); (case l18 => k_is); (case c18 => k_is); (case k18 => k_is)
    have r_L_plus : K27.RawX KX mg "_law_plus" K27.s_L_plus ["_law_one", "_law_other"] := by refine' K27.raw_mk KX G K27.b_L_plus ?a19 ?l19 ?c19 ?k19; (case a19 => k_is); (case l19 => k_is); (case c19 => k_is); (case k19 => k_is)
    have r_L_times : K27.RawX KX mg "_law_times" K27.s_L_times ["_law_one", "_law_other"] := by refine' K27.raw_mk KX G K27.b_L_times ?a20 ?l20 ?c20 ?k20; (case a20 => k_is); (case l20 => k_is); (case c20 => k_is); (case k20 => k_is)
    have r_L_constant : K27.RawX KX mg "_law_constant" K27.s_L_constant ["_law_many"] := by refine' K27.raw_mk KX G K27.b_L_constant ?a21 ?l21 ?c21 ?k21; (case a21 => k_is); (case l21 => k_is); (case c21 => k_is); (case k21 => k_is)
    have r_L_value : K27.RawX KX mg "_law_value" K27.s_L_value ["_law_poly", "_law_n"] := by refine' K27.raw_mk KX G K27.b_L_value ?a22 ?l22 ?c22 ?k22; (case a22 => k_is); (case l22 => k_is); (case c22 => k_is); (case k22 => k_is)
    have r_is_code_part : K27.RawX KX mg "is_code_part" K27.s_is_code_part ["kind", "thing"] := by refine' K27.raw_mk KX G K27.b_is_code_part ?a23 ?l23 ?c23 ?k23; (case a23 => k_is); (case l23 => k_is); (case c23 => k_is); (case k23 => k_is)
    have r_is_numbered_test : K27.RawX KX mg "is_numbered_test" K27.s_is_numbered_test ["thing"] := by refine' K27.raw_mk KX G K27.b_is_numbered_test ?a24 ?l24 ?c24 ?k24; (case a24 => k_is); (case l24 => k_is); (case c24 => k_is); (case k24 => k_is)
    have r_is_row_part : K27.RawX KX mg "is_row_part" K27.s_is_row_part ["kind", "thing"] := by refine' K27.raw_mk KX G K27.b_is_row_part ?a25 ?l25 ?c25 ?k25; (case a25 => k_is); (case l25 => k_is); (case c25 => k_is); (case k25 => k_is)
    have r_is_code_row : K27.RawX KX mg "is_code_row" K27.s_is_code_row ["thing"] := by refine' K27.raw_mk KX G K27.b_is_code_row ?a26 ?l26 ?c26 ?k26; (case a26 => k_is); (case l26 => k_is); (case c26 => k_is); (case k26 => k_is)
    have r_is_routine : K27.RawX KX mg "is_routine" K27.s_is_routine ["thing"] := by refine' K27.raw_mk KX G K27.b_is_routine ?a27 ?l27 ?c27 ?k27; (case a27 => k_is); (case l27 => k_is); (case c27 => k_is); (case k27 => k_is)
    have r_is_code_value : K27.RawX KX mg "is_code_value" K27.s_is_code_value ["thing"] := by refine' K27.raw_mk KX G K27.b_is_code_value ?a28 ?l28 ?c28 ?k28; (case a28 => k_is); (case l28 => k_is); (case c28 => k_is); (case k28 => k_is)
    have r_is_matched : K27.RawX KX mg "is_matched" K27.s_is_matched ["rows", "at"] := by refine' K27.raw_mk KX G K27.b_is_matched ?a29 ?l29 ?c29 ?k29; (case a29 => k_is); (case l29 => k_is); (case c29 => k_is); (case k29 => k_is)
    have r_repeats_around : K27.RawX KX mg "repeats_around" K27.s_repeats_around ["rows", "place"] := by refine' K27.raw_mk KX G K27.b_repeats_around ?a30 ?l30 ?c30 ?k30; (case a30 => k_is); (case l30 => k_is); (case c30 => k_is); (case k30 => k_is)
    have r_crosses_earlier : K27.RawX KX mg "crosses_earlier" K27.s_crosses_earlier ["rows", "at"] := by refine' K27.raw_mk KX G K27.b_crosses_earlier ?a31 ?l31 ?c31 ?k31; (case a31 => k_is); (case l31 => k_is); (case c31 => k_is); (case k31 => k_is)
    have r_has_bad_loop : K27.RawX KX mg "has_bad_loop" K27.s_has_bad_loop ["rows", "at"] := by refine' K27.raw_mk KX G K27.b_has_bad_loop ?a32 ?l32 ?c32 ?k32; (case a32 => k_is); (case l32 => k_is); (case c32 => k_is); (case k32 => k_is)
    have r_has_bad_jump : K27.RawX KX mg "has_bad_jump" K27.s_has_bad_jump ["rows", "at"] := by refine' K27.raw_mk KX G K27.b_has_bad_jump ?a33 ?l33 ?c33 ?k33; (case a33 => k_is); (case l33 => k_is); (case c33 => k_is); (case k33 => k_is)
    have r_writes_input : K27.RawX KX mg "writes_input" K27.s_writes_input ["row"] := by refine' K27.raw_mk KX G K27.b_writes_input ?a34 ?l34 ?c34 ?k34; (case a34 => k_is); (case l34 => k_is); (case c34 => k_is); (case k34 => k_is)
    have r_parts_of_row : K27.RawX KX mg "parts_of_row" K27.s_parts_of_row ["row"] := by refine' K27.raw_mk KX G K27.b_parts_of_row ?a35 ?l35 ?c35 ?k35; (case a35 => k_is); (case l35 => k_is); (case c35 => k_is); (case k35 => k_is)
    have r_has_bad_number : K27.RawX KX mg "has_bad_number" K27.s_has_bad_number ["code", "routine", "row"] := by refine' K27.raw_mk KX G K27.b_has_bad_number ?a36 ?l36 ?c36 ?k36; (case a36 => k_is); (case l36 => k_is); (case c36 => k_is); (case k36 => k_is)
    have r_fault_of_row : K27.RawX KX mg "fault_of_row" K27.s_fault_of_row ["code", "routine", "at"] := by refine' K27.raw_mk KX G K27.b_fault_of_row ?a37 ?l37 ?c37 ?k37; (case a37 => k_is); (case l37 => k_is); (case c37 => k_is); (case k37 => k_is)
    have r_certificate_of : K27.RawX KX mg "certificate_of" K27.s_certificate_of ["code"] := by refine' K27.raw_mk KX G K27.b_certificate_of ?a38 ?l38 ?c38 ?k38; (case a38 => k_is); (case l38 => k_is); (case c38 => k_is); (case k38 => k_is)
    have r_is_accepted_value : K27.RawX KX mg "is_accepted_value" K27.s_is_accepted_value ["thing"] := by refine' K27.raw_mk KX G K27.b_is_accepted_value ?a39 ?l39 ?c39 ?k39; (case a39 => k_is); (case l39 => k_is); (case c39 => k_is); (case k39 => k_is)
    have r_need_code : K27.RawX KX mg "need_code" K27.s_need_code ["code"] := by refine' K27.raw_mk KX G K27.b_need_code ?a40 ?l40 ?c40 ?k40; (case a40 => k_is); (case l40 => k_is); (case c40 => k_is); (case k40 => k_is)
    have r_weight_within : K27.RawX KX mg "weight_within" K27.s_weight_within ["rows", "around"] := by refine' K27.raw_mk KX G K27.b_weight_within ?a41 ?l41 ?c41 ?k41; (case a41 => k_is); (case l41 => k_is); (case c41 => k_is); (case k41 => k_is)
    have r_routine_bounds : K27.RawX KX mg "routine_bounds" K27.s_routine_bounds ["rows", "earlier"] := by refine' K27.raw_mk KX G K27.b_routine_bounds ?a42 ?l42 ?c42 ?k42; (case a42 => k_is); (case l42 => k_is); (case c42 => k_is); (case k42 => k_is)
    have r_main_bounds : K27.RawX KX mg "main_bounds" K27.s_main_bounds ["code"] := by refine' K27.raw_mk KX G K27.b_main_bounds ?a43 ?l43 ?c43 ?k43; (case a43 => k_is); (case l43 => k_is); (case c43 => k_is); (case k43 => k_is)
    have r_cell_bound : K27.RawX KX mg "cell_bound" K27.s_cell_bound ["code"] := by refine' K27.raw_mk KX G K27.b_cell_bound ?a44 ?l44 ?c44 ?k44; (case a44 => k_is); (case l44 => k_is); (case c44 => k_is); (case k44 => k_is)
    have r_code_clock : K27.RawKX KX mg "code_clock" K27.s_code_clock "code" := by refine' K27.rawk_mk KX G K27.b_code_clock K27.k_code_clock ?a45 ?l45 ?c45 ?k45; (case a45 => k_is); (case l45 => k_is); (case c45 => k_is); (case k45 => k_is)
    have r_code_choices : K27.RawKX KX mg "code_choices" K27.s_code_choices "code" := by refine' K27.rawk_mk KX G K27.b_code_choices K27.k_code_choices ?a46 ?l46 ?c46 ?k46; (case a46 => k_is); (case l46 => k_is); (case c46 => k_is); (case k46 => k_is)
    have r_code_cells : K27.RawKX KX mg "code_cells" K27.s_code_cells "code" := by refine' K27.rawk_mk KX G K27.b_code_cells K27.k_code_cells ?a47 ?l47 ?c47 ?k47; (case a47 => k_is); (case l47 => k_is); (case c47 => k_is); (case k47 => k_is)
    have r_code_depth : K27.RawKX KX mg "code_depth" K27.s_code_depth "code" := by refine' K27.rawk_mk KX G K27.b_code_depth K27.k_code_depth ?a48 ?l48 ?c48 ?k48; (case a48 => k_is); (case l48 => k_is); (case c48 => k_is); (case k48 => k_is)
    have r_L_bodies : K27.RawX KX mg "_law_bodies" K27.s_L_bodies ["_law_rows"] := by refine' K27.raw_mk KX G K27.b_L_bodies ?a49 ?l49 ?c49 ?k49; (case a49 => k_is); (case l49 => k_is); (case c49 => k_is); (case k49 => k_is)
    have r_L_insides : K27.RawX KX mg "_law_insides" K27.s_L_insides ["_law_rows", "_law_bodies_here"] := by refine' K27.raw_mk KX G K27.b_L_insides ?a50 ?l50 ?c50 ?k50; (case a50 => k_is); (case l50 => k_is); (case c50 => k_is); (case k50 => k_is)
    have r_L_read_off : K27.RawX KX mg "_law_read_off" K27.s_L_read_off ["_law_code"] := by refine' K27.raw_mk KX G K27.b_L_read_off ?a51 ?l51 ?c51 ?k51; (case a51 => k_is); (case l51 => k_is); (case c51 => k_is); (case k51 => k_is)
    have r_L_bounds : K27.RawX KX mg "_law_bounds" K27.s_L_bounds ["_law_code"] := by refine' K27.raw_mk KX G K27.b_L_bounds ?a52 ?l52 ?c52 ?k52; (case a52 => k_is); (case l52 => k_is); (case c52 => k_is); (case k52 => k_is)
    have r_L_summed : K27.RawX KX mg "_law_summed" K27.s_L_summed ["_law_code", "_law_n", "_law_kind"] := by refine' K27.raw_mk KX G K27.b_L_summed ?a53 ?l53 ?c53 ?k53; (case a53 => k_is); (case l53 => k_is); (case c53 => k_is); (case k53 => k_is)
    have r_L_deck : K27.RawX KX mg "_law_deck" K27.s_L_deck ["_law_script"] := by refine' K27.raw_mk KX G K27.b_L_deck ?a54 ?l54 ?c54 ?k54; (case a54 => k_is); (case l54 => k_is); (case c54 => k_is); (case k54 => k_is)
    have r_L_draw : K27.RawX KX mg "_law_draw" K27.s_L_draw ["_law_deck_here", "_law_many"] := by refine' K27.raw_mk KX G K27.b_L_draw ?a55 ?l55 ?c55 ?k55; (case a55 => k_is); (case l55 => k_is); (case c55 => k_is); (case k55 => k_is)
    have r_L_pick : K27.RawX KX mg "_law_pick" K27.s_L_pick ["_law_deck_here", "_law_some"] := by refine' K27.raw_mk KX G K27.b_L_pick ?a56 ?l56 ?c56 ?k56; (case a56 => k_is); (case l56 => k_is); (case c56 => k_is); (case k56 => k_is)
    have r_L_some_test : K27.RawX KX mg "_law_some_test" K27.s_L_some_test ["_law_deck_here", "_law_tapes", "_law_indexes", "_law_deep"] := by refine' K27.raw_mk KX G K27.b_L_some_test ?a57 ?l57 ?c57 ?k57; (case a57 => k_is); (case l57 => k_is); (case c57 => k_is); (case k57 => k_is)
    have r_L_simple : K27.RawX KX mg "_law_simple" K27.s_L_simple ["_law_deck_here", "_law_tapes", "_law_indexes"] := by refine' K27.raw_mk KX G K27.b_L_simple ?a58 ?l58 ?c58 ?k58; (case a58 => k_is); (case l58 => k_is); (case c58 => k_is); (case k58 => k_is)
    have r_L_block : K27.RawX KX mg "_law_block" K27.s_L_block ["_law_deck_here", "_law_tapes", "_law_indexes", "_law_p", "_law_size", "_law_deep"] := by refine' K27.raw_mk KX G K27.b_L_block ?a59 ?l59 ?c59 ?k59; (case a59 => k_is); (case l59 => k_is); (case c59 => k_is); (case k59 => k_is)
    have r_L_laid : K27.RawX KX mg "_law_laid" K27.s_L_laid ["_law_block_here", "_law_rows"] := by refine' K27.raw_mk KX G K27.b_L_laid ?a60 ?l60 ?c60 ?k60; (case a60 => k_is); (case l60 => k_is); (case c60 => k_is); (case k60 => k_is)
    have r_L_routine : K27.RawX KX mg "_law_routine" K27.s_L_routine ["_law_deck_here", "_law_tapes", "_law_indexes", "_law_p", "_law_size"] := by refine' K27.raw_mk KX G K27.b_L_routine ?a61 ?l61 ?c61 ?k61; (case a61 => k_is); (case l61 => k_is); (case c61 => k_is); (case k61 => k_is)
    have r_L_some_code : K27.RawX KX mg "_law_some_code" K27.s_L_some_code ["_law_deck_here", "_law_routines", "_law_size"] := by refine' K27.raw_mk KX G K27.b_L_some_code ?a62 ?l62 ?c62 ?k62; (case a62 => k_is); (case l62 => k_is); (case c62 => k_is); (case k62 => k_is)
    have r_parts_of_test : K27.RawX KX mg "parts_of_test" K27.s_parts_of_test ["test"] := by refine' K27.raw_mk KX G K27.b_parts_of_test ?a63 ?l63 ?c63 ?k63; (case a63 => k_is); (case l63 => k_is); (case c63 => k_is); (case k63 => k_is)
    have z_all : mg "all" = none := by refine' PySem.W.mg_none_of KX G ?a64; k_is
    have z_any : mg "any" = none := by refine' PySem.W.mg_none_of KX G ?a65; k_is
    have z_bool : mg "bool" = none := by refine' PySem.W.mg_none_of KX G ?a66; k_is
    have z_dict : mg "dict" = none := by refine' PySem.W.mg_none_of KX G ?a67; k_is
    have z_enumerate : mg "enumerate" = none := by refine' PySem.W.mg_none_of KX G ?a68; k_is
    have z_int : mg "int" = none := by refine' PySem.W.mg_none_of KX G ?a69; k_is
    have z_isinstance : mg "isinstance" = none := by refine' PySem.W.mg_none_of KX G ?a70; k_is
    have z_len : mg "len" = none := by refine' PySem.W.mg_none_of KX G ?a71; k_is
    have z_list : mg "list" = none := by refine' PySem.W.mg_none_of KX G ?a72; k_is
    have z_max : mg "max" = none := by refine' PySem.W.mg_none_of KX G ?a73; k_is
    have z_range : mg "range" = none := by refine' PySem.W.mg_none_of KX G ?a74; k_is
    have z_repr : mg "repr" = none := by refine' PySem.W.mg_none_of KX G ?a75; k_is
    have z_sorted : mg "sorted" = none := by refine' PySem.W.mg_none_of KX G ?a76; k_is
    have z_str : mg "str" = none := by refine' PySem.W.mg_none_of KX G ?a77; k_is
    have z_sum : mg "sum" = none := by refine' PySem.W.mg_none_of KX G ?a78; k_is
    have z_tuple : mg "tuple" = none := by refine' PySem.W.mg_none_of KX G ?a79; k_is
    have z_zip : mg "zip" = none := by refine' PySem.W.mg_none_of KX G ?a80; k_is
    have t_lets : ∃ t, mg "LETTERS" = some (.str K27.alpha t) := by refine' K27.lets_mk KX G ?a81 ?e81; (case a81 => k_is); (case e81 => decide +kernel)
    have t_inp : ∃ a, mg "INPUT_SIZE" = some (.ref a) ∧ ∀ G, K27.RepX KX G (.ref a) (.tup [K27.pairD (1, 1)]) := by refine' ⟨_, PySem.W.mg_of KX G ?a82, K27.rep_in ?l82 ?m82⟩; (case a82 => k_is); (case l82 => k_is); (case m82 => k_is)
    have t_nts : ∃ d, mg "NUMBERED_TESTS" = some (.ref d) ∧ K27.WDctX KX w d K27.tabN := by
      refine' ⟨_, PySem.W.mg_of KX G ?a_nts, K27.wdct_mk ?l_nts ?kl_nts ?s_nts ?al_nts⟩
      (case a_nts => k_is); (case l_nts => k_is)
      case kl_nts => exact ⟨⟨_, _, rfl, rfl⟩, ⟨⟨_, _, rfl, rfl⟩, ⟨⟨_, _, rfl, rfl⟩, ⟨⟨_, _, rfl, rfl⟩, ⟨⟨_, _, rfl, rfl⟩, trivial⟩⟩⟩⟩⟩
      case s_nts => rfl
      case al_nts =>
        refine' ⟨?x83, ?y83⟩; (case x83 => refine' K27.atkey_mk (xs := ["tape", "index", "letter"]) ?e83 ?l83 ?v83 ?s83; (case e83 => k_is); (case l83 => k_is); (case v83 => exact .cons ⟨_, rfl⟩ (.cons ⟨_, rfl⟩ (.cons ⟨_, rfl⟩ (.nil)))); (case s83 => decide))
        refine' ⟨?x84, ?y84⟩; (case x84 => refine' K27.atkey_mk (xs := ["tape", "index", "tape", "index"]) ?e84 ?l84 ?v84 ?s84; (case e84 => k_is); (case l84 => k_is); (case v84 => exact .cons ⟨_, rfl⟩ (.cons ⟨_, rfl⟩ (.cons ⟨_, rfl⟩ (.cons ⟨_, rfl⟩ (.nil))))); (case s84 => decide))
        refine' ⟨?x85, ?y85⟩; (case x85 => refine' K27.atkey_mk (xs := ["tape", "index"]) ?e85 ?l85 ?v85 ?s85; (case e85 => k_is); (case l85 => k_is); (case v85 => exact .cons ⟨_, rfl⟩ (.cons ⟨_, rfl⟩ (.nil))); (case s85 => decide))
        refine' ⟨?x86, ?y86⟩; (case x86 => refine' K27.atkey_mk (xs := ["tape", "index"]) ?e86 ?l86 ?v86 ?s86; (case e86 => k_is); (case l86 => k_is); (case v86 => exact .cons ⟨_, rfl⟩ (.cons ⟨_, rfl⟩ (.nil))); (case s86 => decide))
        refine' ⟨?x87, ?y87⟩; (case x87 => refine' K27.atkey_mk (xs := ["index", "index"]) ?e87 ?l87 ?v87 ?s87; (case e87 => k_is); (case l87 => k_is); (case v87 => exact .cons ⟨_, rfl⟩ (.cons ⟨_, rfl⟩ (.nil))); (case s87 => decide))
        exact trivial
    have t_crs : ∃ d, mg "CODE_ROWS" = some (.ref d) ∧ K27.WDctX KX w d K27.tabC := by
      refine' ⟨_, PySem.W.mg_of KX G ?a_crs, K27.wdct_mk ?l_crs ?kl_crs ?s_crs ?al_crs⟩
      (case a_crs => k_is); (case l_crs => k_is)
      case kl_crs => exact ⟨⟨_, _, rfl, rfl⟩, ⟨⟨_, _, rfl, rfl⟩, ⟨⟨_, _, rfl, rfl⟩, ⟨⟨_, _, rfl, rfl⟩, ⟨⟨_, _, rfl, rfl⟩, ⟨⟨_, _, rfl, rfl⟩, ⟨⟨_, _, rfl, rfl⟩, ⟨⟨_, _, rfl, rfl⟩, ⟨⟨_, _, rfl, rfl⟩, ⟨⟨_, _, rfl, rfl⟩, ⟨⟨_, _, rfl, rfl⟩, ⟨⟨_, _, rfl, rfl⟩, ⟨⟨_, _, rfl, rfl⟩, ⟨⟨_, _, rfl, rfl⟩, trivial⟩⟩⟩⟩⟩⟩⟩⟩⟩⟩⟩⟩⟩⟩
      case s_crs => rfl
      case al_crs =>
        refine' ⟨?x88, ?y88⟩; (case x88 => refine' K27.atkey_mk (xs := ["tape", "index", "letter"]) ?e88 ?l88 ?v88 ?s88; (case e88 => k_is); (case l88 => k_is); (case v88 => exact .cons ⟨_, rfl⟩ (.cons ⟨_, rfl⟩ (.cons ⟨_, rfl⟩ (.nil)))); (case s88 => decide))
        refine' ⟨?x89, ?y89⟩; (case x89 => refine' K27.atkey_mk (xs := ["tape", "index", "tape", "index"]) ?e89 ?l89 ?v89 ?s89; (case e89 => k_is); (case l89 => k_is); (case v89 => exact .cons ⟨_, rfl⟩ (.cons ⟨_, rfl⟩ (.cons ⟨_, rfl⟩ (.cons ⟨_, rfl⟩ (.nil))))); (case s89 => decide))
        refine' ⟨?x90, ?y90⟩; (case x90 => refine' K27.atkey_mk (xs := ["tape", "index"]) ?e90 ?l90 ?v90 ?s90; (case e90 => k_is); (case l90 => k_is); (case v90 => exact .cons ⟨_, rfl⟩ (.cons ⟨_, rfl⟩ (.nil))); (case s90 => decide))
        refine' ⟨?x91, ?y91⟩; (case x91 => refine' K27.atkey_mk (xs := ["index"]) ?e91 ?l91 ?v91 ?s91; (case e91 => k_is); (case l91 => k_is); (case v91 => exact .cons ⟨_, rfl⟩ (.nil)); (case s91 => decide))
        refine' ⟨?x92, ?y92⟩; (case x92 => refine' K27.atkey_mk (xs := ["index"]) ?e92 ?l92 ?v92 ?s92; (case e92 => k_is); (case l92 => k_is); (case v92 => exact .cons ⟨_, rfl⟩ (.nil)); (case s92 => decide))
        refine' ⟨?x93, ?y93⟩; (case x93 => refine' K27.atkey_mk (xs := ["index"]) ?e93 ?l93 ?v93 ?s93; (case e93 => k_is); (case l93 => k_is); (case v93 => exact .cons ⟨_, rfl⟩ (.nil)); (case s93 => decide))
        refine' ⟨?x94, ?y94⟩; (case x94 => refine' K27.atkey_mk (xs := ["index", "index"]) ?e94 ?l94 ?v94 ?s94; (case e94 => k_is); (case l94 => k_is); (case v94 => exact .cons ⟨_, rfl⟩ (.cons ⟨_, rfl⟩ (.nil))); (case s94 => decide))
        refine' ⟨?x95, ?y95⟩; (case x95 => refine' K27.atkey_mk (xs := ["player", "tape", "index", "letters"]) ?e95 ?l95 ?v95 ?s95; (case e95 => k_is); (case l95 => k_is); (case v95 => exact .cons ⟨_, rfl⟩ (.cons ⟨_, rfl⟩ (.cons ⟨_, rfl⟩ (.cons ⟨_, rfl⟩ (.nil))))); (case s95 => decide))
        refine' ⟨?x96, ?y96⟩; (case x96 => refine' K27.atkey_mk (xs := ["player"]) ?e96 ?l96 ?v96 ?s96; (case e96 => k_is); (case l96 => k_is); (case v96 => exact .cons ⟨_, rfl⟩ (.nil)); (case s96 => decide))
        refine' ⟨?x97, ?y97⟩; (case x97 => refine' K27.atkey_mk (xs := ["place"]) ?e97 ?l97 ?v97 ?s97; (case e97 => k_is); (case l97 => k_is); (case v97 => exact .cons ⟨_, rfl⟩ (.nil)); (case s97 => decide))
        refine' ⟨?x98, ?y98⟩; (case x98 => refine' K27.atkey_mk (xs := ["test", "place"]) ?e98 ?l98 ?v98 ?s98; (case e98 => k_is); (case l98 => k_is); (case v98 => exact .cons ⟨_, rfl⟩ (.cons ⟨_, rfl⟩ (.nil))); (case s98 => decide))
        refine' ⟨?x99, ?y99⟩; (case x99 => refine' K27.atkey_mk (xs := ["polynomial", "place"]) ?e99 ?l99 ?v99 ?s99; (case e99 => k_is); (case l99 => k_is); (case v99 => exact .cons ⟨_, rfl⟩ (.cons ⟨_, rfl⟩ (.nil))); (case s99 => decide))
        refine' ⟨?x100, ?y100⟩; (case x100 => refine' K27.atkey_mk (xs := ["place"]) ?e100 ?l100 ?v100 ?s100; (case e100 => k_is); (case l100 => k_is); (case v100 => exact .cons ⟨_, rfl⟩ (.nil)); (case s100 => decide))
        refine' ⟨?x101, ?y101⟩; (case x101 => refine' K27.atkey_mk (xs := ["routine"]) ?e101 ?l101 ?v101 ?s101; (case e101 => k_is); (case l101 => k_is); (case v101 => exact .cons ⟨_, rfl⟩ (.nil)); (case s101 => decide))
        exact trivial
    have B : K27.TopsX KX w mg := { all := z_all, any := z_any, bool := z_bool, dict := z_dict, enumerate := z_enumerate, int := z_int, isinstance := z_isinstance, len := z_len, list := z_list, max := z_max, range := z_range, repr := z_repr, sorted := z_sorted, str := z_str, sum := z_sum, tuple := z_tuple, zip := z_zip, lets := t_lets, inp := t_inp, nts := t_nts, crs := t_crs }
    have R : K27.RawsX KX mg := ⟨r_is_integer, r_is_from, r_is_tuple, r_is_word_of, r_is_letters, r_is_letter, r_is_ascending_letters, r_is_player, r_poly_of, r_constant, r_added, r_multiplied, r_power_of, r_poly_value, r_is_poly_value, r_need_poly, r_is_poly, r_value_at, r_L_plus, r_L_times, r_L_constant, r_L_value, r_is_code_part, r_is_numbered_test, r_is_row_part, r_is_code_row, r_is_routine, r_is_code_value, r_is_matched, r_repeats_around, r_crosses_earlier, r_has_bad_loop, r_has_bad_jump, r_writes_input, r_parts_of_row, r_has_bad_number, r_fault_of_row, r_certificate_of, r_is_accepted_value, r_need_code, r_weight_within, r_routine_bounds, r_main_bounds, r_cell_bound, r_code_clock, r_code_choices, r_code_cells, r_code_depth, r_L_bodies, r_L_insides, r_L_read_off, r_L_bounds, r_L_summed, r_L_deck, r_L_draw, r_L_pick, r_L_some_test, r_L_simple, r_L_block, r_L_laid, r_L_routine, r_L_some_code, r_parts_of_test⟩
    refine' K27.law_end B R KX G hmg K27.b_law ?a102 ?l102 ?c102 ?k102; (case a102 => k_is); (case l102 => k_is); (case c102 => k_is); (case k102 => k_is)
