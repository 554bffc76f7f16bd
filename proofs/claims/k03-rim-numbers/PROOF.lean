import PyProof.Rows.All
import Wide.All
import OpenK.AllK
import Wide.FinOn
import HandS.ForMost
import HandS.Gcd
import HandS.Wide
import HandS.TupAny
import HandS.Defaults
import HandS.IsInst
import HandS.Conv
import HandS.RaiseMore
import HandS.Head2
import HandS.HeadEnd
import HandS.HeadHook2
import HandS.Head0
import HandS.Head1
import HandS.HeadHook1
import HandS.Codes
import HandS.Head3
import PySem.Challenge.RW_withinrim_k03_whole_rim_numbers_there_an
set_option Elab.async false
set_option linter.all false
set_option maxRecDepth 100000
set_option maxHeartbeats 4000000
/-! PD: pure data over the hand layer. Part a: data, the relation to the abstract heap. -/
namespace PD
open PySem PySem.Spec PyProof.Rows L2

/-- data: tuples and (no longer changed) lists are values; a cell is a list that may be changed by whoever holds it -/
inductive D where
  | non | bl (b : Bool) | int (i : Int) | str (x : Str) | ty (n : String)
  | tup (xs : List D) | lst (xs : List D) | cell (n : Nat)

/-- an expression's value: a datum, or a look at a list that a slot owns -/
inductive Va where
  | d (x : D) | b (xs : List D)

/-- a slot: nothing known, a datum, a list of its own -/
inductive Lv where
  | un | dat (d : D) | own (xs : List D)

abbrev Loc := List Lv
abbrev Store := List (List D)

/-- the ghost: where the cells stand; which addresses may be written -/
structure Gh where
  ca : List Addr
  W : Addr → Prop

/-- a tuple of the written part -/
def KTup (K : PySem.W.Frag) (a : Addr) (xs : List V) : Prop :=
  ∃ (o : Obj) (its : Array Value) (n : Nat), K.lookup a = some o ∧ o.cls = .type "tuple" ∧ o.data = .seq its n ∧
    its.size ≤ sizeLine ∧ Vals xs its.toList
/-- a list of the written part, its object as it stands -/
def KLst (K : PySem.W.Frag) (a : Addr) (xs : List V) : Prop :=
  ∃ (its : List Value) (n : Nat), K.lookup a = some { cls := .type "list", data := .seq its.toArray n } ∧ its.length ≤ sizeLine ∧ Vals xs its

def TupAt (K : PySem.W.Frag) (g : Gh) (H : Hp) (a : Addr) (xs : List V) : Prop := (Rd H a (.tup xs) ∧ ¬ g.W a) ∨ KTup K a xs
def LstAt (K : PySem.W.Frag) (g : Gh) (H : Hp) (a : Addr) (xs : List V) : Prop := (Rd H a (.lst xs) ∧ ¬ g.W a) ∨ KLst K a xs
theorem TupAt.sq {K : PySem.W.Frag} {g : Gh} {H : Hp} {a : Addr} {xs : List V} (h : TupAt K g H a xs) : SqT K H a xs :=
  h.elim (fun z => .inl z.1) .inr
theorem KLst.sq {K : PySem.W.Frag} {H : Hp} {a : Addr} {xs : List V} (h : KLst K a xs) : SqL K H a xs := by
  obtain ⟨its, n, h1, h2, h3⟩ := h
  exact .inr ⟨_, its.toArray, n, h1, rfl, rfl, rfl, by simpa using h2, by simpa using h3⟩
theorem LstAt.sq {K : PySem.W.Frag} {g : Gh} {H : Hp} {a : Addr} {xs : List V} (h : LstAt K g H a xs) : SqL K H a xs :=
  h.elim (fun z => .inl z.1) KLst.sq
/-- a list whose object is known -/
def LX (K : PySem.W.Frag) (H : Hp) (a : Addr) (xs : List V) : Prop := Rd H a (.lst xs) ∨ KLst K a xs
theorem LX.obj {X : Cx} {pins : List (Addr × Obj)} {σ : L2.St} {H : Hp} {s : Shared} {a : Addr} {xs : List V} (I : Inv X pins σ H s) (h : LX X.K H a xs) :
    xs.length ≤ sizeLine ∧ ∃ (its : List Value) (n : Nat), Vals xs its ∧ s.heap.get? a = some { cls := .type "list", data := .seq its.toArray n } := by
  rcases h with h | ⟨its, n, h1, h2, h3⟩
  · obtain ⟨z, its, n, r, e⟩ := h.ok I.hok
    exact ⟨z, its, n, r, e⟩
  · exact ⟨by rw [h3.length]; exact h2, its, n, h3, I.kIn a _ h1⟩

mutual
inductive Rp (K : PySem.W.Frag) (g : Gh) (H : Hp) : V → D → Prop
  | non : Rp K g H .non .non
  | bl (b : Bool) : Rp K g H (.bl b) (.bl b)
  | int (i : Int) : Rp K g H (.int i) (.int i)
  | str (x : Str) : Rp K g H (.str x) (.str x)
  | ty (n : String) : Rp K g H (.ty n) (.ty n)
  | tup {a : Addr} {xs : List V} {ds : List D} : TupAt K g H a xs → Rps K g H xs ds → Rp K g H (.ref a) (.tup ds)
  | lst {a : Addr} {xs : List V} {ds : List D} : LstAt K g H a xs → Rps K g H xs ds → Rp K g H (.ref a) (.lst ds)
  | cell {a : Addr} {n : Nat} : g.ca[n]? = some a → Rp K g H (.ref a) (.cell n)
inductive Rps (K : PySem.W.Frag) (g : Gh) (H : Hp) : List V → List D → Prop
  | nil : Rps K g H [] []
  | cons {v : V} {vs : List V} {d : D} {ds : List D} : Rp K g H v d → Rps K g H vs ds → Rps K g H (v :: vs) (d :: ds)
end

/-- from one moment to a later one: nothing but cells is written, what is new is new -/
structure Ext (g : Gh) (H : Hp) (g' : Gh) (H' : Hp) : Prop where
  keep : ∀ b o, H b = some o → b ∉ g.ca → H' b = some o
  there : ∀ b o, H b = some o → ∃ o', H' b = some o'
  wk : ∀ b o, H b = some o → (g'.W b ↔ g.W b)
  ca : ∃ m, g'.ca = g.ca ++ m
  new : ∀ c ∈ g'.ca, c ∈ g.ca ∨ H c = none
theorem Ext.refl {g : Gh} {H : Hp} : Ext g H g H := ⟨fun _ _ h _ => h, fun _ o h => ⟨o, h⟩, fun _ _ _ => Iff.rfl, ⟨[], by simp⟩, fun _ h => .inl h⟩
theorem Ext.trans {g g1 g2 : Gh} {H H1 H2 : Hp} (a : Ext g H g1 H1) (b : Ext g1 H1 g2 H2) : Ext g H g2 H2 := by
  obtain ⟨m, em⟩ := a.ca
  obtain ⟨m', em'⟩ := b.ca
  refine ⟨fun c o h hc => ?_, fun c o h => ?_, fun c o h => ?_, ⟨m ++ m', by rw [em', em, List.append_assoc]⟩, fun c hc => ?_⟩
  · refine b.keep c o (a.keep c o h hc) fun hm => ?_
    rcases a.new c hm with z | z
    · exact hc z
    · rw [h] at z; cases z
  · obtain ⟨o1, h1⟩ := a.there c o h
    exact b.there c o1 h1
  · obtain ⟨o1, h1⟩ := a.there c o h
    exact (b.wk c o1 h1).trans (a.wk c o h)
  · rcases b.new c hc with z | z
    · exact a.new c z
    · right
      cases e : H c with
      | none => rfl
      | some o =>
        obtain ⟨o1, h1⟩ := a.there c o e
        rw [h1] at z; cases z

/-- the cells stand, what may be written stands -/
structure Gs (K : PySem.W.Frag) (g : Gh) (H : Hp) (S : Store) : Prop where
  wi : ∀ b, g.W b → ∃ xs, H b = some (.lst xs)
  cw : ∀ a ∈ g.ca, g.W a
  nd : g.ca.Nodup
  len : g.ca.length = S.length
  st : ∀ (n : Nat) (a : Addr) (ds : List D), g.ca[n]? = some a → S[n]? = some ds → ∃ xs, H a = some (.lst xs) ∧ Rps K g H xs ds

section
variable {K : PySem.W.Frag} {g g' : Gh} {H H' : Hp}
theorem Rd.ext {a : Addr} {u : HO} (e : Ext g H g' H') (h : Rd H a u) (hw : ¬ g.W a) (hc : ∀ c ∈ g.ca, g.W c) : Rd H' a u ∧ ¬ g'.W a := by
  have n : a ∉ g.ca := fun z => hw (hc a z)
  rcases h with h | ⟨o, h⟩
  · exact ⟨.inl (e.keep _ _ h n), fun z => hw ((e.wk _ _ h).mp z)⟩
  · exact ⟨.inr ⟨o, e.keep _ _ h n⟩, fun z => hw ((e.wk _ _ h).mp z)⟩
mutual
theorem Rp.ext (e : Ext g H g' H') (hc : ∀ c ∈ g.ca, g.W c) : ∀ {v : V} {d : D}, Rp K g H v d → Rp K g' H' v d
  | _, _, .non => .non
  | _, _, .bl b => .bl b
  | _, _, .int i => .int i
  | _, _, .str x => .str x
  | _, _, .ty n => .ty n
  | _, _, .tup h r => .tup (h.elim (fun z => .inl (Rd.ext e z.1 z.2 hc)) .inr) (Rps.ext e hc r)
  | _, _, .lst h r => .lst (h.elim (fun z => .inl (Rd.ext e z.1 z.2 hc)) .inr) (Rps.ext e hc r)
  | _, _, .cell (a := a) (n := n) h => by
    obtain ⟨m, em⟩ := e.ca
    refine .cell ?_
    rw [em, List.getElem?_append_left (List.getElem?_eq_some_iff.mp h).1]
    exact h
theorem Rps.ext (e : Ext g H g' H') (hc : ∀ c ∈ g.ca, g.W c) : ∀ {vs : List V} {ds : List D}, Rps K g H vs ds → Rps K g' H' vs ds
  | _, _, .nil => .nil
  | _, _, .cons h r => .cons (Rp.ext e hc h) (Rps.ext e hc r)
end
theorem Rps.length : ∀ {vs : List V} {ds : List D}, Rps K g H vs ds → vs.length = ds.length
  | _, _, .nil => rfl
  | _, _, .cons _ r => by simp [Rps.length r]
theorem Rps.get : ∀ {vs : List V} {ds : List D} {i : Nat} {d : D}, Rps K g H vs ds → ds[i]? = some d → ∃ v, vs[i]? = some v ∧ Rp K g H v d
  | _, _, _, _, .nil, e => by simp at e
  | _, _, 0, _, .cons h _, e => by simp at e; subst e; exact ⟨_, rfl, h⟩
  | _, _, i + 1, _, .cons _ r, e => by
    obtain ⟨v, h1, h2⟩ := Rps.get (i := i) r (by simpa using e)
    exact ⟨v, by simpa using h1, h2⟩
theorem Rps.append : ∀ {vs ws : List V} {ds es : List D}, Rps K g H vs ds → Rps K g H ws es → Rps K g H (vs ++ ws) (ds ++ es)
  | _, _, _, _, .nil, s => s
  | _, _, _, _, .cons h r, s => .cons h (Rps.append r s)
theorem Rps.take : ∀ {vs : List V} {ds : List D} (n : Nat), Rps K g H vs ds → Rps K g H (vs.take n) (ds.take n)
  | _, _, 0, _ => .nil
  | _, _, _ + 1, .nil => .nil
  | _, _, n + 1, .cons h r => .cons h (Rps.take n r)
theorem Rps.drop : ∀ {vs : List V} {ds : List D} (n : Nat), Rps K g H vs ds → Rps K g H (vs.drop n) (ds.drop n)
  | _, _, 0, r => r
  | _, _, _ + 1, .nil => .nil
  | _, _, n + 1, .cons _ r => Rps.drop n r
theorem Rps.set {v : V} {d : D} (h : Rp K g H v d) : ∀ {vs : List V} {ds : List D} (i : Nat), Rps K g H vs ds → Rps K g H (vs.set i v) (ds.set i d)
  | _, _, _, .nil => .nil
  | _, _, 0, .cons _ r => .cons h r
  | _, _, i + 1, .cons q r => .cons q (Rps.set h i r)
theorem Rps.reverse {vs : List V} {ds : List D} (h : Rps K g H vs ds) : Rps K g H vs.reverse ds.reverse := by
  induction h using Rps.rec (motive_1 := fun _ _ _ => True) with
  | nil => exact .nil
  | cons h _ _ ih => rw [List.reverse_cons, List.reverse_cons]; exact ih.append (.cons h .nil)
  | _ => trivial
theorem Rps.ints : ∀ {vs : List V} {ns : List Int}, Rps K g H vs (ns.map D.int) → vs = ns.map V.int
  | _, [], .nil => rfl
  | _, _ :: _, .cons (.int _) r => by rw [Rps.ints r]; rfl
theorem Rps.of_ints : ∀ (ns : List Int), Rps K g H (ns.map V.int) (ns.map D.int)
  | [] => .nil
  | n :: r => .cons (.int n) (Rps.of_ints r)

/-- what a value is -/
def RpV (K : PySem.W.Frag) (g : Gh) (H : Hp) (v : V) : Va → Prop
  | .d x => Rp K g H v x
  | .b ds => ∃ a xs, v = .ref a ∧ H a = some (.lst xs) ∧ Rps K g H xs ds ∧ g.W a ∧ a ∉ g.ca
theorem RpV.ext (e : Ext g H g' H') (hc : ∀ c ∈ g.ca, g.W c) {v : V} : ∀ {d : Va}, RpV K g H v d → RpV K g' H' v d
  | .d x, h => Rp.ext e hc h
  | .b ds, ⟨a, xs, e1, h, r, w, n⟩ => ⟨a, xs, e1, e.keep _ _ h n, Rps.ext e hc r, (e.wk _ _ h).mpr w, fun z => (e.new a z).elim n fun q => by rw [h] at q; cases q⟩

/-- the slots -/
structure LR (K : PySem.W.Frag) (g : Gh) (H0 : Hp) (σ : L2.St) (H : Hp) (L : Loc) : Prop where
  len : L.length ≤ σ.length
  old : ∀ b o, H0 b = some o → ∃ o', H b = some o'
  dat : ∀ (i : Nat) d, L[i]? = some (.dat d) → ∃ v, σ[i]? = some (some v) ∧ Rp K g H v d
  own : ∀ (i : Nat) ds, L[i]? = some (.own ds) → ∃ a xs, σ[i]? = some (some (.ref a)) ∧ H a = some (.lst xs) ∧ Rps K g H xs ds ∧ g.W a ∧ a ∉ g.ca ∧ H0 a = none
  inj : ∀ (i j : Nat) ds es a, L[i]? = some (.own ds) → L[j]? = some (.own es) → σ[i]? = some (some (.ref a)) → σ[j]? = some (some (.ref a)) → i = j
theorem LR.ext {H0 : Hp} {σ : L2.St} {L : Loc} (e : Ext g H g' H') (hc : ∀ c ∈ g.ca, g.W c) (l : LR K g H0 σ H L) : LR K g' H0 σ H' L := by
  refine ⟨l.len, fun b o h => let ⟨o1, h1⟩ := l.old b o h; e.there b o1 h1, fun i d h => ?_, fun i ds h => ?_, l.inj⟩
  · obtain ⟨v, h1, r⟩ := l.dat i d h
    exact ⟨v, h1, r.ext e hc⟩
  · obtain ⟨a, xs, h1, h2, r, w, n, z⟩ := l.own i ds h
    refine ⟨a, xs, h1, e.keep _ _ h2 n, Rps.ext e hc r, (e.wk _ _ h2).mpr w, fun q => ?_, z⟩
    rcases e.new a q with q | q
    · exact n q
    · rw [h2] at q; cases q

/-- all of it -/
structure Cr (K : PySem.W.Frag) (g : Gh) (H0 : Hp) (σ : L2.St) (H : Hp) (L : Loc) (S : Store) : Prop where
  s : Gs K g H S
  l : LR K g H0 σ H L
theorem Cr.ext {H0 : Hp} {σ : L2.St} {L : Loc} {S S' : Store} (c : Cr K g H0 σ H L S) (e : Ext g H g' H') (s : Gs K g' H' S') : Cr K g' H0 σ H' L S' :=
  ⟨s, c.l.ext e c.s.cw⟩

/-- a new object at p that is not written any more -/
theorem Ext.laid {S : Store} {p : Addr} {o : HO} (s : Gs K g H S) (hp : H p = none) : Ext g H g (upd H p o) ∧ Gs K g (upd H p o) S := by
  have ne : ∀ b u, H b = some u → b ≠ p := fun b u h z => by subst z; rw [hp] at h; cases h
  have e : Ext g H g (upd H p o) := ⟨fun b u h _ => by rw [upd_ne (ne b u h)]; exact h, fun b u h => ⟨u, by rw [upd_ne (ne b u h)]; exact h⟩, fun _ _ _ => Iff.rfl, ⟨[], by simp⟩, fun _ h => .inl h⟩
  refine ⟨e, ⟨fun b w => ?_, s.cw, s.nd, s.len, fun n a ds h1 h2 => ?_⟩⟩
  · obtain ⟨xs, h⟩ := s.wi b w
    exact ⟨xs, by rw [upd_ne (ne b _ h)]; exact h⟩
  · obtain ⟨xs, h, r⟩ := s.st n a ds h1 h2
    exact ⟨xs, by rw [upd_ne (ne a _ h)]; exact h, Rps.ext e s.cw r⟩
theorem Gs.nw {S : Store} {p : Addr} (s : Gs K g H S) (hp : H p = none) : ¬ g.W p := fun w => by
  obtain ⟨xs, h⟩ := s.wi p w
  rw [hp] at h; cases h
/-- a new tuple -/
theorem new_tup {S : Store} {p : Addr} {xs : List V} {ds : List D} (s : Gs K g H S) (hp : H p = none) (r : Rps K g H xs ds) :
    Ext g H g (upd H p (.tup xs)) ∧ Gs K g (upd H p (.tup xs)) S ∧ Rp K g (upd H p (.tup xs)) (.ref p) (.tup ds) := by
  obtain ⟨e, s'⟩ := Ext.laid (o := .tup xs) s hp
  exact ⟨e, s', .tup (.inl ⟨.inl upd_same, s.nw hp⟩) (Rps.ext e s.cw r)⟩
/-- a new list, not written any more -/
theorem new_lst {S : Store} {p : Addr} {xs : List V} {ds : List D} (s : Gs K g H S) (hp : H p = none) (r : Rps K g H xs ds) :
    Ext g H g (upd H p (.lst xs)) ∧ Gs K g (upd H p (.lst xs)) S ∧ Rp K g (upd H p (.lst xs)) (.ref p) (.lst ds) := by
  obtain ⟨e, s'⟩ := Ext.laid (o := .lst xs) s hp
  exact ⟨e, s', .lst (.inl ⟨.inl upd_same, s.nw hp⟩) (Rps.ext e s.cw r)⟩
/-- what is told as data stands (lists of one's own may have been written) -/
structure ExtW (g : Gh) (H : Hp) (g' : Gh) (H' : Hp) : Prop where
  keep : ∀ b o, H b = some o → ¬ g.W b → H' b = some o ∧ ¬ g'.W b
  ca : ∃ m, g'.ca = g.ca ++ m
theorem ExtW.refl : ExtW g H g H := ⟨fun _ _ h w => ⟨h, w⟩, ⟨[], by simp⟩⟩
theorem ExtW.trans {g2 : Gh} {H2 : Hp} (a : ExtW g H g' H') (b : ExtW g' H' g2 H2) : ExtW g H g2 H2 := by
  obtain ⟨m, em⟩ := a.ca
  obtain ⟨m', em'⟩ := b.ca
  exact ⟨fun c o h w => let ⟨h1, w1⟩ := a.keep c o h w; b.keep c o h1 w1, ⟨m ++ m', by rw [em', em, List.append_assoc]⟩⟩
theorem Ext.w (e : Ext g H g' H') (hc : ∀ c ∈ g.ca, g.W c) : ExtW g H g' H' :=
  ⟨fun b o h w => ⟨e.keep b o h fun z => w (hc b z), fun z => w ((e.wk b o h).mp z)⟩, e.ca⟩
theorem Rd.extW {a : Addr} {u : HO} (e : ExtW g H g' H') (h : Rd H a u) (hw : ¬ g.W a) : Rd H' a u ∧ ¬ g'.W a := by
  rcases h with h | ⟨o, h⟩
  · exact ⟨.inl (e.keep _ _ h hw).1, (e.keep _ _ h hw).2⟩
  · exact ⟨.inr ⟨o, (e.keep _ _ h hw).1⟩, (e.keep _ _ h hw).2⟩
mutual
theorem Rp.extW (e : ExtW g H g' H') : ∀ {v : V} {d : D}, Rp K g H v d → Rp K g' H' v d
  | _, _, .non => .non
  | _, _, .bl b => .bl b
  | _, _, .int i => .int i
  | _, _, .str x => .str x
  | _, _, .ty n => .ty n
  | _, _, .tup h r => .tup (h.elim (fun z => .inl (Rd.extW e z.1 z.2)) .inr) (Rps.extW e r)
  | _, _, .lst h r => .lst (h.elim (fun z => .inl (Rd.extW e z.1 z.2)) .inr) (Rps.extW e r)
  | _, _, .cell (a := a) (n := n) h => by
    obtain ⟨m, em⟩ := e.ca
    refine .cell ?_
    rw [em, List.getElem?_append_left (List.getElem?_eq_some_iff.mp h).1]
    exact h
theorem Rps.extW (e : ExtW g H g' H') : ∀ {vs : List V} {ds : List D}, Rps K g H vs ds → Rps K g' H' vs ds
  | _, _, .nil => .nil
  | _, _, .cons h r => .cons (Rp.extW e h) (Rps.extW e r)
end

theorem old_upd {H0 : Hp} {p : Addr} {u : HO} (h : ∀ b o, H0 b = some o → ∃ o', H b = some o') : ∀ b o, H0 b = some o → ∃ o', (upd H p u) b = some o' := fun b o q => by
  by_cases z : b = p
  · exact ⟨u, by rw [z]; exact upd_same⟩
  · obtain ⟨o', q'⟩ := h b o q
    exact ⟨o', by rw [upd_ne z]; exact q'⟩
/-- one address more that may be written -/
def Gh.plus (g : Gh) (p : Addr) : Gh := ⟨g.ca, fun b => g.W b ∨ b = p⟩
/-- one less -/
def Gh.minus (g : Gh) (p : Addr) : Gh := ⟨g.ca, fun b => g.W b ∧ b ≠ p⟩
/-- a new list that may be written -/
theorem new_own {S : Store} {p : Addr} {xs : List V} (s : Gs K g H S) (hp : H p = none) :
    Ext g H (g.plus p) (upd H p (.lst xs)) ∧ Gs K (g.plus p) (upd H p (.lst xs)) S := by
  have ne : ∀ b u, H b = some u → b ≠ p := fun b u h z => by subst z; rw [hp] at h; cases h
  have e : Ext g H (g.plus p) (upd H p (.lst xs)) := ⟨fun b u h _ => by rw [upd_ne (ne b u h)]; exact h, fun b u h => ⟨u, by rw [upd_ne (ne b u h)]; exact h⟩,
    fun b u h => ⟨fun w => w.elim (fun z => z) fun z => absurd z (ne b u h), .inl⟩, ⟨[], by simp [Gh.plus]⟩, fun _ h => .inl h⟩
  refine ⟨e, ⟨fun b w => ?_, fun a h => .inl (s.cw a h), s.nd, s.len, fun n a ds h1 h2 => ?_⟩⟩
  · rcases w with w | w
    · obtain ⟨ys, h⟩ := s.wi b w
      exact ⟨ys, by rw [upd_ne (ne b _ h)]; exact h⟩
    · exact ⟨xs, by rw [w]; exact upd_same⟩
  · obtain ⟨ys, h, r⟩ := s.st n a ds h1 h2
    exact ⟨ys, by rw [upd_ne (ne a _ h)]; exact h, Rps.ext e s.cw r⟩
mutual
theorem Rp.minus {p : Addr} : ∀ {v : V} {d : D}, Rp K g H v d → Rp K (g.minus p) H v d
  | _, _, .non => .non
  | _, _, .bl b => .bl b
  | _, _, .int i => .int i
  | _, _, .str x => .str x
  | _, _, .ty n => .ty n
  | _, _, .tup h r => .tup (h.elim (fun z => .inl ⟨z.1, fun w => z.2 w.1⟩) .inr) (Rps.minus r)
  | _, _, .lst h r => .lst (h.elim (fun z => .inl ⟨z.1, fun w => z.2 w.1⟩) .inr) (Rps.minus r)
  | _, _, .cell h => .cell h
theorem Rps.minus {p : Addr} : ∀ {vs : List V} {ds : List D}, Rps K g H vs ds → Rps K (g.minus p) H vs ds
  | _, _, .nil => .nil
  | _, _, .cons h r => .cons (Rp.minus h) (Rps.minus r)
end
theorem Gs.minus {S : Store} {p : Addr} (s : Gs K g H S) (hp : p ∉ g.ca) : Gs K (g.minus p) H S := by
  refine ⟨fun b w => s.wi b w.1, fun a h => ⟨s.cw a h, fun z => hp (z ▸ h)⟩, s.nd, s.len, fun n a ds h1 h2 => ?_⟩
  obtain ⟨xs, h, r⟩ := s.st n a ds h1 h2
  exact ⟨xs, h, r.minus⟩
/-- what was new is left as it is -/
theorem Ext.minus {g0 : Gh} {H0 : Hp} {p : Addr} (e : Ext g0 H0 g H) (hp : H0 p = none) : Ext g0 H0 (g.minus p) H :=
  ⟨e.keep, e.there, fun b o h => ⟨fun w => (e.wk b o h).mp w.1, fun w => ⟨(e.wk b o h).mpr w, fun z => by subst z; rw [hp] at h; cases h⟩⟩, e.ca, e.new⟩
/-- writing an address that is not told as data -/
theorem Ext.wrote {p : Addr} {o o1 : HO} (hp : H p = some o1) (hc : p ∈ g.ca) : Ext g H g (upd H p o) :=
  ⟨fun b u h n => by rw [upd_ne (show b ≠ p from fun z => n (by rw [z]; exact hc))]; exact h, fun b u h => by
    by_cases z : b = p
    · exact ⟨o, by rw [z]; exact upd_same⟩
    · exact ⟨u, by rw [upd_ne z]; exact h⟩, fun _ _ _ => Iff.rfl, ⟨[], by simp⟩, fun _ h => .inl h⟩
theorem Rd.wrote {p a : Addr} {o u : HO} (w : g.W p) (h : Rd H a u) (n : ¬ g.W a) : Rd (upd H p o) a u := by
  have ne : a ≠ p := fun e => n (by rw [e]; exact w)
  rcases h with h | ⟨x, h⟩
  · exact .inl (by rw [upd_ne ne]; exact h)
  · exact .inr ⟨x, by rw [upd_ne ne]; exact h⟩
mutual
/-- data do not lean on what may be written -/
theorem Rp.wrote {p : Addr} {o : HO} (w : g.W p) : ∀ {v : V} {d : D}, Rp K g H v d → Rp K g (upd H p o) v d
  | _, _, .non => .non
  | _, _, .bl b => .bl b
  | _, _, .int i => .int i
  | _, _, .str x => .str x
  | _, _, .ty n => .ty n
  | _, _, .tup h r => .tup (h.elim (fun z => .inl ⟨Rd.wrote w z.1 z.2, z.2⟩) .inr) (Rps.wrote w r)
  | _, _, .lst h r => .lst (h.elim (fun z => .inl ⟨Rd.wrote w z.1 z.2, z.2⟩) .inr) (Rps.wrote w r)
  | _, _, .cell h => .cell h
theorem Rps.wrote {p : Addr} {o : HO} (w : g.W p) : ∀ {vs : List V} {ds : List D}, Rps K g H vs ds → Rps K g (upd H p o) vs ds
  | _, _, .nil => .nil
  | _, _, .cons h r => .cons (Rp.wrote w h) (Rps.wrote w r)
end
/-- a list of one's own is written -/
theorem Gs.wrote {S : Store} {p : Addr} {ys : List V} (s : Gs K g H S) (w : g.W p) (n : p ∉ g.ca) : Gs K g (upd H p (.lst ys)) S := by
  refine ⟨fun b wb => ?_, s.cw, s.nd, s.len, fun m a ds h1 h2 => ?_⟩
  · by_cases z : b = p
    · exact ⟨ys, by rw [z]; exact upd_same⟩
    · obtain ⟨xs, h⟩ := s.wi b wb
      exact ⟨xs, by rw [upd_ne z]; exact h⟩
  · obtain ⟨xs, h, r⟩ := s.st m a ds h1 h2
    have ne : a ≠ p := fun z => n (by rw [← z]; exact List.mem_of_getElem? h1)
    exact ⟨xs, by rw [upd_ne ne]; exact h, Rps.wrote w r⟩
theorem Ext.wroteNew {g0 : Gh} {H0 : Hp} {p : Addr} {o : HO} (e : Ext g0 H0 g H) (h : H0 p = none) : Ext g0 H0 g (upd H p o) := by
  have ne : ∀ b u, H0 b = some u → b ≠ p := fun b u q z => by rw [z, h] at q; cases q
  exact ⟨fun b u q n => by rw [upd_ne (ne b u q)]; exact e.keep b u q n, fun b u q => by rw [upd_ne (ne b u q)]; exact e.there b u q, e.wk, e.ca, e.new⟩
theorem ExtW.wrote {p : Addr} {o : HO} (w : g.W p) : ExtW g H g (upd H p o) :=
  ⟨fun b u h n => ⟨by rw [upd_ne (show b ≠ p from fun z => n (by rw [z]; exact w))]; exact h, n⟩, ⟨[], by simp⟩⟩
theorem ExtW.minus {p : Addr} : ExtW g H (g.minus p) H := ⟨fun b u h n => ⟨h, fun z => n z.1⟩, ⟨[], by simp [Gh.minus]⟩⟩
theorem ExtW.plus {p : Addr} {o : HO} (hp : H p = none) : ExtW g H (g.plus p) (upd H p o) :=
  ⟨fun b u h n => by
    have ne : b ≠ p := fun z => by rw [z, hp] at h; cases h
    exact ⟨by rw [upd_ne ne]; exact h, fun z => z.elim n ne⟩, ⟨[], by simp [Gh.plus]⟩⟩
/-- a cell is written -/
theorem Gs.cell {S : Store} {n : Nat} {p : Addr} {ys : List V} {ds : List D} (s : Gs K g H S) (hc : g.ca[n]? = some p) (r : Rps K g H ys ds) : Gs K g (upd H p (.lst ys)) (S.set n ds) := by
  have hm : p ∈ g.ca := List.mem_of_getElem? hc
  have w := s.cw p hm
  refine ⟨fun b wb => ?_, s.cw, s.nd, by rw [List.length_set]; exact s.len, fun m a es h1 h2 => ?_⟩
  · by_cases z : b = p
    · exact ⟨ys, by rw [z]; exact upd_same⟩
    · obtain ⟨xs, h⟩ := s.wi b wb
      exact ⟨xs, by rw [upd_ne z]; exact h⟩
  · by_cases z : m = n
    · subst z
      rw [hc] at h1; cases h1
      have hl : m < S.length := by rw [← s.len]; exact (List.getElem?_eq_some_iff.mp hc).1
      rw [List.getElem?_set_self hl] at h2
      cases h2
      exact ⟨ys, upd_same, Rps.wrote w r⟩
    · rw [List.getElem?_set_ne (Ne.symm z)] at h2
      obtain ⟨xs, h, r'⟩ := s.st m a es h1 h2
      have ne : a ≠ p := fun q => by
        subst q
        obtain ⟨k1, e1⟩ := List.getElem?_eq_some_iff.mp h1
        obtain ⟨k2, e2⟩ := List.getElem?_eq_some_iff.mp hc
        exact z ((List.getElem_inj s.nd).mp (e1.trans e2.symm))
      exact ⟨xs, by rw [upd_ne ne]; exact h, Rps.wrote w r'⟩
/-- one cell more -/
def Gh.cell (g : Gh) (p : Addr) : Gh := ⟨g.ca ++ [p], fun b => g.W b ∨ b = p⟩
theorem new_cell {S : Store} {p : Addr} {xs : List V} {ds : List D} (s : Gs K g H S) (hp : H p = none) (r : Rps K g H xs ds) :
    Ext g H (g.cell p) (upd H p (.lst xs)) ∧ Gs K (g.cell p) (upd H p (.lst xs)) (S ++ [ds]) ∧ Rp K (g.cell p) (upd H p (.lst xs)) (.ref p) (.cell S.length) := by
  have ne : ∀ b u, H b = some u → b ≠ p := fun b u h z => by subst z; rw [hp] at h; cases h
  have e : Ext g H (g.cell p) (upd H p (.lst xs)) := ⟨fun b u h _ => by rw [upd_ne (ne b u h)]; exact h, fun b u h => ⟨u, by rw [upd_ne (ne b u h)]; exact h⟩,
    fun b u h => ⟨fun w => w.elim (fun z => z) fun z => absurd z (ne b u h), .inl⟩, ⟨[p], rfl⟩, fun c hc => (List.mem_append.mp hc).elim .inl fun z => .inr (by rw [List.mem_singleton.mp z]; exact hp)⟩
  have pn : p ∉ g.ca := fun z => s.nw hp (s.cw p z)
  refine ⟨e, ⟨fun b w => ?_, fun a h => ?_, ?_, by simp [Gh.cell, s.len], fun n a es h1 h2 => ?_⟩, .cell (by show (g.ca ++ [p])[S.length]? = some p; rw [← s.len, List.getElem?_append_right (Nat.le_refl _)]; simp)⟩
  · rcases w with w | w
    · obtain ⟨ys, h⟩ := s.wi b w
      exact ⟨ys, by rw [upd_ne (ne b _ h)]; exact h⟩
    · exact ⟨xs, by rw [w]; exact upd_same⟩
  · rcases List.mem_append.mp h with h | h
    · exact .inl (s.cw a h)
    · exact .inr (List.mem_singleton.mp h)
  · show (g.ca ++ [p]).Nodup
    rw [List.nodup_append]
    exact ⟨s.nd, by simp, fun a ha b hb z => by rw [List.mem_singleton.mp hb] at z; exact pn (z ▸ ha)⟩
  · have h1 : (g.ca ++ [p])[n]? = some a := h1
    by_cases z : n < g.ca.length
    · rw [List.getElem?_append_left z] at h1
      rw [List.getElem?_append_left (by rw [← s.len]; exact z)] at h2
      obtain ⟨ys, h, r'⟩ := s.st n a es h1 h2
      exact ⟨ys, by rw [upd_ne (ne a _ h)]; exact h, Rps.ext e s.cw r'⟩
    · have sl := s.len
      rw [List.getElem?_append_right (by omega)] at h1
      rw [List.getElem?_append_right (by omega)] at h2
      have z0 : n - g.ca.length = 0 := by
        have := (List.getElem?_eq_some_iff.mp h1).1
        simp at this
        omega
      rw [z0] at h1
      rw [show n - S.length = 0 by rw [← s.len]; exact z0] at h2
      cases h1; cases h2
      exact ⟨xs, upd_same, Rps.ext e s.cw r⟩
end
end PD

set_option Elab.async false
set_option linter.all false
set_option maxRecDepth 100000
set_option maxHeartbeats 4000000
/-! PD, part b: the small language and what it means. -/
namespace PD
open PySem PySem.Spec PyProof.Rows L2

inductive BO where | add | sub | mul | fdiv | mod | pow
  deriving DecidableEq
inductive CO where | lt | le | gt | ge | eq | ne | isN | notN | isin | notin
  deriving DecidableEq
inductive Bi where
  | len | abs | gcd | min2 | max2 | int1 | str1 | tuple | all | any | sum | divmod | repr
  deriving DecidableEq

mutual
/-- expressions -/
inductive Xp where
  | nm (i : Nat) | gc (j : Nat) | lit (d : D)
  | bin (o : BO) (a b : Xp) | neg (a : Xp)
  | cmp (o : CO) (a b : Xp) | cmp2 (o o' : CO) (a b c : Xp)
  | and (a b : Xp) | or (a b : Xp) | not (a : Xp) | ife (c a b : Xp)
  | tup (es : Xps) | ix (a b : Xp) | slc (a : Xp) (lo hi : Xo)
  | call (j : Nat) (es ks : Xps) | bi (b : Bi) (es : Xps) | isi (a : Xp) (t : String)
  | fr (f : Fx)
inductive Xps where
  | nil | cons (e : Xp) (es : Xps)
inductive Xo where
  | none | some (e : Xp)
/-- expressions that make a new list -/
inductive Fx where
  | disp (es : Xps) | comp (elt : Xp) (t : Tg) (w : Wk) (c : Xo) (own : List Nat) | list (e : Xp) | cat (a b : Xp) | rep (f : Fx) (b : Xp) | slc (a : Xp) (lo hi : Xo)
/-- what is walked -/
inductive Wk where
  | seq (e : Xp) | bor (i : Nat) | range1 (a : Xp) | range2 (a b : Xp)
/-- targets -/
inductive Tg where
  | nm (i : Nat) | tup (ts : Tgs) | sub (i : Nat) (b : Xp)
inductive Tgs where
  | nil | cons (t : Tg) (ts : Tgs)
end

mutual
/-- statements -/
inductive Sm where
  | asg (t : Tg) (e : Xp)
  | own (i : Nat) (f : Fx)
  | par (is : List Nat) (es : Xps)
  | aug (i : Nat) (o : BO) (e : Xp)
  | app (i : Nat) (e : Xp)
  | pop (i : Nat)
  | fz (i : Nat)
  | newc (i : Nat) (es : Xps)
  | retc (es : Xps)
  | ex (e : Xp) | ret (e : Xp) | ret0
  | ife (c : Xp) (a b : Sms)
  | for_ (t : Tg) (w : Wk) (b : Sms)
  | wh (c : Xp) (b : Sms)
  | brk | cnt | pass | never
inductive Sms where
  | nil | cons (s : Sm) (ss : Sms)
end

/-! ### data -/
mutual
def D.py : D → PyData
  | .non => .none | .bl b => .bool b | .int i => .int i | .str x => .str x | .ty _ => .none | .cell _ => .none
  | .tup xs => .tuple (D.pys xs) | .lst xs => .list (D.pys xs)
def D.pys : List D → List PyData
  | [] => [] | x :: xs => x.py :: D.pys xs
end
mutual
/-- no types, no cells within -/
def D.pure : D → Bool
  | .ty _ => false | .cell _ => false
  | .tup xs => D.pures xs | .lst xs => D.pures xs
  | _ => true
def D.pures : List D → Bool
  | [] => true | x :: xs => x.pure && D.pures xs
end
def Va.dat : Va → D
  | .d x => x | .b xs => .lst xs
def asL : Va → Option (List D)
  | .d (.lst xs) => some xs | .b xs => some xs | _ => none
def asT : Va → Option (List D)
  | .d (.tup xs) => some xs | _ => none

/-- may be compared, shown -/
def eqOk (d : D) : Bool := d.pure && SeqAt.shaped d.py
def shOk (d : D) : Bool := d.pure && d.py.showable && decide (d.py.depth ≤ 64) && decide (d.py.shown.length ≤ 16777216)
def eqD (a b : D) : Bool := PyData.eqv a.py b.py

abbrev line : Nat := 16777216
/-- sizes -/
def okMul (i j : Int) : Bool := decide (i.natAbs.log2 + j.natAbs.log2 < 1000000)
def okDiv (j : Int) : Bool := decide (j ≠ 0) && decide (j.natAbs.log2 < 9000)
def okPow (i j : Int) : Bool := decide (0 ≤ j) && decide (j ≤ 1000000) && decide (i.natAbs < 2 ^ 64)

def binV (o : BO) (x y : Va) : Option D :=
  match o, x, y with
  | .add, .d (.int i), .d (.int j) => some (.int (i + j))
  | .add, .d (.str x), .d (.str y) => if x.length + y.length ≤ line then some (.str (x ++ y)) else none
  | .add, .d (.tup x), .d (.tup y) => if x.length + y.length ≤ line then some (.tup (x ++ y)) else none
  | .sub, .d (.int i), .d (.int j) => some (.int (i - j))
  | .sub, .d (.bl i), .d (.bl j) => some (.int ((if i then 1 else 0) - (if j then 1 else 0)))
  | .mul, .d (.int i), .d (.int j) => if okMul i j then some (.int (i * j)) else none
  | .fdiv, .d (.int i), .d (.int j) => if okDiv j then some (.int (i.fdiv j)) else none
  | .mod, .d (.int i), .d (.int j) => if j ≠ 0 then some (.int (i.fmod j)) else none
  | .pow, .d (.int i), .d (.int j) => if okPow i j then some (.int (i ^ j.toNat)) else none
  | _, _, _ => none

def cmpV (o : CO) (x y : Va) : Option Bool :=
  match o, x, y with
  | .lt, .d (.int i), .d (.int j) => some (decide (i < j))
  | .le, .d (.int i), .d (.int j) => some (decide (i ≤ j))
  | .gt, .d (.int i), .d (.int j) => some (decide (j < i))
  | .ge, .d (.int i), .d (.int j) => some (decide (j ≤ i))
  | .eq, .d (.str x), .d (.str y) => some (decide (x = y))
  | .ne, .d (.str x), .d (.str y) => some (!decide (x = y))
  | .eq, x, y => if eqOk x.dat && eqOk y.dat then some (eqD x.dat y.dat) else none
  | .ne, x, y => if eqOk x.dat && eqOk y.dat then some (!eqD x.dat y.dat) else none
  | .isN, .d .non, .d .non => some true
  | .isN, .d (.int _), .d .non => some false
  | .isN, .d (.bl _), .d .non => some false
  | .isN, .d (.str _), .d .non => some false
  | .isN, .d (.tup _), .d .non => some false
  | .isN, .d (.lst _), .d .non => some false
  | .notN, .d .non, .d .non => some false
  | .notN, .d (.int _), .d .non => some true
  | .notN, .d (.bl _), .d .non => some true
  | .notN, .d (.str _), .d .non => some true
  | .notN, .d (.tup _), .d .non => some true
  | .notN, .d (.lst _), .d .non => some true
  | .isin, x, y => match asL y with
    | some ds => if eqOk x.dat && eqOk (.lst ds) then some (ds.any fun z => eqD z x.dat) else none
    | none => match asT y with
      | some ds => if eqOk x.dat && eqOk (.tup ds) then some (ds.any fun z => eqD z x.dat) else none
      | none => none
  | .notin, x, y => match asL y with
    | some ds => if eqOk x.dat && eqOk (.lst ds) then some (!ds.any fun z => eqD z x.dat) else none
    | none => match asT y with
      | some ds => if eqOk x.dat && eqOk (.tup ds) then some (!ds.any fun z => eqD z x.dat) else none
      | none => none
  | _, _, _ => none

def negV : Va → Option D
  | .d (.int i) => some (.int (-i)) | _ => none

/-- an item -/
def ixV (x y : Va) (S : Store) : Option D :=
  match y with
  | .d (.int i) => match x with
    | .d (.tup xs) => atI xs i
    | .d (.lst xs) => atI xs i
    | .b xs => atI xs i
    | .d (.cell n) => match S[n]? with | some xs => atI xs i | none => none
    | _ => none
  | _ => none

def cutD (xs : List D) (lo hi : Option Int) : List D :=
  (xs.drop (HT.sIx xs.length 0 lo)).take (HT.sIx xs.length xs.length hi - HT.sIx xs.length 0 lo)
def optI : Option Va → Option (Option Int)
  | none => some none | some (.d (.int i)) => some (some i) | _ => none
def slcT (x : Va) (lo hi : Option Int) : Option D :=
  match x with
  | .d (.tup xs) => some (.tup (cutD xs lo hi))
  | _ => none
def slcL (x : Va) (lo hi : Option Int) : Option (List D) := (asL x).map fun xs => cutD xs lo hi

def intsOf : List D → Option (List Int)
  | [] => some []
  | .int i :: r => match intsOf r with | some l => some (i :: l) | none => none
  | _ :: _ => none
def boolsOf : List D → Option (List Bool)
  | [] => some []
  | .bl i :: r => match boolsOf r with | some l => some (i :: l) | none => none
  | _ :: _ => none

def biV (b : Bi) (xs : List Va) : Option D :=
  match b, xs with
  | .len, [.d (.tup xs)] => some (.int xs.length)
  | .len, [.d (.lst xs)] => some (.int xs.length)
  | .len, [.b xs] => some (.int xs.length)
  | .abs, [.d (.int i)] => some (.int (if i < 0 then -i else i))
  | .gcd, [.d (.int i), .d (.int j)] => some (.int ((Nat.gcd i.natAbs j.natAbs : Nat) : Int))
  | .min2, [.d (.int i), .d (.int j)] => some (.int (if j < i then j else i))
  | .max2, [.d (.int i), .d (.int j)] => some (.int (if j > i then j else i))
  | .int1, [.d (.int i)] => some (.int i)
  | .str1, [.d (.int i)] => if i.natAbs.log2 < 1920 then some (.str (toString i)) else none
  | .tuple, [.d (.tup xs)] => some (.tup xs)
  | .tuple, [.d (.lst xs)] => some (.tup xs)
  | .tuple, [.b xs] => some (.tup xs)
  | .all, [x] => match asL x with | some ds => (boolsOf ds).map fun l => .bl (l.all id) | none => none
  | .any, [x] => match asL x with | some ds => (boolsOf ds).map fun l => .bl (l.any id) | none => none
  | .sum, [x] => match asL x with | some ds => (intsOf ds).map fun l => .int l.sum | none => none
  | .divmod, [.d (.int i), .d (.int j)] => if 0 < j ∧ j < 1073741824 then some (.tup [.int (i / j), .int (i % j)]) else none
  | .repr, [.d (.tup xs)] => if shOk (.tup xs) then some (.str (D.tup xs).py.shown) else none
  | .repr, [.d (.lst xs)] => if shOk (.lst xs) then some (.str (D.lst xs).py.shown) else none
  | .repr, [.b xs] => if shOk (.lst xs) then some (.str (D.lst xs).py.shown) else none
  | .repr, [.d (.int i)] => if i.natAbs.log2 < 1920 then some (.str (toString i)) else none
  | _, _ => none

def tyN : Va → Option String
  | .d .non => some "NoneType" | .d (.bl _) => some "bool" | .d (.int _) => some "int" | .d (.str _) => some "str"
  | .d (.tup _) => some "tuple" | .d (.lst _) => some "list" | .b _ => some "list" | _ => none
def isiV (x : Va) (t : String) : Option Bool := match tyN x with | some n => kitB n t | none => none

/-- strict data -/
def unV : Va → Option D
  | .d x => some x | .b _ => none
def unVs : List Va → Option (List D)
  | [] => some []
  | x :: r => match unV x with
    | some d => match unVs r with | some l => some (d :: l) | none => none
    | none => none

/-! ### the run -/
structure Ent where
  name : Str
  n : Nat
  ks : List Str
  sem : List D → Store → Option (D × Store)
structure Gam where
  ents : List Ent
  cons : List (Str × D)
  fre : List Str
  bfs : List (Str × String)

def bnd {α β : Type} (m : Option (α × Store)) (f : α → Store → Option (β × Store)) : Option (β × Store) :=
  match m with
  | some (a, S) => f a S
  | none => none
@[simp] theorem bnd_some {α β : Type} (a : α) (S : Store) (f : α → Store → Option (β × Store)) : bnd (some (a, S)) f = f a S := rfl
@[simp] theorem bnd_none {α β : Type} (f : α → Store → Option (β × Store)) : bnd none f = none := rfl
def lft {α : Type} (o : Option α) (S : Store) : Option (α × Store) :=
  match o with
  | some a => some (a, S)
  | none => none
@[simp] theorem lft_some {α : Type} (a : α) (S : Store) : lft (some a) S = some (a, S) := rfl
@[simp] theorem lft_none {α : Type} (S : Store) : lft (none : Option α) S = none := rfl
theorem of_bnd {α β : Type} {m : Option (α × Store)} {f : α → Store → Option (β × Store)} {r : β × Store} (h : bnd m f = some r) : ∃ a S, m = some (a, S) ∧ f a S = some r := by
  match m, h with
  | some (a, S), h => exact ⟨a, S, rfl, h⟩
theorem of_lft {α : Type} {o : Option α} {S S' : Store} {a : α} (h : lft o S = some (a, S')) : o = some a ∧ S' = S := by
  match o, h with
  | some b, h => cases h; exact ⟨rfl, rfl⟩

/-- a comprehension's turns -/
def compL (turn : D → Store → Option (Option D × Store)) : List D → Store → Option (List D × Store)
  | [], S => some ([], S)
  | d :: ds, S => bnd (turn d S) fun r S1 => bnd (compL turn ds S1) fun rs S2 => some ((match r with | some x => x :: rs | none => rs), S2)

def wipeL (L : Loc) : List Nat → Loc
  | [] => L
  | v :: vs => (wipeL L vs).set v .un

def asB (x : Va) : Option Bool := match x with | .d (.bl b) => some b | _ => none

def Wk.isB : Wk → Bool
  | .bor _ => true | _ => false

variable (G : Gam)
mutual
def evX : Xp → Loc → Store → Option (Va × Store)
  | .nm i, L, S => match L[i]? with
    | some (.dat d) => some (.d d, S)
    | some (.own xs) => some (.b xs, S)
    | _ => none
  | .gc j, _, S => match G.cons[j]? with | some p => some (.d p.2, S) | none => none
  | .lit d, _, S => some (.d d, S)
  | .bin o a b, L, S => bnd (evX a L S) fun x S1 => bnd (evX b L S1) fun y S2 => lft ((binV o x y).map .d) S2
  | .neg a, L, S => bnd (evX a L S) fun x S1 => lft ((negV x).map .d) S1
  | .cmp o a b, L, S => bnd (evX a L S) fun x S1 => bnd (evX b L S1) fun y S2 => lft ((cmpV o x y).map fun c => .d (.bl c)) S2
  | .cmp2 o o' a b c, L, S => bnd (evX a L S) fun x S1 => bnd (evX b L S1) fun y S2 => bnd (lft (cmpV o x y) S2) fun k S2 =>
      if k = true then bnd (evX c L S2) fun z S3 => lft ((cmpV o' y z).map fun c => .d (.bl c)) S3 else some (.d (.bl false), S2)
  | .and a b, L, S => bnd (evX a L S) fun x S1 => bnd (lft (asB x) S1) fun c S1 => if c = true then evX b L S1 else some (.d (.bl false), S1)
  | .or a b, L, S => bnd (evX a L S) fun x S1 => bnd (lft (asB x) S1) fun c S1 => if c = true then some (.d (.bl true), S1) else evX b L S1
  | .not a, L, S => bnd (evX a L S) fun x S1 => lft ((asB x).map fun c => .d (.bl (!c))) S1
  | .ife c a b, L, S => bnd (evX c L S) fun x S1 => bnd (lft (asB x) S1) fun c S1 => if c = true then evX a L S1 else evX b L S1
  | .tup es, L, S => bnd (evXs es L S) fun xs S1 => lft ((unVs xs).map fun ds => .d (.tup ds)) S1
  | .ix a b, L, S => bnd (evX a L S) fun x S1 => bnd (evX b L S1) fun y S2 => lft ((ixV x y S2).map .d) S2
  | .slc a lo hi, L, S => bnd (evX a L S) fun x S1 => bnd (evO lo L S1) fun l S2 => bnd (evO hi L S2) fun h S3 => lft ((slcT x l h).map .d) S3
  | .call j es ks, L, S => match G.ents[j]? with
    | some e => bnd (evXs es L S) fun xs S1 => bnd (evXs ks L S1) fun zs S2 => bnd (lft (unVs (xs ++ zs)) S2) fun ds S2 =>
        if xs.length = e.n ∧ zs.length = e.ks.length then bnd (e.sem ds S2) fun d S3 => some (.d d, S3) else none
    | none => none
  | .bi b es, L, S => bnd (evXs es L S) fun xs S1 => lft ((biV b xs).map .d) S1
  | .isi a t, L, S => bnd (evX a L S) fun x S1 => lft ((isiV x t).map fun c => .d (.bl c)) S1
  | .fr f, L, S => bnd (evF f L S) fun xs S1 => some (.d (.lst xs), S1)
def evXs : Xps → Loc → Store → Option (List Va × Store)
  | .nil, _, S => some ([], S)
  | .cons e es, L, S => bnd (evX e L S) fun x S1 => bnd (evXs es L S1) fun xs S2 => some (x :: xs, S2)
def evO : Xo → Loc → Store → Option (Option Int × Store)
  | .none, _, S => some (none, S)
  | .some e, L, S => bnd (evX e L S) fun x S1 => lft (optI (some x)) S1
def evF : Fx → Loc → Store → Option (List D × Store)
  | .disp es, L, S => bnd (evXs es L S) fun xs S1 => lft (unVs xs) S1
  | .comp elt t w c own, L, S => bnd (evW w L S) fun ds S1 => if ds.length < line then
      compL (fun d S => bnd (evG t d (wipeL L own) S) fun L2 S => bnd (evC c L2 S) fun k S => if k = true then bnd (evX elt L2 S) fun x S => bnd (lft (unV x) S) fun y S => some (some y, S) else some (none, S)) ds S1
      else none
  | .list e, L, S => bnd (evX e L S) fun x S1 => lft (match asL x with | some l => some l | none => asT x) S1
  | .cat a b, L, S => bnd (evX a L S) fun x S1 => bnd (evX b L S1) fun y S2 => lft (match asL x, asL y with
      | some l, some m => if l.length + m.length ≤ line then some (l ++ m) else none
      | _, _ => none) S2
  | .rep f b, L, S => bnd (evF f L S) fun l S1 => bnd (evX b L S1) fun y S2 => lft (match y with
      | .d (.int k) => if 0 ≤ k ∧ k < 2 ^ 63 ∧ l.length * k.toNat ≤ line then some (List.replicate k.toNat l).flatten else none
      | _ => none) S2
  | .slc a lo hi, L, S => bnd (evX a L S) fun x S1 => bnd (evO lo L S1) fun l S2 => bnd (evO hi L S2) fun h S3 => lft (slcL x l h) S3
/-- a test of a comprehension -/
def evC : Xo → Loc → Store → Option (Bool × Store)
  | .none, _, S => some (true, S)
  | .some e, L, S => bnd (evX e L S) fun x S1 => lft (asB x) S1
/-- the items that are walked -/
def evW : Wk → Loc → Store → Option (List D × Store)
  | .seq e, L, S => bnd (evX e L S) fun x S1 => lft (match x with | .d (.lst l) => some l | .d (.tup l) => some l | _ => none) S1
  | .bor i, L, S => match L[i]? with
    | some (.own xs) => some (xs, S)
    | _ => none
  | .range1 a, L, S => bnd (evX a L S) fun x S1 => lft (match x with
      | .d (.int n) => if n < 2 ^ 62 ∧ -(2 ^ 62) ≤ n then some ((List.range n.toNat).map fun i => .int (i : Nat)) else none
      | _ => none) S1
  | .range2 a b, L, S => bnd (evX a L S) fun x S1 => bnd (evX b L S1) fun y S2 => lft (match x, y with
      | .d (.int m), .d (.int n) => if n < 2 ^ 62 ∧ -(2 ^ 62) ≤ n ∧ m < 2 ^ 62 ∧ -(2 ^ 62) ≤ m then some ((List.range (n - m).toNat).map fun i => .int (m + (i : Nat))) else none
      | _, _ => none) S2
/-- a datum is given to a target -/
def evG : Tg → D → Loc → Store → Option (Loc × Store)
  | .nm i, d, L, S => some (L.set i (.dat d), S)
  | .tup ts, d, L, S => match d with
    | .tup ds => evGs ts ds L S
    | _ => none
  | .sub i b, d, L, S => bnd (evX b L S) fun y S1 => match y with
    | .d (.int k) => match L[i]? with
      | some (.own xs) => match ixN xs.length k with | some j => some (L.set i (.own (xs.set j d)), S1) | none => none
      | some (.dat (.cell n)) => match S1[n]? with
        | some xs => match ixN xs.length k with | some j => some (L, S1.set n (xs.set j d)) | none => none
        | none => none
      | _ => none
    | _ => none
def evGs : Tgs → List D → Loc → Store → Option (Loc × Store)
  | .nil, [], L, S => some (L, S)
  | .cons t ts, d :: ds, L, S => bnd (evG t d L S) fun L1 S1 => evGs ts ds L1 S1
  | _, _, _, _ => none
end
end PD

set_option Elab.async false
set_option linter.all false
set_option maxRecDepth 100000
set_option maxHeartbeats 4000000
/-! PD, part c: statements. -/
namespace PD
open PySem PySem.Spec PyProof.Rows L2

inductive Fl where | nx | brk | cnt | ret (d : D)

/-- a for loop over items -/
def forL (step : D → Loc → Store → Option ((Fl × Loc) × Store)) : List D → Loc → Store → Option ((Fl × Loc) × Store)
  | [], L, S => some ((.nx, L), S)
  | d :: ds, L, S => bnd (step d L S) fun r S1 => match r.1 with
    | .nx => forL step ds r.2 S1
    | .cnt => forL step ds r.2 S1
    | .brk => some ((.nx, r.2), S1)
    | .ret x => some ((.ret x, r.2), S1)
/-- a while loop, n turns at most -/
def whN (c : Loc → Store → Option (Bool × Store)) (body : Loc → Store → Option ((Fl × Loc) × Store)) : Nat → Loc → Store → Option ((Fl × Loc) × Store)
  | 0, _, _ => none
  | n + 1, L, S => bnd (c L S) fun k S1 => if k = true then bnd (body L S1) fun r S2 => match r.1 with
      | .nx => whN c body n r.2 S2
      | .cnt => whN c body n r.2 S2
      | .brk => some ((.nx, r.2), S2)
      | .ret x => some ((.ret x, r.2), S2)
    else some ((.nx, L), S1)
theorem whN_more {c : Loc → Store → Option (Bool × Store)} {body : Loc → Store → Option ((Fl × Loc) × Store)} : ∀ {n : Nat} {L : Loc} {S : Store} {r : (Fl × Loc) × Store}, whN c body n L S = some r → whN c body (n + 1) L S = some r
  | 0, _, _, _, h => by cases h
  | n + 1, L, S, r, h => by
    unfold whN at h ⊢
    obtain ⟨k, S1, h1, h2⟩ := of_bnd h
    rw [h1, bnd_some]
    cases k with
    | false => exact h2
    | true =>
      simp only [if_true] at h2 ⊢
      obtain ⟨⟨f, L2⟩, S2, h3, h4⟩ := of_bnd h2
      rw [h3, bnd_some]
      cases f with
      | nx => exact whN_more h4
      | cnt => exact whN_more h4
      | brk => exact h4
      | ret x => exact h4
theorem whN_le {c : Loc → Store → Option (Bool × Store)} {body : Loc → Store → Option ((Fl × Loc) × Store)} {n m : Nat} {L : Loc} {S : Store} {r : (Fl × Loc) × Store} (h : whN c body n L S = some r) (le : n ≤ m) : whN c body m L S = some r := by
  induction le with
  | refl => exact h
  | step _ ih => exact whN_more ih
open Classical in
/-- a while loop -/
noncomputable def whL (c : Loc → Store → Option (Bool × Store)) (body : Loc → Store → Option ((Fl × Loc) × Store)) (L : Loc) (S : Store) : Option ((Fl × Loc) × Store) :=
  if h : ∃ r n, whN c body n L S = some r then some h.choose else none
theorem of_whL {c : Loc → Store → Option (Bool × Store)} {body : Loc → Store → Option ((Fl × Loc) × Store)} {L : Loc} {S : Store} {r : (Fl × Loc) × Store} (h : whL c body L S = some r) : ∃ n, whN c body n L S = some r := by
  unfold whL at h
  split at h
  · rename_i hx
    cases h
    exact hx.choose_spec
  · cases h
theorem whL_of {c : Loc → Store → Option (Bool × Store)} {body : Loc → Store → Option ((Fl × Loc) × Store)} {L : Loc} {S : Store} {r : (Fl × Loc) × Store} {n : Nat} (h : whN c body n L S = some r) : whL c body L S = some r := by
  have hx : ∃ r n, whN c body n L S = some r := ⟨r, n, h⟩
  unfold whL
  rw [dif_pos hx]
  obtain ⟨m, hm⟩ := hx.choose_spec
  have h1 := whN_le h (Nat.le_max_left n m)
  have h2 := whN_le hm (Nat.le_max_right n m)
  rw [h1] at h2
  exact h2.symm
/-- one turn -/
theorem whL_eq (c : Loc → Store → Option (Bool × Store)) (body : Loc → Store → Option ((Fl × Loc) × Store)) (L : Loc) (S : Store) : whL c body L S = bnd (c L S) fun k S1 => if k = true then bnd (body L S1) fun r S2 => (match r.1 with
      | .nx => whL c body r.2 S2
      | .cnt => whL c body r.2 S2
      | .brk => some ((.nx, r.2), S2)
      | .ret x => some ((.ret x, r.2), S2) : Option ((Fl × Loc) × Store))
    else some ((.nx, L), S1) := by
  have go : ∀ r, whL c body L S = some r ↔ (bnd (c L S) fun k S1 => if k = true then bnd (body L S1) fun r S2 => (match r.1 with
      | .nx => whL c body r.2 S2
      | .cnt => whL c body r.2 S2
      | .brk => some ((.nx, r.2), S2)
      | .ret x => some ((.ret x, r.2), S2) : Option ((Fl × Loc) × Store))
    else some ((.nx, L), S1)) = some r := by
    intro r
    constructor
    · intro h
      obtain ⟨n, hn⟩ := of_whL h
      cases n with
      | zero => cases hn
      | succ n =>
        unfold whN at hn
        obtain ⟨k, S1, h1, h2⟩ := of_bnd hn
        rw [h1, bnd_some]
        cases k with
        | false => exact h2
        | true =>
          simp only [if_true] at h2 ⊢
          obtain ⟨⟨f, L2⟩, S2, h3, h4⟩ := of_bnd h2
          rw [h3, bnd_some]
          cases f with
          | nx => exact whL_of h4
          | cnt => exact whL_of h4
          | brk => exact h4
          | ret x => exact h4
    · intro h
      obtain ⟨k, S1, h1, h2⟩ := of_bnd h
      cases k with
      | false => exact whL_of (n := 1) (by unfold whN; rw [h1, bnd_some]; exact h2)
      | true =>
        simp only [if_true] at h2
        obtain ⟨⟨f, L2⟩, S2, h3, h4⟩ := of_bnd h2
        cases f with
        | nx =>
          obtain ⟨n, hn⟩ := of_whL (show whL c body L2 S2 = some r from h4)
          exact whL_of (n := n + 1) (by unfold whN; rw [h1, bnd_some, if_pos rfl, h3, bnd_some]; exact hn)
        | cnt =>
          obtain ⟨n, hn⟩ := of_whL (show whL c body L2 S2 = some r from h4)
          exact whL_of (n := n + 1) (by unfold whN; rw [h1, bnd_some, if_pos rfl, h3, bnd_some]; exact hn)
        | brk => exact whL_of (n := 1) (by unfold whN; rw [h1, bnd_some, if_pos rfl, h3, bnd_some]; exact h4)
        | ret x => exact whL_of (n := 1) (by unfold whN; rw [h1, bnd_some, if_pos rfl, h3, bnd_some]; exact h4)
  cases e : whL c body L S with
  | some r => exact ((go r).mp e).symm
  | none =>
    cases e2 : (bnd (c L S) fun k S1 => if k = true then bnd (body L S1) fun r S2 => (match r.1 with
      | .nx => whL c body r.2 S2
      | .cnt => whL c body r.2 S2
      | .brk => some ((.nx, r.2), S2)
      | .ret x => some ((.ret x, r.2), S2) : Option ((Fl × Loc) × Store))
    else some ((.nx, L), S1)) with
    | none => rfl
    | some r =>
      have := (go r).mpr e2
      rw [e] at this
      cases this

/-- several slots stored -/
def setAll : List Nat → List D → Loc → Loc
  | i :: is, d :: ds, L => setAll is ds (L.set i (.dat d))
  | _, _, L => L

def augV (o : BO) (x : D) (y : Va) : Option D :=
  match o, x, y with
  | .add, .int i, .d (.int j) => some (.int (i + j))
  | .sub, .int i, .d (.int j) => some (.int (i - j))
  | _, _, _ => none

variable (G : Gam)
mutual
noncomputable def evS : Sm → Loc → Store → Option ((Fl × Loc) × Store)
  | .asg t e, L, S => bnd (evX G e L S) fun x S1 => bnd (lft (unV x) S1) fun d S1 => bnd (evG G t d L S1) fun L2 S2 => some ((.nx, L2), S2)
  | .own i f, L, S => bnd (evF G f L S) fun xs S1 => some ((.nx, L.set i (.own xs)), S1)
  | .par is es, L, S => bnd (evXs G es L S) fun xs S1 => bnd (lft (unVs xs) S1) fun ds S1 => if ds.length = is.length then some ((.nx, setAll is.reverse ds.reverse L), S1) else none
  | .aug i o e, L, S => match L[i]? with
    | some (.dat d) => bnd (evX G e L S) fun y S1 => bnd (lft (augV o d y) S1) fun z S1 => some ((.nx, L.set i (.dat z)), S1)
    | _ => none
  | .app i e, L, S => bnd (evX G e L S) fun x S1 => bnd (lft (unV x) S1) fun d S1 => match L[i]? with
    | some (.own xs) => if xs.length < line then some ((.nx, L.set i (.own (xs ++ [d]))), S1) else none
    | _ => none
  | .pop i, L, S => match L[i]? with
    | some (.own xs) => if xs.length = 0 then none else some ((.nx, L.set i (.own xs.dropLast)), S)
    | _ => none
  | .fz i, L, S => match L[i]? with
    | some (.own xs) => some ((.nx, L.set i (.dat (.lst xs))), S)
    | _ => some ((.nx, L), S)
  | .newc i es, L, S => bnd (evXs G es L S) fun xs S1 => bnd (lft (unVs xs) S1) fun ds S1 => some ((.nx, L.set i (.dat (.cell S1.length))), S1 ++ [ds])
  | .retc es, L, S => bnd (evXs G es L S) fun xs S1 => bnd (lft (unVs xs) S1) fun ds S1 => some ((.ret (.cell S1.length), L), S1 ++ [ds])
  | .ex e, L, S => bnd (evX G e L S) fun _ S1 => some ((.nx, L), S1)
  | .ret e, L, S => bnd (evX G e L S) fun x S1 => bnd (lft (unV x) S1) fun d S1 => some ((.ret d, L), S1)
  | .ret0, L, S => some ((.ret .non, L), S)
  | .ife c a b, L, S => bnd (evX G c L S) fun x S1 => bnd (lft (asB x) S1) fun k S1 => if k = true then evSs a L S1 else evSs b L S1
  | .for_ t w b, L, S => if w.isB then none else bnd (evW G w L S) fun ds S1 => forL (fun d L S => bnd (evG G t d L S) fun L2 S2 => evSs b L2 S2) ds L S1
  | .wh c b, L, S => whL (fun L S => bnd (evX G c L S) fun x S1 => lft (asB x) S1) (fun L S => evSs b L S) L S
  | .brk, L, S => some ((.brk, L), S)
  | .cnt, L, S => some ((.cnt, L), S)
  | .pass, L, S => some ((.nx, L), S)
  | .never, _, _ => none
noncomputable def evSs : Sms → Loc → Store → Option ((Fl × Loc) × Store)
  | .nil, L, S => some ((.nx, L), S)
  | .cons s ss, L, S => bnd (evS s L S) fun r S1 => match r.1 with
    | .nx => evSs ss r.2 S1
    | f => some ((f, r.2), S1)
end

/-- a def's run: n names, the parameters first -/
noncomputable def runF (n : Nat) (b : Sms) (ds : List D) (S : Store) : Option (D × Store) :=
  bnd (evSs G b (ds.map .dat ++ List.replicate (n - ds.length) .un) S) fun r S1 => match r.1 with
    | .ret d => some (d, S1)
    | .nx => some (.non, S1)
    | _ => none
end PD

set_option Elab.async false
set_option linter.all false
set_option maxRecDepth 100000
set_option maxHeartbeats 4000000
/-! PD, part d: each form of an expression keeps its meaning. -/
namespace PD
open PySem PySem.Spec PyProof.Rows L2
abbrev Ms (α : Type) := Loc → Store → Option (α × Store)

def tD (K : PySem.W.Frag) (m : Ms Va) : TE := fun σ H Q => ∃ g H0 L S x S', Cr K g H0 σ H L S ∧ m L S = some (x, S') ∧
  ∀ v g' H', Ext g H g' H' → Gs K g' H' S' → RpV K g' H' v x → Q v H'
def tDT (K : PySem.W.Frag) (m : Ms Bool) : TT := fun σ H Q => ∃ g H0 L S x S', Cr K g H0 σ H L S ∧ m L S = some (x, S') ∧
  ∀ g' H', Ext g H g' H' → Gs K g' H' S' → Q x H'
inductive RpVs (K : PySem.W.Frag) (g : Gh) (H : Hp) : List V → List Va → Prop
  | nil : RpVs K g H [] []
  | cons {v : V} {vs : List V} {d : Va} {ds : List Va} : RpV K g H v d → RpVs K g H vs ds → RpVs K g H (v :: vs) (d :: ds)
def tDA (K : PySem.W.Frag) (m : Ms (List Va)) : TA := fun σ H Q => ∃ g H0 L S xs S', Cr K g H0 σ H L S ∧ m L S = some (xs, S') ∧
  ∀ vs g' H', Ext g H g' H' → Gs K g' H' S' → RpVs K g' H' vs xs → Q vs H'
/-- a new list -/
def tDF (K : PySem.W.Frag) (m : Ms (List D)) : TE := fun σ H Q => ∃ g H0 L S xs S', Cr K g H0 σ H L S ∧ m L S = some (xs, S') ∧
  ∀ p vs g' H', Ext g H g' H' → Gs K g' H' S' → H' p = some (.lst vs) → Rps K g' H' vs xs → g'.W p → p ∉ g'.ca → H p = none → Q (.ref p) H'
/-- an end of a slice -/
def tDO (K : PySem.W.Frag) (m : Ms (Option Int)) : TO := fun σ H Q => ∃ g H0 L S x S', Cr K g H0 σ H L S ∧ m L S = some (x, S') ∧
  ∀ g' H', Ext g H g' H' → Gs K g' H' S' → Q x H'

section
variable {K : PySem.W.Frag} {g g' : Gh} {H H' : Hp}
theorem RpVs.ext (e : Ext g H g' H') (hc : ∀ c ∈ g.ca, g.W c) : ∀ {vs : List V} {ds : List Va}, RpVs K g H vs ds → RpVs K g' H' vs ds
  | _, _, .nil => .nil
  | _, _, .cons h r => .cons (h.ext e hc) (RpVs.ext e hc r)
theorem RpVs.strict : ∀ {vs : List V} {xs : List Va} {ds : List D}, RpVs K g H vs xs → unVs xs = some ds → Rps K g H vs ds
  | _, _, _, .nil, e => by cases e; exact .nil
  | _, _, _, .cons (d := x) h r, e => by
    unfold unVs at e
    cases x with
    | b xs => cases e
    | d x =>
      simp only [unV] at e
      split at e
      · rename_i l hl
        cases e
        exact .cons h (r.strict hl)
      · cases e
theorem RpV.seqL {v : V} {x : Va} {ds : List D} (h : RpV K g H v x) (e : asL x = some ds) : ∃ a xs, v = .ref a ∧ SqL K H a xs ∧ Rps K g H xs ds := by
  cases x with
  | b ys =>
    cases e
    obtain ⟨a, xs, rfl, ha, r, _⟩ := h
    exact ⟨a, xs, rfl, SqL.of ha, r⟩
  | d y =>
    cases y with
    | lst ys =>
      cases e
      have h' : Rp K g H v (.lst ds) := h
      cases h' with
      | lst l r => exact ⟨_, _, rfl, l.sq, r⟩
    | _ => cases e
theorem RpV.seqT {v : V} {x : Va} {ds : List D} (h : RpV K g H v x) (e : asT x = some ds) : ∃ a xs, v = .ref a ∧ TupAt K g H a xs ∧ Rps K g H xs ds := by
  cases x with
  | b ys => cases e
  | d y =>
    cases y with
    | tup ys =>
      cases e
      have h' : Rp K g H v (.tup ds) := h
      cases h' with
      | tup l r => exact ⟨_, _, rfl, l, r⟩
    | _ => cases e
theorem RpV.intV {v : V} {i : Int} (h : RpV K g H v (.d (.int i))) : v = .int i := by
  have h' : Rp K g H v (.int i) := h
  cases h'; rfl
theorem RpV.blV {v : V} {i : Bool} (h : RpV K g H v (.d (.bl i))) : v = .bl i := by
  have h' : Rp K g H v (.bl i) := h
  cases h'; rfl
theorem RpV.strV {v : V} {i : Str} (h : RpV K g H v (.d (.str i))) : v = .str i := by
  have h' : Rp K g H v (.str i) := h
  cases h'; rfl
theorem RpV.nonV {v : V} (h : RpV K g H v (.d .non)) : v = .non := by
  have h' : Rp K g H v .non := h
  cases h'; rfl
mutual
theorem Rp.dp : ∀ {v : V} {d : D}, Rp K g H v d → d.pure = true → Dp K H v d.py
  | _, _, .non, _ => .non
  | _, _, .bl b, _ => .bl b
  | _, _, .int i, _ => .int i
  | _, _, .str x, _ => .str x
  | _, _, .ty n, h => by simp [D.pure] at h
  | _, _, .tup l r, h => .tup l.sq (Rps.dp r (by simpa [D.pure] using h))
  | _, _, .lst l r, h => .lst l.sq (Rps.dp r (by simpa [D.pure] using h))
  | _, _, .cell _, h => by simp [D.pure] at h
theorem Rps.dp : ∀ {vs : List V} {ds : List D}, Rps K g H vs ds → D.pures ds = true → DpAll K H vs (D.pys ds)
  | _, _, .nil, _ => .nil
  | _, _, .cons h r, e => by
    simp only [D.pures, Bool.and_eq_true] at e
    exact .cons (h.dp e.1) (r.dp e.2)
end
theorem RpV.dp {v : V} {x : Va} (h : RpV K g H v x) (e : x.dat.pure = true) : Dp K H v x.dat.py := by
  cases x with
  | d y => exact Rp.dp h e
  | b ys =>
    obtain ⟨a, xs, rfl, ha, r, _⟩ := h
    exact .lst (SqL.of ha) (r.dp (by simpa [Va.dat, D.pure] using e))
end

/-! ### by weaker readings -/
theorem _root_.L2.PE.wk {X : Cx} {e : Expr} {t t' : TE} (h : PE X e t) (w : ∀ σ H Q, t' σ H Q → t σ H Q) : PE X e t' := ⟨fun pins s σ H Q I q => h.run pins s σ H Q I (w σ H Q q)⟩
theorem _root_.L2.PT.wk {X : Cx} {e : Expr} {t t' : TT} (h : PT X e t) (w : ∀ σ H Q, t' σ H Q → t σ H Q) : PT X e t' := ⟨fun pins s σ H Q I q => h.run pins s σ H Q I (w σ H Q q)⟩
theorem _root_.L2.PA.wk {X : Cx} {e : List Expr} {t t' : TA} (h : PA X e t) (w : ∀ σ H Q, t' σ H Q → t σ H Q) : PA X e t' := ⟨fun pos pins s σ H Q I q => h.run pos pins s σ H Q I (w σ H Q q)⟩
theorem _root_.L2.PO.wk {X : Cx} {e : Option Expr} {t t' : TO} (h : PO X e t) (w : ∀ σ H Q, t' σ H Q → t σ H Q) : PO X e t' := ⟨fun pins s σ H Q I q => h.run pins s σ H Q I (w σ H Q q)⟩

section
variable {X : Cx} {a b c : Expr} {es : List Expr} {ma mb mc : Ms Va} {pos : Pos}

/-- two expressions, then an operation on their values -/
theorem tD_two {f : Va → Va → Store → Option (Va × Store)} {r : R2} {K : PySem.W.Frag}
    (hr : ∀ g H S S' x y dx dy d (Q : VK), Gs K g H S → RpV K g H x dx → RpV K g H y dy → f dx dy S = some (d, S') →
      (∀ v g' H', Ext g H g' H' → Gs K g' H' S' → RpV K g' H' v d → Q v H') → r x y H Q) (σ : L2.St) (H : Hp) (Q : VK)
    (h : tD K (fun L S => bnd (ma L S) fun x S1 => bnd (mb L S1) fun y S2 => f x y S2) σ H Q) : tOp r (tD K ma) (tD K mb) σ H Q := by
  obtain ⟨g, H0, L, S, x, S', cr, e, q⟩ := h
  obtain ⟨dx, S1, e1, e⟩ := of_bnd e
  obtain ⟨dy, S2, e2, e⟩ := of_bnd e
  refine ⟨g, H0, L, S, dx, S1, cr, e1, fun v g1 H1 x1 s1 r1 => ⟨g1, H0, L, S1, dy, S2, cr.ext x1 s1, e2, fun u g2 H2 x2 s2 r2 => ?_⟩⟩
  exact hr g2 H2 S2 S' v u dx dy x Q s2 (r1.ext x2 s1.cw) r2 e fun w g3 H3 x3 s3 r3 => q w g3 H3 (x1.trans (x2.trans x3)) s3 r3
/-- one -/
theorem tD_one {f : Va → Store → Option (Va × Store)} {r : V → Hp → VK → Prop} {K : PySem.W.Frag}
    (hr : ∀ g H S S' x dx d (Q : VK), Gs K g H S → RpV K g H x dx → f dx S = some (d, S') →
      (∀ v g' H', Ext g H g' H' → Gs K g' H' S' → RpV K g' H' v d → Q v H') → r x H Q) (σ : L2.St) (H : Hp) (Q : VK)
    (h : tD K (fun L S => bnd (ma L S) fun x S1 => f x S1) σ H Q) : tUn r (tD K ma) σ H Q := by
  obtain ⟨g, H0, L, S, x, S', cr, e, q⟩ := h
  obtain ⟨dx, S1, e1, e⟩ := of_bnd e
  exact ⟨g, H0, L, S, dx, S1, cr, e1, fun v g1 H1 x1 s1 r1 => hr g1 H1 S1 S' v dx x Q s1 r1 e fun w g3 H3 x3 s3 r3 => q w g3 H3 (x1.trans x3) s3 r3⟩

/-! ### operators -/
theorem of_mapd {o : Option D} {S S' : Store} {x : Va} (h : lft (o.map Va.d) S = some (x, S')) : ∃ d, o = some d ∧ x = .d d ∧ S' = S := by
  match o, h with
  | some d, h => cases h; exact ⟨d, rfl, rfl, rfl⟩
theorem of_mapb {o : Option Bool} {S S' : Store} {x : Va} (h : lft (o.map fun c => Va.d (.bl c)) S = some (x, S')) : ∃ d, o = some d ∧ x = .d (.bl d) ∧ S' = S := by
  match o, h with
  | some d, h => cases h; exact ⟨d, rfl, rfl, rfl⟩
theorem op_sub_bb : OpR X (binaryOp .Sub) (fun x y H Q => ∃ i k, x = .bl i ∧ y = .bl k ∧ Q (.int ((if i then 1 else 0) - (if k then 1 else 0))) H) := by
  intro pins s σ H x y v u Q I rx ry h
  obtain ⟨i, k, rfl, rfl, q⟩ := h
  cases rx
  cases ry
  refine binaryOp_gives (op := .Sub) (T := "bool") (m := .int ((if i then 1 else 0) - (if k then 1 else 0))) rfl rfl PySem.F.fills_bool_sub PySem.F.slot_bool_sub PySem.F.entry_int_sub (PySem.F.args_int_sub_2 _ _) ?_ trivial ⟨.int _, H, I.tok _, ⟨_, rfl⟩, q⟩
  exact .of_wp fun M A E s Q h => by obtain ⟨hp, g, d, tk, os⟩ := s; wp_walk; exact ⟨_, rfl, h⟩
theorem op_fdivA : OpR X (binaryOp .FloorDiv) (rI (fun _ j => j ≠ 0 ∧ j.natAbs.log2 < 9000) fun i j => .int (i.fdiv j)) :=
  opI fun i j _ _ _ _ _ hc q => floordiv_int hc.1 q (.inl (PyProof.noPylong_of_log2 hc.2))
/-- the operator of the text -/
def BO.op : BO → Operator
  | .add => .Add | .sub => .Sub | .mul => .Mult | .fdiv => .FloorDiv | .mod => .Mod | .pow => .Pow
def rB (K : PySem.W.Frag) : BO → R2
  | .add => fun x y H Q => rI0 (fun i j => .int (i + j)) x y H Q ∨ (∃ i j, x = .str i ∧ y = .str j ∧ i.length + j.length ≤ sizeLine ∧ Q (.str (i ++ j)) H) ∨ rCatA K x y H Q
  | .sub => fun x y H Q => rI0 (fun i j => .int (i - j)) x y H Q ∨ (∃ i k, x = .bl i ∧ y = .bl k ∧ Q (.int ((if i then 1 else 0) - (if k then 1 else 0))) H)
  | .mul => rI CMulW fun i j => .int (i * j)
  | .fdiv => rI (fun _ j => j ≠ 0 ∧ j.natAbs.log2 < 9000) fun i j => .int (i.fdiv j)
  | .mod => rI (fun _ j => j ≠ 0) fun i j => .int (i.fmod j)
  | .pow => rI CPow fun i j => .int (i ^ j.toNat)
theorem op_B (o : BO) : OpR X (binaryOp o.op) (rB X.K o) := by
  cases o with
  | add => exact op_add.or (op_add_str.or op_catA)
  | sub => exact op_sub.or op_sub_bb
  | mul => exact op_mulW
  | fdiv => exact op_fdivA
  | mod => exact op_modN
  | pow => exact op_pow
theorem line_eq : (sizeLine : Nat) = line := sizeLine_eq
theorem rB_ok {K : PySem.W.Frag} (o : BO) (g : Gh) (H : Hp) (S S' : Store) (x y : V) (dx dy : Va) (d : Va) (Q : VK) (s : Gs K g H S) (rx : RpV K g H x dx) (ry : RpV K g H y dy) (e : lft ((binV o dx dy).map Va.d) S = some (d, S'))
    (q : ∀ v g' H', Ext g H g' H' → Gs K g' H' S' → RpV K g' H' v d → Q v H') : rB K o x y H Q := by
  obtain ⟨d, e, rfl, rfl⟩ := of_mapd e
  unfold binV at e
  split at e
  · cases e
    rw [rx.intV, ry.intV]
    exact .inl ⟨_, _, rfl, rfl, q _ _ _ Ext.refl s (.int _)⟩
  · split at e
    · cases e
      rename_i h
      rw [rx.strV, ry.strV]
      exact .inr (.inl ⟨_, _, rfl, rfl, by rw [line_eq]; exact h, q _ _ _ Ext.refl s (.str _)⟩)
    · cases e
  · split at e
    · cases e
      rename_i h
      obtain ⟨a, xs, rfl, ta, ra⟩ := rx.seqT (ds := _) rfl
      obtain ⟨b, ys, rfl, tb, rb⟩ := ry.seqT (ds := _) rfl
      have l1 := ra.length
      have l2 := rb.length
      refine .inr (.inr ⟨a, b, xs, ys, rfl, rfl, ta.sq, tb.sq, by rw [line_eq, l1, l2]; exact h, fun z => ?_, fun _ z => ?_, fun _ _ p hp => ?_⟩)
      · have z2 := l1.symm
        rw [z] at z2
        rw [List.eq_nil_of_length_eq_zero z2] at q
        exact q _ _ _ Ext.refl s (.tup tb rb)
      · have z2 := l2.symm
        rw [z] at z2
        rw [List.eq_nil_of_length_eq_zero z2, List.append_nil] at q
        exact q _ _ _ Ext.refl s (.tup ta ra)
      · obtain ⟨x1, s1, r1⟩ := new_tup s hp (ra.append rb)
        exact q _ _ _ x1 s1 r1
    · cases e
  · cases e
    rw [rx.intV, ry.intV]
    exact .inl ⟨_, _, rfl, rfl, q _ _ _ Ext.refl s (.int _)⟩
  · cases e
    rw [rx.blV, ry.blV]
    exact .inr ⟨_, _, rfl, rfl, q _ _ _ Ext.refl s (.int _)⟩
  · split at e
    · cases e
      rename_i h
      rw [rx.intV, ry.intV]
      exact ⟨_, _, rfl, rfl, (show CMulW _ _ from of_decide_eq_true (p := _ < _) h), q _ _ _ Ext.refl s (.int _)⟩
    · cases e
  · split at e
    · cases e
      rename_i h
      rw [rx.intV, ry.intV]
      simp only [okDiv, Bool.and_eq_true, decide_eq_true_eq] at h
      exact ⟨_, _, rfl, rfl, h, q _ _ _ Ext.refl s (.int _)⟩
    · cases e
  · split at e
    · cases e
      rename_i h
      rw [rx.intV, ry.intV]
      exact ⟨_, _, rfl, rfl, h, q _ _ _ Ext.refl s (.int _)⟩
    · cases e
  · split at e
    · cases e
      rename_i h
      rw [rx.intV, ry.intV]
      simp only [okPow, Bool.and_eq_true, decide_eq_true_eq] at h
      exact ⟨_, _, rfl, rfl, ⟨h.1.1, h.1.2, h.2⟩, q _ _ _ Ext.refl s (.int _)⟩
    · cases e
  · cases e
theorem pd_bin (o : BO) (ha : PE X a (tD X.K ma)) (hb : PE X b (tD X.K mb)) :
    PE X (.BinOp a o.op b pos) (tD X.K fun L S => bnd (ma L S) fun x S1 => bnd (mb L S1) fun y S2 => lft ((binV o x y).map .d) S2) :=
  (pe_op (op_B o) ha hb).wk (tD_two (rB_ok o))
theorem pd_neg (ha : PE X a (tD X.K ma)) : PE X (.UnaryOp .USub a pos) (tD X.K fun L S => bnd (ma L S) fun x S1 => lft ((negV x).map .d) S1) := by
  refine (pe_un un_neg ha).wk (tD_one fun g H S S' x dx d Q s rx e q => ?_)
  obtain ⟨d, e, rfl, rfl⟩ := of_mapd e
  unfold negV at e
  split at e
  · cases e
    rw [rx.intV]
    exact ⟨_, rfl, q _ _ _ Ext.refl s (.int _)⟩
  · cases e

/-! ### comparisons -/
theorem eqOk_of {d : D} (h : eqOk d = true) : d.pure = true ∧ SeqAt.shaped d.py = true := by
  simpa [eqOk, Bool.and_eq_true] using h
/-- in, of lists and tuples of data -/
def rInT (K : PySem.W.Frag) (neg : Bool) : R2 := fun x y H Q => ∃ d ds, Dp K H x d ∧ (Dp K H y (.list ds) ∨ Dp K H y (.tuple ds)) ∧ SeqAt.shaped d = true ∧ SeqAt.shaped (.list ds) = true ∧
  Q (.bl (if neg then !ds.any fun z => PyData.eqv z d else ds.any fun z => PyData.eqv z d)) H
theorem room_in {A : Around} {n : Nat} {d : PyData} (sd : SeqAt.shaped d = true) (hu : A.units + 65 < cLine) : A.units + 1 + min n d.depth < cLine := by
  have h1 := SeqAt.depth_of_shaped sd
  have h2 : min n d.depth ≤ d.depth := Nat.min_le_right _ _
  omega
theorem op_inT (hu : X.A.units + 65 < cLine) : OpR X (compareOp .In) (rInT X.K false) := by
  intro pins s σ H x y v u Q I rx ry h
  obtain ⟨d, ds, hd, he, sd, se, q⟩ := h
  obtain ⟨as, r1⟩ := Dp.reads I d x v hd rx
  have hl : PyData.canLayAll0 ds = true := SeqAt.canLay_of_shaped se
  rcases he with he | he
  · obtain ⟨bs, r2⟩ := Dp.reads I (.list ds) y u he ry
    exact SeqAt.in_list_reads r2 r1 hl (SeqAt.canLay_of_shaped sd) (room_in sd hu) ⟨.bl _, H, I, rfl, q⟩
  · obtain ⟨bs, r2⟩ := Dp.reads I (.tuple ds) y u he ry
    exact SeqAt.in_tuple_reads r2 r1 hl (SeqAt.canLay_of_shaped sd) (room_in sd hu) ⟨.bl _, H, I, rfl, q⟩
theorem op_notInT (hu : X.A.units + 65 < cLine) : OpR X (compareOp .NotIn) (rInT X.K true) := by
  intro pins s σ H x y v u Q I rx ry h
  obtain ⟨d, ds, hd, he, sd, se, q⟩ := h
  obtain ⟨as, r1⟩ := Dp.reads I d x v hd rx
  have hl : PyData.canLayAll0 ds = true := SeqAt.canLay_of_shaped se
  rcases he with he | he
  · obtain ⟨bs, r2⟩ := Dp.reads I (.list ds) y u he ry
    exact SeqAt.notIn_list_reads r2 r1 hl (SeqAt.canLay_of_shaped sd) (room_in sd hu) ⟨.bl _, H, I, rfl, q⟩
  · obtain ⟨bs, r2⟩ := Dp.reads I (.tuple ds) y u he ry
    exact SeqAt.notIn_tuple_reads r2 r1 hl (SeqAt.canLay_of_shaped sd) (room_in sd hu) ⟨.bl _, H, I, rfl, q⟩
def CO.op : CO → CmpOp
  | .lt => .Lt | .le => .LtE | .gt => .Gt | .ge => .GtE | .eq => .Eq | .ne => .NotEq | .isN => .Is | .notN => .IsNot | .isin => .In | .notin => .NotIn
def rC (K : PySem.W.Frag) : CO → R2
  | .lt => rI0 fun i j => .bl (decide (i < j))
  | .le => rI0 fun i j => .bl (decide (i ≤ j))
  | .gt => rI0 fun i j => .bl (decide (j < i))
  | .ge => rI0 fun i j => .bl (decide (j ≤ i))
  | .eq => fun x y H Q => rEq x y H Q ∨ rEqD K x y H Q
  | .ne => fun x y H Q => rNe x y H Q ∨ rNeD K x y H Q
  | .isN => fun x y H Q => y = .non ∧ Q (.bl (decide (x = .non))) H
  | .notN => fun x y H Q => y = .non ∧ Q (.bl (!decide (x = .non))) H
  | .isin => rInT K false
  | .notin => rInT K true
theorem op_C (o : CO) (hu : X.A.units + 65 < cLine) : OpR X (compareOp o.op) (rC X.K o) := by
  cases o with
  | lt => exact op_lt
  | le => exact op_le
  | gt => exact op_gt
  | ge => exact op_ge
  | eq =>
    rintro pins s σ H x y v u Q I rx ry (h | h)
    · exact op_eq pins s σ H x y v u Q I rx ry h
    · exact op_eqD (by omega) pins s σ H x y v u Q I rx ry h
  | ne =>
    rintro pins s σ H x y v u Q I rx ry (h | h)
    · exact op_ne pins s σ H x y v u Q I rx ry h
    · exact op_neD (by omega) pins s σ H x y v u Q I rx ry h
  | isN => exact op_isN
  | notN => exact op_notN
  | isin => exact op_inT hu
  | notin => exact op_notInT hu
theorem pys_any (d : PyData) : ∀ ds : List D, ((D.pys ds).any fun z => PyData.eqv z d) = ds.any fun z => PyData.eqv z.py d
  | [] => rfl
  | x :: xs => by simp only [D.pys, List.any_cons, pys_any d xs]
theorem shaped_lt {ds : List PyData} (h : SeqAt.shaped (.tuple ds) = true) : SeqAt.shaped (.list ds) = true := by
  simpa [SeqAt.shaped, PyData.canLay0, PyData.depth] using h
theorem dec_strV {i j : Str} : decide (V.str i = V.str j) = decide (i = j) := by
  rw [Bool.eq_iff_iff]
  simp
theorem rC_ok {K : PySem.W.Frag} (o : CO) (g : Gh) (H : Hp) (S : Store) (x y : V) (dx dy : Va) (b : Bool) (Q : VK) (s : Gs K g H S) (rx : RpV K g H x dx) (ry : RpV K g H y dy) (e : cmpV o dx dy = some b)
    (q : Q (.bl b) H) : rC K o x y H Q := by
  unfold cmpV at e
  split at e
  · cases e; rw [rx.intV, ry.intV]; exact ⟨_, _, rfl, rfl, q⟩
  · cases e; rw [rx.intV, ry.intV]; exact ⟨_, _, rfl, rfl, q⟩
  · cases e; rw [rx.intV, ry.intV]; exact ⟨_, _, rfl, rfl, q⟩
  · cases e; rw [rx.intV, ry.intV]; exact ⟨_, _, rfl, rfl, q⟩
  · cases e
    rw [rx.strV, ry.strV]
    exact .inl ⟨rfl, by rw [dec_strV]; exact q⟩
  · cases e
    rw [rx.strV, ry.strV]
    exact .inl ⟨rfl, by rw [dec_strV]; exact q⟩
  · split at e
    · cases e
      rename_i h
      simp only [Bool.and_eq_true] at h
      obtain ⟨p1, h1⟩ := eqOk_of h.1
      obtain ⟨p2, h2⟩ := eqOk_of h.2
      exact .inr ⟨_, _, rx.dp p1, ry.dp p2, h1, h2, q⟩
    · cases e
  · split at e
    · cases e
      rename_i h
      simp only [Bool.and_eq_true] at h
      obtain ⟨p1, h1⟩ := eqOk_of h.1
      obtain ⟨p2, h2⟩ := eqOk_of h.2
      exact .inr ⟨_, _, rx.dp p1, ry.dp p2, h1, h2, q⟩
    · cases e
  · cases e; rw [rx.nonV, ry.nonV]; exact ⟨rfl, q⟩
  · cases e; rw [rx.intV, ry.nonV]; exact ⟨rfl, q⟩
  · cases e; rw [rx.blV, ry.nonV]; exact ⟨rfl, q⟩
  · cases e; rw [rx.strV, ry.nonV]; exact ⟨rfl, q⟩
  · cases e; rw [ry.nonV]; obtain ⟨a, xs, rfl, _⟩ := rx.seqT (ds := _) rfl; exact ⟨rfl, q⟩
  · cases e; rw [ry.nonV]; obtain ⟨a, xs, rfl, _⟩ := rx.seqL (ds := _) rfl; exact ⟨rfl, q⟩
  · cases e; rw [rx.nonV, ry.nonV]; exact ⟨rfl, q⟩
  · cases e; rw [rx.intV, ry.nonV]; exact ⟨rfl, q⟩
  · cases e; rw [rx.blV, ry.nonV]; exact ⟨rfl, q⟩
  · cases e; rw [rx.strV, ry.nonV]; exact ⟨rfl, q⟩
  · cases e; rw [ry.nonV]; obtain ⟨a, xs, rfl, _⟩ := rx.seqT (ds := _) rfl; exact ⟨rfl, q⟩
  · cases e; rw [ry.nonV]; obtain ⟨a, xs, rfl, _⟩ := rx.seqL (ds := _) rfl; exact ⟨rfl, q⟩
  · split at e
    · rename_i ds hds
      split at e
      · cases e
        rename_i h
        simp only [Bool.and_eq_true] at h
        obtain ⟨p1, h1⟩ := eqOk_of h.1
        obtain ⟨p2, h2⟩ := eqOk_of h.2
        obtain ⟨a, xs, rfl, sq, r⟩ := ry.seqL hds
        refine ⟨_, _, rx.dp p1, .inl (.lst sq (r.dp (by simpa [D.pure] using p2))), h1, by simpa [D.py] using h2, ?_⟩
        simp only [Bool.false_eq_true, if_false]
        rw [pys_any]
        exact q
      · cases e
    · split at e
      · rename_i ds hds
        split at e
        · cases e
          rename_i h
          simp only [Bool.and_eq_true] at h
          obtain ⟨p1, h1⟩ := eqOk_of h.1
          obtain ⟨p2, h2⟩ := eqOk_of h.2
          obtain ⟨a, xs, rfl, sq, r⟩ := ry.seqT hds
          refine ⟨_, _, rx.dp p1, .inr (.tup sq.sq (r.dp (by simpa [D.pure] using p2))), h1, shaped_lt (by simpa [D.py] using h2), ?_⟩
          simp only [Bool.false_eq_true, if_false]
          rw [pys_any]
          exact q
        · cases e
      · cases e
  · split at e
    · rename_i ds hds
      split at e
      · cases e
        rename_i h
        simp only [Bool.and_eq_true] at h
        obtain ⟨p1, h1⟩ := eqOk_of h.1
        obtain ⟨p2, h2⟩ := eqOk_of h.2
        obtain ⟨a, xs, rfl, sq, r⟩ := ry.seqL hds
        refine ⟨_, _, rx.dp p1, .inl (.lst sq (r.dp (by simpa [D.pure] using p2))), h1, by simpa [D.py] using h2, ?_⟩
        simp only [if_true]
        rw [pys_any]
        exact q
      · cases e
    · split at e
      · rename_i ds hds
        split at e
        · cases e
          rename_i h
          simp only [Bool.and_eq_true] at h
          obtain ⟨p1, h1⟩ := eqOk_of h.1
          obtain ⟨p2, h2⟩ := eqOk_of h.2
          obtain ⟨a, xs, rfl, sq, r⟩ := ry.seqT hds
          refine ⟨_, _, rx.dp p1, .inr (.tup sq.sq (r.dp (by simpa [D.pure] using p2))), h1, shaped_lt (by simpa [D.py] using h2), ?_⟩
          simp only [if_true]
          rw [pys_any]
          exact q
        · cases e
      · cases e
  · cases e
theorem pd_cmp (o : CO) (hu : X.A.units + 65 < cLine) (hm : behindInMarks o.op b = false) (ha : PE X a (tD X.K ma)) (hb : PE X b (tD X.K mb)) :
    PE X (.Compare a [o.op] [b] pos) (tD X.K fun L S => bnd (ma L S) fun x S1 => bnd (mb L S1) fun y S2 => lft ((cmpV o x y).map fun c => .d (.bl c)) S2) := by
  refine (pe_cmpR (op_C o hu) ha hb hm).wk (tD_two fun g H S S' x y dx dy d Q s rx ry e q => ?_)
  obtain ⟨k, e2, rfl, rfl⟩ := of_mapb e
  exact rC_ok o g H _ x y dx dy k Q s rx ry e2 (q _ _ _ Ext.refl s (.bl k))
/-- a value as a test: what is asked of it is a truth -/
def mT (m : Ms Va) : Ms Bool := fun L S => bnd (m L S) fun x S1 => lft (asB x) S1
theorem mT_val {K : PySem.W.Frag} {m : Ms Va} (σ : L2.St) (H : Hp) (Q : Bool → Hp → Prop) (h : tDT K (mT m) σ H Q) : tTest (tD K m) σ H Q := by
  obtain ⟨g, H0, L, S, x, S', cr, e, q⟩ := h
  obtain ⟨dx, S1, e1, e⟩ := of_bnd e
  obtain ⟨e, rfl⟩ := of_lft e
  refine ⟨g, H0, L, S, dx, _, cr, e1, fun v g1 H1 x1 s1 r1 => ⟨x, ?_, q g1 H1 x1 s1⟩⟩
  unfold asB at e
  split at e
  · cases e; exact r1.blV
  · cases e
theorem pt_of (h : PE X a (tD X.K ma)) (he : ∀ whole, isTrue a X.env whole = (do let v ← whole; standAt a.pos; holding [v] (truthy v))) : PT X a (tDT X.K (mT ma)) :=
  (pt_val h he).wk mT_val
theorem pt_cmpD (o : CO) (hu : X.A.units + 65 < cLine) (hm : behindInMarks o.op b = false) (ha : PE X a (tD X.K ma)) (hb : PE X b (tD X.K mb)) :
    PT X (.Compare a [o.op] [b] pos) (tDT X.K (mT fun L S => bnd (ma L S) fun x S1 => bnd (mb L S1) fun y S2 => lft ((cmpV o x y).map fun c => .d (.bl c)) S2)) := by
  refine (pt_cmpR (op_C o hu) ha hb hm).wk fun σ H Q h => ?_
  refine tD_two (K := X.K) (f := fun x y S2 => lft ((cmpV o x y).map fun c => Va.d (.bl c)) S2) (fun g H S S' x y dx dy d Q s rx ry e q => ?_) σ H _ (mT_val σ H Q h)
  obtain ⟨k, e2, rfl, rfl⟩ := of_mapb e
  exact rC_ok o g H _ x y dx dy k Q s rx ry e2 (q _ _ _ Ext.refl s (.bl k))

/-! ### names, constants -/
theorem pd_nm {i : Nat} {x : Str} (hN : X.N[i]? = some x) (hv : Vis X.env.scope x) (hd : (x == ("__debug__" : Str)) = false) (hcd : (x == ("__classdict__" : Str)) = false) :
    PE X (.Name x pos) (tD X.K fun L S => match L[i]? with | some (.dat d) => some (.d d, S) | some (.own xs) => some (.b xs, S) | _ => none) := by
  refine (pe_var hN hv hd hcd).wk fun σ H Q h => ?_
  obtain ⟨g, H0, L, S, x, S', cr, e, q⟩ := h
  dsimp only at e
  split at e
  · rename_i d hd
    cases e
    obtain ⟨v, h1, r⟩ := cr.l.dat i d hd
    exact ⟨v, h1, q v g H Ext.refl cr.s r⟩
  · rename_i ds hd
    cases e
    obtain ⟨a, xs, h1, h2, r, w, n, _⟩ := cr.l.own i ds hd
    exact ⟨_, h1, q _ g H Ext.refl cr.s ⟨a, xs, rfl, h2, r, w, n⟩⟩
  · cases e
theorem pd_const {v : V} {d : D} {e : Expr} (h : PE X e (tC v)) (r : ∀ g H, Rp X.K g H v d) : PE X e (tD X.K fun _ S => some (.d d, S)) := by
  refine h.wk fun σ H Q h => ?_
  obtain ⟨g, H0, L, S, x, S', cr, e, q⟩ := h
  cases e
  exact q v g H Ext.refl cr.s (r g H)

/-! ### and, or, not, if -/
variable {rest : List Expr}
theorem mB {x : Va} {S S' : Store} {c : Bool} (h : lft (asB x) S = some (c, S')) : x = .d (.bl c) ∧ S' = S := by
  obtain ⟨e, rfl⟩ := of_lft h
  unfold asB at e
  split at e
  · cases e; exact ⟨rfl, rfl⟩
  · cases e
theorem pd_and (ha : PE X a (tD X.K ma)) (hb : PE X (.BoolOp .And (b :: rest) pos) (tD X.K mb)) :
    PE X (.BoolOp .And (a :: b :: rest) pos) (tD X.K fun L S => bnd (ma L S) fun x S1 => bnd (lft (asB x) S1) fun c S1 => if c = true then mb L S1 else some (.d (.bl false), S1)) := by
  refine (pe_and ha hb).wk fun σ H Q h => ?_
  obtain ⟨g, H0, L, S, x, S', cr, e, q⟩ := h
  obtain ⟨dx, S1, e1, e⟩ := of_bnd e
  obtain ⟨k, S2, e2, e⟩ := of_bnd e
  obtain ⟨rfl, rfl⟩ := mB e2
  refine ⟨g, H0, L, S, _, _, cr, e1, fun v g1 H1 x1 s1 r1 => ⟨k, r1.blV, ?_⟩⟩
  cases k with
  | true => exact ⟨g1, H0, L, _, x, S', cr.ext x1 s1, e, fun u g2 H2 x2 s2 r2 => q u g2 H2 (x1.trans x2) s2 r2⟩
  | false =>
    cases e
    exact q _ g1 H1 x1 s1 (.bl false)
theorem pd_or (ha : PE X a (tD X.K ma)) (hb : PE X (.BoolOp .Or (b :: rest) pos) (tD X.K mb)) :
    PE X (.BoolOp .Or (a :: b :: rest) pos) (tD X.K fun L S => bnd (ma L S) fun x S1 => bnd (lft (asB x) S1) fun c S1 => if c = true then some (.d (.bl true), S1) else mb L S1) := by
  refine (pe_or ha hb).wk fun σ H Q h => ?_
  obtain ⟨g, H0, L, S, x, S', cr, e, q⟩ := h
  obtain ⟨dx, S1, e1, e⟩ := of_bnd e
  obtain ⟨k, S2, e2, e⟩ := of_bnd e
  obtain ⟨rfl, rfl⟩ := mB e2
  refine ⟨g, H0, L, S, _, _, cr, e1, fun v g1 H1 x1 s1 r1 => ⟨k, r1.blV, ?_⟩⟩
  cases k with
  | false => exact ⟨g1, H0, L, _, x, S', cr.ext x1 s1, e, fun u g2 H2 x2 s2 r2 => q u g2 H2 (x1.trans x2) s2 r2⟩
  | true =>
    cases e
    exact q _ g1 H1 x1 s1 (.bl true)
theorem pd_not (ha : PE X a (tD X.K ma)) : PE X (.UnaryOp .Not a pos) (tD X.K fun L S => bnd (ma L S) fun x S1 => lft ((asB x).map fun c => .d (.bl (!c))) S1) := by
  refine (pe_not ha).wk fun σ H Q h => ?_
  obtain ⟨g, H0, L, S, x, S', cr, e, q⟩ := h
  obtain ⟨dx, S1, e1, e⟩ := of_bnd e
  cases k : asB dx with
  | none => rw [k] at e; cases e
  | some c =>
    rw [k] at e
    cases e
    obtain ⟨rfl, _⟩ := mB (x := dx) (S := S) (S' := S) (c := c) (by rw [k]; rfl)
    exact ⟨g, H0, L, S, _, _, cr, e1, fun v g1 H1 x1 s1 r1 => ⟨c, r1.blV, q _ g1 H1 x1 s1 (.bl _)⟩⟩
theorem pt_notD (ha : PT X a (tDT X.K (mT ma))) : PT X (.UnaryOp .Not a pos) (tDT X.K (mT fun L S => bnd (ma L S) fun x S1 => lft ((asB x).map fun c => .d (.bl (!c))) S1)) := by
  refine (pt_not ha).wk fun σ H Q h => ?_
  obtain ⟨g, H0, L, S, x, S', cr, e, q⟩ := h
  obtain ⟨dy, S1, e1, e⟩ := of_bnd e
  obtain ⟨dx, S2, e0, e1⟩ := of_bnd e1
  cases k : asB dx with
  | none => rw [k] at e1; cases e1
  | some c =>
    rw [k] at e1
    cases e1
    cases e
    exact ⟨g, H0, L, S, c, _, cr, by show bnd _ _ = _; rw [e0, bnd_some, k]; rfl, q⟩
theorem pw_andD (ha : PT X a (tDT X.K (mT ma))) (hb : PW X (.BoolOp .And (b :: rest) pos) (tDT X.K (mT mb))) :
    PW X (.BoolOp .And (a :: b :: rest) pos) (tDT X.K (mT fun L S => bnd (ma L S) fun x S1 => bnd (lft (asB x) S1) fun c S1 => if c = true then mb L S1 else some (.d (.bl false), S1))) := by
  refine ⟨fun wh pins s σ H Q I h => (pw_and ha hb).run wh pins s σ H Q I ?_⟩
  obtain ⟨g, H0, L, S, x, S', cr, e, q⟩ := h
  obtain ⟨dy, S1, e1, e⟩ := of_bnd e
  obtain ⟨dx, S2, e0, e1⟩ := of_bnd e1
  obtain ⟨k, S3, e2, e1⟩ := of_bnd e1
  obtain ⟨rfl, rfl⟩ := mB e2
  refine ⟨g, H0, L, S, k, _, cr, by show bnd _ _ = _; rw [e0, bnd_some]; rfl, fun g1 H1 x1 s1 => ?_⟩
  cases k with
  | true => exact ⟨g1, H0, L, _, x, S', cr.ext x1 s1, by show bnd _ _ = _; rw [show mb L _ = _ from e1, bnd_some]; exact e, fun g2 H2 x2 s2 => q g2 H2 (x1.trans x2) s2⟩
  | false =>
    cases e1
    cases e
    exact q g1 H1 x1 s1
theorem pw_orD (ha : PT X a (tDT X.K (mT ma))) (hb : PW X (.BoolOp .Or (b :: rest) pos) (tDT X.K (mT mb))) :
    PW X (.BoolOp .Or (a :: b :: rest) pos) (tDT X.K (mT fun L S => bnd (ma L S) fun x S1 => bnd (lft (asB x) S1) fun c S1 => if c = true then some (.d (.bl true), S1) else mb L S1)) := by
  refine ⟨fun wh pins s σ H Q I h => (pw_or ha hb).run wh pins s σ H Q I ?_⟩
  obtain ⟨g, H0, L, S, x, S', cr, e, q⟩ := h
  obtain ⟨dy, S1, e1, e⟩ := of_bnd e
  obtain ⟨dx, S2, e0, e1⟩ := of_bnd e1
  obtain ⟨k, S3, e2, e1⟩ := of_bnd e1
  obtain ⟨rfl, rfl⟩ := mB e2
  refine ⟨g, H0, L, S, k, _, cr, by show bnd _ _ = _; rw [e0, bnd_some]; rfl, fun g1 H1 x1 s1 => ?_⟩
  cases k with
  | false => exact ⟨g1, H0, L, _, x, S', cr.ext x1 s1, by show bnd _ _ = _; rw [show mb L _ = _ from e1, bnd_some]; exact e, fun g2 H2 x2 s2 => q g2 H2 (x1.trans x2) s2⟩
  | true =>
    cases e1
    cases e
    exact q g1 H1 x1 s1
theorem pd_ife (hc : PT X c (tDT X.K (mT mc))) (ha : PE X a (tD X.K ma)) (hb : PE X b (tD X.K mb)) :
    PE X (.IfExp c a b pos) (tD X.K fun L S => bnd (mc L S) fun x S1 => bnd (lft (asB x) S1) fun c S1 => if c = true then ma L S1 else mb L S1) := by
  refine (pe_ifExp hc ha hb).wk fun σ H Q h => ?_
  obtain ⟨g, H0, L, S, x, S', cr, e, q⟩ := h
  obtain ⟨dx, S1, e0, e⟩ := of_bnd e
  obtain ⟨k, S3, e2, e⟩ := of_bnd e
  obtain ⟨rfl, rfl⟩ := mB e2
  refine ⟨g, H0, L, S, k, _, cr, by show bnd _ _ = _; rw [e0, bnd_some]; rfl, fun g1 H1 x1 s1 => ?_⟩
  cases k with
  | true => exact ⟨g1, H0, L, _, x, S', cr.ext x1 s1, e, fun u g2 H2 x2 s2 r2 => q u g2 H2 (x1.trans x2) s2 r2⟩
  | false => exact ⟨g1, H0, L, _, x, S', cr.ext x1 s1, e, fun u g2 H2 x2 s2 r2 => q u g2 H2 (x1.trans x2) s2 r2⟩
end
end PD

set_option Elab.async false
set_option linter.all false
set_option maxRecDepth 100000
set_option maxHeartbeats 4000000
/-! PD, part e: displays, items, slices, built-in calls. -/
namespace PD
open PySem PySem.Spec PyProof.Rows L2

mutual
theorem py_noDict : ∀ d : D, d.py.hasDict = false
  | .non => by simp [D.py, PyData.hasDict]
  | .bl _ => by simp [D.py, PyData.hasDict]
  | .int _ => by simp [D.py, PyData.hasDict]
  | .str _ => by simp [D.py, PyData.hasDict]
  | .ty _ => by simp [D.py, PyData.hasDict]
  | .cell _ => by simp [D.py, PyData.hasDict]
  | .tup xs => by simp [D.py, PyData.hasDict, pys_noDict xs]
  | .lst xs => by simp [D.py, PyData.hasDict, pys_noDict xs]
theorem pys_noDict : ∀ ds : List D, PyData.hasDictAll (D.pys ds) = false
  | [] => by simp [D.pys, PyData.hasDictAll]
  | x :: xs => by simp [D.pys, PyData.hasDictAll, py_noDict x, pys_noDict xs]
end

section
variable {X : Cx} {e a b c : Expr} {es : List Expr} {ma mb mc : Ms Va} {mes : Ms (List Va)} {pos : Pos}
theorem pda_nil : PA X [] (tDA X.K fun _ S => some ([], S)) := by
  refine pa_nil.wk fun σ H Q h => ?_
  obtain ⟨g, H0, L, S, x, S', cr, e, q⟩ := h
  cases e
  exact q [] g H Ext.refl cr.s .nil
theorem pda_cons (ha : PE X e (tD X.K ma)) (hr : PA X es (tDA X.K mes)) (hs : starEach (e :: es) X.env = (false, eval e X.env) :: starEach es X.env) :
    PA X (e :: es) (tDA X.K fun L S => bnd (ma L S) fun x S1 => bnd (mes L S1) fun xs S2 => some (x :: xs, S2)) := by
  refine (pa_cons ha hr hs).wk fun σ H Q h => ?_
  obtain ⟨g, H0, L, S, x, S', cr, e, q⟩ := h
  obtain ⟨dx, S1, e1, e⟩ := of_bnd e
  obtain ⟨dxs, S2, e2, e⟩ := of_bnd e
  cases e
  exact ⟨g, H0, L, S, dx, S1, cr, e1, fun v g1 H1 x1 s1 r1 => ⟨g1, H0, L, S1, dxs, _, cr.ext x1 s1, e2, fun vs g2 H2 x2 s2 r2 => q (v :: vs) g2 H2 (x1.trans x2) s2 (.cons (r1.ext x2 s1.cw) r2)⟩⟩
theorem RpVs.length {K : PySem.W.Frag} {g : Gh} {H : Hp} : ∀ {vs : List V} {xs : List Va}, RpVs K g H vs xs → vs.length = xs.length
  | _, _, .nil => rfl
  | _, _, .cons _ r => by simp [RpVs.length r]
theorem unVs_len : ∀ {xs : List Va} {ds : List D}, unVs xs = some ds → ds.length = xs.length
  | [], _, e => by cases e; rfl
  | x :: r, ds, e => by
    unfold unVs at e
    split at e
    · split at e
      · cases e
        rename_i l hl
        simp [unVs_len hl]
      · cases e
    · cases e
/-- es written, n of them -/
theorem pd_tup {x1} (hl : ∀ L S xs S', mes L S = some (xs, S') → xs.length ≤ line) (h : PA X es (tDA X.K mes)) :
    PE X (.Tuple es x1 pos) (tD X.K fun L S => bnd (mes L S) fun xs S1 => lft ((unVs xs).map fun ds => .d (.tup ds)) S1) := by
  refine (pe_tup h).wk fun σ H Q h => ?_
  obtain ⟨g, H0, L, S, x, S', cr, e, q⟩ := h
  obtain ⟨xs, S1, e1, e⟩ := of_bnd e
  cases k : unVs xs with
  | none => rw [k] at e; cases e
  | some ds =>
    rw [k] at e
    cases e
    refine ⟨g, H0, L, S, xs, _, cr, e1, fun vs g1 H1 x1 s1 r1 => ⟨by rw [r1.length, line_eq]; exact hl _ _ _ _ e1, fun p hp => ?_⟩⟩
    obtain ⟨x2, s2, r2⟩ := new_tup s1 hp (r1.strict k)
    exact q _ g1 _ (x1.trans x2) s2 r2
theorem pf_disp (hl : ∀ L S xs S', mes L S = some (xs, S') → xs.length ≤ line) (h : PA X es (tDA X.K mes)) :
    PE X (.List es pos) (tDF X.K fun L S => bnd (mes L S) fun xs S1 => lft (unVs xs) S1) := by
  refine (pe_lst h).wk fun σ H Q h => ?_
  obtain ⟨g, H0, L, S, x, S', cr, e, q⟩ := h
  obtain ⟨xs, S1, e1, e⟩ := of_bnd e
  obtain ⟨k, rfl⟩ := of_lft e
  refine ⟨g, H0, L, S, xs, _, cr, e1, fun vs g1 H1 x1 s1 r1 => ⟨by rw [r1.length, line_eq]; exact hl _ _ _ _ e1, fun p hp => ?_⟩⟩
  obtain ⟨x2, s2⟩ := new_own (xs := vs) s1 hp
  refine q p vs _ _ (x1.trans x2) s2 upd_same (Rps.ext x2 s1.cw (r1.strict k)) (.inr rfl) (fun z => s1.nw hp (s1.cw p z)) ?_
  cases z : H p with
  | none => rfl
  | some o =>
    obtain ⟨o', z'⟩ := x1.there p o z
    rw [hp] at z'; cases z'
/-- a new list as a datum -/
theorem pd_fr {mf : Ms (List D)} (h : PE X e (tDF X.K mf)) : PE X e (tD X.K fun L S => bnd (mf L S) fun xs S1 => some (.d (.lst xs), S1)) := by
  refine h.wk fun σ H Q h => ?_
  obtain ⟨g, H0, L, S, x, S', cr, e, q⟩ := h
  obtain ⟨xs, S1, e1, e⟩ := of_bnd e
  cases e
  refine ⟨g, H0, L, S, xs, _, cr, e1, fun p vs g1 H1 x1 s1 hp r w n z => ?_⟩
  exact q _ (g1.minus p) H1 (x1.minus z) (s1.minus n) (Rp.lst (.inl ⟨.inl hp, fun w => w.2 rfl⟩) r.minus)

/-! ### items, slices -/
theorem atI_at {α : Type} {xs : List α} {i : Int} {x : α} (h : atI xs i = some x) : ∃ j, ixN xs.length i = some j ∧ xs[j]? = some x := by
  unfold atI at h
  cases e : ixN xs.length i with
  | none => rw [e] at h; cases h
  | some j => rw [e] at h; exact ⟨j, rfl, h⟩
theorem Rps.atI {K : PySem.W.Frag} {g : Gh} {H : Hp} {vs : List V} {ds : List D} {i : Int} {d : D} (r : Rps K g H vs ds) (h : L2.atI ds i = some d) : ∃ v, L2.atI vs i = some v ∧ Rp K g H v d := by
  obtain ⟨j, h1, h2⟩ := atI_at h
  obtain ⟨v, h3, h4⟩ := r.get h2
  refine ⟨v, ?_, h4⟩
  unfold L2.atI
  rw [r.length, h1]
  exact h3
theorem pd_ix (ha : PE X a (tD X.K ma)) (hb : PE X b (tD X.K mb)) (hs : PlainIx b) :
    PE X (.Subscript a b pos) (tD X.K fun L S => bnd (ma L S) fun x S1 => bnd (mb L S1) fun y S2 => lft ((ixV x y S2).map .d) S2) := by
  refine (pe_ix ix_seq ha hb hs).wk (tD_two fun g H S S' x y dx dy d Q s rx ry e q => ?_)
  obtain ⟨d, e2, rfl, rfl⟩ := of_mapd e
  unfold ixV at e2
  split at e2
  · rename_i i
    rw [ry.intV]
    split at e2
    · obtain ⟨p, xs, rfl, t, r⟩ := rx.seqT (ds := _) rfl
      obtain ⟨v, h1, h2⟩ := r.atI e2
      exact .inr (.inl ⟨p, xs, i, v, rfl, rfl, t.sq, h1, q _ _ _ Ext.refl s h2⟩)
    · obtain ⟨p, xs, rfl, t, r⟩ := rx.seqL (ds := _) rfl
      obtain ⟨v, h1, h2⟩ := r.atI e2
      exact .inl ⟨p, xs, i, v, rfl, rfl, t, h1, q _ _ _ Ext.refl s h2⟩
    · obtain ⟨p, xs, rfl, t, r⟩ := rx.seqL (ds := _) rfl
      obtain ⟨v, h1, h2⟩ := r.atI e2
      exact .inl ⟨p, xs, i, v, rfl, rfl, t, h1, q _ _ _ Ext.refl s h2⟩
    · rename_i n
      split at e2
      · rename_i ds hds
        have h' : Rp X.K g H x (.cell n) := rx
        cases h' with
        | @cell p _ hc =>
          obtain ⟨xs, h0, r⟩ := s.st n p ds hc hds
          obtain ⟨v, h1, h2⟩ := r.atI e2
          exact .inl ⟨p, xs, i, v, rfl, rfl, SqL.of h0, h1, q _ _ _ Ext.refl s h2⟩
      · cases e2
    · cases e2
  · cases e2
theorem po_noneD : PO X none (tDO X.K fun _ S => some (none, S)) := by
  refine po_none.wk fun σ H Q h => ?_
  obtain ⟨g, H0, L, S, x, S', cr, e, q⟩ := h
  cases e
  exact q g H Ext.refl cr.s
theorem po_someD (ha : PE X a (tD X.K ma)) : PO X (some a) (tDO X.K fun L S => bnd (ma L S) fun x S1 => lft (optI (some x)) S1) := by
  refine (po_some ha).wk fun σ H Q h => ?_
  obtain ⟨g, H0, L, S, x, S', cr, e, q⟩ := h
  obtain ⟨dx, S1, e1, e⟩ := of_bnd e
  obtain ⟨e2, rfl⟩ := of_lft e
  unfold optI at e2
  split at e2
  · rename_i z; cases z
  · rename_i i z
    cases z
    cases e2
    exact ⟨g, H0, L, S, _, _, cr, e1, fun v g1 H1 x1 s1 r1 => ⟨i, r1.intV, q g1 H1 x1 s1⟩⟩
  · cases e2
variable {lo hi : Option Expr} {ml mh : Ms (Option Int)}
theorem Rps.cut {K : PySem.W.Frag} {g : Gh} {H : Hp} {vs : List V} {ds : List D} (r : Rps K g H vs ds) (l h : Option Int) : Rps K g H (cutV vs l h) (cutD ds l h) := by
  unfold cutV cutD
  rw [r.length]
  exact (r.drop _).take _
theorem sIx_whole {α : Type} (xs : List α) (l h : Option Int) (z : HT.sIx xs.length 0 l = 0 ∧ HT.sIx xs.length xs.length h = xs.length) : (xs.drop (HT.sIx xs.length 0 l)).take (HT.sIx xs.length xs.length h - HT.sIx xs.length 0 l) = xs := by
  rw [z.1, z.2]
  simp
theorem pd_slc {p2} (ha : PE X a (tD X.K ma)) (hl : PO X lo (tDO X.K ml)) (hh : PO X hi (tDO X.K mh)) :
    PE X (.Subscript a (.Slice lo hi none p2) pos) (tD X.K fun L S => bnd (ma L S) fun x S1 => bnd (ml L S1) fun l S2 => bnd (mh L S2) fun h S3 => lft ((slcT x l h).map .d) S3) := by
  refine (pe_slice sl_tupA ha hl hh).wk fun σ H Q h => ?_
  obtain ⟨g, H0, L, S, x, S', cr, e, q⟩ := h
  obtain ⟨dx, S1, e1, e⟩ := of_bnd e
  obtain ⟨l, S2, e2, e⟩ := of_bnd e
  obtain ⟨u, S3, e3, e⟩ := of_bnd e
  obtain ⟨d, e4, rfl, rfl⟩ := of_mapd e
  refine ⟨g, H0, L, S, dx, S1, cr, e1, fun v g1 H1 x1 s1 r1 => ⟨g1, H0, L, S1, l, S2, cr.ext x1 s1, e2, fun g2 H2 x2 s2 => ⟨g2, H0, L, S2, u, _, (cr.ext x1 s1).ext x2 s2, e3, fun g3 H3 x3 s3 => ?_⟩⟩⟩
  have r3 := (r1.ext x2 s1.cw).ext x3 s2.cw
  have x13 := x1.trans (x2.trans x3)
  unfold slcT at e4
  split at e4
  · cases e4
    obtain ⟨p, xs, rfl, t, r⟩ := r3.seqT (ds := _) rfl
    refine ⟨p, xs, rfl, t.sq, fun z => ?_, fun _ p' hp => ?_⟩
    · refine q _ g3 H3 x13 s3 (.tup t ?_)
      have z2 := sIx_whole xs l u z
      have r4 := r.cut l u
      unfold cutV at r4
      rw [z2] at r4
      exact r4
    · obtain ⟨x4, s4, r4⟩ := new_tup s3 hp (r.cut l u)
      exact q _ g3 _ (x13.trans x4) s4 r4
  · cases e4
theorem pf_slc {p2} (ha : PE X a (tD X.K ma)) (hl : PO X lo (tDO X.K ml)) (hh : PO X hi (tDO X.K mh)) :
    PE X (.Subscript a (.Slice lo hi none p2) pos) (tDF X.K fun L S => bnd (ma L S) fun x S1 => bnd (ml L S1) fun l S2 => bnd (mh L S2) fun h S3 => lft (slcL x l h) S3) := by
  refine (pe_slice sl_list ha hl hh).wk fun σ H Q h => ?_
  obtain ⟨g, H0, L, S, x, S', cr, e, q⟩ := h
  obtain ⟨dx, S1, e1, e⟩ := of_bnd e
  obtain ⟨l, S2, e2, e⟩ := of_bnd e
  obtain ⟨u, S3, e3, e⟩ := of_bnd e
  obtain ⟨e4, rfl⟩ := of_lft e
  refine ⟨g, H0, L, S, dx, S1, cr, e1, fun v g1 H1 x1 s1 r1 => ⟨g1, H0, L, S1, l, S2, cr.ext x1 s1, e2, fun g2 H2 x2 s2 => ⟨g2, H0, L, S2, u, _, (cr.ext x1 s1).ext x2 s2, e3, fun g3 H3 x3 s3 => ?_⟩⟩⟩
  have r3 := (r1.ext x2 s1.cw).ext x3 s2.cw
  have x13 := x1.trans (x2.trans x3)
  unfold slcL at e4
  cases k : asL dx with
  | none => rw [k] at e4; cases e4
  | some ds =>
    rw [k] at e4
    cases e4
    obtain ⟨p, xs, rfl, t, r⟩ := r3.seqL k
    refine ⟨p, xs, rfl, t, fun p' hp => ?_⟩
    obtain ⟨x4, s4⟩ := new_own (xs := cutV xs l u) s3 hp
    refine q p' _ _ _ (x13.trans x4) s4 upd_same (Rps.ext x4 s3.cw (r.cut l u)) (.inr rfl) (fun z => s3.nw hp (s3.cw p' z)) ?_
    cases z : H p' with
    | none => rfl
    | some o =>
      obtain ⟨o', z'⟩ := x13.there p' o z
      rw [hp] at z'; cases z'

/-! ### built-in functions -/
theorem intsOf_eq : ∀ {ds : List D} {l : List Int}, intsOf ds = some l → ds = l.map D.int
  | [], _, h => by cases h; rfl
  | d :: r, l, h => by
    cases d with
    | int i =>
      unfold intsOf at h
      split at h
      · rename_i m hm
        cases h
        rw [intsOf_eq hm]; rfl
      · cases h
    | _ => cases h
theorem boolsOf_eq : ∀ {ds : List D} {l : List Bool}, boolsOf ds = some l → ds = l.map D.bl
  | [], _, h => by cases h; rfl
  | d :: r, l, h => by
    cases d with
    | bl i =>
      unfold boolsOf at h
      split at h
      · rename_i m hm
        cases h
        rw [boolsOf_eq hm]; rfl
      · cases h
    | _ => cases h
theorem Rps.bools {K : PySem.W.Frag} {g : Gh} {H : Hp} : ∀ {vs : List V} {ns : List Bool}, Rps K g H vs (ns.map D.bl) → vs = ns.map V.bl
  | _, [], .nil => rfl
  | _, _ :: _, .cons (.bl _) r => by rw [Rps.bools r]; rfl
/-- repr of what may be shown -/
def rRepr (K : PySem.W.Frag) : List V → Hp → VK → Prop := fun xs H Q => ∃ a d, xs = [.ref a] ∧ Dp K H (.ref a) d ∧ d.showable = true ∧ d.hasDict = false ∧ d.depth ≤ 64 ∧ d.shown.length ≤ sizeLine ∧ Q (.str d.shown) H
theorem call_reprD (hg : X.A.guards = some []) (hu : X.A.units + 66 < cLine) : CallR X (.builtin "repr") (rRepr X.K) := by
  intro pins s σ H vs us Q I r h
  obtain ⟨a, d, rfl, hd, hs, hn, hp, hz, q⟩ := h
  cases r with
  | cons r1 r2 =>
    cases r2
    cases r1
    obtain ⟨as, rd⟩ := Dp.reads I d (.ref a) (.ref a) hd rfl
    refine repr_of_reads' rd hs (fun z => by rw [hn] at z; cases z) hg (by omega) (fun _ _ z => z) (fun h' u tk hk => ?_) hz
    exact ⟨.str d.shown, H, I.kept (h' := h') (t' := tk) hk, ⟨u, rfl⟩, q⟩
/-- the names of the built-in functions -/
def Bi.id : Bi → String
  | .len => "len" | .abs => "abs" | .gcd => "math.gcd" | .min2 => "min" | .max2 => "max" | .int1 => "int" | .str1 => "str" | .tuple => "tuple" | .all => "all" | .any => "any" | .sum => "sum" | .divmod => "divmod" | .repr => "repr"
def Bi.val : Bi → Value
  | .int1 => .type "int" | .str1 => .type "str" | .tuple => .type "tuple" | b => .builtin b.id
def rBi (K : PySem.W.Frag) : Bi → List V → Hp → VK → Prop
  | .len => fun xs H Q => ∃ p ys, xs = [.ref p] ∧ (SqL K H p ys ∨ SqT K H p ys) ∧ Q (.int ys.length) H
  | .abs => fun xs H Q => ∃ i, xs = [.int i] ∧ Q (.int (if i < 0 then -i else i)) H
  | .gcd => rGcd
  | .min2 => fun xs H Q => ∃ i j, xs = [.int i, .int j] ∧ Q (.int (if j < i then j else i)) H
  | .max2 => fun xs H Q => ∃ i j, xs = [.int i, .int j] ∧ Q (.int (if j > i then j else i)) H
  | .int1 => fun xs H Q => (∃ i, xs = [.int i] ∧ Q (.int i) H) ∨ ∃ k, xs = [.bl k] ∧ Q (.int (if k then 1 else 0)) H
  | .str1 => fun xs H Q => ∃ i, xs = [.int i] ∧ i.natAbs.log2 < 1920 ∧ Q (.str (toString i)) H
  | .tuple => fun xs H Q => ∃ p ys, xs = [.ref p] ∧ ((SqL K H p ys ∧ ∀ l, H l = none → Q (.ref l) (upd H l (.tup ys))) ∨ (SqT K H p ys ∧ Q (.ref p) H))
  | .all => rAll K
  | .any => rAny K
  | .sum => rSum K
  | .divmod => fun xs H Q => ∃ i j, xs = [.int i, .int j] ∧ CDiv i j ∧ ∀ p, H p = none → Q (.ref p) (upd H p (.tup [.int (i / j), .int (i % j)]))
  | .repr => fun xs H Q => rRepr K xs H Q ∨ ∃ i, xs = [.int i] ∧ i.natAbs.log2 < 1920 ∧ Q (.str (toString i)) H
theorem call_bi (b : Bi) (hc : X.calm = true) (hg : X.A.guards = some []) (hu : X.A.units + 66 < cLine) : CallR X b.val (rBi X.K b) := by
  cases b with
  | len => exact call_len_seq
  | abs => exact call_abs
  | gcd => exact cr_gcd
  | min2 => exact call_min2 hc
  | max2 => exact call_max2 hc
  | int1 => exact call_int1
  | str1 => exact call_str_int
  | tuple => exact call_tuple_of
  | all => exact cr_all hc
  | any => exact cr_any hc
  | sum => exact cr_sum hc
  | divmod => exact call_divmod
  | repr => exact (call_reprD hg hu).or SkE.call_repr_int
theorem RpVs.one {K : PySem.W.Frag} {g : Gh} {H : Hp} {vs : List V} {x : Va} (h : RpVs K g H vs [x]) : ∃ v, vs = [v] ∧ RpV K g H v x := by
  cases h with
  | cons r t => cases t; exact ⟨_, rfl, r⟩
theorem RpVs.two {K : PySem.W.Frag} {g : Gh} {H : Hp} {vs : List V} {x y : Va} (h : RpVs K g H vs [x, y]) : ∃ v u, vs = [v, u] ∧ RpV K g H v x ∧ RpV K g H u y := by
  cases h with
  | cons r t => cases t with
    | cons r' t => cases t; exact ⟨_, _, rfl, r, r'⟩
theorem shOk_of {d : D} (h : shOk d = true) : d.pure = true ∧ d.py.showable = true ∧ d.py.depth ≤ 64 ∧ d.py.shown.length ≤ sizeLine := by
  simp only [shOk, Bool.and_eq_true, decide_eq_true_eq] at h
  exact ⟨h.1.1.1, h.1.1.2, h.1.2, by rw [line_eq]; exact h.2⟩
theorem rBi_ok {K : PySem.W.Frag} (b : Bi) (g : Gh) (H : Hp) (S : Store) (vs : List V) (xs : List Va) (d : D) (Q : VK) (s : Gs K g H S) (r : RpVs K g H vs xs) (e : biV b xs = some d)
    (q : ∀ v g' H', Ext g H g' H' → Gs K g' H' S → Rp K g' H' v d → Q v H') : rBi K b vs H Q := by
  unfold biV at e
  split at e
  · cases e
    obtain ⟨v, rfl, rv⟩ := r.one
    obtain ⟨p, ys, rfl, t, rs⟩ := rv.seqT (ds := _) rfl
    exact ⟨p, ys, rfl, .inr t.sq, by rw [rs.length]; exact q _ _ _ Ext.refl s (.int _)⟩
  · cases e
    obtain ⟨v, rfl, rv⟩ := r.one
    obtain ⟨p, ys, rfl, t, rs⟩ := rv.seqL (ds := _) rfl
    exact ⟨p, ys, rfl, .inl t, by rw [rs.length]; exact q _ _ _ Ext.refl s (.int _)⟩
  · cases e
    obtain ⟨v, rfl, rv⟩ := r.one
    obtain ⟨p, ys, rfl, t, rs⟩ := rv.seqL (ds := _) rfl
    exact ⟨p, ys, rfl, .inl t, by rw [rs.length]; exact q _ _ _ Ext.refl s (.int _)⟩
  · cases e
    obtain ⟨v, rfl, rv⟩ := r.one
    rw [rv.intV]
    exact ⟨_, rfl, q _ _ _ Ext.refl s (.int _)⟩
  · cases e
    obtain ⟨v, u, rfl, rv, ru⟩ := r.two
    rw [rv.intV, ru.intV]
    exact ⟨_, _, rfl, q _ _ _ Ext.refl s (.int _)⟩
  · cases e
    obtain ⟨v, u, rfl, rv, ru⟩ := r.two
    rw [rv.intV, ru.intV]
    exact ⟨_, _, rfl, q _ _ _ Ext.refl s (.int _)⟩
  · cases e
    obtain ⟨v, u, rfl, rv, ru⟩ := r.two
    rw [rv.intV, ru.intV]
    exact ⟨_, _, rfl, q _ _ _ Ext.refl s (.int _)⟩
  · cases e
    obtain ⟨v, rfl, rv⟩ := r.one
    rw [rv.intV]
    exact .inl ⟨_, rfl, q _ _ _ Ext.refl s (.int _)⟩
  · split at e
    · cases e
      rename_i h
      obtain ⟨v, rfl, rv⟩ := r.one
      rw [rv.intV]
      exact ⟨_, rfl, h, q _ _ _ Ext.refl s (.str _)⟩
    · cases e
  · cases e
    obtain ⟨v, rfl, rv⟩ := r.one
    obtain ⟨p, ys, rfl, t, rs⟩ := rv.seqT (ds := _) rfl
    exact ⟨p, ys, rfl, .inr ⟨t.sq, q _ _ _ Ext.refl s (.tup t rs)⟩⟩
  · cases e
    obtain ⟨v, rfl, rv⟩ := r.one
    obtain ⟨p, ys, rfl, t, rs⟩ := rv.seqL (ds := _) rfl
    refine ⟨p, ys, rfl, .inl ⟨t, fun l hl => ?_⟩⟩
    obtain ⟨x2, s2, r2⟩ := new_tup s hl rs
    exact q _ _ _ x2 s2 r2
  · cases e
    obtain ⟨v, rfl, rv⟩ := r.one
    obtain ⟨p, ys, rfl, t, rs⟩ := rv.seqL (ds := _) rfl
    refine ⟨p, ys, rfl, .inl ⟨t, fun l hl => ?_⟩⟩
    obtain ⟨x2, s2, r2⟩ := new_tup s hl rs
    exact q _ _ _ x2 s2 r2
  · split at e
    · rename_i ds hds
      cases k : boolsOf ds with
      | none => rw [k] at e; cases e
      | some l =>
        rw [k] at e
        cases e
        obtain ⟨v, rfl, rv⟩ := r.one
        obtain ⟨p, ys, rfl, t, rs⟩ := rv.seqL hds
        rw [boolsOf_eq k] at rs
        rw [rs.bools] at t
        exact ⟨p, l, rfl, t, q _ _ _ Ext.refl s (.bl _)⟩
    · cases e
  · split at e
    · rename_i ds hds
      cases k : boolsOf ds with
      | none => rw [k] at e; cases e
      | some l =>
        rw [k] at e
        cases e
        obtain ⟨v, rfl, rv⟩ := r.one
        obtain ⟨p, ys, rfl, t, rs⟩ := rv.seqL hds
        rw [boolsOf_eq k] at rs
        rw [rs.bools] at t
        exact ⟨p, l, rfl, t, q _ _ _ Ext.refl s (.bl _)⟩
    · cases e
  · split at e
    · rename_i ds hds
      cases k : intsOf ds with
      | none => rw [k] at e; cases e
      | some l =>
        rw [k] at e
        cases e
        obtain ⟨v, rfl, rv⟩ := r.one
        obtain ⟨p, ys, rfl, t, rs⟩ := rv.seqL hds
        rw [intsOf_eq k] at rs
        rw [rs.ints] at t
        exact ⟨p, l, rfl, t, q _ _ _ Ext.refl s (.int _)⟩
    · cases e
  · split at e
    · cases e
      rename_i h
      obtain ⟨v, u, rfl, rv, ru⟩ := r.two
      rw [rv.intV, ru.intV]
      refine ⟨_, _, rfl, h, fun p hp => ?_⟩
      obtain ⟨x2, s2, r2⟩ := new_tup s hp (Rps.cons (.int _) (.cons (.int _) .nil))
      exact q _ _ _ x2 s2 r2
    · cases e
  · split at e
    · cases e
      rename_i h
      obtain ⟨p1, p2, p3, p4⟩ := shOk_of h
      obtain ⟨v, rfl, rv⟩ := r.one
      obtain ⟨p, ys, rfl, t, rs⟩ := rv.seqT (ds := _) rfl
      exact .inl ⟨p, _, rfl, rv.dp p1, p2, py_noDict _, p3, p4, q _ _ _ Ext.refl s (.str _)⟩
    · cases e
  · split at e
    · cases e
      rename_i h
      obtain ⟨p1, p2, p3, p4⟩ := shOk_of h
      obtain ⟨v, rfl, rv⟩ := r.one
      obtain ⟨p, ys, rfl, t, rs⟩ := rv.seqL (ds := _) rfl
      exact .inl ⟨p, _, rfl, rv.dp p1, p2, py_noDict _, p3, p4, q _ _ _ Ext.refl s (.str _)⟩
    · cases e
  · split at e
    · cases e
      rename_i h
      obtain ⟨p1, p2, p3, p4⟩ := shOk_of h
      obtain ⟨v, rfl, rv⟩ := r.one
      obtain ⟨p, ys, rfl, t, rs⟩ := rv.seqL (ds := _) rfl
      exact .inl ⟨p, _, rfl, rv.dp p1, p2, py_noDict _, p3, p4, q _ _ _ Ext.refl s (.str _)⟩
    · cases e
  · split at e
    · cases e
      rename_i h
      obtain ⟨v, rfl, rv⟩ := r.one
      rw [rv.intV]
      exact .inr ⟨_, rfl, h, q _ _ _ Ext.refl s (.str _)⟩
    · cases e
  · cases e
end
end PD

set_option Elab.async false
set_option linter.all false
set_option maxRecDepth 100000
set_option maxHeartbeats 4000000
/-! PD, part f: calls, lists made, what is walked, targets. -/
namespace PD
open PySem PySem.Spec PyProof.Rows L2

section
variable {X : Cx} {e a b c : Expr} {es : List Expr} {ma mb mc : Ms Va} {mes : Ms (List Va)} {mf : Ms (List D)} {pos p : Pos} {x : Str}

/-! ### calls of built-in functions -/
theorem tDA_bi {K : PySem.W.Frag} {f : List Va → Option D} {r : List V → Hp → VK → Prop}
    (hr : ∀ g H S vs xs d (Q : VK), Gs K g H S → RpVs K g H vs xs → f xs = some d → (∀ v g' H', Ext g H g' H' → Gs K g' H' S → Rp K g' H' v d → Q v H') → r vs H Q)
    (σ : L2.St) (H : Hp) (Q : VK) (h : tD K (fun L S => bnd (mes L S) fun xs S1 => lft ((f xs).map .d) S1) σ H Q) : tCB r (tDA K mes) σ H Q := by
  obtain ⟨g, H0, L, S, x, S', cr, e, q⟩ := h
  obtain ⟨xs, S1, e1, e⟩ := of_bnd e
  obtain ⟨d, e2, rfl, rfl⟩ := of_mapd e
  exact ⟨g, H0, L, S, xs, _, cr, e1, fun vs g1 H1 x1 s1 r1 => hr g1 H1 _ vs xs d Q s1 r1 e2 fun w g3 H3 x3 s3 r3 => q w g3 H3 (x1.trans x3) s3 r3⟩
theorem pd_bi (bi : Bi) (hc : X.calm = true) (hg : X.A.guards = some []) (hu : X.A.units + 66 < cLine) (hgl : Gl X x)
    (hm : (X.mg x = none ∧ bootBuiltins x = some bi.val ∧ x ≠ "__name__") ∨ (X.mg x = some (.builtin bi.id) ∧ bi.val = .builtin bi.id)) (ha : PA X (e :: es) (tDA X.K mes)) (hdb : (x == ("__debug__" : Str)) = false)
    (he : starEach (e :: es) X.env = (false, eval e X.env) :: starEach es X.env) (hpl : (backTo pos (starEach es X.env)).any (·.1) = false) :
    PE X (.Call (.Name x p) (e :: es) [] pos) (tD X.K fun L S => bnd (mes L S) fun xs S1 => lft ((biV bi xs).map .d) S1) := by
  have hcall := call_bi (X := X) bi hc hg hu
  have w := tDA_bi (mes := mes) (K := X.K) (f := biV bi) (r := rBi X.K bi) (fun g H S vs xs d Q s r e q => rBi_ok bi g H S vs xs d Q s r e q)
  rcases hm with ⟨h1, h2, h3⟩ | ⟨h1, h2⟩
  · cases bi with
    | int1 => exact (pe_callTy hcall hgl h1 h2 ha h3 hdb he hpl).wk w
    | str1 => exact (pe_callTy hcall hgl h1 h2 ha h3 hdb he hpl).wk w
    | tuple => exact (pe_callTy hcall hgl h1 h2 ha h3 hdb he hpl).wk w
    | _ => exact (pe_callB hcall hgl h1 h2 ha h3 hdb he hpl).wk w
  · rw [h2] at hcall
    exact (pe_callBfun hcall hgl h1 ha hdb he hpl).wk w
theorem tyX_of {K : PySem.W.Frag} {g : Gh} {H : Hp} {v : V} {x : Va} {n : String} (r : RpV K g H v x) (h : tyN x = some n) : TyX K H v (.type n) := by
  cases x with
  | b xs =>
    cases h
    obtain ⟨a, ys, rfl, ha, _⟩ := r
    exact .base (.lst ha)
  | d y =>
    cases y with
    | non => cases h; rw [r.nonV]; exact .base .non
    | bl k => cases h; rw [r.blV]; exact .base (.bl k)
    | int k => cases h; rw [r.intV]; exact .base (.int k)
    | str k => cases h; rw [r.strV]; exact .base (.str k)
    | ty k => cases h
    | cell k => cases h
    | tup xs =>
      cases h
      obtain ⟨a, ys, rfl, t, _⟩ := r.seqT (ds := xs) rfl
      rcases t with ⟨t | ⟨o, t⟩, _⟩ | ⟨o, its, n, h1, h2, _⟩
      · exact .base (.tup t)
      · exact .fTuple t
      · exact .kTuple h1 h2
    | lst xs =>
      cases h
      have r' : Rp K g H v (.lst xs) := r
      cases r' with
      | lst t _ =>
        rcases t with ⟨t | ⟨o, t⟩, _⟩ | ⟨its, n, h1, _⟩
        · exact .base (.lst t)
        · exact .base (.frz t)
        · exact .kList h1 rfl
theorem pd_isi {t : String} {y : Str} {p2 : Pos} (hgl : Gl X x) (hm : X.mg x = none) (hb : bootBuiltins x = some (.builtin "isinstance")) (hx : x ≠ "__name__") (hgy : Gl X y) (hmy : X.mg y = none) (hby : bootBuiltins y = some (.type t)) (hy : y ≠ "__name__")
    (hdb : (x == ("__debug__" : Str)) = false) (hdy : (y == ("__debug__" : Str)) = false) (ha : PE X a (tD X.K ma))
    (he : starEach (a :: [.Name y p2]) X.env = (false, eval a X.env) :: starEach [.Name y p2] X.env) :
    PE X (.Call (.Name x p) (a :: [.Name y p2]) [] pos) (tD X.K fun L S => bnd (ma L S) fun x S1 => lft ((isiV x t).map fun c => .d (.bl c)) S1) := by
  refine (pe_callB call_isi hgl hm hb (pa_cons ha (pa_cons (pe_bltn (v := .ty t) hgy hmy hby rfl hy hdy) pa_nil rfl) he) hx hdb he rfl).wk fun σ H Q h => ?_
  obtain ⟨g, H0, L, S, x, S', cr, e, q⟩ := h
  obtain ⟨dx, S1, e1, e⟩ := of_bnd e
  obtain ⟨k, e2, rfl, rfl⟩ := of_mapb e
  refine ⟨g, H0, L, S, dx, _, cr, e1, fun v g1 H1 x1 s1 r1 => ?_⟩
  unfold isiV at e2
  split at e2
  · rename_i n hn
    exact ⟨v, .ty t, .type n, .type t, k, rfl, .ty t, tyX_of r1 hn, kit_ty e2, q _ g1 H1 x1 s1 (.bl k)⟩
  · cases e2

/-! ### lists made -/
theorem new_fresh {K : PySem.W.Frag} {g g1 : Gh} {H H1 : Hp} {S1 : Store} {xs : List V} {ds : List D} {Q : VK} (x1 : Ext g H g1 H1) (s1 : Gs K g1 H1 S1) (r : Rps K g1 H1 xs ds) {p : Addr} (hp : H1 p = none)
    (q : ∀ p vs g' H', Ext g H g' H' → Gs K g' H' S1 → H' p = some (.lst vs) → Rps K g' H' vs ds → g'.W p → p ∉ g'.ca → H p = none → Q (.ref p) H') : Q (.ref p) (upd H1 p (.lst xs)) := by
  obtain ⟨x2, s2⟩ := new_own (xs := xs) s1 hp
  refine q p xs _ _ (x1.trans x2) s2 upd_same (Rps.ext x2 s1.cw r) (.inr rfl) (fun z => s1.nw hp (s1.cw p z)) ?_
  cases z : H p with
  | none => rfl
  | some o =>
    obtain ⟨o', z'⟩ := x1.there p o z
    rw [hp] at z'; cases z'
theorem pf_list (hgl : Gl X "list") (hm : X.mg "list" = none) (ha : PE X a (tD X.K ma)) (he : starEach (a :: []) X.env = (false, eval a X.env) :: starEach [] X.env) :
    PE X (.Call (.Name "list" p) [a] [] pos) (tDF X.K fun L S => bnd (ma L S) fun x S1 => lft (match asL x with | some l => some l | none => asT x) S1) := by
  refine (pe_callTy call_list_of hgl hm (by decide +kernel) (pa_cons ha pa_nil he) (by decide) (by decide) he rfl).wk fun σ H Q h => ?_
  obtain ⟨g, H0, L, S, x, S', cr, e, q⟩ := h
  obtain ⟨dx, S1, e1, e⟩ := of_bnd e
  obtain ⟨e2, rfl⟩ := of_lft e
  refine ⟨g, H0, L, S, dx, _, cr, e1, fun v g1 H1 x1 s1 r1 => ?_⟩
  split at e2
  · rename_i l hl
    cases e2
    obtain ⟨p, xs, rfl, t, r⟩ := r1.seqL hl
    exact ⟨p, xs, rfl, .inl t, fun l hl => new_fresh x1 s1 r hl q⟩
  · obtain ⟨p, xs, rfl, t, r⟩ := r1.seqT e2
    exact ⟨p, xs, rfl, .inr t.sq, fun l hl => new_fresh x1 s1 r hl q⟩
theorem RpV.lx {K : PySem.W.Frag} {g : Gh} {H : Hp} {v : V} {x : Va} {ds : List D} (h : RpV K g H v x) (e : asL x = some ds) : ∃ a xs, v = .ref a ∧ LX K H a xs ∧ Rps K g H xs ds := by
  cases x with
  | b ys =>
    cases e
    obtain ⟨a, xs, rfl, ha, r, _⟩ := h
    exact ⟨a, xs, rfl, .inl (.inl ha), r⟩
  | d y =>
    cases y with
    | lst ys =>
      cases e
      have h' : Rp K g H v (.lst ds) := h
      cases h' with
      | lst l r => exact ⟨_, _, rfl, l.elim (fun z => .inl z.1) .inr, r⟩
    | _ => cases e
def rCatX (K : PySem.W.Frag) : R2 := fun x y H Q => ∃ l b xs zs, x = .ref l ∧ y = .ref b ∧ LX K H l xs ∧ LX K H b zs ∧ xs.length + zs.length ≤ sizeLine ∧ ∀ p, H p = none → Q (.ref p) (upd H p (.lst (xs ++ zs)))
theorem op_catX : OpR X (binaryOp .Add) (rCatX X.K) := by
  intro pins s σ H x y v u Q I rx ry h
  obtain ⟨l, b, xs, zs, rfl, rfl, h1, h2, hz, q⟩ := h
  cases rx
  cases ry
  obtain ⟨z1, ts, n, r1, e1⟩ := h1.obj I
  obtain ⟨z2, us, m, r2, e2⟩ := h2.obj I
  have l1 := r1.length
  have l2 := r2.length
  refine PySem.P.add_list e1 e2 ?_ (by simp only [List.size_toArray]; omega)
  rw [show ts.toArray ++ us.toArray = (ts ++ us).toArray by simp]
  exact ⟨.ref _, _, I.lnew (t' := s.toks) (r1.append r2) (by simp only [List.length_append]; omega), rfl, q _ I.fresh⟩
theorem pf_cat (ha : PE X a (tD X.K ma)) (hb : PE X b (tD X.K mb)) :
    PE X (.BinOp a .Add b pos) (tDF X.K fun L S => bnd (ma L S) fun x S1 => bnd (mb L S1) fun y S2 => lft (match asL x, asL y with
      | some l, some m => if l.length + m.length ≤ line then some (l ++ m) else none
      | _, _ => none) S2) := by
  refine (pe_op op_catX ha hb).wk fun σ H Q h => ?_
  obtain ⟨g, H0, L, S, x, S', cr, e, q⟩ := h
  obtain ⟨dx, S1, e1, e⟩ := of_bnd e
  obtain ⟨dy, S2, e2, e⟩ := of_bnd e
  obtain ⟨e3, rfl⟩ := of_lft e
  refine ⟨g, H0, L, S, dx, S1, cr, e1, fun v g1 H1 x1 s1 r1 => ⟨g1, H0, L, S1, dy, _, cr.ext x1 s1, e2, fun u g2 H2 x2 s2 r2 => ?_⟩⟩
  have r1' := r1.ext x2 s1.cw
  split at e3
  · rename_i l m hl hm
    split at e3
    · rename_i hz
      cases e3
      obtain ⟨p1, xs, rfl, t1, q1⟩ := r1'.lx hl
      obtain ⟨p2, ys, rfl, t2, q2⟩ := r2.lx hm
      exact ⟨p1, p2, xs, ys, rfl, rfl, t1, t2, by rw [q1.length, q2.length, line_eq]; exact hz, fun p hp => new_fresh (x1.trans x2) s2 (q1.append q2) hp q⟩
    · cases e3
  · cases e3
theorem Rps.rep {K : PySem.W.Frag} {g : Gh} {H : Hp} {vs : List V} {ds : List D} (r : Rps K g H vs ds) : ∀ k : Nat, Rps K g H (List.replicate k vs).flatten (List.replicate k ds).flatten
  | 0 => .nil
  | k + 1 => by
    rw [List.replicate_succ, List.replicate_succ, List.flatten_cons, List.flatten_cons]
    exact r.append (Rps.rep r k)
theorem pf_rep (ha : PE X a (tDF X.K mf)) (hb : PE X b (tD X.K mb)) :
    PE X (.BinOp a .Mult b pos) (tDF X.K fun L S => bnd (mf L S) fun l S1 => bnd (mb L S1) fun y S2 => lft (match y with
      | .d (.int k) => if 0 ≤ k ∧ k < 2 ^ 63 ∧ l.length * k.toNat ≤ line then some (List.replicate k.toNat l).flatten else none
      | _ => none) S2) := by
  refine (pe_op op_rep ha hb).wk fun σ H Q h => ?_
  obtain ⟨g, H0, L, S, x, S', cr, e, q⟩ := h
  obtain ⟨ds, S1, e1, e⟩ := of_bnd e
  obtain ⟨dy, S2, e2, e⟩ := of_bnd e
  obtain ⟨e3, rfl⟩ := of_lft e
  refine ⟨g, H0, L, S, ds, S1, cr, e1, fun p vs g1 H1 x1 s1 hp r1 w n z => ⟨g1, H0, L, S1, dy, _, cr.ext x1 s1, e2, fun u g2 H2 x2 s2 r2 => ?_⟩⟩
  split at e3
  · rename_i k
    split at e3
    · rename_i hz
      cases e3
      rw [r2.intV]
      have r1' := Rps.ext x2 s1.cw r1
      exact ⟨p, k, vs, rfl, rfl, x2.keep _ _ hp n, by omega, hz.2.1, by rw [r1.length, line_eq]; exact hz.2.2, fun p hp => new_fresh (x1.trans x2) s2 (r1'.rep _) hp q⟩
    · cases e3
  · cases e3

/-! ### what is walked -/
/-- the iterator goes through ds, as long as what is told stands (B: and nothing but cells is written) -/
def JSeq (K : PySem.W.Frag) (B : Bool) (g : Gh) (H : Hp) (J : L2.It) (ds : List D) : Prop :=
  ∀ g' H' S', (if B = true then Ext g H g' H' else ExtW g H g' H') → Gs K g' H' S' →
    (∀ (i : Nat) d, ds[i]? = some d → J.go i H' ∧ ∀ x H'', J.yld i H' x H'' → Ext g' H' g' H'' ∧ Gs K g' H'' S' ∧ Rp K g' H'' x d) ∧ J.stop ds.length H'
def tDI (K : PySem.W.Frag) (B : Bool) (m : Ms (List D)) : TI := fun σ H R => ∃ g H0 L S ds S', Cr K g H0 σ H L S ∧ m L S = some (ds, S') ∧
  ∀ J g' H', Ext g H g' H' → Gs K g' H' S' → JSeq K B g' H' J ds → R J H'
theorem PI.or {tg : Expr} {t t' : TI} (h : PI X tg e t) (h' : PI X tg e t') : PI X tg e (fun σ H R => t σ H R ∨ t' σ H R) :=
  ⟨fun pins s σ H R I q => q.elim (h.run pins s σ H R I) (h'.run pins s σ H R I)⟩
theorem PI.wk {tg : Expr} {t t' : TI} (h : PI X tg e t) (w : ∀ σ H R, t' σ H R → t σ H R) : PI X tg e t' := ⟨fun pins s σ H R I q => h.run pins s σ H R I (w σ H R q)⟩
theorem jseq_list {K : PySem.W.Frag} {g : Gh} {H : Hp} {a : Addr} {xs : List V} {ds : List D} (t : LstAt K g H a xs) (r : Rps K g H xs ds) : JSeq K false g H (Itl K a) ds := by
  intro g' H' S' w s
  have w : ExtW g H g' H' := by simpa using w
  have t' : SqL K H' a xs := (show LstAt K g' H' a xs from t.elim (fun z => .inl (Rd.extW w z.1 z.2)) .inr).sq
  have r' := Rps.extW w r
  refine ⟨fun i d hd => ?_, ⟨xs, t', by rw [r.length]; exact Nat.le_refl _⟩⟩
  obtain ⟨v, h1, h2⟩ := r'.get hd
  exact ⟨⟨xs, v, t', h1⟩, fun x H'' y => by
    obtain ⟨rfl, y⟩ := y
    have := y xs t'
    rw [h1] at this
    cases this
    exact ⟨Ext.refl, s, h2⟩⟩
theorem jseq_tup {K : PySem.W.Frag} {g : Gh} {H : Hp} {a : Addr} {xs : List V} {ds : List D} (t : TupAt K g H a xs) (r : Rps K g H xs ds) : JSeq K false g H (Itt K a) ds := by
  intro g' H' S' w s
  have w : ExtW g H g' H' := by simpa using w
  have t' : SqT K H' a xs := (show TupAt K g' H' a xs from t.elim (fun z => .inl (Rd.extW w z.1 z.2)) .inr).sq
  have r' := Rps.extW w r
  refine ⟨fun i d hd => ?_, ⟨xs, t', by rw [r.length]; exact Nat.le_refl _⟩⟩
  obtain ⟨v, h1, h2⟩ := r'.get hd
  exact ⟨⟨xs, v, t', h1⟩, fun x H'' y => by
    obtain ⟨rfl, y⟩ := y
    have := y xs t'
    rw [h1] at this
    cases this
    exact ⟨Ext.refl, s, h2⟩⟩
theorem jseq_own {K : PySem.W.Frag} {g : Gh} {H : Hp} {a : Addr} {xs : List V} {ds : List D} {S : Store} (s0 : Gs K g H S) (t : H a = some (.lst xs)) (n : a ∉ g.ca) (r : Rps K g H xs ds) : JSeq K true g H (Itl K a) ds := by
  intro g' H' S' w s
  have w : Ext g H g' H' := by simpa using w
  have t' : SqL K H' a xs := SqL.of (w.keep _ _ t n)
  have r' := Rps.ext w s0.cw r
  refine ⟨fun i d hd => ?_, ⟨xs, t', by rw [r.length]; exact Nat.le_refl _⟩⟩
  obtain ⟨v, h1, h2⟩ := r'.get hd
  exact ⟨⟨xs, v, t', h1⟩, fun x H'' y => by
    obtain ⟨rfl, y⟩ := y
    have := y xs t'
    rw [h1] at this
    cases this
    exact ⟨Ext.refl, s, h2⟩⟩
theorem jseq_range {K : PySem.W.Frag} {g : Gh} {H : Hp} (lo : Int) (n : Nat) (B : Bool) : JSeq K B g H (Itr lo n) ((List.range n).map fun i => D.int (lo + (i : Nat))) := by
  intro g' H' S' w s
  refine ⟨fun i d hd => ?_, by show n ≤ _; simp⟩
  rw [List.getElem?_map] at hd
  have hi : i < n := by
    cases q : (List.range n)[i]? with
    | none => rw [q] at hd; cases hd
    | some j => simpa using (List.getElem?_eq_some_iff.mp q).1
  rw [List.getElem?_range hi] at hd
  cases hd
  exact ⟨hi, fun x H'' y => by
    obtain ⟨rfl, rfl⟩ := y
    exact ⟨Ext.refl, s, .int _⟩⟩
theorem JSeq.weak {K : PySem.W.Frag} {g : Gh} {H : Hp} {J : L2.It} {ds : List D} {S : Store} (s0 : Gs K g H S) (j : JSeq K false g H J ds) : JSeq K true g H J ds := by
  intro g' H' S' w s
  have w : Ext g H g' H' := by simpa using w
  exact j g' H' S' (by simpa using w.w s0.cw) s
theorem tDI_weak {K : PySem.W.Frag} {m : Ms (List D)} (σ : L2.St) (H : Hp) (R : L2.It → Hp → Prop) (h : tDI K true m σ H R) : tDI K false m σ H R := by
  obtain ⟨g, H0, L, S, ds, S', cr, e, q⟩ := h
  exact ⟨g, H0, L, S, ds, S', cr, e, fun J g' H' x s j => q J g' H' x s (j.weak s)⟩
variable {tg : Expr}
theorem pi_seq (ha : PE X a (tD X.K ma)) :
    PI X tg a (tDI X.K false fun L S => bnd (ma L S) fun x S1 => lft (match x with | .d (.lst l) => some l | .d (.tup l) => some l | _ => none) S1) := by
  refine PI.wk (PI.or (pi_list ha) (pi_tup ha)) fun σ H R h => ?_
  obtain ⟨g, H0, L, S, ds, S', cr, e, q⟩ := h
  obtain ⟨dx, S1, e1, e⟩ := of_bnd e
  obtain ⟨e2, rfl⟩ := of_lft e
  split at e2
  · cases e2
    refine .inl ⟨g, H0, L, S, _, _, cr, e1, fun v g1 H1 x1 s1 r1 => ?_⟩
    have r' : Rp X.K g1 H1 v (.lst ds) := r1
    cases r' with
    | lst t r => exact ⟨_, rfl, ⟨_, t.sq⟩, q _ g1 H1 x1 s1 (jseq_list t r)⟩
  · cases e2
    refine .inr ⟨g, H0, L, S, _, _, cr, e1, fun v g1 H1 x1 s1 r1 => ?_⟩
    have r' : Rp X.K g1 H1 v (.tup ds) := r1
    cases r' with
    | tup t r => exact ⟨_, rfl, ⟨_, t.sq⟩, q _ g1 H1 x1 s1 (jseq_tup t r)⟩
  · cases e2
theorem pi_bor {i : Nat} {x : Str} (hN : X.N[i]? = some x) (hv : Vis X.env.scope x) (hd : (x == ("__debug__" : Str)) = false) (hcd : (x == ("__classdict__" : Str)) = false) :
    PI X tg (.Name x pos) (tDI X.K true fun L S => match L[i]? with | some (.own xs) => some (xs, S) | _ => none) := by
  refine PI.wk (pi_list (pe_var hN hv hd hcd)) fun σ H R h => ?_
  obtain ⟨g, H0, L, S, ds, S', cr, e, q⟩ := h
  dsimp only at e
  split at e
  · rename_i ds hd
    cases e
    obtain ⟨a, xs, h1, h2, r, w, n, _⟩ := cr.l.own i ds hd
    exact ⟨_, h1, a, rfl, ⟨xs, SqL.of h2⟩, q _ g H Ext.refl cr.s (jseq_own cr.s h2 n r)⟩
  · cases e
theorem pi_rng1 (hg : Gl X "range") (hm : X.mg "range" = none) (ha : PE X a (tD X.K ma)) (he : starEach [a] X.env = (false, eval a X.env) :: starEach [] X.env) :
    PI X tg (.Call (.Name "range" p) [a] [] pos) (tDI X.K false fun L S => bnd (ma L S) fun x S1 => lft (match x with
      | .d (.int n) => if n < 2 ^ 62 ∧ -(2 ^ 62) ≤ n then some ((List.range n.toNat).map fun i => .int (i : Nat)) else none
      | _ => none) S1) := by
  refine PI.wk (pi_range1 hg hm (pa_cons ha pa_nil he) he) fun σ H R h => ?_
  obtain ⟨g, H0, L, S, ds, S', cr, e, q⟩ := h
  obtain ⟨dx, S1, e1, e⟩ := of_bnd e
  obtain ⟨e2, rfl⟩ := of_lft e
  refine ⟨g, H0, L, S, dx, _, cr, e1, fun v g1 H1 x1 s1 r1 => ?_⟩
  split at e2
  · rename_i n
    split at e2
    · rename_i hz
      cases e2
      have j := jseq_range (K := X.K) (g := g1) (H := H1) 0 n.toNat false
      simp only [Int.zero_add] at j
      exact ⟨n, by rw [r1.intV], hz.2, hz.1, q _ g1 H1 x1 s1 j⟩
    · cases e2
  · cases e2
theorem pi_rng2 (hg : Gl X "range") (hm : X.mg "range" = none) (ha : PE X a (tD X.K ma)) (hb : PE X b (tD X.K mb)) (he : starEach [a, b] X.env = (false, eval a X.env) :: starEach [b] X.env) (he2 : starEach [b] X.env = (false, eval b X.env) :: starEach [] X.env) :
    PI X tg (.Call (.Name "range" p) [a, b] [] pos) (tDI X.K false fun L S => bnd (ma L S) fun x S1 => bnd (mb L S1) fun y S2 => lft (match x, y with
      | .d (.int m), .d (.int n) => if n < 2 ^ 62 ∧ -(2 ^ 62) ≤ n ∧ m < 2 ^ 62 ∧ -(2 ^ 62) ≤ m then some ((List.range (n - m).toNat).map fun i => .int (m + (i : Nat))) else none
      | _, _ => none) S2) := by
  refine PI.wk (pi_range2 hg hm (pa_cons ha (pa_cons hb pa_nil he2) he) (by rw [he, he2]; rfl) he2) fun σ H R h => ?_
  obtain ⟨g, H0, L, S, ds, S', cr, e, q⟩ := h
  obtain ⟨dx, S1, e1, e⟩ := of_bnd e
  obtain ⟨dy, S2, e2, e⟩ := of_bnd e
  obtain ⟨e3, rfl⟩ := of_lft e
  refine ⟨g, H0, L, S, dx, S1, cr, e1, fun v g1 H1 x1 s1 r1 => ⟨g1, H0, L, S1, dy, _, cr.ext x1 s1, e2, fun u g2 H2 x2 s2 r2 => ?_⟩⟩
  split at e3
  · split at e3
    · rename_i hz
      cases e3
      exact ⟨_, _, by rw [(r1.ext x2 s1.cw).intV, r2.intV], ⟨hz.2.2.2, hz.2.2.1, hz.2.1, hz.1⟩, q _ g2 H2 (x1.trans x2) s2 (jseq_range _ _ false)⟩
    · cases e3
  · cases e3
end
end PD

set_option Elab.async false
set_option linter.all false
set_option maxRecDepth 100000
set_option maxHeartbeats 4000000
/-! PD, part g: targets, comprehensions, calls. -/
namespace PD
open PySem PySem.Spec PyProof.Rows L2

/-! ### targets -/
def tDG (K : PySem.W.Frag) (sl : List Nat) (pu : Bool) (m : D → Ms Loc) : TG := fun v σ H Q => ∃ g H0 L S d L' S', Cr K g H0 σ H L S ∧ Rp K g H v d ∧ m d L S = some (L', S') ∧
  ∀ σ' g' H', (∀ g0, Ext g0 H0 g H → Ext g0 H0 g' H') → ExtW g H g' H' → Cr K g' H0 σ' H' L' S' → σ'.length = σ.length → (∀ j, j ∉ sl → σ'[j]? = σ[j]?) → (pu = true → H' = H ∧ g' = g ∧ S' = S) → Q σ' H'
def tDGs (K : PySem.W.Frag) (sl : List Nat) (pu : Bool) (m : List D → Ms Loc) : TGs := fun vs σ H Q => ∃ g H0 L S ds L' S', Cr K g H0 σ H L S ∧ Rps K g H vs ds ∧ m ds L S = some (L', S') ∧
  ∀ σ' g' H', (∀ g0, Ext g0 H0 g H → Ext g0 H0 g' H') → ExtW g H g' H' → Cr K g' H0 σ' H' L' S' → σ'.length = σ.length → (∀ j, j ∉ sl → σ'[j]? = σ[j]?) → (pu = true → H' = H ∧ g' = g ∧ S' = S) → Q σ' H'
theorem _root_.L2.PG.wk {X : Cx} {e : Expr} {t t' : TG} (h : PG X e t) (w : ∀ v σ H Q, t' v σ H Q → t v σ H Q) : PG X e t' := ⟨fun pins s σ H v u Q I r q => h.run pins s σ H v u Q I r (w v σ H Q q)⟩
theorem _root_.L2.PGs.wk {X : Cx} {e : List Expr} {t t' : TGs} (h : PGs X e t) (w : ∀ v σ H Q, t' v σ H Q → t v σ H Q) : PGs X e t' := ⟨fun pins s σ H v u Q I r q => h.run pins s σ H v u Q I r (w v σ H Q q)⟩

section
variable {K : PySem.W.Frag} {g : Gh} {H0 H : Hp} {σ : L2.St} {L : Loc}
/-- a datum in a slot -/
theorem LR.set {i : Nat} {v : V} {d : D} (l : LR K g H0 σ H L) (r : Rp K g H v d) : LR K g H0 (σ.set i (some v)) H (L.set i (.dat d)) := by
  refine ⟨by rw [List.length_set, List.length_set]; exact l.len, l.old, fun j e h => ?_, fun j ds h => ?_, fun j k ds es a h1 h2 h3 h4 => ?_⟩
  · by_cases z : i = j
    · subst z
      by_cases hi : i < L.length
      · rw [List.getElem?_set_self hi] at h
        cases h
        exact ⟨v, List.getElem?_set_self (Nat.lt_of_lt_of_le hi l.len), r⟩
      · rw [List.getElem?_eq_none (by rw [List.length_set]; omega)] at h; cases h
    · rw [List.getElem?_set_ne z] at h
      obtain ⟨u, h1, h2⟩ := l.dat j e h
      exact ⟨u, by rw [List.getElem?_set_ne z]; exact h1, h2⟩
  · by_cases z : i = j
    · subst z
      by_cases hi : i < L.length
      · rw [List.getElem?_set_self hi] at h; cases h
      · rw [List.getElem?_eq_none (by rw [List.length_set]; omega)] at h; cases h
    · rw [List.getElem?_set_ne z] at h ⊢
      exact l.own j ds h
  · have ne : ∀ {m : Nat} {xs : List D}, (L.set i (.dat d))[m]? = some (.own xs) → i ≠ m := fun {m xs} h z => by
      subst z
      by_cases hi : i < L.length
      · rw [List.getElem?_set_self hi] at h; cases h
      · rw [List.getElem?_eq_none (by rw [List.length_set]; omega)] at h; cases h
    have z1 := ne h1
    have z2 := ne h2
    rw [List.getElem?_set_ne z1] at h1 h3
    rw [List.getElem?_set_ne z2] at h2 h4
    exact l.inj j k ds es a h1 h2 h3 h4
theorem Cr.set {S : Store} {i : Nat} {v : V} {d : D} (c : Cr K g H0 σ H L S) (r : Rp K g H v d) : Cr K g H0 (σ.set i (some v)) H (L.set i (.dat d)) S := ⟨c.s, c.l.set r⟩
/-- a list of one's own in a slot: p stands in no other slot -/
theorem LR.setOwn {i : Nat} {p : Addr} {xs : List V} {ds : List D} (l : LR K g H0 σ H L) (hp : H p = some (.lst xs)) (r : Rps K g H xs ds) (w : g.W p) (n : p ∉ g.ca) (z0 : H0 p = none)
    (ne : ∀ (j : Nat) es, L[j]? = some (.own es) → j ≠ i → σ[j]? ≠ some (some (.ref p))) : LR K g H0 (σ.set i (some (.ref p))) H (L.set i (.own ds)) := by
  have at_i : ∀ {m : Nat} {x : Lv}, (L.set i (.own ds))[m]? = some x → i = m → m < L.length ∧ x = .own ds := fun {m x} h z => by
    subst z
    by_cases hi : i < L.length
    · rw [List.getElem?_set_self hi] at h; cases h; exact ⟨hi, rfl⟩
    · rw [List.getElem?_eq_none (by rw [List.length_set]; omega)] at h; cases h
  refine ⟨by rw [List.length_set, List.length_set]; exact l.len, l.old, fun j e h => ?_, fun j es h => ?_, fun j k es fs a h1 h2 h3 h4 => ?_⟩
  · by_cases z : i = j
    · obtain ⟨_, e⟩ := at_i h z; cases e
    · rw [List.getElem?_set_ne z] at h ⊢
      exact l.dat j e h
  · by_cases z : i = j
    · obtain ⟨hi, e⟩ := at_i h z
      cases e
      subst z
      exact ⟨p, xs, List.getElem?_set_self (Nat.lt_of_lt_of_le hi l.len), hp, r, w, n, z0⟩
    · rw [List.getElem?_set_ne z] at h ⊢
      exact l.own j es h
  · by_cases z1 : i = j
    · by_cases z2 : i = k
      · rw [← z1, ← z2]
      · exfalso
        obtain ⟨hi, _⟩ := at_i h1 z1
        subst z1
        rw [List.getElem?_set_self (Nat.lt_of_lt_of_le hi l.len)] at h3
        cases h3
        rw [List.getElem?_set_ne z2] at h2 h4
        exact ne k fs h2 (Ne.symm z2) h4
    · by_cases z2 : i = k
      · exfalso
        obtain ⟨hi, _⟩ := at_i h2 z2
        subst z2
        rw [List.getElem?_set_self (Nat.lt_of_lt_of_le hi l.len)] at h4
        cases h4
        rw [List.getElem?_set_ne z1] at h1 h3
        exact ne j es h1 (Ne.symm z1) h3
      · rw [List.getElem?_set_ne z1] at h1 h3
        rw [List.getElem?_set_ne z2] at h2 h4
        exact l.inj j k es fs a h1 h2 h3 h4
/-- the list in slot i is written -/
theorem LR.upOwn {i : Nat} {p : Addr} {xs : List V} {ds es : List D} (l : LR K g H0 σ H L) (hi : L[i]? = some (.own es)) (hs : σ[i]? = some (some (.ref p))) (r : Rps K g H xs ds) :
    LR K g H0 σ (upd H p (.lst xs)) (L.set i (.own ds)) := by
  obtain ⟨a, ys, h1, h2, _, w, n, z0⟩ := l.own i es hi
  rw [hs] at h1; cases h1
  have hl : i < L.length := (List.getElem?_eq_some_iff.mp hi).1
  refine ⟨by rw [List.length_set]; exact l.len, old_upd l.old, fun j e h => ?_, fun j fs h => ?_, fun j k fs gs a h1 h2 h3 h4 => ?_⟩
  · by_cases z : i = j
    · subst z; rw [List.getElem?_set_self hl] at h; cases h
    · rw [List.getElem?_set_ne z] at h
      obtain ⟨u, q1, q2⟩ := l.dat j e h
      exact ⟨u, q1, Rp.wrote w q2⟩
  · by_cases z : i = j
    · subst z
      rw [List.getElem?_set_self hl] at h
      cases h
      exact ⟨p, xs, hs, upd_same, Rps.wrote w r, w, n, z0⟩
    · rw [List.getElem?_set_ne z] at h
      obtain ⟨b, zs, q1, q2, q3, q4, q5, q6⟩ := l.own j fs h
      have ne : b ≠ p := fun q => z (l.inj i j es fs p hi h hs (by rw [← q]; exact q1))
      exact ⟨b, zs, q1, by rw [upd_ne ne]; exact q2, Rps.wrote w q3, q4, q5, q6⟩
  · have back : ∀ {m : Nat} {us : List D}, (L.set i (.own ds))[m]? = some (.own us) → ∃ us', L[m]? = some (.own us') := fun {m us} h => by
      by_cases z : i = m
      · subst z; exact ⟨es, hi⟩
      · rw [List.getElem?_set_ne z] at h; exact ⟨us, h⟩
    obtain ⟨_, q1⟩ := back h1
    obtain ⟨_, q2⟩ := back h2
    exact l.inj j k _ _ a q1 q2 h3 h4
/-- a cell is written -/
theorem LR.cell {p : Addr} {o : HO} (l : LR K g H0 σ H L) (w : g.W p) (hc : p ∈ g.ca) : LR K g H0 σ (upd H p o) L := by
  refine ⟨l.len, old_upd l.old, fun j e h => ?_, fun j fs h => ?_, l.inj⟩
  · obtain ⟨u, q1, q2⟩ := l.dat j e h
    exact ⟨u, q1, Rp.wrote w q2⟩
  · obtain ⟨b, zs, q1, q2, q3, q4, q5, q6⟩ := l.own j fs h
    have ne : b ≠ p := fun q => q5 (by rw [q]; exact hc)
    exact ⟨b, zs, q1, by rw [upd_ne ne]; exact q2, Rps.wrote w q3, q4, q5, q6⟩
/-- the list in slot i is left as it is -/
theorem LR.freeze {i : Nat} {p : Addr} {es : List D} (l : LR K g H0 σ H L) (hi : L[i]? = some (.own es)) (hs : σ[i]? = some (some (.ref p))) : LR K (g.minus p) H0 σ H (L.set i (.dat (.lst es))) := by
  obtain ⟨a, ys, h1, h2, r, w, n, z0⟩ := l.own i es hi
  rw [hs] at h1; cases h1
  have hl : i < L.length := (List.getElem?_eq_some_iff.mp hi).1
  refine ⟨by rw [List.length_set]; exact l.len, l.old, fun j e h => ?_, fun j fs h => ?_, fun j k fs gs a h1 h2 h3 h4 => ?_⟩
  · by_cases z : i = j
    · subst z
      rw [List.getElem?_set_self hl] at h
      cases h
      exact ⟨_, hs, .lst (.inl ⟨.inl h2, fun q => q.2 rfl⟩) r.minus⟩
    · rw [List.getElem?_set_ne z] at h
      obtain ⟨u, q1, q2⟩ := l.dat j e h
      exact ⟨u, q1, q2.minus⟩
  · by_cases z : i = j
    · subst z; rw [List.getElem?_set_self hl] at h; cases h
    · rw [List.getElem?_set_ne z] at h
      obtain ⟨b, zs, q1, q2, q3, q4, q5, q6⟩ := l.own j fs h
      have ne : b ≠ p := fun q => z (l.inj i j es fs p hi h hs (by rw [← q]; exact q1))
      exact ⟨b, zs, q1, q2, q3.minus, ⟨q4, ne⟩, q5, q6⟩
  · have back : ∀ {m : Nat} {us : List D}, (L.set i (.dat (.lst es)))[m]? = some (.own us) → L[m]? = some (.own us) := fun {m us} h => by
      by_cases z : i = m
      · subst z; rw [List.getElem?_set_self hl] at h; cases h
      · rw [List.getElem?_set_ne z] at h; exact h
    exact l.inj j k _ _ a (back h1) (back h2) h3 h4
end

section
variable {X : Cx} {e a b c : Expr} {es : List Expr} {ma mb mc : Ms Va} {mes : Ms (List Va)} {mf : Ms (List D)} {pos p : Pos} {x : Str}
theorem pg_nm {i : Nat} (hN : X.N.Nodup) (hi : X.N[i]? = some x) (hx : L2.Loc X.env.scope x) (hf : X.fn x = true ∨ X.env.scope.names.lookup x = some .local) :
    PG X (.Name x pos) (tDG X.K [i] true fun d L S => some (L.set i (.dat d), S)) := by
  refine (pg_name hN hi hx hf).wk fun v σ H Q h => ?_
  obtain ⟨g, H0, L, S, d, L', S', cr, r, e, q⟩ := h
  cases e
  exact q _ g H (fun _ z => z) ExtW.refl (cr.set r) (List.length_set ..) (fun j hj => List.getElem?_set_ne (fun z => hj (by simp [z]))) fun _ => ⟨rfl, rfl, rfl⟩
theorem pgs_nilD : PGs X [] (tDGs X.K [] true fun ds L S => match ds with | [] => some (L, S) | _ => none) := by
  refine pgs_nil.wk fun vs σ H Q h => ?_
  obtain ⟨g, H0, L, S, ds, L', S', cr, r, e, q⟩ := h
  cases r with
  | nil =>
    cases e
    exact ⟨rfl, q σ g H (fun _ z => z) ExtW.refl cr rfl (fun _ _ => rfl) fun _ => ⟨rfl, rfl, rfl⟩⟩
  | cons _ _ => cases e
variable {sl sl' : List Nat} {pu pu' : Bool} {mg : D → Ms Loc} {mgs : List D → Ms Loc}
theorem pgs_consD (h1 : PG X e (tDG X.K sl pu mg)) (h2 : PGs X es (tDGs X.K sl' pu' mgs)) (hs : (assignEach (e :: es) X.env).map (·.2) = assign e X.env :: (assignEach es X.env).map (·.2)) :
    PGs X (e :: es) (tDGs X.K (sl ++ sl') (pu && pu') fun ds L S => match ds with | d :: ds => bnd (mg d L S) fun L1 S1 => mgs ds L1 S1 | _ => none) := by
  refine (pgs_cons h1 h2 hs).wk fun vs σ H Q h => ?_
  obtain ⟨g, H0, L, S, ds, L', S', cr, r, e, q⟩ := h
  cases r with
  | nil => cases e
  | @cons v vs d ds r rs =>
    obtain ⟨L1, S1, e1, e⟩ := of_bnd e
    refine ⟨v, vs, rfl, g, H0, L, S, d, L1, S1, cr, r, e1, fun σ1 g1 H1 x1 w1 c1 l1 o1 p1 => ⟨g1, H0, L1, S1, ds, L', S', c1, Rps.extW w1 rs, e, fun σ2 g2 H2 x2 w2 c2 l2 o2 p2 => ?_⟩⟩
    refine q σ2 g2 H2 (fun g0 z => x2 g0 (x1 g0 z)) (w1.trans w2) c2 (l2.trans l1) (fun j hj => ?_) fun hp => ?_
    · rw [List.mem_append, not_or] at hj
      rw [o2 j hj.2, o1 j hj.1]
    · rw [Bool.and_eq_true] at hp
      obtain ⟨rfl, rfl, rfl⟩ := p1 hp.1
      exact p2 hp.2
theorem pg_tupD {k n : Nat} (hc : X.calm = true) (hl : ∀ ds L S r, mgs ds L S = some r → ds.length = n) (h : PGs X es (tDGs X.K sl pu mgs)) (hn : (assignEach es X.env).length = n) (hst : (assignEach es X.env).findIdx? (·.1) = none) :
    PG X (.Tuple es k pos) (tDG X.K sl pu fun d L S => match d with | .tup ds => mgs ds L S | _ => none) := by
  refine (pg_tup hc h hn hst).wk fun v σ H Q h => ?_
  obtain ⟨g, H0, L, S, d, L', S', cr, r, e, q⟩ := h
  cases r with
  | tup t r => exact ⟨_, _, rfl, t.sq, by rw [r.length]; exact hl _ _ _ _ e, g, H0, L, S, _, L', S', cr, r, e, q⟩
  | _ => cases e
/-- x[i] = .. of a list of one's own, of a cell -/
theorem pg_subD {i : Nat} (hN : X.N[i]? = some x) (hv : Vis X.env.scope x) (hd : (x == ("__debug__" : Str)) = false) (hcd : (x == ("__classdict__" : Str)) = false) (hb : PE X b (tD X.K mb))
    (ha : ∀ v, assign (.Subscript (.Name x p) b pos) X.env v = (do
      let ov ← holding [v] (eval (.Name x p) X.env)
      let iv ← holding [v, ov] (eval b X.env)
      standAt pos
      holding [v, ov, iv] (setItem ov iv v)
      release [v, ov, iv] [])) :
    PG X (.Subscript (.Name x p) b pos) (tDG X.K [] false fun d L S => bnd (mb L S) fun y S1 => match y with
      | .d (.int k) => match L[i]? with
        | some (.own xs) => match ixN xs.length k with | some j => some (L.set i (.own (xs.set j d)), S1) | none => none
        | some (.dat (.cell n)) => match S1[n]? with
          | some xs => match ixN xs.length k with | some j => some (L, S1.set n (xs.set j d)) | none => none
          | none => none
        | _ => none
      | _ => none) := by
  refine (pg_sub (pe_var hN hv hd hcd) hb set_list ha).wk fun v σ H Q h => ?_
  obtain ⟨g, H0, L, S, d, L', S', cr, r, e, q⟩ := h
  obtain ⟨y, S1, e1, e⟩ := of_bnd e
  split at e
  · rename_i k
    split at e
    · rename_i ds hi
      split at e
      · rename_i j hj
        cases e
        obtain ⟨a, xs, h1, h2, r2, w, n, z0⟩ := cr.l.own i ds hi
        refine ⟨_, h1, g, H0, L, S, _, _, cr, e1, fun u g1 H1 x1 s1 r1 => ?_⟩
        have c1 := cr.ext x1 s1
        obtain ⟨a', xs', h1', h2', r2', w', n', z0'⟩ := c1.l.own i ds hi
        rw [h1] at h1'; cases h1'
        have rd := r.ext x1 cr.s.cw
        refine ⟨a, xs', k, j, rfl, r1.intV, h2', by rw [r2'.length]; exact hj, ?_⟩
        exact q σ g1 _ (fun g0 z => ((z.trans x1)).wroteNew z0') ((x1.w cr.s.cw).trans (ExtW.wrote w')) ⟨s1.wrote w' n', c1.l.upOwn hi h1 (r2'.set rd j)⟩ rfl (fun _ _ => rfl) fun z => by cases z
      · cases e
    · rename_i m hi
      split at e
      · rename_i ds hm
        split at e
        · rename_i j hj
          cases e
          obtain ⟨v0, h1, rc⟩ := cr.l.dat i _ hi
          refine ⟨_, h1, g, H0, L, S, _, _, cr, e1, fun u g1 H1 x1 s1 r1 => ?_⟩
          have c1 := cr.ext x1 s1
          have rc1 := rc.ext x1 cr.s.cw
          cases rc1 with
          | @cell a _ hc =>
            obtain ⟨xs, h2, r2⟩ := s1.st m a ds hc hm
            have rd := r.ext x1 cr.s.cw
            have hm' : a ∈ g1.ca := List.mem_of_getElem? hc
            refine ⟨a, xs, k, j, rfl, r1.intV, h2, by rw [r2.length]; exact hj, ?_⟩
            exact q σ g1 _ (fun g0 z => (z.trans x1).trans (Ext.wrote h2 hm')) ((x1.w cr.s.cw).trans (ExtW.wrote (s1.cw a hm'))) ⟨s1.cell hc (r2.set rd j), c1.l.cell (s1.cw a hm') hm'⟩ rfl (fun _ _ => rfl) fun z => by cases z
        · cases e
      · cases e
    · cases e
  · cases e

/-! ### comprehensions -/
theorem wipeL_get {L : Loc} {i : Nat} {x : Lv} : ∀ {vs : List Nat}, (wipeL L vs)[i]? = some x → x = .un ∨ (L[i]? = some x ∧ i ∉ vs)
  | [], h => .inr ⟨h, by simp⟩
  | v :: vs, h => by
    unfold wipeL at h
    by_cases hi : v = i
    · subst hi
      by_cases hv : v < (wipeL L vs).length
      · rw [List.getElem?_set_self hv] at h; cases h; exact .inl rfl
      · rw [List.getElem?_eq_none (by rw [List.length_set]; omega)] at h; cases h
    · rw [List.getElem?_set_ne hi] at h
      rcases wipeL_get h with h | ⟨h1, h2⟩
      · exact .inl h
      · exact .inr ⟨h1, by simp only [List.mem_cons, not_or]; exact ⟨fun z => hi z.symm, h2⟩⟩
theorem wipeL_len (L : Loc) : ∀ vs : List Nat, (wipeL L vs).length = L.length
  | [] => rfl
  | v :: vs => by unfold wipeL; rw [List.length_set, wipeL_len L vs]
theorem LR.wipe {K : PySem.W.Frag} {g : Gh} {H0 H : Hp} {σ : L2.St} {L : Loc} (l : LR K g H0 σ H L) (vs : List Nat) : LR K g H0 (L2.wipe σ vs) H (wipeL L vs) := by
  refine ⟨by rw [wipeL_len, wipe_length]; exact l.len, l.old, fun i d h => ?_, fun i ds h => ?_, fun i j ds es a h1 h2 h3 h4 => ?_⟩
  · rcases wipeL_get h with h | ⟨h, n⟩
    · cases h
    · rw [wipe_out n]; exact l.dat i d h
  · rcases wipeL_get h with h | ⟨h, n⟩
    · cases h
    · rw [wipe_out n]; exact l.own i ds h
  · rcases wipeL_get h1 with h1 | ⟨h1, n1⟩
    · cases h1
    · rcases wipeL_get h2 with h2 | ⟨h2, n2⟩
      · cases h2
      · rw [wipe_out n1] at h3
        rw [wipe_out n2] at h4
        exact l.inj i j ds es a h1 h2 h3 h4
theorem wipe_same {σ σ' : L2.St} {vs : List Nat} (hl : σ'.length = σ.length) (h : ∀ j, j ∉ vs → σ'[j]? = σ[j]?) : L2.wipe σ' vs = L2.wipe σ vs := by
  have in_ : ∀ {τ : L2.St} {i : Nat} {vs : List Nat}, i ∈ vs → (L2.wipe τ vs)[i]? = if i < τ.length then some none else none := by
    intro τ i vs
    induction vs with
    | nil => intro h; simp at h
    | cons v vs ih =>
      intro h
      unfold L2.wipe
      by_cases z : v = i
      · subst z
        by_cases hv : v < τ.length
        · rw [List.getElem?_set_self (by rw [wipe_length]; exact hv), if_pos hv]
        · rw [List.getElem?_eq_none (by rw [List.length_set, wipe_length]; omega), if_neg hv]
      · rw [List.getElem?_set_ne z]
        exact ih ((List.mem_cons.mp h).resolve_left fun q => z q.symm)
  refine List.ext_getElem? fun i => ?_
  by_cases hi : i ∈ vs
  · rw [in_ hi, in_ hi, hl]
  · rw [wipe_out hi, wipe_out hi, h i hi]
def mC (t : D → Ms Loc) (c : Ms Bool) (elt : Ms Va) (L : Loc) (d : D) (S : Store) : Option (Option D × Store) :=
  bnd (t d L S) fun Lb S => bnd (c Lb S) fun k S => if k = true then bnd (elt Lb S) fun x S => bnd (lft (unV x) S) fun y S => some (some y, S) else some (none, S)
theorem Ext.wroteD {g g' : Gh} {H H' : Hp} {p : Addr} {o : HO} (e : Ext g H g' H') (h : H p = none) : Ext g H g' (upd H' p o) := e.wroteNew h
theorem comp_wk {own : List (Str × Nat)} {mw : Ms (List D)} {mt : Ms Bool} {me : Ms Va} (hsl : ∀ j ∈ sl, j ∈ own.map (·.2)) (σ : L2.St) (H : Hp) (Q : VK)
    (h : tDF X.K (fun L S => bnd (mw L S) fun ds S1 => if ds.length < line then compL (mC mg mt me (wipeL L (own.map (·.2)))) ds S1 else none) σ H Q) :
    tLc (tDI X.K true mw) (tDG X.K sl true mg) (tDT X.K mt) (tD X.K me) (own.map (·.2)) σ H Q := by
  obtain ⟨g, H0, L, S, xs, S', cr, e, q⟩ := h
  obtain ⟨ds, S1, e1, e⟩ := of_bnd e
  split at e
  · rename_i hz
    refine ⟨g, H0, L, S, ds, S1, cr, e1, fun J g1 H1 x1 s1 j D hD => ?_⟩
    have c1 := cr.ext x1 s1
    refine ⟨fun i m H2 => m = ds.length - i ∧ i ≤ ds.length ∧ ∃ g2 S2 acc done rs, Ext g1 H1 g2 H2 ∧ Gs X.K g2 H2 S2 ∧ H2 D = some (.lst acc) ∧ Rps X.K g2 H2 acc done ∧ done.length ≤ i ∧ g2.W D ∧ D ∉ g2.ca ∧
        compL (mC mg mt me (wipeL L (own.map (·.2)))) (ds.drop i) S2 = some (rs, S') ∧ done ++ rs = xs, ⟨ds.length, by simp, Nat.zero_le _, ?_⟩, ?_⟩
    · obtain ⟨x2, s2⟩ := new_own (xs := []) s1 hD
      exact ⟨g1.plus D, S1, [], [], xs, x2, s2, upd_same, .nil, Nat.le_refl _, .inr rfl, fun z => s1.nw hD (s1.cw D z), by simpa using e, rfl⟩
    · rintro i m H2 ⟨rfl, hi, g2, S2, acc, done, rs, x2, s2, hD2, r2, hl2, w2, n2, e2, e3⟩
      have jj := j g2 H2 S2 (by simpa using x2) s2
      by_cases hlt : i < ds.length
      · right
        obtain ⟨go, yl⟩ := jj.1 i ds[i] (by simp [hlt])
        rw [List.drop_eq_getElem_cons hlt] at e2
        unfold compL at e2
        obtain ⟨r, S3, e4, e2⟩ := of_bnd e2
        obtain ⟨rs', S4, e5, e2⟩ := of_bnd e2
        cases e2
        unfold mC at e4
        obtain ⟨Lb, S5, e6, e4⟩ := of_bnd e4
        obtain ⟨k, S6, e7, e4⟩ := of_bnd e4
        refine ⟨go, fun H' => i + 1 ≤ ds.length ∧ ∃ g2 S2 acc done rs, Ext g1 H1 g2 H' ∧ Gs X.K g2 H' S2 ∧ H' D = some (.lst acc) ∧ Rps X.K g2 H' acc done ∧ done.length ≤ i + 1 ∧ g2.W D ∧ D ∉ g2.ca ∧
          compL (mC mg mt me (wipeL L (own.map (·.2)))) (ds.drop (i + 1)) S2 = some (rs, S') ∧ done ++ rs = xs, fun H' hH => ⟨ds.length - (i + 1), by omega, rfl, hH⟩, fun x H3 y => ?_⟩
        obtain ⟨x3, s3, r3⟩ := yl x H3 y
        have c3 : Cr X.K g2 H0 (L2.wipe σ (own.map (·.2))) H3 (wipeL L (own.map (·.2))) S2 := ⟨s3, ((c1.l.ext x2 s1.cw).ext x3 s2.cw).wipe _⟩
        refine ⟨g2, H0, _, S2, _, Lb, S5, c3, r3, e6, fun σ4 g4 H4 _ w4 c4 l4 o4 p4 => ?_⟩
        obtain ⟨rfl, rfl, rfl⟩ := p4 rfl
        refine ⟨?_, ?_⟩
        · rw [wipe_same l4 fun j hj => o4 j fun z => hj (hsl j z)]
          exact wipe_same (wipe_length _ _) fun j hj => wipe_out hj
        · refine ⟨g4, H0, Lb, S5, k, S6, c4, e7, fun g5 H5 x5 s5 => ?_⟩
          have hD3 : H4 D = some (.lst acc) := x3.keep _ _ hD2 n2
          have n5 : D ∉ g5.ca := fun z => (x5.new D z).elim n2 fun q => by rw [hD3] at q; cases q
          have w5 : g5.W D := (x5.wk _ _ hD3).mpr w2
          have r5 : Rps X.K g5 H5 acc done := Rps.ext x5 s3.cw (Rps.ext x3 s2.cw r2)
          cases k with
          | false =>
            simp only [Bool.false_eq_true, if_false] at e4 ⊢
            cases e4
            exact ⟨by omega, g5, _, acc, done, rs', (x2.trans x3).trans x5, s5, x5.keep _ _ hD3 n2, r5, by omega, w5, n5, e5, e3⟩
          | true =>
            simp only [if_true] at e4 ⊢
            obtain ⟨y0, S7, e8, e4⟩ := of_bnd e4
            obtain ⟨y1, S8, e9, e4⟩ := of_bnd e4
            cases e4
            obtain ⟨e9, rfl⟩ := of_lft e9
            refine ⟨g5, H0, Lb, S6, y0, _, c4.ext x5 s5, e8, fun v g6 H6 x6 s6 r6 => ?_⟩
            have hD5 := x5.keep _ _ hD3 n2
            have hD6 := x6.keep _ _ hD5 n5
            have n6 : D ∉ g6.ca := fun z => (x6.new D z).elim n5 fun q => by rw [hD5] at q; cases q
            have w6 : g6.W D := (x6.wk _ _ hD5).mpr w5
            have rr := Rps.ext x6 s5.cw r5
            have ry : Rp X.K g6 H6 v y1 := by
              cases y0 with
              | d z => cases e9; exact r6
              | b z => cases e9
            refine ⟨acc, hD6, by rw [rr.length, line_eq]; omega, by omega, g6, _, acc ++ [v], done ++ [y1], rs', (((x2.trans x3).trans x5).trans x6).wroteNew hD, s6.wrote w6 n6, upd_same, Rps.wrote w6 (rr.append (.cons ry .nil)), ?_, w6, n6, e5, ?_⟩
            · rw [List.length_append, List.length_singleton]; omega
            · rw [List.append_assoc]; exact e3
      · left
        have ei : i = ds.length := by omega
        subst ei
        refine ⟨jj.2, ?_⟩
        rw [List.drop_length] at e2
        cases e2
        rw [List.append_nil] at e3
        subst e3
        refine q D acc g2 H2 (x1.trans x2) s2 hD2 r2 w2 n2 ?_
        cases z : H D with
        | none => rfl
        | some o =>
          obtain ⟨o', z'⟩ := x1.there D o z
          rw [hD] at z'; cases z'
  · cases e
/-- [elt for t in w if c] -/
theorem pf_comp {elt tg iter : Expr} {ifs : List Expr} {scope : Scope} {own : List (Str × Nat)} {mw : Ms (List D)} {mt : Ms Bool} {me : Ms Va} (hc : X.calm = true) (hN : X.N.Nodup) (hi : PI X tg iter (tDI X.K true mw)) (ok : BlkOk X.N X.env.scope scope own)
    (hsl : ∀ j ∈ sl, j ∈ own.map (·.2))
    (hg : ∀ (s : Shared) (H : Hp) (C : Addr) (cl : List (Str × Addr)) (fp : List Addr), PG (X.blk s H scope (compEnvC scope cl C X.env) fp) tg (tDG X.K sl true mg))
    (ht : ∀ (s : Shared) (H : Hp) (C : Addr) (cl : List (Str × Addr)) (fp : List Addr), PTs (X.blk s H scope (compEnvC scope cl C X.env) fp) ifs (tDT X.K mt))
    (he : ∀ (s : Shared) (H : Hp) (C : Addr) (cl : List (Str × Addr)) (fp : List Addr), PE (X.blk s H scope (compEnvC scope cl C X.env) fp) elt (tD X.K me)) (hs : ∀ x, foldedSetIterable iter X.env x = pure x) :
    PE X (.ListComp elt [⟨tg, iter, ifs, 0⟩] scope pos) (tDF X.K fun L S => bnd (mw L S) fun ds S1 => if ds.length < line then compL (mC mg mt me (wipeL L (own.map (·.2)))) ds S1 else none) :=
  (pe_lc hc hN hi ok hg ht he hs).wk (comp_wk hsl)
end
end PD

set_option Elab.async false
set_option linter.all false
set_option maxRecDepth 100000
set_option maxHeartbeats 4000000
/-! PD, part h: calls of defs, statements. -/
namespace PD
open PySem PySem.Spec PyProof.Rows L2

/-! ### what a def promises, where the guards are known -/
structure FnG (P : Program) (w : World) (K : PySem.W.Frag) (mg : Str → Option Value) (base : Heap) (k : Nat) (f : Addr) (fd : FuncData) (ps : List Str) (sp : Sp) : Prop where
  len : ∀ vs H Q E, sp vs H Q E → vs.length = ps.length
  run : ∀ (A : Around) (outer : List PySem.Env) (s : Shared) (H : Hp) (args : Args) (us : List Value) (vs : List V) (Q : VK) (E : XK), Room k A → A.guards = some [] →
    Env0 P w K mg base A outer s H → BindsTo s fd args (ps.zip us) → Vals vs us → sp vs H Q E →
    codeAny (model P w) A (.call (.ref f) args) (CR CX0 outer P w H s Q E) s
theorem FnG.mono {P : Program} {w : World} {K : PySem.W.Frag} {mg : Str → Option Value} {base : Heap} {j k : Nat} {f : Addr} {fd : FuncData} {ps : List Str} {sp : Sp} (F : FnG P w K mg base j f fd ps sp) (h : j ≤ k) : FnG P w K mg base k f fd ps sp :=
  ⟨F.len, fun A outer s H args us vs Q E hr => F.run A outer s H args us vs Q E (hr.mono h)⟩

/-- one way of calling a def -/
def EntOk (P : Program) (w : World) (K : PySem.W.Frag) (mg : Str → Option Value) (base : Heap) (k : Nat) (e : Ent) : Prop :=
  ∃ (f : Addr) (fd : FuncData) (ps : List Str) (sp : Sp) (gs : List Value → List Value → List Value) (gv : List V → List V → List V),
    mg e.name = some (.ref f) ∧ PySem.W.keepIn K (.ref f) = true ∧ FnG P w K mg base k f fd ps sp ∧ KBn K fd ps e.n e.ks gs gv ∧
    ∀ g H S vs zs ds d S' (Q : VK), Gs K g H S → Rps K g H (vs ++ zs) ds → vs.length = e.n → zs.length = e.ks.length → e.sem ds S = some (d, S') →
      (∀ v g' H', Ext g H g' H' → Gs K g' H' S' → Rp K g' H' v d → Q v H') → sp (gv vs zs) H Q E0

section
variable {X : Cx} {e a b c : Expr} {es : List Expr} {kws : List Keyword} {ma mb mc : Ms Va} {mes mks : Ms (List Va)} {mf : Ms (List D)} {pos p : Pos} {x : Str} {k : Nat}
theorem _root_.L2.PK.wk {t t' : TA} (h : PK X kws t) (w : ∀ σ H Q, t' σ H Q → t σ H Q) : PK X kws t' := ⟨fun pos pins s σ H Q I q => h.run pos pins s σ H Q I (w σ H Q q)⟩
theorem pk_nilD : PK X [] (tDA X.K fun _ S => some ([], S)) := by
  refine pk_nil.wk fun σ H Q h => ?_
  obtain ⟨g, H0, L, S, x, S', cr, e, q⟩ := h
  cases e
  exact q [] g H Ext.refl cr.s .nil
theorem pk_consD {nm : Option Str} {kpos : Pos} (ha : PE X e (tD X.K ma)) (hr : PK X kws (tDA X.K mes)) :
    PK X (⟨nm, e, kpos⟩ :: kws) (tDA X.K fun L S => bnd (ma L S) fun x S1 => bnd (mes L S1) fun xs S2 => some (x :: xs, S2)) := by
  refine (pk_cons ha hr).wk fun σ H Q h => ?_
  obtain ⟨g, H0, L, S, x, S', cr, e, q⟩ := h
  obtain ⟨dx, S1, e1, e⟩ := of_bnd e
  obtain ⟨dxs, S2, e2, e⟩ := of_bnd e
  cases e
  exact ⟨g, H0, L, S, dx, S1, cr, e1, fun v g1 H1 x1 s1 r1 => ⟨g1, H0, L, S1, dxs, _, cr.ext x1 s1, e2, fun vs g2 H2 x2 s2 r2 => q (v :: vs) g2 H2 (x1.trans x2) s2 (.cons (r1.ext x2 s1.cw) r2)⟩⟩
theorem RpVs.append {K : PySem.W.Frag} {g : Gh} {H : Hp} : ∀ {vs us : List V} {xs ys : List Va}, RpVs K g H vs xs → RpVs K g H us ys → RpVs K g H (vs ++ us) (xs ++ ys)
  | _, _, _, _, .nil, r => r
  | _, _, _, _, .cons h t, r => .cons h (RpVs.append t r)
theorem run_fnG {pins : List (Addr × Obj)} {σ : L2.St} {H : Hp} {s : Shared} {Q : VK} {us ws : List Value} {vs zs : List V} {n : Nat} {ks ps : List Str} {f : Addr} {fd : FuncData} {sp : Sp} {gs : List Value → List Value → List Value} {gv : List V → List V → List V}
    (F : FnG X.prog X.w X.K X.mg X.base k f fd ps sp) (hr : Room k X.A) (hg : X.A.guards = some []) (hb : KBn X.K fd ps n ks gs gv)
    (I : Inv X pins σ H s) (r : Vals vs us) (rz : Vals zs ws) (l1 : vs.length = n) (l2 : zs.length = ks.length) (h : sp (gv vs zs) H Q E0) : wpAny (model X.prog X.w) X.A (call (.ref f) us (ks.zip ws)) (EP X pins σ Q) X.xe s := by
  have bt := hb.to s us ws I.kIn (r.length.symm.trans l1) (rz.length.symm.trans l2)
  refine wpAny_call (codeAny_mono (F.run X.A X.stack s H _ _ _ Q E0 hr hg I.env0 bt (hb.rel r rz) h) ?_)
  rintro (e | fl) s' hq
  · exact hq.elim
  · cases fl with
    | ret u => exact I.after hq
    | next => exact hq.elim
    | brk => exact hq.elim
    | cont => exact hq.elim
theorem pd_call {ent : Ent} (hE : EntOk X.prog X.w X.K X.mg X.base k ent) (hr : Room k X.A) (hg : X.A.guards = some []) (hgl : Gl X ent.name) (ha : PA X es (tDA X.K mes)) (hk : PK X kws (tDA X.K mks)) (hdb : (ent.name == ("__debug__" : Str)) = false)
    (hall : (backToKw pos (keywordEach kws X.env)).all (·.1.isSome) = true) (hks : (backToKw pos (keywordEach kws X.env)).filterMap (·.1) = ent.ks)
    (hnil : es = [] → mes = fun _ S => some ([], S)) (hst : ∀ y r, es = y :: r → starEach (y :: r) X.env = (false, eval y X.env) :: starEach r X.env)
    (hpl : ((backTo pos (starEach es X.env)).any (·.1) || (backToKw pos (keywordEach kws X.env)).any (·.1.isNone)) = false) :
    PE X (.Call (.Name ent.name p) es kws pos) (tD X.K fun L S => bnd (mes L S) fun xs S1 => bnd (mks L S1) fun zs S2 => bnd (lft (unVs (xs ++ zs)) S2) fun ds S2 =>
      if xs.length = ent.n ∧ zs.length = ent.ks.length then bnd (ent.sem ds S2) fun d S3 => some (.d d, S3) else none) := by
  obtain ⟨f, fd, ps, sp, gs, gv, hm, hkp, F, hb, hsp⟩ := hE
  refine ⟨fun pins s σ H Q I h => ?_⟩
  refine wpAny_Call_Name_kw (ld_glob I hgl hm ?_ hdb)
  obtain ⟨g, H0, L, S, x, S', cr, e, q⟩ := h
  obtain ⟨xs, S1, e1, e5⟩ := of_bnd e
  obtain ⟨zs, S2, e2, e6⟩ := of_bnd e5
  obtain ⟨ds, S3, e7, e8⟩ := of_bnd e6
  obtain ⟨e3, eS⟩ := of_lft e7
  subst eS
  clear e e5 e6 e7
  by_cases hn : xs.length = ent.n ∧ zs.length = ent.ks.length
  · rw [if_pos hn] at e8
    obtain ⟨d, S4, e4, e9⟩ := of_bnd e8
    cases e9
    -- the arguments
    have hargs : wpAny (model X.prog X.w) X.A (spliced (backTo pos (starEach es X.env))) (AP X pins σ fun vs H1 => ∃ g1, Ext g H g1 H1 ∧ Gs X.K g1 H1 S1 ∧ RpVs X.K g1 H1 vs xs) X.xe s :=
      ha.run pos pins s σ H _ I ⟨g, H0, L, S, xs, S1, cr, e1, fun vs g1 H1 x1 s1 r1 => ⟨g1, x1, s1, r1⟩⟩
    have fin : ∀ us s1, AP X pins σ (fun vs H1 => ∃ g1, Ext g H g1 H1 ∧ Gs X.K g1 H1 S1 ∧ RpVs X.K g1 H1 vs xs) us s1 →
        wpAny (model X.prog X.w) X.A (evalAll ((backToKw pos (keywordEach kws X.env)).map (·.2))) (fun ws s2 => X.K.In s2.heap ∧ wpAny (model X.prog X.w) X.A (call (.ref f) us (((backToKw pos (keywordEach kws X.env)).filterMap (·.1)).zip ws)) (EP X pins σ Q) X.xe s2) X.xe s1 := by
      rintro us s1 ⟨vs, H1, I1, r1, g1, x1, t1, v1⟩
      refine thn (hk.run pos pins s1 σ H1 (fun us H2 => ∃ g2, Ext g1 H1 g2 H2 ∧ Gs X.K g2 H2 S3 ∧ RpVs X.K g2 H2 us zs) I1 ⟨g1, H0, L, S1, zs, S3, cr.ext x1 t1, e2, fun us g2 H2 x2 s2 r2 => ⟨g2, x2, s2, r2⟩⟩) ?_
      rintro ws s2 ⟨vz, H2, I2, r2, g2, x2, t2, v2⟩
      refine ⟨I2.kIn, ?_⟩
      rw [hks]
      have va := (v1.ext x2 t1.cw).append v2
      have rp := va.strict e3
      refine run_fnG F hr hg hb I2 r1 r2 (by rw [v1.length]; exact hn.1) (by rw [v2.length]; exact hn.2) ?_
      exact hsp g2 H2 S3 vs vz ds d _ Q t2 rp (by rw [v1.length]; exact hn.1) (by rw [v2.length]; exact hn.2) e4 fun v g3 H3 x3 s3 r3 => q v g3 H3 (x1.trans (x2.trans x3)) s3 r3
    cases es with
    | nil =>
      have e1' := e1
      rw [hnil rfl] at e1'
      cases e1'
      exact PySem.W.callWith_KW0 (h₀ := X.base) I.ok.mod.kin hkp hall (fin [] s ⟨[], H, I, .nil, g, Ext.refl, cr.s, .nil⟩) hpl
    | cons y r => exact PySem.W.callWith_KW (h₀ := X.base) I.ok.mod.kin hkp hall (thn hargs fun us s1 z => fin us s1 z) hpl (hst y r rfl)
  · rw [if_neg hn] at e8
    cases e8
end
end PD

set_option Elab.async false
set_option linter.all false
set_option maxRecDepth 100000
set_option maxHeartbeats 4000000
/-! PD, part i: statements keep their meaning. -/
namespace PD
open PySem PySem.Spec PyProof.Rows L2

/-- what is wanted behind a statement that ends in f -/
def aft (K : PySem.W.Frag) (g : Gh) (H0 H : Hp) (D : Ends) (f : Fl) (La : Loc) (S : Store) : Prop :=
  match f with
  | .nx => ∀ σ g' H', (∀ g0, Ext g0 H0 g H → Ext g0 H0 g' H') → ExtW g H g' H' → Cr K g' H0 σ H' La S → D.nx σ H'
  | .brk => ∀ σ g' H', (∀ g0, Ext g0 H0 g H → Ext g0 H0 g' H') → ExtW g H g' H' → Cr K g' H0 σ H' La S → D.bk σ H'
  | .cnt => ∀ σ g' H', (∀ g0, Ext g0 H0 g H → Ext g0 H0 g' H') → ExtW g H g' H' → Cr K g' H0 σ H' La S → D.ct σ H'
  | .ret d => ∀ v g' H', (∀ g0, Ext g0 H0 g H → Ext g0 H0 g' H') → Gs K g' H' S → Rp K g' H' v d → D.rt v H'
/-- from a moment further on -/
theorem aft.on {K : PySem.W.Frag} {g g1 : Gh} {H0 H H1 : Hp} {D : Ends} {f : Fl} {La : Loc} {S : Store} (x : ∀ g0, Ext g0 H0 g H → Ext g0 H0 g1 H1) (w : ExtW g H g1 H1) (h : aft K g H0 H D f La S) : aft K g1 H0 H1 D f La S := by
  cases f with
  | nx => exact fun σ g' H' x' w' c => h σ g' H' (fun g0 z => x' g0 (x g0 z)) (w.trans w') c
  | brk => exact fun σ g' H' x' w' c => h σ g' H' (fun g0 z => x' g0 (x g0 z)) (w.trans w') c
  | cnt => exact fun σ g' H' x' w' c => h σ g' H' (fun g0 z => x' g0 (x g0 z)) (w.trans w') c
  | ret d => exact fun v g' H' x' s r => h v g' H' (fun g0 z => x' g0 (x g0 z)) s r
def tDS (K : PySem.W.Frag) (m : Ms (Fl × Loc)) : TS := fun D σ H => ∃ g H0 L S f La S', Cr K g H0 σ H L S ∧ m L S = some ((f, La), S') ∧ aft K g H0 H D f La S'
theorem _root_.L2.PS.wk {X : Cx} {e : Stmt} {t t' : TS} (h : PS X e t) (w : ∀ D σ H, t' D σ H → t D σ H) : PS X e t' := ⟨fun pins s σ H D I q => h.run pins s σ H D I (w D σ H q)⟩
theorem _root_.L2.PSs.wk {X : Cx} {e : List Stmt} {t t' : TS} (h : PSs X e t) (w : ∀ D σ H, t' D σ H → t D σ H) : PSs X e t' := ⟨fun pins s σ H D I q => h.run pins s σ H D I (w D σ H q)⟩

section
variable {X : Cx} {e a b c : Expr} {es : List Expr} {ma mb mc : Ms Va} {mes : Ms (List Va)} {mf : Ms (List D)} {pos p p' : Pos} {x y : Str} {st : Stmt} {sts sts' : List Stmt} {ms ms' : Ms (Fl × Loc)}
theorem pss_nilD : PSs X [] (tDS X.K fun L S => some ((.nx, L), S)) := by
  refine pss_nil.wk fun D σ H h => ?_
  obtain ⟨g, H0, L, S, f, La, S', cr, e, q⟩ := h
  cases e
  exact q σ g H (fun _ z => z) ExtW.refl cr
theorem pss_consD (h1 : PS X st (tDS X.K ms)) (h2 : PSs X sts (tDS X.K ms')) : PSs X (st :: sts) (tDS X.K fun L S => bnd (ms L S) fun r S1 => match r.1 with
    | .nx => ms' r.2 S1
    | f => some ((f, r.2), S1)) := by
  refine (pss_cons h1 h2).wk fun D σ H h => ?_
  obtain ⟨g, H0, L, S, f, La, S', cr, e, q⟩ := h
  obtain ⟨⟨f1, L1⟩, S1, e1, e2⟩ := of_bnd e
  refine ⟨g, H0, L, S, f1, L1, S1, cr, e1, ?_⟩
  cases f1 with
  | nx => exact fun σ' g' H' x w c => ⟨g', H0, L1, S1, f, La, S', c, e2, q.on x w⟩
  | brk => cases e2; exact q
  | cnt => cases e2; exact q
  | ret d => cases e2; exact q
theorem ps_neverD : PS X st (tDS X.K fun _ _ => none) := ps_never.wk fun D σ H h => by
  obtain ⟨g, H0, L, S, f, La, S', cr, e, q⟩ := h
  cases e
theorem ps_passD : PS X (.Pass pos) (tDS X.K fun L S => some ((.nx, L), S)) := ps_pass.wk fun D σ H h => by
  obtain ⟨g, H0, L, S, f, La, S', cr, e, q⟩ := h
  cases e
  exact q σ g H (fun _ z => z) ExtW.refl cr
theorem ps_brkD : PS X (.Break pos) (tDS X.K fun L S => some ((.brk, L), S)) := ps_break.wk fun D σ H h => by
  obtain ⟨g, H0, L, S, f, La, S', cr, e, q⟩ := h
  cases e
  exact q σ g H (fun _ z => z) ExtW.refl cr
theorem ps_cntD : PS X (.Continue pos) (tDS X.K fun L S => some ((.cnt, L), S)) := ps_continue.wk fun D σ H h => by
  obtain ⟨g, H0, L, S, f, La, S', cr, e, q⟩ := h
  cases e
  exact q σ g H (fun _ z => z) ExtW.refl cr
theorem ps_exD (he : PE X e (tD X.K ma)) (hs : swapsWith e none pos.line X.env = pure false) : PS X (.Expr e pos) (tDS X.K fun L S => bnd (ma L S) fun _ S1 => some ((.nx, L), S1)) := by
  refine (ps_expr he hs).wk fun D σ H h => ?_
  obtain ⟨g, H0, L, S, f, La, S', cr, e, q⟩ := h
  obtain ⟨dx, S1, e1, e2⟩ := of_bnd e
  cases e2
  exact ⟨g, H0, L, S, dx, _, cr, e1, fun v g1 H1 x1 s1 r1 => q σ g1 H1 (fun g0 z => z.trans x1) (x1.w cr.s.cw) (cr.ext x1 s1)⟩
theorem ps_retD (he : PE X e (tD X.K ma)) : PS X (.Return (some e) pos) (tDS X.K fun L S => bnd (ma L S) fun x S1 => bnd (lft (unV x) S1) fun d S1 => some ((.ret d, L), S1)) := by
  refine (ps_ret he).wk fun D σ H h => ?_
  obtain ⟨g, H0, L, S, f, La, S', cr, e, q⟩ := h
  obtain ⟨dx, S1, e1, e2⟩ := of_bnd e
  obtain ⟨d, S2, e3, e4⟩ := of_bnd e2
  obtain ⟨e5, eS⟩ := of_lft e3
  subst eS
  cases e4
  refine ⟨g, H0, L, S, dx, _, cr, e1, fun v g1 H1 x1 s1 r1 => ?_⟩
  cases dx with
  | d x => cases e5; exact q v g1 H1 (fun g0 z => z.trans x1) s1 r1
  | b xs => cases e5
theorem ps_ret0D : PS X (.Return none pos) (tDS X.K fun L S => some ((.ret .non, L), S)) := ps_retN.wk fun D σ H h => by
  obtain ⟨g, H0, L, S, f, La, S', cr, e, q⟩ := h
  cases e
  exact q .non g H (fun _ z => z) cr.s .non
theorem ps_ifD {tb fb : List Stmt} (hc : PT X c (tDT X.K (mT mc))) (ha : PSs X tb (tDS X.K ms)) (hb : PSs X fb (tDS X.K ms')) :
    PS X (.If c tb fb pos) (tDS X.K fun L S => bnd (mc L S) fun x S1 => bnd (lft (asB x) S1) fun k S1 => if k = true then ms L S1 else ms' L S1) := by
  refine (ps_if hc ha hb).wk fun D σ H h => ?_
  obtain ⟨g, H0, L, S, f, La, S', cr, e, q⟩ := h
  obtain ⟨dx, S1, e1, e2⟩ := of_bnd e
  obtain ⟨k, S2, e3, e4⟩ := of_bnd e2
  obtain ⟨rfl, rfl⟩ := mB e3
  refine ⟨g, H0, L, S, k, _, cr, by show bnd _ _ = _; rw [e1, bnd_some]; rfl, fun g1 H1 x1 s1 => ?_⟩
  cases k with
  | true => exact ⟨g1, H0, L, _, f, La, S', cr.ext x1 s1, e4, q.on (fun g0 z => z.trans x1) (x1.w cr.s.cw)⟩
  | false => exact ⟨g1, H0, L, _, f, La, S', cr.ext x1 s1, e4, q.on (fun g0 z => z.trans x1) (x1.w cr.s.cw)⟩
variable {sl : List Nat} {pu : Bool} {mg : D → Ms Loc} {tg : Expr}
theorem asg_wk {g0 : TG} (σ : L2.St) (H : Hp) (D : Ends) (hg : ∀ v σ H Q, tDG X.K sl pu mg v σ H Q → g0 v σ H Q)
    (h : tDS X.K (fun L S => bnd (ma L S) fun x S1 => bnd (lft (unV x) S1) fun d S1 => bnd (mg d L S1) fun Lb S2 => some ((.nx, Lb), S2)) D σ H) : tAsg (tD X.K ma) g0 D σ H := by
  obtain ⟨g, H0, L, S, f, La, S', cr, e, q⟩ := h
  obtain ⟨dx, S1, e1, e2⟩ := of_bnd e
  obtain ⟨d, S2, e3, e4⟩ := of_bnd e2
  obtain ⟨e5, eS⟩ := of_lft e3
  subst eS
  obtain ⟨Lb, S3, e6, e7⟩ := of_bnd e4
  cases e7
  refine ⟨g, H0, L, S, dx, _, cr, e1, fun v g1 H1 x1 s1 r1 => ?_⟩
  cases dx with
  | b xs => cases e5
  | d x =>
    cases e5
    exact hg v σ H1 _ ⟨g1, H0, L, _, d, La, S', cr.ext x1 s1, r1, e6, fun σ' g' H' x2 w2 c2 _ _ _ => q σ' g' H' (fun g0 z => x2 g0 (z.trans x1)) ((x1.w cr.s.cw).trans w2) c2⟩
theorem ps_asgD (he : PE X e (tD X.K ma)) (hg : PG X tg (tDG X.K sl pu mg)) (hs : swapsWithSole [tg] e pos.line X.env = pure false) (hw : swappedStores [tg] e X.env = pure none) (h1 : (assignEach [tg] X.env).map (·.2) = [assign tg X.env]) :
    PS X (.Assign [tg] e pos) (tDS X.K fun L S => bnd (ma L S) fun x S1 => bnd (lft (unV x) S1) fun d S1 => bnd (mg d L S1) fun Lb S2 => some ((.nx, Lb), S2)) :=
  (ps_asg he hg hs hw h1).wk fun D σ H h => asg_wk σ H D (fun _ _ _ _ z => z) h

/-- name = a new list, the name's own -/
theorem own_wk {i : Nat} (σ : L2.St) (H : Hp) (D : Ends) (h : tDS X.K (fun L S => bnd (mf L S) fun xs S1 => some ((.nx, L.set i (.own xs)), S1)) D σ H) : tAsg (tDF X.K mf) (gName i) D σ H := by
  obtain ⟨g, H0, L, S, f, La, S', cr, e, q⟩ := h
  obtain ⟨ds, S1, e1, e2⟩ := of_bnd e
  cases e2
  refine ⟨g, H0, L, S, ds, _, cr, e1, fun p vs g1 H1 x1 s1 hp r w n z => ?_⟩
  have c1 := cr.ext x1 s1
  have z0 : H0 p = none := by
    cases k : H0 p with
    | none => rfl
    | some o =>
      obtain ⟨o', h'⟩ := cr.l.old p o k
      rw [z] at h'; cases h'
  refine q (σ.set i (some (.ref p))) g1 H1 (fun g0 z => z.trans x1) (x1.w cr.s.cw) ⟨s1, c1.l.setOwn hp r w n z0 fun j es hj _ hs => ?_⟩
  obtain ⟨a, xs, h1, h2, _⟩ := cr.l.own j es hj
  rw [hs] at h1
  cases h1
  rw [z] at h2; cases h2
theorem ps_ownD {i : Nat} (hN : X.N.Nodup) (hi : X.N[i]? = some x) (hx : L2.Loc X.env.scope x) (he : PE X e (tDF X.K mf)) (hs : swapsWith e (some (.Name x p')) pos.line X.env = pure false) (hf : X.fn x = true ∨ X.env.scope.names.lookup x = some .local) :
    PS X (.Assign [.Name x p'] e pos) (tDS X.K fun L S => bnd (mf L S) fun xs S1 => some ((.nx, L.set i (.own xs)), S1)) := (ps_set hN hi hx he hs hf).wk fun D σ H h => own_wk σ H D h
/-- a new cell -/
theorem ps_newcD {i : Nat} (hN : X.N.Nodup) (hi : X.N[i]? = some x) (hx : L2.Loc X.env.scope x) (hl : ∀ L S xs S', mes L S = some (xs, S') → xs.length ≤ line) (he : PA X es (tDA X.K mes)) (hf : X.fn x = true ∨ X.env.scope.names.lookup x = some .local) :
    PS X (.Assign [.Name x p'] (.List es p) pos) (tDS X.K fun L S => bnd (mes L S) fun xs S1 => bnd (lft (unVs xs) S1) fun ds S1 => some ((.nx, L.set i (.dat (.cell S1.length))), S1 ++ [ds])) := by
  refine (ps_set hN hi hx (pe_lst he) rfl hf).wk fun D σ H h => ?_
  obtain ⟨g, H0, L, S, f, La, S', cr, e, q⟩ := h
  obtain ⟨xs, S1, e1, e2⟩ := of_bnd e
  obtain ⟨ds, S2, e3, e4⟩ := of_bnd e2
  obtain ⟨e5, eS⟩ := of_lft e3
  subst eS
  cases e4
  refine ⟨g, H0, L, S, xs, _, cr, e1, fun vs g1 H1 x1 s1 r1 => ⟨by rw [r1.length, line_eq]; exact hl _ _ _ _ e1, fun p hp => ?_⟩⟩
  obtain ⟨x2, s2, r2⟩ := new_cell s1 hp (r1.strict e5)
  have c2 := (cr.ext x1 s1).ext x2 s2
  exact q _ _ _ (fun g0 z => (z.trans x1).trans x2) ((x1.w cr.s.cw).trans (x2.w s1.cw)) (c2.set r2)
theorem ps_retcD (hl : ∀ L S xs S', mes L S = some (xs, S') → xs.length ≤ line) (he : PA X es (tDA X.K mes)) :
    PS X (.Return (some (.List es p)) pos) (tDS X.K fun L S => bnd (mes L S) fun xs S1 => bnd (lft (unVs xs) S1) fun ds S1 => some ((.ret (.cell S1.length), L), S1 ++ [ds])) := by
  refine (ps_ret (pe_lst he)).wk fun D σ H h => ?_
  obtain ⟨g, H0, L, S, f, La, S', cr, e, q⟩ := h
  obtain ⟨xs, S1, e1, e2⟩ := of_bnd e
  obtain ⟨ds, S2, e3, e4⟩ := of_bnd e2
  obtain ⟨e5, eS⟩ := of_lft e3
  subst eS
  cases e4
  refine ⟨g, H0, L, S, xs, _, cr, e1, fun vs g1 H1 x1 s1 r1 => ⟨by rw [r1.length, line_eq]; exact hl _ _ _ _ e1, fun p hp => ?_⟩⟩
  obtain ⟨x2, s2, r2⟩ := new_cell s1 hp (r1.strict e5)
  exact q _ _ _ (fun g0 z => (z.trans x1).trans x2) s2 r2
/-- a list of one's own is left as it is: nothing in the text -/
theorem pss_fzD {i : Nat} (h2 : PSs X sts (tDS X.K ms')) : PSs X sts (tDS X.K fun L S => bnd (match L[i]? with
    | some (.own xs) => some ((Fl.nx, L.set i (.dat (.lst xs))), S)
    | _ => some ((Fl.nx, L), S)) fun r S1 => match r.1 with
    | .nx => ms' r.2 S1
    | f => some ((f, r.2), S1)) := by
  refine h2.wk fun D σ H h => ?_
  obtain ⟨g, H0, L, S, f, La, S', cr, e, q⟩ := h
  obtain ⟨⟨f1, L1⟩, S1, e1, e2⟩ := of_bnd e
  split at e1
  · rename_i ds hi
    cases e1
    obtain ⟨a, xs, k1, k2, r, w, n, z0⟩ := cr.l.own i ds hi
    exact ⟨g.minus a, H0, _, _, f, La, S', ⟨cr.s.minus n, cr.l.freeze hi k1⟩, e2, q.on (fun g0 z => z.minus z0) ExtW.minus⟩
  · cases e1
    exact ⟨g, H0, _, _, f, La, S', cr, e2, q⟩
/-- x.append(e) -/
theorem ps_appD {i : Nat} (hN : X.N[i]? = some x) (hv : Vis X.env.scope x) (hd : (x == ("__debug__" : Str)) = false) (hcd : (x == ("__classdict__" : Str)) = false) (he : PE X e (tD X.K ma)) {ap : Pos}
    (hs : starEach (e :: []) X.env = (false, eval e X.env) :: starEach [] X.env) (hline : (ap.endLine == p'.line) = true)
    (hfew : ((backTo p' (starEach (e :: []) X.env)).all (fun x => !x.1) && (backToKw p' (keywordEach [] X.env)).all (fun x => x.1.isSome)
      && decide ((e :: ([] : List Expr)).length + ([] : List Keyword).length + (if ([] : List Keyword).isEmpty then 0 else 1) < 30)) = true) :
    PS X (.Expr (.Call (.Attribute (.Name x p) "append" ap) [e] [] p') pos) (tDS X.K fun L S => bnd (ma L S) fun x S1 => bnd (lft (unV x) S1) fun d S1 => match L[i]? with
    | some (.own xs) => if xs.length < line then some ((.nx, L.set i (.own (xs ++ [d]))), S1) else none
    | _ => none) := by
  refine (ps_expr (pe_bm PySem.F.plainAttrs_list PySem.F.slot_list_append PySem.F.type_list_append mt_append (pe_var hN hv hd hcd) (pa_cons he pa_nil hs) rfl hfew hline hs rfl) rfl).wk fun D σ H h => ?_
  obtain ⟨g, H0, L, S, f, La, S', cr, e, q⟩ := h
  obtain ⟨dx, S1, e1, e2⟩ := of_bnd e
  obtain ⟨d, S2, e3, e4⟩ := of_bnd e2
  obtain ⟨e5, eS⟩ := of_lft e3
  subst eS
  split at e4
  · rename_i ds hi
    split at e4
    · rename_i hz
      cases e4
      obtain ⟨a, xs, k1, k2, r, w, n, z0⟩ := cr.l.own i ds hi
      refine ⟨_, k1, Or.inl ⟨rfl, _, Or.inl (Or.inl k2)⟩, g, H0, L, S, dx, _, cr, e1, fun v g1 H1 x1 s1 r1 => ?_⟩
      have c1 := cr.ext x1 s1
      obtain ⟨a', xs', k1', k2', r', w', n', _⟩ := c1.l.own i ds hi
      rw [k1] at k1'; cases k1'
      have rd : Rp X.K g1 H1 v d := by
        cases dx with
        | d z => cases e5; exact r1
        | b z => cases e5
      refine ⟨a, xs', v, rfl, rfl, k2', by rw [r'.length, line_eq]; exact hz, ?_⟩
      exact q σ g1 _ (fun g0 z => (z.trans x1).wroteNew z0) ((x1.w cr.s.cw).trans (ExtW.wrote w')) ⟨s1.wrote w' n', c1.l.upOwn hi k1 (r'.append (.cons rd .nil))⟩
    · cases e4
  · cases e4
theorem Rps.dropLast {K : PySem.W.Frag} {g : Gh} {H : Hp} {vs : List V} {ds : List D} (r : Rps K g H vs ds) : Rps K g H vs.dropLast ds.dropLast := by
  rw [List.dropLast_eq_take, List.dropLast_eq_take, r.length]
  exact r.take _
/-- x.pop() -/
theorem ps_popD {i : Nat} (hN : X.N[i]? = some x) (hv : Vis X.env.scope x) (hd : (x == ("__debug__" : Str)) = false) (hcd : (x == ("__classdict__" : Str)) = false) {ap : Pos} (hline : (ap.endLine == p'.line) = true) :
    PS X (.Expr (.Call (.Attribute (.Name x p) "pop" ap) [] [] p') pos) (tDS X.K fun L S => match L[i]? with
    | some (.own xs) => if xs.length = 0 then none else some ((.nx, L.set i (.own xs.dropLast)), S)
    | _ => none) := by
  refine (ps_expr (pe_bm0 PySem.F.plainAttrs_list PySem.F.slot_list_pop PySem.F.type_list_pop mt_pop (pe_var hN hv hd hcd) rfl hline) rfl).wk fun D σ H h => ?_
  obtain ⟨g, H0, L, S, f, La, S', cr, e, q⟩ := h
  dsimp only at e
  split at e
  · rename_i ds hi
    split at e
    · cases e
    · rename_i hz
      cases e
      obtain ⟨a, xs, k1, k2, r, w, n, z0⟩ := cr.l.own i ds hi
      have l1 := r.length
      have hlt : xs.length - 1 < xs.length := by omega
      refine ⟨_, k1, Or.inl ⟨rfl, _, Or.inl (Or.inl k2)⟩, a, xs, xs[xs.length - 1], rfl, rfl, k2, by simp [hlt], ?_⟩
      exact q σ g _ (fun g0 z => z.wroteNew z0) (ExtW.wrote w) ⟨cr.s.wrote w n, cr.l.upOwn hi k1 r.dropLast⟩
  · cases e
/-- x op= e, whole numbers -/
def rA : BO → V → V → Hp → VK → Prop
  | .add => rI0 fun i j => .int (i + j)
  | .sub => rI0 fun i j => .int (i - j)
  | _ => fun _ _ _ _ => False
theorem ip_A (o : BO) : PIp X o.op (rA o) := by
  cases o with
  | add => exact iop_add
  | sub => exact iop_sub
  | _ => exact fun _ _ _ _ _ _ _ _ _ _ _ _ h => h.elim
theorem ps_augD {i : Nat} (o : BO) (hN : X.N.Nodup) (hi : X.N[i]? = some x) (hx : L2.Loc X.env.scope x) (he : PE X e (tD X.K ma)) (hf : X.fn x = true ∨ X.env.scope.names.lookup x = some .local) :
    PS X (.AugAssign (.Name x p) o.op e pos) (tDS X.K fun L S => match L[i]? with
    | some (.dat d) => bnd (ma L S) fun y S1 => bnd (lft (augV o d y) S1) fun z S1 => some ((.nx, L.set i (.dat z)), S1)
    | _ => none) := by
  refine (ps_aug hN hi hx he (ip_A o) hf).wk fun D σ H h => ?_
  obtain ⟨g, H0, L, S, f, La, S', cr, e, q⟩ := h
  dsimp only at e
  split at e
  · rename_i d hd
    obtain ⟨dy, S1, e1, e2⟩ := of_bnd e
    obtain ⟨z, S2, e3, e4⟩ := of_bnd e2
    obtain ⟨e5, eS⟩ := of_lft e3
    subst eS
    cases e4
    obtain ⟨v, h1, r⟩ := cr.l.dat i d hd
    refine ⟨v, h1, g, H0, L, S, dy, _, cr, e1, fun u g1 H1 x1 s1 r1 => ?_⟩
    have fin : ∀ k : Int, z = .int k → D.nx (σ.set i (some (.int k))) H1 := fun k hk => by
      subst hk
      exact q _ g1 H1 (fun g0 z => z.trans x1) (x1.w cr.s.cw) ((cr.ext x1 s1).set (.int k))
    unfold augV at e5
    split at e5
    · cases e5
      cases r
      exact ⟨_, _, rfl, r1.intV, fin _ rfl⟩
    · cases e5
      cases r
      exact ⟨_, _, rfl, r1.intV, fin _ rfl⟩
    · cases e5
  · cases e
end
end PD

set_option Elab.async false
set_option linter.all false
set_option maxRecDepth 100000
set_option maxHeartbeats 4000000
/-! PD, part j: loops, stores in a row, comprehensions stored. -/
namespace PD
open PySem PySem.Spec PyProof.Rows L2

section
variable {X : Cx} {e a b c : Expr} {es : List Expr} {ma mb mc : Ms Va} {mes : Ms (List Va)} {mw mf : Ms (List D)} {pos p p' : Pos} {x y : Str} {st : Stmt} {sts sts' : List Stmt} {ms ms' : Ms (Fl × Loc)}
  {sl : List Nat} {pu : Bool} {mg : D → Ms Loc} {tg iter : Expr}
theorem ps_forD (hp : PassesOwn (model X.prog X.w) X.A X.env X.xe) (hc : X.calm = true) (hi : PI X tg iter (tDI X.K false mw)) (hg : PG X tg (tDG X.K sl pu mg)) (hb : PSs X sts (tDS X.K ms))
    (hs : ∀ x, foldedSetIterable iter X.env x = pure x) :
    PS X (.For tg iter sts [] pos) (tDS X.K fun L S => bnd (mw L S) fun ds S1 => forL (fun d L S => bnd (mg d L S) fun Lb S2 => ms Lb S2) ds L S1) := by
  refine (ps_for hp hc hi hg hb hs).wk fun D σ H h => ?_
  obtain ⟨g, H0, L, S, f, La, S', cr, e, q⟩ := h
  obtain ⟨ds, S1, e1, e2⟩ := of_bnd e
  refine ⟨g, H0, L, S, ds, S1, cr, e1, fun J g1 H1 x1 s1 j => ?_⟩
  have c1 := cr.ext x1 s1
  have q1 := q.on (fun g0 z => z.trans x1) (x1.w cr.s.cw)
  refine ⟨fun i m σ H => m = ds.length - i ∧ i ≤ ds.length ∧ ∃ g2 Lc S2, (∀ g0, Ext g0 H0 g1 H1 → Ext g0 H0 g2 H) ∧ ExtW g1 H1 g2 H ∧ Cr X.K g2 H0 σ H Lc S2 ∧
      forL (fun d L S => bnd (mg d L S) fun Lb S2 => ms Lb S2) (ds.drop i) Lc S2 = some ((f, La), S'),
    ⟨ds.length, by simp, Nat.zero_le _, g1, L, S1, fun _ z => z, ExtW.refl, c1, by simpa using e2⟩, ?_⟩
  rintro i m σ2 H2 ⟨rfl, hi, g2, Lc, S2, x2, w2, c2, e3⟩
  have jj := j g2 H2 S2 (by simpa using w2) c2.s
  by_cases hlt : i < ds.length
  · right
    obtain ⟨go, yl⟩ := jj.1 i ds[i] (by simp [hlt])
    rw [List.drop_eq_getElem_cons hlt] at e3
    unfold forL at e3
    obtain ⟨⟨f1, L1⟩, S3, e4, e5⟩ := of_bnd e3
    obtain ⟨Lb, S4, e6, e7⟩ := of_bnd e4
    refine ⟨go, fun σ H => i + 1 ≤ ds.length ∧ ∃ g2 Lc S2, (∀ g0, Ext g0 H0 g1 H1 → Ext g0 H0 g2 H) ∧ ExtW g1 H1 g2 H ∧ Cr X.K g2 H0 σ H Lc S2 ∧
      forL (fun d L S => bnd (mg d L S) fun Lb S2 => ms Lb S2) (ds.drop (i + 1)) Lc S2 = some ((f, La), S'), fun σ' H' hH => ⟨ds.length - (i + 1), by omega, rfl, hH⟩, fun v H3 y => ?_⟩
    obtain ⟨x3, s3, r3⟩ := yl v H3 y
    refine ⟨g2, H0, Lc, S2, _, Lb, S4, c2.ext x3 s3, r3, e6, fun σ4 g4 H4 x4 w4 c4 _ _ _ => ?_⟩
    have x14 : ∀ g0, Ext g0 H0 g1 H1 → Ext g0 H0 g4 H4 := fun g0 z => x4 g0 ((x2 g0 z).trans x3)
    have w14 : ExtW g1 H1 g4 H4 := w2.trans ((x3.w c2.s.cw).trans w4)
    refine ⟨g4, H0, Lb, S4, f1, L1, S3, c4, e7, ?_⟩
    cases f1 with
    | nx => exact fun σ5 g5 H5 x5 w5 c5 => ⟨hlt, g5, L1, S3, fun g0 z => x5 g0 (x14 g0 z), w14.trans w5, c5, e5⟩
    | cnt => exact fun σ5 g5 H5 x5 w5 c5 => ⟨hlt, g5, L1, S3, fun g0 z => x5 g0 (x14 g0 z), w14.trans w5, c5, e5⟩
    | brk =>
      cases e5
      exact (q1.on x14 w14 : aft X.K g4 H0 H4 D .nx _ _)
    | ret d =>
      cases e5
      exact (q1.on x14 w14 : aft X.K g4 H0 H4 D (.ret d) _ _)
  · left
    have ei : i = ds.length := by omega
    subst ei
    refine ⟨jj.2, ?_⟩
    rw [List.drop_length] at e3
    cases e3
    exact (q1.on x2 w2 : aft X.K g2 H0 H2 D .nx _ _) σ2 g2 H2 (fun _ z => z) ExtW.refl c2
theorem ps_whD {mt : Ms Bool} (hp : PassesOwn (model X.prog X.w) X.A X.env X.xe) (hc : PT X c (tDT X.K mt)) (hb : PSs X sts (tDS X.K ms)) :
    PS X (.While c sts [] pos) (tDS X.K fun L S => whL mt ms L S) := by
  refine (ps_while hp hc hb).wk fun D σ H h => ?_
  obtain ⟨g, H0, L, S, f, La, S', cr, e, q⟩ := h
  obtain ⟨n, hn⟩ := of_whL e
  refine ⟨fun m σ H2 => ∃ g2 Lc S2, (∀ g0, Ext g0 H0 g H → Ext g0 H0 g2 H2) ∧ ExtW g H g2 H2 ∧ Cr X.K g2 H0 σ H2 Lc S2 ∧ whN mt ms m Lc S2 = some ((f, La), S'),
    ⟨n, g, L, S, fun _ z => z, ExtW.refl, cr, hn⟩, ?_⟩
  rintro m σ2 H2 ⟨g2, Lc, S2, x2, w2, c2, e3⟩
  cases m with
  | zero => cases e3
  | succ m =>
    unfold whN at e3
    obtain ⟨k, S3, e4, e5⟩ := of_bnd e3
    refine ⟨g2, H0, Lc, S2, k, S3, c2, e4, fun g3 H3 x3 s3 => ?_⟩
    have c3 := c2.ext x3 s3
    have x13 : ∀ g0, Ext g0 H0 g H → Ext g0 H0 g3 H3 := fun g0 z => (x2 g0 z).trans x3
    have w13 : ExtW g H g3 H3 := w2.trans (x3.w c2.s.cw)
    cases k with
    | false =>
      simp only [Bool.false_eq_true, if_false] at e5 ⊢
      cases e5
      exact (q.on x13 w13 : aft X.K g3 H0 H3 D .nx _ _) σ2 g3 H3 (fun _ z => z) ExtW.refl c3
    | true =>
      simp only [if_true] at e5 ⊢
      obtain ⟨⟨f1, L1⟩, S4, e6, e7⟩ := of_bnd e5
      refine ⟨fun σ H2 => ∃ g2 Lc S2, (∀ g0, Ext g0 H0 g H → Ext g0 H0 g2 H2) ∧ ExtW g H g2 H2 ∧ Cr X.K g2 H0 σ H2 Lc S2 ∧ whN mt ms m Lc S2 = some ((f, La), S'), fun σ' H' hH => ⟨m, Nat.lt_succ_self m, hH⟩, g3, H0, Lc, S3, f1, L1, S4, c3, e6, ?_⟩
      cases f1 with
      | nx => exact fun σ5 g5 H5 x5 w5 c5 => ⟨g5, L1, S4, fun g0 z => x5 g0 (x13 g0 z), w13.trans w5, c5, e7⟩
      | cnt => exact fun σ5 g5 H5 x5 w5 c5 => ⟨g5, L1, S4, fun g0 z => x5 g0 (x13 g0 z), w13.trans w5, c5, e7⟩
      | brk =>
        cases e7
        exact (q.on x13 w13 : aft X.K g3 H0 H3 D .nx _ _)
      | ret d =>
        cases e7
        exact (q.on x13 w13 : aft X.K g3 H0 H3 D (.ret d) _ _)

/-! ### comprehensions stored at once -/
variable {elt : Expr} {ifs : List Expr} {scope : Scope} {own : List (Str × Nat)} {mt : Ms Bool} {me : Ms Va}
/-- name = [..], the name's own -/
theorem ps_ownLc {i : Nat} (hc : X.calm = true) (hN : X.N.Nodup) (hy : X.N[i]? = some y) (hyl : X.env.scope.names.lookup y = some .local)
    (hsw : swapsWith (.ListComp elt [⟨tg, iter, ifs, 0⟩] scope p) (some (.Name y p')) pos.line X.env = pure true) (hi : PI X tg iter (tDI X.K true mw)) (ok : BlkOk X.N X.env.scope scope own)
    (hsl : ∀ j ∈ sl, j ∈ own.map (·.2))
    (hg : ∀ (s : Shared) (H : Hp) (C : Addr) (cl : List (Str × Addr)) (fp : List Addr), PG (X.blk s H scope (compEnvC scope cl C X.env) fp) tg (tDG X.K sl true mg))
    (ht : ∀ (s : Shared) (H : Hp) (C : Addr) (cl : List (Str × Addr)) (fp : List Addr), PTs (X.blk s H scope (compEnvC scope cl C X.env) fp) ifs (tDT X.K mt))
    (he : ∀ (s : Shared) (H : Hp) (C : Addr) (cl : List (Str × Addr)) (fp : List Addr), PE (X.blk s H scope (compEnvC scope cl C X.env) fp) elt (tD X.K me)) (hs : ∀ x, foldedSetIterable iter X.env x = pure x) :
    PS X (.Assign [.Name y p'] (.ListComp elt [⟨tg, iter, ifs, 0⟩] scope p) pos) (tDS X.K fun L S => bnd (bnd (mw L S) fun ds S1 => if ds.length < line then compL (mC mg mt me (wipeL L (own.map (·.2)))) ds S1 else none) fun xs S1 => some ((.nx, L.set i (.own xs)), S1)) := by
  refine (ps_setLc hc hN hy hyl hsw hi ok hg ht he hs).wk fun D σ H h => ?_
  have h2 := own_wk σ H D h
  exact comp_wk hsl σ H _ h2
/-- name = [..], a datum -/
theorem ps_asgLc {i : Nat} (hc : X.calm = true) (hN : X.N.Nodup) (hy : X.N[i]? = some y) (hyl : X.env.scope.names.lookup y = some .local)
    (hsw : swapsWith (.ListComp elt [⟨tg, iter, ifs, 0⟩] scope p) (some (.Name y p')) pos.line X.env = pure true) (hi : PI X tg iter (tDI X.K true mw)) (ok : BlkOk X.N X.env.scope scope own)
    (hsl : ∀ j ∈ sl, j ∈ own.map (·.2))
    (hg : ∀ (s : Shared) (H : Hp) (C : Addr) (cl : List (Str × Addr)) (fp : List Addr), PG (X.blk s H scope (compEnvC scope cl C X.env) fp) tg (tDG X.K sl true mg))
    (ht : ∀ (s : Shared) (H : Hp) (C : Addr) (cl : List (Str × Addr)) (fp : List Addr), PTs (X.blk s H scope (compEnvC scope cl C X.env) fp) ifs (tDT X.K mt))
    (he : ∀ (s : Shared) (H : Hp) (C : Addr) (cl : List (Str × Addr)) (fp : List Addr), PE (X.blk s H scope (compEnvC scope cl C X.env) fp) elt (tD X.K me)) (hs : ∀ x, foldedSetIterable iter X.env x = pure x) :
    PS X (.Assign [.Name y p'] (.ListComp elt [⟨tg, iter, ifs, 0⟩] scope p) pos) (tDS X.K fun L S => bnd (bnd (bnd (mw L S) fun ds S1 => if ds.length < line then compL (mC mg mt me (wipeL L (own.map (·.2)))) ds S1 else none) fun xs S1 => some (Va.d (.lst xs), S1)) fun x S1 => bnd (lft (unV x) S1) fun d S1 => bnd (some (L.set i (.dat d), S1)) fun Lb S2 => some ((.nx, Lb), S2)) := by
  refine (ps_setLc hc hN hy hyl hsw hi ok hg ht he hs).wk fun D σ H h => ?_
  refine comp_wk hsl σ H _ ?_
  obtain ⟨g, H0, L, S, f, La, S', cr, e, q⟩ := h
  obtain ⟨x0, S1, e1, e2⟩ := of_bnd e
  obtain ⟨xs, S2, e3, e4⟩ := of_bnd e1
  cases e4
  cases e2
  refine ⟨g, H0, L, S, xs, _, cr, e3, fun p vs g1 H1 x1 s1 hp r w n z => ?_⟩
  have c1 := cr.ext x1 s1
  have z0 : H0 p = none := by
    cases k : H0 p with
    | none => rfl
    | some o =>
      obtain ⟨o', h'⟩ := cr.l.old p o k
      rw [z] at h'; cases h'
  have lz : LR X.K (g1.minus p) H0 σ H1 L := by
    refine ⟨c1.l.len, c1.l.old, fun j d hj => ?_, fun j es hj => ?_, c1.l.inj⟩
    · obtain ⟨v, k1, k2⟩ := c1.l.dat j d hj
      exact ⟨v, k1, k2.minus⟩
    · obtain ⟨a, ys, k1, k2, k3, k4, k5, k6⟩ := c1.l.own j es hj
      obtain ⟨a', ys', k1', k2', _⟩ := cr.l.own j es hj
      rw [k1] at k1'; cases k1'
      exact ⟨a, ys, k1, k2, k3.minus, ⟨k4, fun q => by rw [q, z] at k2'; cases k2'⟩, k5, k6⟩
  exact q _ (g1.minus p) H1 (fun g0 zz => (zz.trans x1).minus z0) ((x1.w cr.s.cw).trans ExtW.minus) ⟨s1.minus n, lz.set (.lst (.inl ⟨.inl hp, fun q => q.2 rfl⟩) r.minus)⟩

/-! ### a, b = x, y: stored from the right -/
def setσ : List Nat → List V → L2.St → L2.St
  | j :: js, v :: vs, σ => setσ js vs (σ.set j (some v))
  | _, _, σ => σ
theorem Cr.setAll {K : PySem.W.Frag} {g : Gh} {H0 H : Hp} {S : Store} : ∀ {js : List Nat} {vs : List V} {ds : List D} {σ : L2.St} {L : Loc}, Cr K g H0 σ H L S → Rps K g H vs ds → Cr K g H0 (setσ js vs σ) H (PD.setAll js ds L) S
  | [], _, _, _, _, c, _ => by unfold setσ PD.setAll; exact c
  | _ :: _, _, _, _, _, c, .nil => by unfold setσ PD.setAll; exact c
  | _ :: js, _, _, _, _, c, .cons h r => Cr.setAll (js := js) (c.set h) r
theorem stores_run {H : Hp} {pins : List (Addr × Obj)} (hN : X.N.Nodup) (Q : Unit → Shared → Prop) : ∀ (js : List Nat) (ns : List Str) (vs : List V) (us : List Value) (σ : L2.St) (s : Shared), L2.Inv X pins σ H s → Vals vs us →
    js.length = ns.length → ns.length = vs.length → (∀ (i : Nat) j n, js[i]? = some j → ns[i]? = some n → X.N[j]? = some n ∧ X.env.scope.names.lookup n = some .local) → (∀ s', L2.Inv X pins (setσ js vs σ) H s' → Q () s') →
    wpAny (model X.prog X.w) X.A (assignInOrder (ns.map fun n v => bindName X.env n v) us) Q X.xe s := by
  intro js
  induction js with
  | nil =>
    intro ns vs us σ s I r l1 l2 h q
    cases ns with
    | cons _ _ => cases l1
    | nil =>
      cases r with
      | cons _ _ => cases l2
      | nil => exact assignInOrder_nil (q s I)
  | cons j js ih =>
    intro ns vs us σ s I r l1 l2 h q
    cases ns with
    | nil => cases l1
    | cons n ns =>
      cases r with
      | nil => cases l2
      | cons r rs =>
        obtain ⟨h1, h2⟩ := h 0 j n rfl rfl
        refine assignInOrder_cons (wpAny_bindName (store_ok I hN h1 (.inl h2) r (fun s2 I2 => ?_) (.inr h2)))
        exact ih ns _ _ _ s2 I2 rs (by simpa using l1) (by simpa using l2) (fun i j n k1 k2 => h (i + 1) j n (by simpa using k1) (by simpa using k2)) q
theorem ps_parD {ts : List Expr} {kt k2 : Nat} {pt pt2 : Pos} {ns : List Str} {is : List Nat} (hc : X.calm = true) (hN : X.N.Nodup)
    (hix : ∀ (i : Nat) j n, is[i]? = some j → ns[i]? = some n → X.N[j]? = some n ∧ X.env.scope.names.lookup n = some .local) (hl : is.length = ns.length) (hz : ns.length ≤ 1000)
    (ha : PA X es (tDA X.K mes)) (hw : swappedStores [.Tuple ts kt pt] (.Tuple es k2 pt2) X.env = pure (some ns)) :
    PS X (.Assign [.Tuple ts kt pt] (.Tuple es k2 pt2) pos) (tDS X.K fun L S => bnd (mes L S) fun xs S1 => bnd (lft (unVs xs) S1) fun ds S1 => if ds.length = is.length then some ((.nx, setAll is.reverse ds.reverse L), S1) else none) := by
  refine ⟨fun pins s σ H D I h => ?_⟩
  obtain ⟨g, H0, L, S, f, La, S', cr, e, q⟩ := h
  obtain ⟨xs, S1, e1, e2⟩ := of_bnd e
  obtain ⟨ds, S2, e3, e4⟩ := of_bnd e2
  obtain ⟨e5, eS⟩ := of_lft e3
  subst eS
  split at e4
  · rename_i hds
    cases e4
    rw [exec_Assign_arm]
    refine wpAny_bind (wpAny_standAt ?_)
    rw [show swapsWithSole [.Tuple ts kt pt] (.Tuple es k2 pt2) pos.line X.env = pure false from rfl]
    refine wpAny_bind (wpAny_pure ?_)
    rw [if_neg Bool.false_ne_true]
    refine wpAny_bind (Tuple_ (thn (ha.run _ pins s σ H (fun vs H1 => ∃ g1, Ext g H g1 H1 ∧ Gs X.K g1 H1 S' ∧ RpVs X.K g1 H1 vs xs) I ⟨g, H0, L, S, xs, S', cr, e1, fun vs g1 H1 x1 s1 r1 => ⟨g1, x1, s1, r1⟩⟩) ?_))
    rintro us s1 ⟨vs, H1, I1, r1, g1, x1, t1, v1⟩
    have lv : vs.length = ns.length := by rw [v1.length, ← unVs_len e5, hds, hl]
    have lu : us.length = ns.length := by rw [← r1.length, lv]
    refine wpAny_newObj_type ?_ (by
      show us.length ≤ sizeLine
      have z1000 : (1000 : Nat) ≤ sizeLine := by decide
      omega)
    have I2 : Inv X pins σ H1 { s1 with heap := s1.heap.push { cls := .type "tuple", data := .seq us.toArray } } := I1.kept (t' := s1.toks) fun b o e => Heap.get?_push_of_some _ e
    rw [hw]
    refine wpAny_bind (wpAny_pure ?_)
    show wpAny (model X.prog X.w) X.A (do rule "assign.swapped-stores"; let items ← unpackItems (.ref s1.heap.objs.size) ns.length none; assignInOrder (ns.reverse.map fun n => bindName X.env n) items.reverse; pure Flow.next) _ _ _
    refine wpAny_bind (wpAny_rule (wpAny_bind ?_))
    rw [show ns.length = us.toArray.size by simp [lu]]
    refine unpackItems_tuple (items := us.toArray) (I.ok.hd hc) (IsTup.new s1.heap _) fun h' hx' => ?_
    have I3 := I2.kept (h' := h') (t' := s1.toks) fun b o e => hx' b o (Nat.ne_of_lt (Heap.lt_size e)) e
    refine wpAny_bind ?_
    refine stores_run hN _ is.reverse ns.reverse vs.reverse us.reverse σ _ I3 r1.reverse (by simp [hl]) (by simp [lv]) (fun i j n k1 k2 => ?_) fun s' I' => ?_
    · have hi : i < is.length := by
        have := (List.getElem?_eq_some_iff.mp k1).1
        simpa using this
      rw [List.getElem?_reverse hi] at k1
      rw [List.getElem?_reverse (by omega)] at k2
      exact hix _ j n k1 (by rw [hl]; exact k2)
    · refine wpAny_pure ?_
      have rp := v1.strict e5
      have c1 := cr.ext x1 t1
      exact ⟨_, H1, I', q _ g1 H1 (fun g0 z => z.trans x1) (x1.w cr.s.cw) (c1.setAll (js := is.reverse) rp.reverse)⟩
  · cases e4
end
end PD

set_option Elab.async false
set_option linter.all false
set_option maxRecDepth 100000
set_option maxHeartbeats 4000000
/-! PD, part k: the text against the small language; the one theorem. -/
namespace PD
open PySem PySem.Spec PyProof.Rows L2

structure Ck where
  N : List Str
  sn : List (Str × NameKind)
  fc : Str → Bool

def okN (x : Str) : Bool := !(x == ("__debug__" : Str)) && !(x == ("__classdict__" : Str))
def Ck.vis (C : Ck) (x : Str) : Bool := match C.sn.lookup x with
  | some .local => true | some .cell => true | some .free => true | _ => false
def Ck.loc (C : Ck) (x : Str) : Bool := match C.sn.lookup x with
  | some .local => true | some .cell => C.fc x | _ => false
def Ck.gl (C : Ck) (x : Str) : Bool := match C.sn.lookup x with
  | some .globalImplicit => okN x | _ => false
def Ck.nm (C : Ck) (i : Nat) (x : Str) : Bool := decide (C.N[i]? = some x) && C.vis x && okN x
def Ck.tg (C : Ck) (i : Nat) (x : Str) : Bool := decide (C.N[i]? = some x) && C.loc x
def isStar : Expr → Bool
  | .Starred _ _ => true | _ => false
def isComp : Expr → Bool
  | .ListComp .. => true | .SetComp .. => true | .DictComp .. => true | _ => false
def isSetE : Expr → Bool
  | .Set .. => true | _ => false
def isSlc : Expr → Bool
  | .Slice .. => true | _ => false
def plainTest : Expr → Bool
  | .UnaryOp .. => false | .BoolOp .. => false | .IfExp .. => false | .Compare .. => false | _ => true
def boE (op : BoolOp) (l : List Expr) (pos : Pos) : Expr := match l with
  | [y] => y
  | l => .BoolOp op l pos
def relN (names sn : List (Str × NameKind)) : List (Str × NameKind) :=
  names.map fun (n, k) => if (k == NameKind.free && true && sn.lookup n == some .cell) then (n, NameKind.cell) else (n, k)
def scOf (sn : List (Str × NameKind)) : Scope := { kind := .function, names := sn, isGenerator := false, isCoroutine := false }
def Ck.blk (C : Ck) (scope : Scope) : Ck := ⟨C.N, relN scope.names C.sn, fun x => scope.names.lookup x == some .cell⟩
def ownP (N : List Str) (own : List Nat) : List (Str × Nat) := own.map fun i => (N.getD i ("" : Str), i)
mutual
def Tg.slots : Tg → List Nat
  | .nm i => [i] | .tup ts => Tgs.slots ts | .sub _ _ => []
def Tgs.slots : Tgs → List Nat
  | .nil => [] | .cons t ts => t.slots ++ Tgs.slots ts
end
mutual
def Tg.pu : Tg → Bool
  | .nm _ => true | .tup ts => Tgs.pu ts | .sub _ _ => false
def Tgs.pu : Tgs → Bool
  | .nil => true | .cons t ts => t.pu && Tgs.pu ts
end
def Xps.len : Xps → Nat
  | .nil => 0 | .cons _ es => es.len + 1
def Tgs.len : Tgs → Nat
  | .nil => 0 | .cons _ es => es.len + 1
def litB : D → Const → Bool
  | .int i, .int j => decide (i = j) | .bl i, .bool j => i == j | .non, .none => true | .str x, .str y => decide (x = y) | _, _ => false
def biB (G : Gam) (x : Str) (b : Bi) : Bool :=
  (decide (x ∈ G.fre) && decide (bootBuiltins x = some b.val) && !decide (x = ("__name__" : Str))) || (G.bfs.any (fun p => decide (p.1 = x) && decide (p.2 = b.id)) && decide (b.val = .builtin b.id))

def isBo : Expr → Bool
  | .BoolOp .. => true | _ => false

variable (G : Gam)
mutual
/-- md: as a test -/
def chX (C : Ck) : Bool → Xp → Expr → Bool
  | _, .nm i, ex => match ex with | .Name x _ => C.nm i x | _ => false
  | _, .gc j, ex => match ex with | .Name x _ => C.gl x && (match G.cons[j]? with | some p => decide (p.1 = x) | none => false) | _ => false
  | _, .lit d, ex => match ex with | .Constant c _ _ => litB d c | _ => false
  | _, .bin o a b, ex => match ex with | .BinOp x op y _ => decide (op = o.op) && chX C false a x && chX C false b y | _ => false
  | md, .neg a, ex => match ex with | .UnaryOp .USub x _ => !md && chX C false a x | _ => false
  | _, .cmp o a b, ex => match ex with | .Compare x [op] [y] _ => decide (op = o.op) && !behindInMarks o.op y && chX C false a x && chX C false b y | _ => false
  | _, .cmp2 o o' a b c, ex => match ex with | .Compare x [op, op'] [y, z] _ => decide (op = o.op) && decide (op' = o'.op) && !behindInMarks o'.op z && chX C false a x && chX C false b y && chX C false c z | _ => false
  | md, .and a b, ex => match ex with | .BoolOp .And (x :: y :: r) pos => chX C md a x && chX C md b (boE .And (y :: r) pos) | _ => false
  | md, .or a b, ex => match ex with | .BoolOp .Or (x :: y :: r) pos => chX C md a x && chX C md b (boE .Or (y :: r) pos) | _ => false
  | md, .not a, ex => match ex with | .UnaryOp .Not x _ => chX C md a x | _ => false
  | md, .ife c a b, ex => match ex with | .IfExp t x y _ => !md && chX C true c t && chX C false a x && chX C false b y | _ => false
  | _, .tup es, ex => match ex with | .Tuple xs _ _ => chXs C es xs && decide (es.len ≤ 1000) | _ => false
  | _, .ix a b, ex => match ex with | .Subscript x y _ => !isSlc y && chX C false a x && chX C false b y | _ => false
  | _, .slc a lo hi, ex => match ex with | .Subscript x (.Slice l h none _) _ => chX C false a x && chO C lo l && chO C hi h | _ => false
  | _, .call j es ks, ex => match ex with
    | .Call (.Name x _) xs kws _ => C.gl x && (match G.ents[j]? with | some e => decide (e.name = x) && decide (kws.map (·.arg) = e.ks.map some) | none => false) && chXs C es xs && chKs C ks kws
    | _ => false
  | _, .bi b es, ex => match ex with | .Call (.Name x _) (y :: ys) [] _ => C.gl x && biB G x b && chXs C es (y :: ys) | _ => false
  | _, .isi a t, ex => match ex with
    | .Call (.Name x _) [y, .Name z _] [] _ => C.gl x && C.gl z && decide (x = ("isinstance" : Str)) && decide (x ∈ G.fre) && decide (z ∈ G.fre) && decide (bootBuiltins z = some (.type t)) && !decide (z = ("__name__" : Str)) && !isStar y && chX C false a y
    | _ => false
  | md, .fr f, ex => !md && chF C f ex
def chXs (C : Ck) : Xps → List Expr → Bool
  | .nil, l => match l with | [] => true | _ => false
  | .cons e es, l => match l with | x :: xs => !isStar x && chX C false e x && chXs C es xs | _ => false
def chKs (C : Ck) : Xps → List Keyword → Bool
  | .nil, l => match l with | [] => true | _ => false
  | .cons e es, l => match l with | k :: ks => chX C false e k.value && chKs C es ks | _ => false
def chO (C : Ck) : Xo → Option Expr → Bool
  | .none, o => match o with | none => true | _ => false
  | .some e, o => match o with | some x => chX C false e x | _ => false
def chF (C : Ck) : Fx → Expr → Bool
  | .disp es, ex => match ex with | .List xs _ => chXs C es xs && decide (es.len ≤ 1000) | _ => false
  | .comp elt t w c own, ex => match ex with
    | .ListComp x [⟨tg, it, ifs, as⟩] scope _ => decide (as = 0) && !isSetE it && chW C w it && blkC C.N (scOf C.sn) scope (ownP C.N own) && t.pu && decide (∀ j ∈ t.slots, j ∈ own) &&
        chG (C.blk scope) t tg && chC (C.blk scope) c ifs && chX (C.blk scope) false elt x
    | _ => false
  | .list e, ex => match ex with | .Call (.Name x _) [y] [] _ => C.gl x && decide (x = ("list" : Str)) && decide (x ∈ G.fre) && !isStar y && chX C false e y | _ => false
  | .cat a b, ex => match ex with | .BinOp x .Add y _ => chX C false a x && chX C false b y | _ => false
  | .rep f b, ex => match ex with | .BinOp x .Mult y _ => chF C f x && chX C false b y | _ => false
  | .slc a lo hi, ex => match ex with | .Subscript x (.Slice l h none _) _ => chX C false a x && chO C lo l && chO C hi h | _ => false
def chC (C : Ck) : Xo → List Expr → Bool
  | .none, l => match l with | [] => true | _ => false
  | .some e, l => match l with | [x] => chX C true e x | _ => false
def chW (C : Ck) : Wk → Expr → Bool
  | .seq e, ex => chX C false e ex
  | .bor i, ex => match ex with | .Name x _ => C.nm i x | _ => false
  | .range1 a, ex => match ex with | .Call (.Name x _) [y] [] _ => C.gl x && decide (x = ("range" : Str)) && decide (x ∈ G.fre) && !isStar y && chX C false a y | _ => false
  | .range2 a b, ex => match ex with | .Call (.Name x _) [y, z] [] _ => C.gl x && decide (x = ("range" : Str)) && decide (x ∈ G.fre) && !isStar y && !isStar z && chX C false a y && chX C false b z | _ => false
def chG (C : Ck) : Tg → Expr → Bool
  | .nm i, ex => match ex with | .Name x _ => C.tg i x | _ => false
  | .tup ts, ex => match ex with | .Tuple xs _ _ => chGs C ts xs | _ => false
  | .sub i b, ex => match ex with | .Subscript (.Name x _) y _ => C.nm i x && !isSlc y && chX C false b y | _ => false
def chGs (C : Ck) : Tgs → List Expr → Bool
  | .nil, l => match l with | [] => true | _ => false
  | .cons t ts, l => match l with | x :: xs => !isStar x && chG C t x && chGs C ts xs | _ => false
end

/-! ### what the text's forms ask besides -/
theorem star_of {x : Expr} {r : List Expr} {env : PySem.Env} (h : isStar x = false) : starEach (x :: r) env = (false, eval x env) :: starEach r env := by
  cases x <;> first | rfl | cases h
theorem asgn_of {x : Expr} {r : List Expr} {env : PySem.Env} (h : isStar x = false) : assignEach (x :: r) env = (false, assign x env) :: assignEach r env := by
  cases x <;> first | rfl | cases h
theorem ix_of {y : Expr} (h : isSlc y = false) : PlainIx y := by
  cases y <;> first | (exact fun _ _ => rfl) | cases h
theorem fold_of {y : Expr} {env : PySem.Env} (h : isSetE y = false) (x : Value) : foldedSetIterable y env x = pure x := by
  cases y <;> first | rfl | cases h
theorem swaps_of {v : Expr} {t : Option Expr} {l : Nat} {env : PySem.Env} (h : isComp v = false) : swapsWith v t l env = pure false := by
  cases v <;> first | rfl | cases h
theorem test_of {a : Expr} {env : PySem.Env} (h : plainTest a = true) (whole : Sem Value) : isTrue a env whole = (do let v ← whole; standAt a.pos; holding [v] (truthy v)) := by
  cases a <;> first | rfl | cases h
theorem asub_of {y : Expr} {x : Str} {p pos : Pos} {env : PySem.Env} (h : isSlc y = false) (v : Value) : assign (.Subscript (.Name x p) y pos) env v = (do
      let ov ← holding [v] (eval (.Name x p) env)
      let iv ← holding [v, ov] (eval y env)
      standAt pos
      holding [v, ov, iv] (setItem ov iv v)
      release [v, ov, iv] []) := by
  cases y <;> first | rfl | cases h
/-- the swapped stores of a, b = x, y -/
def swapB (sn : List (Str × NameKind)) (ts vs : List Expr) : Option (Option (List Str)) :=
  if (!(ts.length == 2 || ts.length == 3) || vs.length != ts.length) = true then some none
  else if vs.any isStar = true then some none
  else
    let names := ts.filterMap fun | .Name id pos => if sn.lookup id == some .local && pos.line == (ts.head?.map (·.pos.line)).getD 0 then some id else none | _ => none
    if (names.length != ts.length || names.eraseDups.length != names.length) = true then some none
    else if vs.all (foldedForSure 8) = true then some none
    else if vs.all (constantsAlone 8) = true then none
    else some (some names)
theorem swap_of {env : PySem.Env} {ts vs : List Expr} {k k2 : Nat} {p p2 : Pos} {r : Option (List Str)} (hk : env.scope.kind = .function) (h : swapB env.scope.names ts vs = some r) :
    swappedStores [.Tuple ts k p] (.Tuple vs k2 p2) env = pure r := by
  have hb : env.blockKind = .function := by unfold PySem.Env.blockKind; rw [hk]; rfl
  unfold swapB at h
  unfold swappedStores
  simp only [hb, bne_self_eq_false, Bool.or_false]
  split at h
  · rename_i c1
    cases h
    exact if_pos c1
  · rename_i c1
    refine (if_neg c1).trans ?_
    split at h
    · rename_i c2
      cases h
      exact if_pos c2
    · rename_i c2
      refine (if_neg c2).trans ?_
      dsimp only at h
      split at h
      · rename_i c3
        cases h
        exact if_pos c3
      · rename_i c3
        refine (if_neg c3).trans ?_
        split at h
        · rename_i c4
          cases h
          exact if_pos c4
        · rename_i c4
          refine (if_neg c4).trans ?_
          split at h
          · cases h
          · rename_i c5
            cases h
            exact if_neg c5
end PD

set_option Elab.async false
set_option linter.all false
set_option maxRecDepth 100000
set_option maxHeartbeats 8000000
/-! PD, part l: the one theorem, expressions. -/
namespace PD
open PySem PySem.Spec PyProof.Rows L2

structure Xok (G : Gam) (X : Cx) (C : Ck) (k : Nat) : Prop where
  calm : X.calm = true
  room : Room k X.A
  grd : X.A.guards = some []
  N : X.N = C.N
  nd : X.N.Nodup
  sn : X.env.scope.names = C.sn
  kind : X.env.scope.kind = .function
  fc : ∀ x, C.fc x = true → X.fn x = true
  fre : ∀ x ∈ G.fre, X.mg x = none
  con : ∀ p ∈ G.cons, ∃ v u, X.mg p.1 = some u ∧ RelV v u ∧ ∀ g H, Rp X.K g H v p.2
  bfs : ∀ p ∈ G.bfs, X.mg p.1 = some (.builtin p.2)
  ent : ∀ e ∈ G.ents, EntOk X.prog X.w X.K X.mg X.base k e

section
variable {G : Gam} {X : Cx} {C : Ck} {k : Nat}
theorem Xok.un (o : Xok G X C k) : X.A.units + 66 < cLine := by have := o.room.un; omega
theorem okN_of {x : Str} (h : okN x = true) : (x == ("__debug__" : Str)) = false ∧ (x == ("__classdict__" : Str)) = false := by
  simpa [okN] using h
theorem Xok.gl (o : Xok G X C k) {x : Str} (h : C.gl x = true) : Gl X x ∧ (x == ("__debug__" : Str)) = false := by
  unfold Ck.gl at h
  split at h
  · rename_i e
    exact ⟨by show X.env.scope.names.lookup x = _; rw [o.sn]; exact e, (okN_of h).1⟩
  · cases h
theorem Xok.vis (o : Xok G X C k) {x : Str} (h : C.vis x = true) : Vis X.env.scope x := by
  unfold Ck.vis at h
  unfold Vis
  rw [o.sn]
  split at h
  · rename_i e; exact .inl e
  · rename_i e; exact .inr (.inl e)
  · rename_i e; exact .inr (.inr e)
  · cases h
theorem Xok.loc (o : Xok G X C k) {x : Str} (h : C.loc x = true) : L2.Loc X.env.scope x ∧ (X.fn x = true ∨ X.env.scope.names.lookup x = some .local) := by
  unfold Ck.loc at h
  unfold L2.Loc
  rw [o.sn]
  split at h
  · rename_i e; exact ⟨.inl e, .inr e⟩
  · rename_i e; exact ⟨.inr e, .inl (o.fc x h)⟩
  · cases h
theorem Xok.nm (o : Xok G X C k) {i : Nat} {x : Str} (h : C.nm i x = true) : X.N[i]? = some x ∧ Vis X.env.scope x ∧ (x == ("__debug__" : Str)) = false ∧ (x == ("__classdict__" : Str)) = false := by
  simp only [Ck.nm, Bool.and_eq_true, decide_eq_true_eq] at h
  exact ⟨by rw [o.N]; exact h.1.1, o.vis h.1.2, okN_of h.2⟩
theorem Xok.tg (o : Xok G X C k) {i : Nat} {x : Str} (h : C.tg i x = true) : X.N[i]? = some x ∧ L2.Loc X.env.scope x ∧ (X.fn x = true ∨ X.env.scope.names.lookup x = some .local) := by
  simp only [Ck.tg, Bool.and_eq_true, decide_eq_true_eq] at h
  exact ⟨by rw [o.N]; exact h.1, o.loc h.2⟩
theorem blk_ok {scope : Scope} {own : List (Str × Nat)} (o : Xok G X C k) (h : blkC C.N (scOf C.sn) scope own = true) : BlkOk X.N X.env.scope scope own := by
  have b := blkOk_by h
  refine ⟨b.kind, b.uniq, by rw [o.N]; exact b.ix, fun y hy e => ?_, by rw [o.N]; exact b.own⟩
  have q := b.free y hy e
  rw [o.sn]
  exact q
theorem Xok.blk {scope : Scope} (o : Xok G X C k) (hk : scope.kind = .function) (s : Shared) (H : Hp) (A : Addr) (cl : List (Str × Addr)) (fp : List Addr) : Xok G (X.blk s H scope (compEnvC scope cl A X.env) fp) (C.blk scope) k := by
  refine ⟨o.calm, o.room, o.grd, o.N, o.nd, ?_, hk, fun x h => h, o.fre, o.con, o.bfs, o.ent⟩
  show (scope.names.map fun (n, k) => if (k == NameKind.free && X.env.scope.kind == .function && X.env.kindOf n == some .cell) then (n, NameKind.cell) else (n, k)) = relN scope.names C.sn
  unfold relN
  rw [o.kind, ← o.sn]
  rfl
theorem ownP_snd (N : List Str) (own : List Nat) : (ownP N own).map (·.2) = own := by
  unfold ownP
  rw [List.map_map]
  exact List.map_id _
theorem evXs_len : ∀ (es : Xps) (L : Loc) (S : Store) (xs : List Va) (S' : Store), evXs G es L S = some (xs, S') → xs.length = es.len
  | .nil, L, S, xs, S', h => by cases h; rfl
  | .cons e es, L, S, xs, S', h => by
    have h : bnd (evX G e L S) (fun x S1 => bnd (evXs G es L S1) fun xs S2 => some (x :: xs, S2)) = some (xs, S') := h
    obtain ⟨x, S1, _, h2⟩ := of_bnd h
    obtain ⟨ys, S2, h3, h4⟩ := of_bnd h2
    cases h4
    rw [List.length_cons, evXs_len es L S1 ys _ h3]
    rfl
theorem evGs_len : ∀ (ts : Tgs) (ds : List D) (L : Loc) (S : Store) (r : Loc × Store), evGs G ts ds L S = some r → ds.length = ts.len
  | .nil, [], L, S, r, h => rfl
  | .nil, _ :: _, L, S, r, h => by cases h
  | .cons t ts, [], L, S, r, h => by cases h
  | .cons t ts, d :: ds, L, S, r, h => by
    have h : bnd (evG G t d L S) (fun L1 S1 => evGs G ts ds L1 S1) = some r := h
    obtain ⟨L1, S1, _, h2⟩ := of_bnd h
    rw [List.length_cons, evGs_len ts ds L1 S1 r h2]
    rfl
end

/-- a < b < c -/
theorem tD_chain {K : PySem.W.Frag} {ma mb mc : Ms Va} (o o' : CO) (σ : L2.St) (H : Hp) (Q : VK)
    (h : tD K (fun L S => bnd (ma L S) fun x S1 => bnd (mb L S1) fun y S2 => bnd (lft (cmpV o x y) S2) fun k S2 => if k = true then bnd (mc L S2) fun z S3 => lft ((cmpV o' y z).map fun c => .d (.bl c)) S3 else some (.d (.bl false), S2)) σ H Q) :
    tChain (rC K o) (rC K o') (tD K ma) (tD K mb) (tD K mc) σ H Q := by
  obtain ⟨g, H0, L, S, x, S', cr, e, q⟩ := h
  obtain ⟨dx, S1, e1, e2⟩ := of_bnd e
  obtain ⟨dy, S2, e3, e4⟩ := of_bnd e2
  obtain ⟨b, S3, e5, e6⟩ := of_bnd e4
  obtain ⟨e7, eS⟩ := of_lft e5
  subst eS
  refine ⟨g, H0, L, S, dx, S1, cr, e1, fun v g1 H1 x1 s1 r1 => ⟨g1, H0, L, S1, dy, _, cr.ext x1 s1, e3, fun u g2 H2 x2 s2 r2 => ?_⟩⟩
  have r1' := r1.ext x2 s1.cw
  refine rC_ok o g2 H2 _ v u dx dy b _ s2 r1' r2 e7 ⟨b, rfl, ?_⟩
  cases b with
  | true =>
    simp only [if_true] at e6 ⊢
    obtain ⟨dz, S4, e8, e9⟩ := of_bnd e6
    obtain ⟨c, e10, rfl, rfl⟩ := of_mapb e9
    refine ⟨g2, H0, L, _, dz, _, (cr.ext x1 s1).ext x2 s2, e8, fun w g3 H3 x3 s3 r3 => ?_⟩
    exact rC_ok o' g3 H3 _ u w dy dz c Q s3 (r2.ext x3 s2.cw) r3 e10 (q _ g3 H3 (x1.trans (x2.trans x3)) s3 (.bl c))
  | false =>
    simp only [Bool.false_eq_true, if_false] at e6 ⊢
    cases e6
    exact q _ g2 H2 (x1.trans x2) s2 (.bl false)
end PD

set_option Elab.async false
set_option linter.all false
set_option maxRecDepth 100000
set_option maxHeartbeats 8000000
/-! PD, part m: the one theorem, expressions (II). -/
namespace PD
open PySem PySem.Spec PyProof.Rows L2

/-- what is shown of an expression: as a value, as a test -/
def SX (X : Cx) (md : Bool) (ex : Expr) (m : Ms Va) : Prop :=
  (md = false → PE X ex (tD X.K m)) ∧ (md = true → PT X ex (tDT X.K (mT m)) ∧ (isBo ex = true → PW X ex (tDT X.K (mT m))))
theorem SX.e {X : Cx} {ex : Expr} {m : Ms Va} (h : SX X false ex m) : PE X ex (tD X.K m) := h.1 rfl
theorem SX.t {X : Cx} {ex : Expr} {m : Ms Va} (h : SX X true ex m) : PT X ex (tDT X.K (mT m)) := (h.2 rfl).1
theorem SX.of {X : Cx} {md : Bool} {ex : Expr} {m : Ms Va} (h : PE X ex (tD X.K m)) (hp : plainTest ex = true) : SX X md ex m :=
  ⟨fun _ => h, fun _ => ⟨pt_of h (test_of hp), fun z => by cases ex <;> cases z <;> cases hp⟩⟩
theorem SX.val {X : Cx} {md : Bool} {ex : Expr} {m : Ms Va} (h : PE X ex (tD X.K m)) (hm : md = false) : SX X md ex m :=
  ⟨fun _ => h, fun z => by rw [hm] at z; cases z⟩
theorem bo_pe {X : Cx} {op : BoolOp} {y : Expr} {r : List Expr} {pos : Pos} {t : TE} (h : PE X (boE op (y :: r) pos) t) : PE X (.BoolOp op (y :: r) pos) t := by
  cases r with
  | nil => exact pe_one h
  | cons z r => exact h
theorem bo_pw {X : Cx} {md : Bool} {y : Expr} {r : List Expr} {pos : Pos} {m : Ms Va} (h : SX X true (boE .And (y :: r) pos) m) : PW X (.BoolOp .And (y :: r) pos) (tDT X.K (mT m)) := by
  cases r with
  | nil => exact pw_and1 h.t
  | cons z r => exact (h.2 rfl).2 rfl
theorem bo_pwO {X : Cx} {md : Bool} {y : Expr} {r : List Expr} {pos : Pos} {m : Ms Va} (h : SX X true (boE .Or (y :: r) pos) m) : PW X (.BoolOp .Or (y :: r) pos) (tDT X.K (mT m)) := by
  cases r with
  | nil => exact pw_or1 h.t
  | cons z r => exact (h.2 rfl).2 rfl
theorem all_some {kws : List Keyword} {pos : Pos} {env : PySem.Env} {ks : List Str} (h : kws.map (·.arg) = ks.map some) :
    (backToKw pos (keywordEach kws env)).all (·.1.isSome) = true ∧ (backToKw pos (keywordEach kws env)).filterMap (·.1) = ks ∧ (backToKw pos (keywordEach kws env)).any (·.1.isNone) = false := by
  induction kws generalizing ks with
  | nil =>
    cases ks with
    | nil => exact ⟨rfl, rfl, rfl⟩
    | cons _ _ => cases h
  | cons k kws ih =>
    cases ks with
    | nil => cases h
    | cons n ks =>
      simp only [List.map_cons, List.cons.injEq] at h
      obtain ⟨h1, h2⟩ := h
      obtain ⟨i1, i2, i3⟩ := ih h2
      obtain ⟨arg, val, kp⟩ := k
      have h1 : arg = some n := h1
      subst h1
      refine ⟨?_, ?_, ?_⟩
      · show (true && (backToKw pos (keywordEach kws env)).all (·.1.isSome)) = true
        rw [i1]; rfl
      · show n :: (backToKw pos (keywordEach kws env)).filterMap (·.1) = n :: ks
        rw [i2]
      · show (false || (backToKw pos (keywordEach kws env)).any (·.1.isNone)) = false
        rw [i3]; rfl
/-- no star among the arguments -/
def noStars : List Expr → Bool
  | [] => true | x :: xs => !isStar x && noStars xs
theorem stars_any {env : PySem.Env} {pos : Pos} : ∀ {xs : List Expr}, noStars xs = true → (backTo pos (starEach xs env)).any (·.1) = false
  | [], _ => rfl
  | x :: xs, h => by
    simp only [noStars, Bool.and_eq_true, Bool.not_eq_true'] at h
    rw [star_of h.1]
    show (false || (backTo pos (starEach xs env)).any (·.1)) = false
    rw [stars_any h.2]; rfl

variable {G : Gam}
theorem chXs_stars {C : Ck} : ∀ {es : Xps} {xs : List Expr}, chXs G C es xs = true → noStars xs = true
  | .nil, xs, h => by
    have h : (match (generalizing := false) xs with | [] => true | _ => false) = true := h
    split at h
    · rfl
    · cases h
  | .cons e es, xs, h => by
    have h : (match (generalizing := false) xs with | x :: xs => !isStar x && chX G C false e x && chXs G C es xs | _ => false) = true := h
    split at h
    · simp only [Bool.and_eq_true] at h
      simp only [noStars, Bool.and_eq_true]
      exact ⟨h.1.1, chXs_stars h.2⟩
    · cases h
theorem bi_of {X : Cx} {C : Ck} {k : Nat} (o : Xok G X C k) {x : Str} {b : Bi} (h : biB G x b = true) :
    (X.mg x = none ∧ bootBuiltins x = some b.val ∧ x ≠ "__name__") ∨ (X.mg x = some (.builtin b.id) ∧ b.val = .builtin b.id) := by
  simp only [biB, Bool.or_eq_true, Bool.and_eq_true, decide_eq_true_eq, Bool.not_eq_true', decide_eq_false_iff_not, List.any_eq_true] at h
  rcases h with h | ⟨⟨p, hp, e1, e2⟩, e3⟩
  · exact .inl ⟨o.fre x h.1.1, h.1.2, h.2⟩
  · refine .inr ⟨?_, e3⟩
    have := o.bfs p hp
    rw [e1, e2] at this
    exact this

mutual
theorem sX (k : Nat) : ∀ (e : Xp) (md : Bool) (C : Ck) (X : Cx) (ex : Expr), Xok G X C k → chX G C md e ex = true → SX X md ex (evX G e)
  | .nm i, md, C, X, ex, o, h => by
    have h : (match (generalizing := false) ex with | .Name x _ => C.nm i x | _ => false) = true := h
    split at h
    · obtain ⟨h1, h2, h3, h4⟩ := o.nm h
      exact .of (pd_nm h1 h2 h3 h4) rfl
    · cases h
  | .gc j, md, C, X, ex, o, h => by
    have h : (match (generalizing := false) ex with | .Name x _ => C.gl x && (match G.cons[j]? with | some p => decide (p.1 = x) | none => false) | _ => false) = true := h
    split at h
    · rename_i x _ _
      rw [Bool.and_eq_true] at h
      obtain ⟨h1, h2⟩ := o.gl h.1
      cases hj : G.cons[j]? with
      | none => rw [hj] at h; cases h.2
      | some p =>
        rw [hj] at h
        have hx : p.1 = x := of_decide_eq_true h.2
        obtain ⟨v, u, m1, m2, m3⟩ := o.con p (List.mem_of_getElem? hj)
        rw [hx] at m1
        have e : evX G (.gc j) = fun _ S => some (.d p.2, S) := by
          funext L S
          show (match G.cons[j]? with | some p => some (Va.d p.2, S) | none => none) = _
          rw [hj]
        rw [e]
        exact .of (pd_const (pe_glob h1 m1 m2 h2) m3) rfl
    · cases h
  | .lit d, md, C, X, ex, o, h => by
    have h : (match (generalizing := false) ex with | .Constant c _ _ => litB d c | _ => false) = true := h
    split at h
    · rename_i c _ _
      refine .of ?_ rfl
      unfold litB at h
      split at h
      · have e := of_decide_eq_true h; subst e; exact pd_const pe_int fun g H => .int _
      · have e := beq_iff_eq.mp h; subst e; exact pd_const pe_bl fun g H => .bl _
      · exact pd_const pe_non fun g H => .non
      · have e := of_decide_eq_true h; subst e; exact pd_const pe_str fun g H => .str _
      · cases h
    · cases h
  | .bin q a b, md, C, X, ex, o, h => by
    have h : (match (generalizing := false) ex with | .BinOp x op y _ => decide (op = q.op) && chX G C false a x && chX G C false b y | _ => false) = true := h
    split at h
    · simp only [Bool.and_eq_true, decide_eq_true_eq] at h
      obtain ⟨⟨rfl, h1⟩, h2⟩ := h
      exact .of (pd_bin q (sX k a false C X _ o h1).e (sX k b false C X _ o h2).e) rfl
    · cases h
  | .neg a, md, C, X, ex, o, h => by
    have h : (match (generalizing := false) ex with | .UnaryOp .USub x _ => !md && chX G C false a x | _ => false) = true := h
    split at h
    · simp only [Bool.and_eq_true, Bool.not_eq_true'] at h
      exact .val (pd_neg (sX k a false C X _ o h.2).e) h.1
    · cases h
  | .cmp q a b, md, C, X, ex, o, h => by
    have h : (match (generalizing := false) ex with | .Compare x [op] [y] _ => decide (op = q.op) && !behindInMarks q.op y && chX G C false a x && chX G C false b y | _ => false) = true := h
    split at h
    · simp only [Bool.and_eq_true, decide_eq_true_eq, Bool.not_eq_true'] at h
      obtain ⟨⟨⟨rfl, h0⟩, h1⟩, h2⟩ := h
      have ha := (sX k a false C X _ o h1).e
      have hb := (sX k b false C X _ o h2).e
      have hu : X.A.units + 65 < cLine := by have := o.un; omega
      exact ⟨fun _ => pd_cmp q hu h0 ha hb, fun _ => ⟨pt_cmpD q hu h0 ha hb, fun z => by cases z⟩⟩
    · cases h
  | .cmp2 q q' a b c, md, C, X, ex, o, h => by
    have h : (match (generalizing := false) ex with | .Compare x [op, op'] [y, z] _ => decide (op = q.op) && decide (op' = q'.op) && !behindInMarks q'.op z && chX G C false a x && chX G C false b y && chX G C false c z | _ => false) = true := h
    split at h
    · simp only [Bool.and_eq_true, decide_eq_true_eq, Bool.not_eq_true'] at h
      obtain ⟨⟨⟨⟨⟨rfl, rfl⟩, h0⟩, h1⟩, h2⟩, h3⟩ := h
      have ha := (sX k a false C X _ o h1).e
      have hb := (sX k b false C X _ o h2).e
      have hc := (sX k c false C X _ o h3).e
      have hu : X.A.units + 65 < cLine := by have := o.un; omega
      refine ⟨fun _ => (pe_chain (op_C q hu) (op_C q' hu) ha hb hc h0).wk (tD_chain q q'), fun _ => ⟨(pt_chain (op_C q hu) (op_C q' hu) ha hb hc h0).wk fun σ H Q hq => ?_, fun z => by cases z⟩⟩
      exact tD_chain q q' σ H _ (mT_val σ H Q hq)
    · cases h
  | .and a b, md, C, X, ex, o, h => by
    have h : (match (generalizing := false) ex with | .BoolOp .And (x :: y :: r) pos => chX G C md a x && chX G C md b (boE .And (y :: r) pos) | _ => false) = true := h
    split at h
    · simp only [Bool.and_eq_true] at h
      have ha := sX k a md C X _ o h.1
      have hb := sX k b md C X _ o h.2
      cases md with
      | false => exact ⟨fun _ => pd_and ha.e (bo_pe hb.e), fun z => by cases z⟩
      | true =>
        have w := pw_andD ha.t (bo_pw (md := true) hb)
        exact ⟨fun z => by (cases z), fun _ => ⟨w.pt, fun _ => w⟩⟩
    · cases h
  | .or a b, md, C, X, ex, o, h => by
    have h : (match (generalizing := false) ex with | .BoolOp .Or (x :: y :: r) pos => chX G C md a x && chX G C md b (boE .Or (y :: r) pos) | _ => false) = true := h
    split at h
    · simp only [Bool.and_eq_true] at h
      have ha := sX k a md C X _ o h.1
      have hb := sX k b md C X _ o h.2
      cases md with
      | false => exact ⟨fun _ => pd_or ha.e (bo_pe hb.e), fun z => by cases z⟩
      | true =>
        have w := pw_orD ha.t (bo_pwO (md := true) hb)
        exact ⟨fun z => by (cases z), fun _ => ⟨w.pt, fun _ => w⟩⟩
    · cases h
  | .not a, md, C, X, ex, o, h => by
    have h : (match (generalizing := false) ex with | .UnaryOp .Not x _ => chX G C md a x | _ => false) = true := h
    split at h
    · have ha := sX k a md C X _ o h
      cases md with
      | false => exact ⟨fun _ => pd_not ha.e, fun z => by cases z⟩
      | true => exact ⟨fun z => by (cases z), fun _ => ⟨pt_notD ha.t, fun z => by cases z⟩⟩
    · cases h
  | .ife c a b, md, C, X, ex, o, h => by
    have h : (match (generalizing := false) ex with | .IfExp t x y _ => !md && chX G C true c t && chX G C false a x && chX G C false b y | _ => false) = true := h
    split at h
    · simp only [Bool.and_eq_true, Bool.not_eq_true'] at h
      exact .val (pd_ife (sX k c true C X _ o h.1.1.2).t (sX k a false C X _ o h.1.2).e (sX k b false C X _ o h.2).e) h.1.1.1
    · cases h
  | .tup es, md, C, X, ex, o, h => by
    have h : (match (generalizing := false) ex with | .Tuple xs _ _ => chXs G C es xs && decide (es.len ≤ 1000) | _ => false) = true := h
    split at h
    · simp only [Bool.and_eq_true, decide_eq_true_eq] at h
      refine .of (pd_tup (fun L S xs S' e => ?_) (sXs k es C X _ o h.1)) rfl
      rw [evXs_len es L S xs S' e]
      exact Nat.le_trans h.2 (by decide)
    · cases h
  | .ix a b, md, C, X, ex, o, h => by
    have h : (match (generalizing := false) ex with | .Subscript x y _ => !isSlc y && chX G C false a x && chX G C false b y | _ => false) = true := h
    split at h
    · simp only [Bool.and_eq_true, Bool.not_eq_true'] at h
      exact .of (pd_ix (sX k a false C X _ o h.1.2).e (sX k b false C X _ o h.2).e (ix_of h.1.1)) rfl
    · cases h
  | .slc a lo hi, md, C, X, ex, o, h => by
    have h : (match (generalizing := false) ex with | .Subscript x (.Slice l h none _) _ => chX G C false a x && chO G C lo l && chO G C hi h | _ => false) = true := h
    split at h
    · simp only [Bool.and_eq_true] at h
      exact .of (pd_slc (sX k a false C X _ o h.1.1).e (sO k lo C X _ o h.1.2) (sO k hi C X _ o h.2)) rfl
    · cases h
  | .call j es ks, md, C, X, ex, o, h => by
    have h : (match (generalizing := false) ex with
      | .Call (.Name x _) xs kws _ => C.gl x && (match G.ents[j]? with | some e => decide (e.name = x) && decide (kws.map (·.arg) = e.ks.map some) | none => false) && chXs G C es xs && chKs G C ks kws
      | _ => false) = true := h
    split at h
    · rename_i x p xs kws pos _
      simp only [Bool.and_eq_true] at h
      obtain ⟨⟨⟨h1, h2⟩, h3⟩, h4⟩ := h
      obtain ⟨g1, g2⟩ := o.gl h1
      cases hj : G.ents[j]? with
      | none => rw [hj] at h2; cases h2
      | some e =>
        rw [hj] at h2
        simp only [Bool.and_eq_true, decide_eq_true_eq] at h2
        obtain ⟨rfl, hk⟩ := h2
        obtain ⟨a1, a2, a3⟩ := all_some (pos := pos) (env := X.env) hk
        have st := chXs_stars h3
        have ev : evX G (.call j es ks) = fun L S => bnd (evXs G es L S) fun xs S1 => bnd (evXs G ks L S1) fun zs S2 => bnd (lft (unVs (xs ++ zs)) S2) fun ds S2 =>
            if xs.length = e.n ∧ zs.length = e.ks.length then bnd (e.sem ds S2) fun d S3 => some (.d d, S3) else none := by
          funext L S
          show (match G.ents[j]? with
            | some e => bnd (evXs G es L S) fun xs S1 => bnd (evXs G ks L S1) fun zs S2 => bnd (lft (unVs (xs ++ zs)) S2) fun ds S2 =>
                if xs.length = e.n ∧ zs.length = e.ks.length then bnd (e.sem ds S2) fun d S3 => some (Va.d d, S3) else none
            | none => none) = _
          rw [hj]
        rw [ev]
        refine .of (pd_call (o.ent e (List.mem_of_getElem? hj)) o.room o.grd g1 (sXs k es C X _ o h3) (sKs k ks C X _ o h4) g2 a1 a2 (fun z => ?_) (fun y r z => ?_) ?_) rfl
        · subst z
          cases es with
          | nil => rfl
          | cons _ _ => cases h3
        · subst z
          simp only [noStars, Bool.and_eq_true, Bool.not_eq_true'] at st
          exact star_of st.1
        · rw [stars_any st, a3]; rfl
    · cases h
  | .bi b es, md, C, X, ex, o, h => by
    have h : (match (generalizing := false) ex with | .Call (.Name x _) (y :: ys) [] _ => C.gl x && biB G x b && chXs G C es (y :: ys) | _ => false) = true := h
    split at h
    · simp only [Bool.and_eq_true] at h
      obtain ⟨g1, g2⟩ := o.gl h.1.1
      have st := chXs_stars h.2
      simp only [noStars, Bool.and_eq_true, Bool.not_eq_true'] at st
      exact .of (pd_bi b o.calm o.grd o.un g1 (bi_of o h.1.2) (sXs k es C X _ o h.2) g2 (star_of st.1) (stars_any st.2)) rfl
    · cases h
  | .isi a t, md, C, X, ex, o, h => by
    have h : (match (generalizing := false) ex with
      | .Call (.Name x _) [y, .Name z _] [] _ => C.gl x && C.gl z && decide (x = ("isinstance" : Str)) && decide (x ∈ G.fre) && decide (z ∈ G.fre) && decide (bootBuiltins z = some (.type t)) && !decide (z = ("__name__" : Str)) && !isStar y && chX G C false a y
      | _ => false) = true := h
    split at h
    · simp only [Bool.and_eq_true, decide_eq_true_eq, Bool.not_eq_true', decide_eq_false_iff_not] at h
      obtain ⟨⟨⟨⟨⟨⟨⟨⟨h1, h2⟩, h3⟩, h4⟩, h5⟩, h6⟩, h7⟩, h8⟩, h9⟩ := h
      obtain ⟨g1, g2⟩ := o.gl h1
      obtain ⟨g3, g4⟩ := o.gl h2
      subst h3
      exact .of (pd_isi g1 (o.fre _ h4) (by decide +kernel) (by decide) g3 (o.fre _ h5) h6 h7 g2 g4 (sX k a false C X _ o h9).e (star_of h8)) rfl
    · cases h
  | .fr f, md, C, X, ex, o, h => by
    have h : (!md && chF G C f ex) = true := h
    simp only [Bool.and_eq_true, Bool.not_eq_true'] at h
    exact .val (pd_fr (sF k f C X ex o h.2)) h.1
theorem sXs (k : Nat) : ∀ (es : Xps) (C : Ck) (X : Cx) (xs : List Expr), Xok G X C k → chXs G C es xs = true → PA X xs (tDA X.K (evXs G es))
  | .nil, C, X, xs, o, h => by
    have h : (match (generalizing := false) xs with | [] => true | _ => false) = true := h
    split at h
    · exact pda_nil
    · cases h
  | .cons e es, C, X, xs, o, h => by
    have h : (match (generalizing := false) xs with | x :: xs => !isStar x && chX G C false e x && chXs G C es xs | _ => false) = true := h
    split at h
    · simp only [Bool.and_eq_true, Bool.not_eq_true'] at h
      exact pda_cons (sX k e false C X _ o h.1.2).e (sXs k es C X _ o h.2) (star_of h.1.1)
    · cases h
theorem sKs (k : Nat) : ∀ (es : Xps) (C : Ck) (X : Cx) (xs : List Keyword), Xok G X C k → chKs G C es xs = true → PK X xs (tDA X.K (evXs G es))
  | .nil, C, X, xs, o, h => by
    have h : (match (generalizing := false) xs with | [] => true | _ => false) = true := h
    split at h
    · exact pk_nilD
    · cases h
  | .cons e es, C, X, xs, o, h => by
    have h : (match (generalizing := false) xs with | x :: xs => chX G C false e x.value && chKs G C es xs | _ => false) = true := h
    split at h
    · rename_i x xs _
      simp only [Bool.and_eq_true] at h
      obtain ⟨nm, v, kp⟩ := x
      exact pk_consD (sX k e false C X _ o h.1).e (sKs k es C X _ o h.2)
    · cases h
theorem sO (k : Nat) : ∀ (e : Xo) (C : Ck) (X : Cx) (ex : Option Expr), Xok G X C k → chO G C e ex = true → PO X ex (tDO X.K (evO G e))
  | .none, C, X, ex, o, h => by
    have h : (match (generalizing := false) ex with | none => true | _ => false) = true := h
    split at h
    · exact po_noneD
    · cases h
  | .some e, C, X, ex, o, h => by
    have h : (match (generalizing := false) ex with | some x => chX G C false e x | _ => false) = true := h
    split at h
    · exact po_someD (sX k e false C X _ o h).e
    · cases h
theorem sF (k : Nat) : ∀ (f : Fx) (C : Ck) (X : Cx) (ex : Expr), Xok G X C k → chF G C f ex = true → PE X ex (tDF X.K (evF G f))
  | .disp es, C, X, ex, o, h => by
    have h : (match (generalizing := false) ex with | .List xs _ => chXs G C es xs && decide (es.len ≤ 1000) | _ => false) = true := h
    split at h
    · simp only [Bool.and_eq_true, decide_eq_true_eq] at h
      refine pf_disp (fun L S xs S' e => ?_) (sXs k es C X _ o h.1)
      rw [evXs_len es L S xs S' e]
      exact Nat.le_trans h.2 (by decide)
    · cases h
  | .comp elt t w c own, C, X, ex, o, h => by
    have h : (match (generalizing := false) ex with
      | .ListComp x [⟨tg, it, ifs, as⟩] scope _ => decide (as = 0) && !isSetE it && chW G C w it && blkC C.N (scOf C.sn) scope (ownP C.N own) && t.pu && decide (∀ j ∈ t.slots, j ∈ own) &&
          chG G (C.blk scope) t tg && chC G (C.blk scope) c ifs && chX G (C.blk scope) false elt x
      | _ => false) = true := h
    split at h
    · rename_i _ x tg it ifs as scope pos _
      simp only [Bool.and_eq_true, decide_eq_true_eq, Bool.not_eq_true'] at h
      obtain ⟨⟨⟨⟨⟨⟨⟨⟨rfl, h2⟩, h3⟩, h4⟩, h5⟩, h6⟩, h7⟩, h8⟩, h9⟩ := h
      have bk := blk_ok o h4
      have hw : PI X tg it (tDI X.K true (evW G w)) := by
        have q := sW k w C X tg it o h3
        cases e : w.isB with
        | true => exact q.2 e
        | false => exact PI.wk (q.1 e) tDI_weak
      have hg := fun s H A cl fp => sG k t (C.blk _) (X.blk s H _ (compEnvC _ cl A X.env) fp) _ (o.blk bk.kind s H A cl fp) h7
      rw [h5] at hg
      have r := pf_comp (X := X) (pos := pos) (own := ownP C.N own) o.calm o.nd hw bk (by rw [ownP_snd]; exact h6) hg (fun s H A cl fp => sC k c (C.blk _) (X.blk s H _ (compEnvC _ cl A X.env) fp) _ (o.blk bk.kind s H A cl fp) h8)
        (fun s H A cl fp => (sX k elt false (C.blk _) (X.blk s H _ (compEnvC _ cl A X.env) fp) _ (o.blk bk.kind s H A cl fp) h9).e) (fun x => fold_of h2 x)
      rw [ownP_snd] at r
      exact r
    · cases h
  | .list e, C, X, ex, o, h => by
    have h : (match (generalizing := false) ex with | .Call (.Name x _) [y] [] _ => C.gl x && decide (x = ("list" : Str)) && decide (x ∈ G.fre) && !isStar y && chX G C false e y | _ => false) = true := h
    split at h
    · simp only [Bool.and_eq_true, decide_eq_true_eq, Bool.not_eq_true'] at h
      obtain ⟨⟨⟨⟨h1, rfl⟩, h3⟩, h4⟩, h5⟩ := h
      exact pf_list (o.gl h1).1 (o.fre _ h3) (sX k e false C X _ o h5).e (star_of h4)
    · cases h
  | .cat a b, C, X, ex, o, h => by
    have h : (match (generalizing := false) ex with | .BinOp x .Add y _ => chX G C false a x && chX G C false b y | _ => false) = true := h
    split at h
    · simp only [Bool.and_eq_true] at h
      exact pf_cat (sX k a false C X _ o h.1).e (sX k b false C X _ o h.2).e
    · cases h
  | .rep f b, C, X, ex, o, h => by
    have h : (match (generalizing := false) ex with | .BinOp x .Mult y _ => chF G C f x && chX G C false b y | _ => false) = true := h
    split at h
    · simp only [Bool.and_eq_true] at h
      exact pf_rep (sF k f C X _ o h.1) (sX k b false C X _ o h.2).e
    · cases h
  | .slc a lo hi, C, X, ex, o, h => by
    have h : (match (generalizing := false) ex with | .Subscript x (.Slice l h none _) _ => chX G C false a x && chO G C lo l && chO G C hi h | _ => false) = true := h
    split at h
    · simp only [Bool.and_eq_true] at h
      exact pf_slc (sX k a false C X _ o h.1.1).e (sO k lo C X _ o h.1.2) (sO k hi C X _ o h.2)
    · cases h
theorem sC (k : Nat) : ∀ (e : Xo) (C : Ck) (X : Cx) (l : List Expr), Xok G X C k → chC G C e l = true → PTs X l (tDT X.K (evC G e))
  | .none, C, X, l, o, h => by
    have h : (match (generalizing := false) l with | [] => true | _ => false) = true := h
    split at h
    · refine ⟨fun pins s σ H Q I hq => pts_nil.run pins s σ H Q I ?_⟩
      obtain ⟨g, H0, L, S, x, S', cr, e, q⟩ := hq
      cases e
      exact q g H Ext.refl cr.s
    · cases h
  | .some e, C, X, l, o, h => by
    have h : (match (generalizing := false) l with | [x] => chX G C true e x | _ => false) = true := h
    split at h
    · exact pts_one (sX k e true C X _ o h).t
    · cases h
theorem sW (k : Nat) : ∀ (w : Wk) (C : Ck) (X : Cx) (tg ex : Expr), Xok G X C k → chW G C w ex = true → (w.isB = false → PI X tg ex (tDI X.K false (evW G w))) ∧ (w.isB = true → PI X tg ex (tDI X.K true (evW G w)))
  | .seq e, C, X, tg, ex, o, h => ⟨fun _ => pi_seq (sX k e false C X ex o h).e, fun z => by cases z⟩
  | .bor i, C, X, tg, ex, o, h => by
    have h : (match (generalizing := false) ex with | .Name x _ => C.nm i x | _ => false) = true := h
    split at h
    · obtain ⟨h1, h2, h3, h4⟩ := o.nm h
      exact ⟨fun z => by (cases z), fun _ => pi_bor h1 h2 h3 h4⟩
    · cases h
  | .range1 a, C, X, tg, ex, o, h => by
    have h : (match (generalizing := false) ex with | .Call (.Name x _) [y] [] _ => C.gl x && decide (x = ("range" : Str)) && decide (x ∈ G.fre) && !isStar y && chX G C false a y | _ => false) = true := h
    split at h
    · simp only [Bool.and_eq_true, decide_eq_true_eq, Bool.not_eq_true'] at h
      obtain ⟨⟨⟨⟨h1, rfl⟩, h3⟩, h4⟩, h5⟩ := h
      exact ⟨fun _ => pi_rng1 (o.gl h1).1 (o.fre _ h3) (sX k a false C X _ o h5).e (star_of h4), fun z => by cases z⟩
    · cases h
  | .range2 a b, C, X, tg, ex, o, h => by
    have h : (match (generalizing := false) ex with | .Call (.Name x _) [y, z] [] _ => C.gl x && decide (x = ("range" : Str)) && decide (x ∈ G.fre) && !isStar y && !isStar z && chX G C false a y && chX G C false b z | _ => false) = true := h
    split at h
    · simp only [Bool.and_eq_true, decide_eq_true_eq, Bool.not_eq_true'] at h
      obtain ⟨⟨⟨⟨⟨⟨h1, rfl⟩, h3⟩, h4⟩, h5⟩, h6⟩, h7⟩ := h
      exact ⟨fun _ => pi_rng2 (o.gl h1).1 (o.fre _ h3) (sX k a false C X _ o h6).e (sX k b false C X _ o h7).e (star_of h4) (star_of h5), fun z => by cases z⟩
    · cases h
theorem sG (k : Nat) : ∀ (t : Tg) (C : Ck) (X : Cx) (ex : Expr), Xok G X C k → chG G C t ex = true → PG X ex (tDG X.K t.slots t.pu (evG G t))
  | .nm i, C, X, ex, o, h => by
    have h : (match (generalizing := false) ex with | .Name x _ => C.tg i x | _ => false) = true := h
    split at h
    · obtain ⟨h1, h2, h3⟩ := o.tg h
      exact pg_nm o.nd h1 h2 h3
    · cases h
  | .tup ts, C, X, ex, o, h => by
    have h : (match (generalizing := false) ex with | .Tuple xs _ _ => chGs G C ts xs | _ => false) = true := h
    split at h
    · obtain ⟨q1, q2, q3⟩ := sGs k ts C X _ o h
      refine PG.wk (pg_tupD (n := ts.len) o.calm (fun ds L S r e => evGs_len ts ds L S r e) q1 q2 q3) fun v σ H Q z => by
        obtain ⟨g, H0, L, S, d, La, S', cr, rp, e, q⟩ := z
        refine ⟨g, H0, L, S, d, La, S', cr, rp, ?_, q⟩
        cases d <;> exact e
    · cases h
  | .sub i b, C, X, ex, o, h => by
    have h : (match (generalizing := false) ex with | .Subscript (.Name x _) y _ => C.nm i x && !isSlc y && chX G C false b y | _ => false) = true := h
    split at h
    · simp only [Bool.and_eq_true, Bool.not_eq_true'] at h
      obtain ⟨h1, h2, h3, h4⟩ := o.nm h.1.1
      exact pg_subD h1 h2 h3 h4 (sX k b false C X _ o h.2).e (fun v => asub_of h.1.2 v)
    · cases h
theorem sGs (k : Nat) : ∀ (ts : Tgs) (C : Ck) (X : Cx) (xs : List Expr), Xok G X C k → chGs G C ts xs = true → PGs X xs (tDGs X.K ts.slots ts.pu (evGs G ts)) ∧ (assignEach xs X.env).length = ts.len ∧ (assignEach xs X.env).findIdx? (·.1) = none
  | .nil, C, X, xs, o, h => by
    have h : (match (generalizing := false) xs with | [] => true | _ => false) = true := h
    split at h
    · refine ⟨pgs_nilD.wk fun v σ H Q z => ?_, rfl, rfl⟩
      obtain ⟨g, H0, L, S, d, La, S', cr, rp, e, q⟩ := z
      refine ⟨g, H0, L, S, d, La, S', cr, rp, ?_, q⟩
      cases d <;> exact e
    · cases h
  | .cons t ts, C, X, xs, o, h => by
    have h : (match (generalizing := false) xs with | x :: xs => !isStar x && chG G C t x && chGs G C ts xs | _ => false) = true := h
    split at h
    · rename_i _ x xs _
      simp only [Bool.and_eq_true, Bool.not_eq_true'] at h
      obtain ⟨q1, q2, q3⟩ := sGs k ts C X _ o h.2
      have q0 := sG k t C X _ o h.1.2
      have ae := asgn_of (env := X.env) (r := xs) h.1.1
      refine ⟨(pgs_consD q0 q1 (by rw [ae]; rfl)).wk fun v σ H Q z => ?_, by rw [ae, List.length_cons, q2]; rfl, by rw [ae, List.findIdx?_cons, q3]; rfl⟩
      obtain ⟨g, H0, L, S, d, La, S', cr, rp, e, q⟩ := z
      refine ⟨g, H0, L, S, d, La, S', cr, rp, ?_, q⟩
      cases d <;> exact e
    · cases h
end
end PD

set_option Elab.async false
set_option linter.all false
set_option maxRecDepth 100000
set_option maxHeartbeats 8000000
/-! PD, part n: the one theorem, statements. -/
namespace PD
open PySem PySem.Spec PyProof.Rows L2

/-- the new name of a list that is stored at once -/
def lcB (C : Ck) (x : Str) (px : Pos) (v : Expr) : Bool := match v with
  | .ListComp _ _ sc p => decide (C.sn.lookup x = some .local) && (px.line == p.line) && !(sc.names.any fun (n, k) => n == x && (k == .local || k == .cell))
  | _ => false
def swSel (sn : List (Str × NameKind)) (tg v : Expr) : Bool := match tg, v with
  | .Tuple ts _ _, .Tuple vs _ _ => decide (swapB sn ts vs = some none)
  | .List _ _, _ => false
  | _, _ => true
theorem swSel_ok {env : PySem.Env} {tg v : Expr} (hk : env.scope.kind = .function) (h : swSel env.scope.names tg v = true) : swappedStores [tg] v env = pure none := by
  unfold swSel at h
  split at h
  · exact swap_of hk (of_decide_eq_true h)
  · cases h
  · rename_i h1 h2
    cases tg <;> first | rfl | (exact (h1 _ _ rfl).elim) | skip
    cases v <;> first | rfl | exact (h2 _ _ _ _ _ _ rfl rfl).elim

def lc3 (C : Ck) (t : Tg) (tg : Expr) (e : Xp) (v : Expr) : Bool := match t, tg, e with
  | .nm _, .Name x px, .fr (.comp ..) => lcB C x px v
  | _, _, _ => false
def lc2 (C : Ck) (f : Fx) (x : Str) (px : Pos) (v : Expr) : Bool := match f with
  | .comp .. => lcB C x px v
  | _ => false
def parC (C : Ck) (is : List Nat) (r : Option (Option (List Str))) : Bool := match r with
  | some (some ns) => decide (is.length = ns.length) && decide (ns.length ≤ 1000) && (is.zip ns).all (fun p => decide (C.N[p.1]? = some p.2) && decide (C.sn.lookup p.2 = some .local))
  | _ => false
variable (G : Gam)
mutual
def chS (C : Ck) : Sm → Stmt → Bool
  | .asg t e, st => match st with
    | .Assign [tg] v _ => chG G C t tg && chX G C false e v && !isStar tg && (if isComp v then lc3 C t tg e v else swSel C.sn tg v)
    | _ => false
  | .own i f, st => match st with
    | .Assign [.Name x px] v _ => C.tg i x && chF G C f v && (if isComp v then lc2 C f x px v else true)
    | _ => false
  | .par is es, st => match st with
    | .Assign [.Tuple ts _ _] (.Tuple vs _ _) _ => chXs G C es vs && parC C is (swapB C.sn ts vs)
    | _ => false
  | .aug i o e, st => match st with
    | .AugAssign (.Name x _) op v _ => decide (op = o.op) && C.tg i x && chX G C false e v
    | _ => false
  | .app i e, st => match st with
    | .Expr (.Call (.Attribute (.Name x _) m ap) [v] [] p) _ => decide (m = ("append" : Str)) && C.nm i x && !isStar v && (ap.endLine == p.line) && chX G C false e v
    | _ => false
  | .pop i, st => match st with
    | .Expr (.Call (.Attribute (.Name x _) m ap) [] [] p) _ => decide (m = ("pop" : Str)) && C.nm i x && (ap.endLine == p.line)
    | _ => false
  | .fz _, _ => false
  | .newc i es, st => match st with
    | .Assign [.Name x _] (.List vs _) _ => C.tg i x && chXs G C es vs && decide (es.len ≤ 1000)
    | _ => false
  | .retc es, st => match st with
    | .Return (some (.List vs _)) _ => chXs G C es vs && decide (es.len ≤ 1000)
    | _ => false
  | .ex e, st => match st with
    | .Expr v _ => !isComp v && chX G C false e v
    | _ => false
  | .ret e, st => match st with
    | .Return (some v) _ => chX G C false e v
    | _ => false
  | .ret0, st => match st with
    | .Return none _ => true
    | _ => false
  | .ife c a b, st => match st with
    | .If t x y _ => chX G C true c t && chSs C a x && chSs C b y
    | _ => false
  | .for_ t w b, st => match st with
    | .For tg it body [] _ => !w.isB && !isSetE it && chG G C t tg && chW G C w it && chSs C b body
    | _ => false
  | .wh c b, st => match st with
    | .While t body [] _ => chX G C true c t && chSs C b body
    | _ => false
  | .brk, st => match st with | .Break _ => true | _ => false
  | .cnt, st => match st with | .Continue _ => true | _ => false
  | .pass, st => match st with | .Pass _ => true | _ => false
  | .never, _ => true
def chSs (C : Ck) : Sms → List Stmt → Bool
  | .nil, l => match l with | [] => true | _ => false
  | .cons s ss, l => match s with
    | .fz _ => chSs C ss l
    | s => match l with
      | x :: l => chS C s x && chSs C ss l
      | [] => false
end
end PD

namespace PD
open PySem PySem.Spec PyProof.Rows L2
variable {G : Gam}
theorem lcB_ok {X : Cx} {C : Ck} {k : Nat} {x : Str} {px pos : Pos} {l : Nat} {elt : Expr} {gs : List Comprehension} {scope : Scope} (o : Xok G X C k) (h : lcB C x px (.ListComp elt gs scope pos) = true) :
    X.env.scope.names.lookup x = some .local ∧ swapsWith (.ListComp elt gs scope pos) (some (.Name x px)) l X.env = pure true := by
  unfold lcB at h
  simp only [Bool.and_eq_true, decide_eq_true_eq, Bool.not_eq_true'] at h
  have hl : X.env.scope.names.lookup x = some .local := by rw [o.sn]; exact h.1.1
  exact ⟨hl, sw_true o.kind hl h.1.2 h.2⟩
/-- what the look at a comprehension tells -/
structure CmpP (G : Gam) (C : Ck) (elt : Xp) (t : Tg) (w : Wk) (c : Xo) (own : List Nat) (x tg it : Expr) (ifs : List Expr) (scope : Scope) : Prop where
  g2 : isSetE it = false
  g3 : chW G C w it = true
  g4 : blkC C.N (scOf C.sn) scope (ownP C.N own) = true
  g5 : t.pu = true
  g6 : ∀ j ∈ t.slots, j ∈ own
  g7 : chG G (C.blk scope) t tg = true
  g8 : chC G (C.blk scope) c ifs = true
  g9 : chX G (C.blk scope) false elt x = true
theorem cmp_parts {C : Ck} {elt : Xp} {t : Tg} {w : Wk} {c : Xo} {own : List Nat} {v : Expr} (h : chF G C (.comp elt t w c own) v = true) : ∃ x tg it ifs scope lp, v = .ListComp x [⟨tg, it, ifs, 0⟩] scope lp ∧ CmpP G C elt t w c own x tg it ifs scope := by
  have h : (match (generalizing := false) v with
      | .ListComp x [⟨tg, it, ifs, as⟩] scope _ => decide (as = 0) && !isSetE it && chW G C w it && blkC C.N (scOf C.sn) scope (ownP C.N own) && t.pu && decide (∀ j ∈ t.slots, j ∈ own) &&
          chG G (C.blk scope) t tg && chC G (C.blk scope) c ifs && chX G (C.blk scope) false elt x
      | _ => false) = true := h
  split at h
  · simp only [Bool.and_eq_true, decide_eq_true_eq, Bool.not_eq_true'] at h
    obtain ⟨⟨⟨⟨⟨⟨⟨⟨rfl, h2⟩, h3⟩, h4⟩, h5⟩, h6⟩, h7⟩, h8⟩, h9⟩ := h
    exact ⟨_, _, _, _, _, _, rfl, h2, h3, h4, h5, h6, h7, h8, h9⟩
  · cases h
theorem lc3_ok {C : Ck} {t : Tg} {tg : Expr} {e : Xp} {v : Expr} (h : lc3 C t tg e v = true) : ∃ i x px elt t' w c own, t = .nm i ∧ tg = .Name x px ∧ e = .fr (.comp elt t' w c own) ∧ lcB C x px v = true := by
  unfold lc3 at h
  split at h
  · exact ⟨_, _, _, _, _, _, _, _, rfl, rfl, rfl, h⟩
  · cases h
theorem lc2_ok {C : Ck} {f : Fx} {x : Str} {px : Pos} {v : Expr} (h : lc2 C f x px v = true) : ∃ elt t' w c own, f = .comp elt t' w c own ∧ lcB C x px v = true := by
  unfold lc2 at h
  split at h
  · exact ⟨_, _, _, _, _, rfl, h⟩
  · cases h
theorem few_ok {e : Expr} {p : Pos} {env : PySem.Env} (hs : starEach (e :: []) env = (false, eval e env) :: starEach [] env) : ((backTo p (starEach (e :: []) env)).all (fun x => !x.1) && (backToKw p (keywordEach [] env)).all (fun x => x.1.isSome)
      && decide ((e :: ([] : List Expr)).length + ([] : List Keyword).length + (if ([] : List Keyword).isEmpty then 0 else 1) < 30)) = true := by
  rw [hs]; rfl
/-- what a context of a def's body is -/
structure Xos (G : Gam) (X : Cx) (C : Ck) (k : Nat) : Prop where
  x : Xok G X C k
  nx : X.xe = fun _ _ => False
theorem Xos.own {X : Cx} {C : Ck} {k : Nat} (o : Xos G X C k) : PassesOwn (model X.prog X.w) X.A X.env X.xe := by
  rw [o.nx]; exact PassesOwn.never

theorem chSs_cons {C : Ck} {s : Sm} {ss : Sms} {x : Stmt} {l : List Stmt} (hf : ¬ ∃ i, s = .fz i) : chSs G C (.cons s ss) (x :: l) = (chS G C s x && chSs G C ss l) := by
  cases s <;> first | rfl | exact (hf ⟨_, rfl⟩).elim
mutual
theorem sS (k : Nat) : ∀ (s : Sm) (C : Ck) (X : Cx) (st : Stmt), Xos G X C k → chS G C s st = true → PS X st (tDS X.K (evS G s))
  | .asg t e, C, X, st, o, h => by
    have h : (match (generalizing := false) st with
      | .Assign [tg] v _ => chG G C t tg && chX G C false e v && !isStar tg && (if isComp v then lc3 C t tg e v else swSel C.sn tg v)
      | _ => false) = true := h
    split at h
    · rename_i _ tg v pos _
      simp only [Bool.and_eq_true, Bool.not_eq_true'] at h
      obtain ⟨⟨⟨h1, h2⟩, h3⟩, h4⟩ := h
      cases hv : isComp v with
      | false =>
        rw [hv] at h4
        have h4 : swSel C.sn tg v = true := h4
        refine ps_asgD (sX k e false C X v o.x h2).e (sG k t C X tg o.x h1) (swaps_of hv) (swSel_ok o.x.kind (by rw [o.x.sn]; exact h4)) ?_
        rw [asgn_of (r := []) h3]; rfl
      | true =>
        rw [hv, if_pos rfl] at h4
        obtain ⟨i, x, px, elt, t', w, c, own, rfl, rfl, rfl, h4⟩ := lc3_ok h4
        have hF : chF G C (.comp elt t' w c own) v = true := by
          have q : (!false && chF G C (.comp elt t' w c own) v) = true := h2
          simpa using q
        obtain ⟨n1, _, _⟩ := o.x.tg (show C.tg i x = true from h1)
        obtain ⟨ex, tgc, it, ifs, scope, lp, rfl, q⟩ := cmp_parts hF
        have bk := blk_ok o.x q.g4
        have hw : PI X tgc it (tDI X.K true (evW G w)) := by
          have z := sW k w C X tgc it o.x q.g3
          cases e : w.isB with
          | true => exact z.2 e
          | false => exact PI.wk (z.1 e) tDI_weak
        have hg := fun s H A cl fp => sG k t' (C.blk _) (X.blk s H _ (compEnvC _ cl A X.env) fp) _ (o.x.blk bk.kind s H A cl fp) q.g7
        rw [q.g5] at hg
        obtain ⟨l1, l2⟩ := lcB_ok (l := pos.line) o.x h4
        have r := ps_asgLc (pos := pos) (X := X) (own := ownP C.N own) o.x.calm o.x.nd n1 l1 l2 hw bk (by rw [ownP_snd]; exact q.g6) hg (fun s H A cl fp => sC k c (C.blk _) (X.blk s H _ (compEnvC _ cl A X.env) fp) _ (o.x.blk bk.kind s H A cl fp) q.g8)
          (fun s H A cl fp => (sX k elt false (C.blk _) (X.blk s H _ (compEnvC _ cl A X.env) fp) _ (o.x.blk bk.kind s H A cl fp) q.g9).e) (fun x => fold_of q.g2 x)
        rw [ownP_snd] at r
        exact r
    · cases h
  | .own i f, C, X, st, o, h => by
    have h : (match (generalizing := false) st with
      | .Assign [.Name x px] v _ => C.tg i x && chF G C f v && (if isComp v then lc2 C f x px v else true)
      | _ => false) = true := h
    split at h
    · rename_i _ x px v pos _
      simp only [Bool.and_eq_true] at h
      obtain ⟨⟨h1, h2⟩, h4⟩ := h
      obtain ⟨n1, n2, n3⟩ := o.x.tg h1
      cases hv : isComp v with
      | false => exact ps_ownD o.x.nd n1 n2 (sF k f C X v o.x h2) (swaps_of hv) n3
      | true =>
        rw [hv, if_pos rfl] at h4
        obtain ⟨elt, t', w, c, own, rfl, h4⟩ := lc2_ok h4
        have hF := h2
        obtain ⟨ex, tgc, it, ifs, scope, lp, rfl, q⟩ := cmp_parts hF
        have bk := blk_ok o.x q.g4
        have hw : PI X tgc it (tDI X.K true (evW G w)) := by
          have z := sW k w C X tgc it o.x q.g3
          cases e : w.isB with
          | true => exact z.2 e
          | false => exact PI.wk (z.1 e) tDI_weak
        have hg := fun s H A cl fp => sG k t' (C.blk _) (X.blk s H _ (compEnvC _ cl A X.env) fp) _ (o.x.blk bk.kind s H A cl fp) q.g7
        rw [q.g5] at hg
        obtain ⟨l1, l2⟩ := lcB_ok (l := pos.line) o.x h4
        have r := ps_ownLc (pos := pos) (X := X) (own := ownP C.N own) o.x.calm o.x.nd n1 l1 l2 hw bk (by rw [ownP_snd]; exact q.g6) hg (fun s H A cl fp => sC k c (C.blk _) (X.blk s H _ (compEnvC _ cl A X.env) fp) _ (o.x.blk bk.kind s H A cl fp) q.g8)
          (fun s H A cl fp => (sX k elt false (C.blk _) (X.blk s H _ (compEnvC _ cl A X.env) fp) _ (o.x.blk bk.kind s H A cl fp) q.g9).e) (fun x => fold_of q.g2 x)
        rw [ownP_snd] at r
        exact r
    · cases h
  | .par is es, C, X, st, o, h => by
    have h : (match (generalizing := false) st with
      | .Assign [.Tuple ts _ _] (.Tuple vs _ _) _ => chXs G C es vs && parC C is (swapB C.sn ts vs)
      | _ => false) = true := h
    split at h
    · simp only [Bool.and_eq_true] at h
      obtain ⟨h1, h2⟩ := h
      unfold parC at h2
      split at h2
      · rename_i ns hs
        simp only [Bool.and_eq_true, decide_eq_true_eq, List.all_eq_true] at h2
        obtain ⟨⟨h3, h4⟩, h5⟩ := h2
        refine ps_parD o.x.calm o.x.nd (fun i j n k1 k2 => ?_) h3 h4 (sXs k es C X _ o.x h1) (swap_of o.x.kind (by rw [o.x.sn]; exact hs))
        have m : (j, n) ∈ is.zip ns := List.mem_of_getElem? (i := i) (by rw [List.getElem?_zip_eq_some]; exact ⟨k1, k2⟩)
        have q := h5 _ m
        rw [o.x.N, o.x.sn]
        exact q
      · cases h2
    · cases h
  | .aug i op e, C, X, st, o, h => by
    have h : (match (generalizing := false) st with
      | .AugAssign (.Name x _) op' v _ => decide (op' = op.op) && C.tg i x && chX G C false e v
      | _ => false) = true := h
    split at h
    · simp only [Bool.and_eq_true, decide_eq_true_eq] at h
      obtain ⟨⟨rfl, h1⟩, h2⟩ := h
      obtain ⟨n1, n2, n3⟩ := o.x.tg h1
      exact ps_augD op o.x.nd n1 n2 (sX k e false C X _ o.x h2).e n3
    · cases h
  | .app i e, C, X, st, o, h => by
    have h : (match (generalizing := false) st with
      | .Expr (.Call (.Attribute (.Name x _) m ap) [v] [] p) _ => decide (m = ("append" : Str)) && C.nm i x && !isStar v && (ap.endLine == p.line) && chX G C false e v
      | _ => false) = true := h
    split at h
    · simp only [Bool.and_eq_true, decide_eq_true_eq, Bool.not_eq_true'] at h
      obtain ⟨⟨⟨⟨rfl, h1⟩, h2⟩, h3⟩, h4⟩ := h
      obtain ⟨n1, n2, n3, n4⟩ := o.x.nm h1
      have st := star_of (env := X.env) (r := []) h2
      exact ps_appD n1 n2 n3 n4 (sX k e false C X _ o.x h4).e st h3 (few_ok st)
    · cases h
  | .pop i, C, X, st, o, h => by
    have h : (match (generalizing := false) st with
      | .Expr (.Call (.Attribute (.Name x _) m ap) [] [] p) _ => decide (m = ("pop" : Str)) && C.nm i x && (ap.endLine == p.line)
      | _ => false) = true := h
    split at h
    · simp only [Bool.and_eq_true, decide_eq_true_eq] at h
      obtain ⟨⟨rfl, h1⟩, h3⟩ := h
      obtain ⟨n1, n2, n3, n4⟩ := o.x.nm h1
      exact ps_popD n1 n2 n3 n4 h3
    · cases h
  | .fz i, C, X, st, o, h => by cases h
  | .newc i es, C, X, st, o, h => by
    have h : (match (generalizing := false) st with
      | .Assign [.Name x _] (.List vs _) _ => C.tg i x && chXs G C es vs && decide (es.len ≤ 1000)
      | _ => false) = true := h
    split at h
    · simp only [Bool.and_eq_true, decide_eq_true_eq] at h
      obtain ⟨⟨h1, h2⟩, h3⟩ := h
      obtain ⟨n1, n2, n3⟩ := o.x.tg h1
      refine ps_newcD o.x.nd n1 n2 (fun L S xs S' e => ?_) (sXs k es C X _ o.x h2) n3
      rw [evXs_len es L S xs S' e]
      exact Nat.le_trans h3 (by decide)
    · cases h
  | .retc es, C, X, st, o, h => by
    have h : (match (generalizing := false) st with
      | .Return (some (.List vs _)) _ => chXs G C es vs && decide (es.len ≤ 1000)
      | _ => false) = true := h
    split at h
    · simp only [Bool.and_eq_true, decide_eq_true_eq] at h
      refine ps_retcD (fun L S xs S' e => ?_) (sXs k es C X _ o.x h.1)
      rw [evXs_len es L S xs S' e]
      exact Nat.le_trans h.2 (by decide)
    · cases h
  | .ex e, C, X, st, o, h => by
    have h : (match (generalizing := false) st with
      | .Expr v _ => !isComp v && chX G C false e v
      | _ => false) = true := h
    split at h
    · simp only [Bool.and_eq_true, Bool.not_eq_true'] at h
      exact ps_exD (sX k e false C X _ o.x h.2).e (swaps_of h.1)
    · cases h
  | .ret e, C, X, st, o, h => by
    have h : (match (generalizing := false) st with
      | .Return (some v) _ => chX G C false e v
      | _ => false) = true := h
    split at h
    · exact ps_retD (sX k e false C X _ o.x h).e
    · cases h
  | .ret0, C, X, st, o, h => by
    have h : (match (generalizing := false) st with
      | .Return none _ => true
      | _ => false) = true := h
    split at h
    · exact ps_ret0D
    · cases h
  | .ife c a b, C, X, st, o, h => by
    have h : (match (generalizing := false) st with
      | .If t x y _ => chX G C true c t && chSs G C a x && chSs G C b y
      | _ => false) = true := h
    split at h
    · simp only [Bool.and_eq_true] at h
      exact ps_ifD (sX k c true C X _ o.x h.1.1).t (sSs k a C X _ o h.1.2) (sSs k b C X _ o h.2)
    · cases h
  | .for_ t w b, C, X, st, o, h => by
    have h : (match (generalizing := false) st with
      | .For tg it body [] _ => !w.isB && !isSetE it && chG G C t tg && chW G C w it && chSs G C b body
      | _ => false) = true := h
    split at h
    · rename_i _ tg it body pos _
      simp only [Bool.and_eq_true, Bool.not_eq_true'] at h
      obtain ⟨⟨⟨⟨h1, h2⟩, h3⟩, h4⟩, h5⟩ := h
      have e : evS G (.for_ t w b) = fun L S => bnd (evW G w L S) fun ds S1 => forL (fun d L S => bnd (evG G t d L S) fun L2 S2 => evSs G b L2 S2) ds L S1 := by
        funext L S
        show (if w.isB = true then none else _) = _
        rw [h1]; rfl
      rw [e]
      exact ps_forD o.own o.x.calm ((sW k w C X tg it o.x h4).1 h1) (sG k t C X tg o.x h3) (sSs k b C X body o h5) (fun x => fold_of h2 x)
    · cases h
  | .wh c b, C, X, st, o, h => by
    have h : (match (generalizing := false) st with
      | .While t body [] _ => chX G C true c t && chSs G C b body
      | _ => false) = true := h
    split at h
    · simp only [Bool.and_eq_true] at h
      exact ps_whD o.own (sX k c true C X _ o.x h.1).t (sSs k b C X _ o h.2)
    · cases h
  | .brk, C, X, st, o, h => by
    have h : (match (generalizing := false) st with | .Break _ => true | _ => false) = true := h
    split at h
    · exact ps_brkD
    · cases h
  | .cnt, C, X, st, o, h => by
    have h : (match (generalizing := false) st with | .Continue _ => true | _ => false) = true := h
    split at h
    · exact ps_cntD
    · cases h
  | .pass, C, X, st, o, h => by
    have h : (match (generalizing := false) st with | .Pass _ => true | _ => false) = true := h
    split at h
    · exact ps_passD
    · cases h
  | .never, C, X, st, o, h => ps_neverD
theorem sSs (k : Nat) : ∀ (ss : Sms) (C : Ck) (X : Cx) (l : List Stmt), Xos G X C k → chSs G C ss l = true → PSs X l (tDS X.K (evSs G ss))
  | .nil, C, X, l, o, h => by
    have h : (match (generalizing := false) l with | [] => true | _ => false) = true := h
    split at h
    · exact pss_nilD
    · cases h
  | .cons s ss, C, X, l, o, h => by
    by_cases hf : ∃ i, s = .fz i
    · obtain ⟨i, rfl⟩ := hf
      exact pss_fzD (sSs k ss C X l o h)
    · cases l with
      | nil => cases s <;> first | (cases h; done) | exact (hf ⟨_, rfl⟩).elim
      | cons x l =>
        rw [chSs_cons hf, Bool.and_eq_true] at h
        exact pss_consD (sS k s C X x o h.1) (sSs k ss C X l o h.2)
end
end PD

set_option Elab.async false
set_option linter.all false
set_option maxRecDepth 100000
set_option maxHeartbeats 8000000
/-! PD, part o: defs, calls, the law's end. -/
namespace PD
open PySem PySem.Spec PyProof.Rows L2

/-- what a def promises: its run -/
def spD (K : PySem.W.Frag) (G : Gam) (n : Nat) (b : Sms) (ps : List Str) : Sp := fun vs H Q _ => vs.length = ps.length ∧
  ∃ g S ds d S', Gs K g H S ∧ Rps K g H vs ds ∧ runF G n b ds S = some (d, S') ∧ ∀ v g' H', Ext g H g' H' → Gs K g' H' S' → Rp K g' H' v d → Q v H'

section
variable {P : Program} {w : World} {K : PySem.W.Frag} {mg : Str → Option Value} {base : Heap} {G : Gam}
/-- what is known of the module, for a def -/
structure Mok (K : PySem.W.Frag) (mg : Str → Option Value) (G : Gam) : Prop where
  fre : ∀ x ∈ G.fre, mg x = none
  con : ∀ p ∈ G.cons, ∃ v u, mg p.1 = some u ∧ RelV v u ∧ ∀ g H, Rp K g H v p.2
  bfs : ∀ p ∈ G.bfs, mg p.1 = some (.builtin p.2)
theorem cr_start {N : List Str} {vs : List V} {ds : List D} {g : Gh} {H : Hp} {S : Store} (s : Gs K g H S) (r : Rps K g H vs ds) (hl : vs.length ≤ N.length) :
    Cr K g H (L2.start N vs) H (ds.map Lv.dat ++ List.replicate (N.length - ds.length) .un) S := by
  have hn : ∀ (i : Nat) (xs : List D), (ds.map Lv.dat ++ List.replicate (N.length - ds.length) Lv.un)[i]? = some (.own xs) → False := fun i xs h => by
    by_cases hi : i < ds.length
    · rw [List.getElem?_append_left (by simpa using hi), List.getElem?_map] at h
      cases e : ds[i]? with
      | none => rw [e] at h; cases h
      | some d => rw [e] at h; cases h
    · rw [List.getElem?_append_right (by simpa using hi), List.getElem?_replicate] at h
      split at h <;> cases h
  refine ⟨s, ⟨?_, fun b o h => ⟨o, h⟩, fun i d h => ?_, fun i xs h => (hn i xs h).elim, fun i j xs ys a h => (hn i xs h).elim⟩⟩
  · unfold L2.start
    simp only [List.length_append, List.length_map, List.length_replicate]
    have := r.length
    omega
  · by_cases hi : i < ds.length
    · rw [List.getElem?_append_left (by simpa using hi), List.getElem?_map] at h
      cases e : ds[i]? with
      | none => rw [e] at h; cases h
      | some d' =>
        rw [e] at h
        cases h
        obtain ⟨v, h1, h2⟩ := r.get e
        refine ⟨v, ?_, h2⟩
        unfold L2.start
        have hv : i < vs.length := by rw [r.length]; exact hi
        rw [List.getElem?_append_left (by simpa using hv), List.getElem?_map, h1]
        rfl
    · rw [List.getElem?_append_right (by simpa using hi), List.getElem?_replicate] at h
      split at h <;> cases h
theorem fnG_of {x qual : Str} {params : Arguments} {body : List Stmt} {scope : Scope} {dvs : List V} {kws : List (Str × V)} {f : Addr} {fd : FuncData} {N ps : List Str} {k : Nat} {b : Sms}
    (F : FunD K x qual params body scope dvs kws f fd) (S : FnScope N ps scope) (hc : chSs G ⟨N, scope.names, fun _ => true⟩ b body = true) (M : Mok K mg G) (he : ∀ e ∈ G.ents, EntOk P w K mg base k e) :
    FnG P w K mg base (k + 1) f fd ps (spD K G N.length b ps) := by
  obtain ⟨oc, od, dV, kV, doc, pm, an, cdv, ct, osl, rfl, lk, hcd, _, _⟩ := F.ex
  refine ⟨fun vs H Q E h => h.1, fun A outer s H args us vs Q E hr hg e0 hb r hsp => ?_⟩
  have hl := hsp.1
  have K0 : K.In s.heap := e0.mod.kin.keeps fun c o e => (e0.bs c o e).1
  have nolim : s.heap.NoLimit := e0.mod.nolimit.keeps fun c o e => (e0.bs c o e).1
  refine codeAny_call_function hr.depth (K0 _ _ lk) rfl S.co S.gen rfl (PySem.W.codeRec_of K0 hcd) (hb _ _ _ _ ?_)
  refine wpAny_newFunctionEnv_cells S.kind (fun ⟨n, v⟩ hy => ?_) fun env hen s1 x => ?_
  · rcases S.par n (List.of_mem_zip hy).1 with q | q
    · exact .inl q
    · exact .inr ⟨q, PySem.W.cellsFrom_some _ _ _ (.inl q)⟩
  subst hen
  refine ⟨nolim.keeps x.toInCall.keep, codeAny_func ?_⟩
  have ok : Xos G (cxOf CX0 P w K mg base N qual scope f cdv A outer s H E).nox ⟨N, scope.names, fun _ => true⟩ k :=
    ⟨⟨rfl, hr.deeper _, hg, rfl, S.nd, rfl, S.kind, fun _ _ => rfl, M.fre, M.con, M.bfs, he⟩, rfl⟩
  have ht := (sSs k b _ _ body ok hc).nox
  have I : Inv (cxOf CX0 P w K mg base N qual scope f cdv A outer s H E) [] (L2.start N vs) H s1 := inv_start S hr.hd e0 hl r x
  obtain ⟨_, g, S0, ds, d, S', s0, rp, run, fin⟩ := hsp
  obtain ⟨⟨fl, La⟩, S1, e1, e2⟩ := of_bnd run
  have hNl : vs.length ≤ N.length := by
    have := congrArg List.length S.pre
    rw [List.length_take] at this
    omega
  have hq : tDS K (evSs G b) { nx := fun _ H' => Q .non H', rt := Q } (L2.start N vs) H := by
    refine ⟨g, H, _, S0, fl, La, S1, cr_start s0 rp hNl, e1, ?_⟩
    cases fl with
    | nx =>
      cases e2
      exact fun σ g' H' x' w' c => fin .non g' H' (x' g Ext.refl) c.s .non
    | brk => cases e2
    | cnt => cases e2
    | ret d' =>
      cases e2
      exact fun v g' H' x' s' r' => fin v g' H' (x' g Ext.refl) s' r'
  refine wpAny_mono (ht.run [] s1 (L2.start N vs) H _ I hq) (fun fl2 s' hs => ?_) fun e s' hs => hs
  cases fl2 with
  | ret u =>
    obtain ⟨v, σ', H', J, rv, q⟩ := hs
    exact ⟨v, H', J.os, J.bare, J.base, J.hok, rv, q⟩
  | next =>
    obtain ⟨σ', H', J, q⟩ := hs
    exact ⟨V.non, H', J.os, J.bare, J.base, J.hok, rfl, q⟩
  | brk =>
    obtain ⟨_, _, _, q⟩ := hs
    exact q.elim
  | cont =>
    obtain ⟨_, _, _, q⟩ := hs
    exact q.elim

/-! ### ways of calling -/
/-- the values at these places -/
def pick {α : Type} (ix : List Nat) (l : List α) : List α := ix.filterMap fun i => l[i]?
theorem pick_vals {us : List Value} {vs : List V} (h : Vals vs us) : ∀ ix : List Nat, Vals (pick ix vs) (pick ix us)
  | [] => .nil
  | i :: ix => by
    unfold pick
    have t := pick_vals h ix
    unfold pick at t
    cases e : vs[i]? with
    | none =>
      have e2 : us[i]? = none := by
        rw [List.getElem?_eq_none_iff] at e ⊢
        rw [← h.length]; exact e
      rw [List.filterMap_cons, List.filterMap_cons, e, e2]
      exact t
    | some v =>
      obtain ⟨u, e2, r⟩ := h.get e
      rw [List.filterMap_cons, List.filterMap_cons, e, e2]
      exact .cons r t
theorem pick_rps {g : Gh} {H : Hp} {vs : List V} {ds : List D} (h : Rps K g H vs ds) : ∀ ix : List Nat, Rps K g H (pick ix vs) (pick ix ds)
  | [] => .nil
  | i :: ix => by
    unfold pick
    have t := pick_rps h ix
    unfold pick at t
    cases e : ds[i]? with
    | none =>
      have e2 : vs[i]? = none := by
        rw [List.getElem?_eq_none_iff] at e ⊢
        rw [h.length]; exact e
      rw [List.filterMap_cons, List.filterMap_cons, e, e2]
      exact t
    | some v =>
      obtain ⟨u, e2, r⟩ := h.get e
      rw [List.filterMap_cons, List.filterMap_cons, e, e2]
      exact .cons r t
/-- the entry of one way of calling: n positional values, keywords ks, defaults dd; ix: each parameter's place among positional values, defaults, keywords' values -/
noncomputable def mkEnt (name : Str) (n : Nat) (ks : List Str) (dd : List D) (ix : List Nat) (G : Gam) (m : Nat) (b : Sms) : Ent :=
  ⟨name, n, ks, fun ds S => runF G m b (pick ix (ds.take n ++ dd ++ ds.drop n)) S⟩
theorem kbn0 {x qual : Str} {params : Arguments} {body : List Stmt} {scope : Scope} {f : Addr} {fd : FuncData} {ps : List Str} (F : FunD K x qual params body scope [] [] f fd) (n : Nat) (ks : List Str) (ix : List Nat)
    (h : ∀ (kV doc pm : Value) (an : Option Addr) (cdv ct : Value) (us ws : List Value), us.length = n → ws.length = ks.length → bindArgs (PySem.W.fnOf x qual params body scope .none kV doc pm an cdv ct) ⟨us, ks.zip ws⟩ = pure (ps.zip (pick ix (us ++ [] ++ ws)))) :
    ∃ its : List Value, KBn K fd ps n ks (fun us ws => pick ix (us ++ its ++ ws)) (fun vs zs => pick ix (vs ++ [] ++ zs)) := by
  obtain ⟨oc, od, dV, kV, doc, pm, an, cdv, ct, osl, rfl, lk, hcd, hD, hK⟩ := F.ex
  rcases hD with ⟨_, rfl⟩ | ⟨e, _⟩
  · exact ⟨[], ⟨fun s us ws X l1 l2 => .of_eq (h kV doc pm an cdv ct us ws l1 l2), fun r1 r2 => pick_vals ((r1.append .nil).append r2) ix⟩⟩
  · exact absurd rfl e
theorem kbn1 {x qual : Str} {params : Arguments} {body : List Stmt} {scope : Scope} {dvs : List V} {f : Addr} {fd : FuncData} {ps : List Str} (F : FunD K x qual params body scope dvs [] f fd) (hd : dvs ≠ []) (n : Nat) (ks : List Str) (ix : List Nat)
    (h : ∀ (T : Addr) (kV doc pm : Value) (an : Option Addr) (cdv ct : Value) (us its ws : List Value), us.length = n → its.length = dvs.length → ws.length = ks.length →
      ∃ k, bindArgs (PySem.W.fnOf x qual params body scope (.ref T) kV doc pm an cdv ct) ⟨us, ks.zip ws⟩ = seqItems? (.ref T) >>= k ∧ k (some its.toArray) = pure (ps.zip (pick ix (us ++ its ++ ws)))) :
    ∃ its : List Value, KBn K fd ps n ks (fun us ws => pick ix (us ++ its ++ ws)) (fun vs zs => pick ix (vs ++ dvs ++ zs)) := by
  obtain ⟨oc, od, dV, kV, doc, pm, an, cdv, ct, osl, rfl, lk, hcd, hD, hK⟩ := F.ex
  rcases hD with ⟨e, _⟩ | ⟨_, T, o, its, m, rfl, lT, oT, rT⟩
  · exact absurd e hd
  · refine ⟨its, ⟨fun s us ws X l1 l2 => ?_, fun r1 r2 => pick_vals ((r1.append rT).append r2) ix⟩⟩
    obtain ⟨k, e1, e2⟩ := h T kV doc pm an cdv ct us its ws l1 rT.length.symm l2
    refine BindsTo.of_looks fun M => ?_
    rw [e1]
    exact looks_items X lT oT (.of_pure e2)
theorem rps_split {g : Gh} {H : Hp} {vs zs : List V} {ds : List D} {n : Nat} (r : Rps K g H (vs ++ zs) ds) (h : vs.length = n) : Rps K g H vs (ds.take n) ∧ Rps K g H zs (ds.drop n) := by
  have a := r.take n
  have b := r.drop n
  subst h
  rw [List.take_left'] at a
  · rw [List.drop_left'] at b
    · exact ⟨a, b⟩
    · rfl
  · rfl
theorem ent_of {name : Str} {n m k : Nat} {ks ps : List Str} {dd : List D} {dvs : List V} {ix : List Nat} {b : Sms} {f : Addr} {fd : FuncData} {gs : List Value → List Value → List Value} (hm : mg name = some (.ref f)) (hk : PySem.W.keepIn K (.ref f) = true)
    (F : FnG P w K mg base k f fd ps (spD K G m b ps)) (hb : KBn K fd ps n ks gs (fun vs zs => pick ix (vs ++ dvs ++ zs))) (hd : ∀ g H, Rps K g H dvs dd) (hl : (ix.all fun i => decide (i < n + dvs.length + ks.length)) = true) (hp : ix.length = ps.length) :
    EntOk P w K mg base k (mkEnt name n ks dd ix G m b) := by
  refine ⟨f, fd, ps, _, gs, _, hm, hk, F, hb, fun g H S vs zs ds d S' Q s r l1 l2 e q => ?_⟩
  obtain ⟨r1, r2⟩ := rps_split r l1
  have l2 : zs.length = ks.length := l2
  refine ⟨?_, g, S, _, d, S', s, pick_rps ((r1.append (hd g H)).append r2) ix, e, q⟩
  have : ∀ (ix : List Nat) (l : List V), (ix.all fun i => decide (i < l.length)) = true → (pick ix l).length = ix.length := by
    intro ix l
    induction ix with
    | nil => intro _; rfl
    | cons i ix ih =>
      intro h
      simp only [List.all_cons, Bool.and_eq_true, decide_eq_true_eq] at h
      unfold pick
      rw [List.filterMap_cons, List.getElem?_eq_getElem h.1]
      show (pick ix l).length + 1 = ix.length + 1
      rw [ih h.2]
  rw [this ix _ (by rw [List.length_append, List.length_append, l1, l2]; exact hl), hp]
end
end PD

set_option Elab.async false
set_option linter.all false
set_option maxRecDepth 100000
set_option maxHeartbeats 8000000
/-! PD, part p: the law's end. -/
namespace PD
open PySem PySem.Spec PyProof.Rows L2

/-- the law's def keeps its promise at the heap behind the top -/
theorem lawG {P : Program} {w : World} {K : PySem.W.Frag} {mg mb : Str → Option Value} {k : Nat} {fl sc : Addr} {fd : FuncData} {x : Str} {sp : Sp} {s1 : Shared} {vs : List Value} {ns : List Int}
    (KX : K.In s1.heap) (hns : s1.heap.Ns mainGlobals mg) (hbn : s1.heap.Ns builtinsNs mb) (hbb : ∀ y : Str, y ≠ "__name__" → mb y = bootBuiltins y)
    (hlim : s1.heap.NoLimit) (hgen : s1.gens = #[]) (hobj : s1.heap.get? sc = some { cls := .type "list", data := .seq vs.toArray }) (hi : IntsAre vs ns) (hl : ns.length ≤ sizeLine)
    (hr : Room k callerA) (F : ∀ base : Heap, K.In base → base.Ns mainGlobals mg → FnG P w K mg base k fl fd [x] sp) (hbind : ∀ (s : Shared) (u : Value), BindsTo s fd ⟨[u], []⟩ [(x, u)])
    (hsp : ∀ H : Hp, (∀ b, H b = none ∨ ∃ o ys, H b = some (.frz o (.lst ys))) → LX K H sc (ns.map V.int) → sp [.ref sc] H (fun v _ => v = .bl true) E0) :
    codeAny (model P w) callerA (.call (.ref fl) ⟨[.ref sc], []⟩) (fun r t => r = .ok (.ret (.bool true)) ∧ OldK s1.heap t.heap ∧ t.os = s1.os ∧ AllBare t.gens) s1 := by
  have rints := vals_ints hi
  have llen := hi.length
  have main : ∀ Hx : Hp, (∀ b, Hx b = none ∨ ∃ o ys, Hx b = some (.frz o (.lst ys))) → LX K Hx sc (ns.map V.int) → HOk P w Hx s1.heap → (∀ b, Hx b ≠ none → b = sc) → (Hx sc ≠ none → K.lookup sc = none) →
      codeAny (model P w) callerA (.call (.ref fl) ⟨[.ref sc], []⟩) (fun r t => r = .ok (.ret (.bool true)) ∧ OldK s1.heap t.heap ∧ t.os = s1.os ∧ AllBare t.gens) s1 := by
    intro Hx only hseq hok one noK
    have vis : ∀ {b : Addr} {o : Obj}, s1.heap.get? b = some o → Hx b = none → (hidT s1.heap Hx).get? b = some o := fun e n => hidT_get e n
    have nodict : ∀ {b : Addr} {o : Obj} {es : Array DictEntry} {ep : Nat}, s1.heap.get? b = some o → o.data = .dict es ep → Hx b = none := by
      intro b o es ep e d
      cases q : Hx b with
      | none => rfl
      | some u =>
        obtain rfl : b = sc := one b (by rw [q]; simp)
        rw [hobj] at e
        cases e
        have dd : Data.seq vs.toArray _ = Data.dict es ep := d
        cases dd
    have nsH : ∀ {b : Addr} {m : Str → Option Value}, s1.heap.Ns b m → (hidT s1.heap Hx).Ns b m := by
      rintro b m ⟨o, es, ep, e, d, r⟩
      exact ⟨o, es, ep, vis e (nodict e d), d, r⟩
    have Kin : K.In (hidT s1.heap Hx) := by
      intro b o e
      refine vis (KX b o e) ?_
      cases q : Hx b with
      | none => rfl
      | some u =>
        obtain rfl : b = sc := one b (by rw [q]; simp)
        rw [noK (by rw [q]; simp)] at e
        cases e
    obtain ⟨mc, lim1, lim2⟩ := hlim
    have env0 : Env0 P w K mg (hidT s1.heap Hx) callerA [] s1 Hx :=
      ⟨rfl, ⟨Kin, nsH hns, ⟨mb, nsH hbn, hbb⟩, mc, nsH lim1, lim2⟩, fun b o e => of_hidT e, Nat.le_of_eq (hidT_size _ _), trivial, fun b z => absurd (show b ∈ ([] : List Addr) from z) (by simp), hok, .of_eq hgen⟩
    refine codeAny_mono ((F _ Kin (nsH hns)).run callerA [] s1 Hx ⟨[.ref sc], []⟩ [.ref sc] [.ref sc] _ _ hr rfl env0 (hbind s1 (.ref sc)) (.cons rfl .nil) (hsp Hx only hseq)) ?_
    rintro (e | f) t h
    · exact h.elim
    · cases f with
      | next => exact h.elim
      | brk => exact h.elim
      | cont => exact h.elim
      | ret u =>
        obtain ⟨v, H', hos, hbare, un, hok2, rv, q⟩ := h
        obtain rfl : v = .bl true := q
        obtain rfl : u = Value.bool true := rv
        refine ⟨rfl, OldK.of_keep fun b o e => ?_, hos, hbare⟩
        rcases only b with z | ⟨ob, ys, z⟩
        · exact un.keep b o e z (fun m => absurd (show b ∈ ([] : List Addr) from m) (by simp)) (by simp)
        · obtain ⟨g1, _⟩ := hok b _ z
          obtain ⟨g2, _⟩ := hok2 b _ (un.frzs b ob _ z)
          rw [e] at g1
          cases g1
          exact g2
  have hsz : (ns.map V.int).length ≤ sizeLine := by rw [List.length_map]; exact hl
  cases hK : K.lookup sc with
  | some o =>
    have e := KX sc o hK
    rw [hobj] at e
    cases e
    refine main (fun _ => none) (fun _ => .inl rfl) (.inr ⟨vs, _, hK, by rw [llen]; exact hl, rints⟩) (fun b u z => ?_) (fun b z => absurd rfl z) fun z => absurd rfl z
    have z2 : (none : Option HO) = some u := z
    cases z2
  | none =>
    refine main (fun b => if b = sc then some (.frz { cls := .type "list", data := .seq vs.toArray } (.lst (ns.map V.int))) else none) (fun b => ?_) (.inl (.inr ⟨_, if_pos rfl⟩)) (fun b u z => ?_) (fun b z => ?_) fun _ => hK
    · by_cases q : b = sc
      · exact .inr ⟨_, _, if_pos q⟩
      · exact .inl (if_neg q)
    · by_cases q : b = sc
      · have z2 := (if_pos q).symm.trans z
        cases z2
        subst q
        exact ⟨hobj, hsz, vs, _, rints, hobj⟩
      · have z2 := (if_neg q).symm.trans z
        cases z2
    · by_cases q : b = sc
      · exact q
      · exact absurd (if_neg q) z

/-- the script as a datum -/
theorem rp_script {K : PySem.W.Frag} {H : Hp} {a : Addr} {ns : List Int} (h : LX K H a (ns.map V.int)) : Rp K ⟨[], fun _ => False⟩ H (.ref a) (.lst (ns.map D.int)) := by
  refine .lst ?_ (Rps.of_ints ns)
  rcases h with h | h
  · exact .inl ⟨h, fun q => q⟩
  · exact .inr h
theorem gs_nil {K : PySem.W.Frag} {H : Hp} : Gs K ⟨[], fun _ => False⟩ H [] :=
  ⟨fun _ (z : False) => z.elim, fun _ z => absurd z (by simp), List.nodup_nil, rfl, fun n a ds z => absurd z (by simp)⟩

/-- the whole way of a law: the def's run answers True at every script -/
theorem walkG {l : PySem.W.OpenLaw} {k : Nat} {q : Program} {loose : List Str} {XP : (Str → Option Value) → Heap → Prop} {YP : World → Heap → Prop} {d : DefRec} {x : Str} {G : Gam} {m : Nat} {b : Sms}
    (hn : l.most = some 63) (hdf : d.params.defaults = []) (hr : Room k callerA)
    (F : ∀ (w : World) (mg : Str → Option Value) (fa : Addr) (h : Heap), YP w h → h.Ns mainGlobals mg → mg d.name = some (.ref fa) →
      ∃ (K : PySem.W.Frag) (fd : FuncData), K.In h ∧ (∀ (s : Shared) (u : Value), BindsTo s fd ⟨[u], []⟩ [(x, u)]) ∧
        ∀ base : Heap, K.In base → base.Ns mainGlobals mg → FnG l.prog w K mg base k fa fd [x] (spD K G m b [x]))
    (run : ∀ ns : List Int, ns.length ≤ 63 → ∃ S, runF G m b [.lst (ns.map D.int)] [] = some (.bl true, S)) :
    PySem.W.WalkO q loose XP YP l.row.toRowW d [] (fun f vs => PySem.call f vs) := by
  refine Att.attach_call hn hdf fun w s0 s1 mg mb fa o pm cd doc a vs ns Gr Y ho hd hcd hmg hobj hi hlen hg => ?_
  obtain ⟨K, fd, KX, hb, hF⟩ := F w mg fa _ Y Gr.T.g hmg
  have h63 : (63 : Nat) ≤ sizeLine := by decide
  refine lawG KX Gr.T.g Gr.T.b Gr.T.builtins Gr.T.nolimit hg hobj hi (Nat.le_trans hlen h63) hr hF hb fun H only hs => ?_
  obtain ⟨S, e⟩ := run ns hlen
  refine ⟨rfl, _, [], [.lst (ns.map D.int)], _, S, gs_nil, .cons (rp_script hs) .nil, e, fun v g' H' _ _ r => ?_⟩
  cases r with
  | bl => rfl
end PD

set_option Elab.async false
set_option linter.all false
set_option maxRecDepth 100000
set_option maxHeartbeats 8000000
/-! PD, part q: what the head tells. -/
namespace PD
open PySem PySem.Spec PyProof.Rows L2

mutual
/-- a value of the written part is this datum -/
def matB (K : PySem.W.Frag) : D → Value → Bool
  | .non, u => match u with | .none => true | _ => false
  | .bl b, u => match u with | .bool c => b == c | _ => false
  | .int i, u => match u with | .int j _ => decide (i = j) | _ => false
  | .str x, u => match u with | .str y _ => decide (x = y) | _ => false
  | .tup ds, u => match u with
    | .ref a => match K.lookup a with
      | some ⟨.type c, _, .seq its _, _⟩ => decide (c = "tuple") && decide (its.size ≤ sizeLine) && matBs K ds its.toList
      | _ => false
    | _ => false
  | _, _ => false
def matBs (K : PySem.W.Frag) : List D → List Value → Bool
  | [], us => match us with | [] => true | _ => false
  | d :: ds, us => match us with | u :: us => matB K d u && matBs K ds us | _ => false
end
mutual
theorem matB_ok {K : PySem.W.Frag} : ∀ {d : D} {u : Value}, matB K d u = true → ∃ v, RelV v u ∧ ∀ g H, Rp K g H v d
  | .non, u, h => by cases u <;> first | exact ⟨.non, rfl, fun g H => .non⟩ | cases h
  | .bl b, u, h => by
    cases u <;> first | (cases h; done) | skip
    rename_i c
    have e : (b == c) = true := h
    obtain rfl := eq_of_beq e
    exact ⟨.bl b, rfl, fun g H => .bl _⟩
  | .int i, u, h => by
    cases u <;> first | (cases h; done) | skip
    obtain rfl := of_decide_eq_true (show decide (i = _) = true from h)
    exact ⟨.int i, ⟨_, rfl⟩, fun g H => .int _⟩
  | .str i, u, h => by
    cases u <;> first | (cases h; done) | skip
    obtain rfl := of_decide_eq_true (show decide (i = _) = true from h)
    exact ⟨.str i, ⟨_, rfl⟩, fun g H => .str _⟩
  | .tup ds, u, h => by
    cases u <;> first | (cases h; done) | skip
    rename_i a
    have h : (match K.lookup a with
      | some ⟨.type c, _, .seq its _, _⟩ => decide (c = "tuple") && decide (its.size ≤ sizeLine) && matBs K ds its.toList
      | _ => false) = true := h
    split at h
    · rename_i c od its n osl hl
      simp only [Bool.and_eq_true, decide_eq_true_eq] at h
      obtain ⟨⟨rfl, h2⟩, h3⟩ := h
      obtain ⟨vs, r, q⟩ := matBs_ok h3
      exact ⟨.ref a, rfl, fun g H => .tup (.inr ⟨_, its, n, hl, rfl, rfl, h2, r⟩) (q g H)⟩
    · cases h
  | .ty _, u, h => by cases h
  | .lst _, u, h => by cases h
  | .cell _, u, h => by cases h
theorem matBs_ok {K : PySem.W.Frag} : ∀ {ds : List D} {us : List Value}, matBs K ds us = true → ∃ vs, Vals vs us ∧ ∀ g H, Rps K g H vs ds
  | [], us, h => by cases us <;> first | exact ⟨[], .nil, fun g H => .nil⟩ | cases h
  | d :: ds, us, h => by
    cases us with
    | nil => cases h
    | cons u us =>
      obtain ⟨h1, h2⟩ := Bool.and_eq_true_iff.mp (show (matB K d u && matBs K ds us) = true from h)
      obtain ⟨v, r, q⟩ := matB_ok h1
      obtain ⟨vs, rs, qs⟩ := matBs_ok h2
      exact ⟨v :: vs, .cons r rs, fun g H => .cons (q g H) (qs g H)⟩
end
def conB (K : PySem.W.Frag) (p : Str × D) : Bool := match PySem.W.nsIn K mainGlobals p.1 with
  | some (some u) => matB K p.2 u
  | _ => false
def bfB (K : PySem.W.Frag) (p : Str × String) : Bool := match PySem.W.nsIn K mainGlobals p.1 with
  | some (some (.builtin i)) => decide (i = p.2)
  | _ => false
/-- more that the head looks at -/
def exB (cs : List (Str × D)) (bs : List (Str × String)) (K : PySem.W.Frag) : Bool := (cs.all fun p => conB K p) && bs.all fun p => bfB K p
theorem con_ok {K : PySem.W.Frag} {h : Heap} {mg : Str → Option Value} (X : K.In h) (G : h.Ns mainGlobals mg) {p : Str × D} (c : conB K p = true) : ∃ v u, mg p.1 = some u ∧ RelV v u ∧ ∀ g H, Rp K g H v p.2 := by
  unfold conB at c
  split at c
  · rename_i u e
    obtain ⟨v, r, q⟩ := matB_ok c
    exact ⟨v, u, PySem.W.mg_of X G e, r, q⟩
  · cases c
theorem bf_ok {K : PySem.W.Frag} {h : Heap} {mg : Str → Option Value} (X : K.In h) (G : h.Ns mainGlobals mg) {p : Str × String} (c : bfB K p = true) : mg p.1 = some (.builtin p.2) := by
  unfold bfB at c
  split at c
  · rename_i i e
    obtain rfl : i = p.2 := of_decide_eq_true c
    exact PySem.W.mg_of X G e
  · cases c

/-! ### the Hook -/
def obsC (fa : List He.Fa) (fn : List He.DefD) (cs : List (Str × D)) (bs : List (Str × String)) (K : PySem.W.Frag) : He.AlD := ((He.obsD fa fn K).1 && exB cs bs K, (He.obsD fa fn K).2)
def obsCG (n : Nat) (fa : List He.Fa) (fn : List He.DefD) (cs : List (Str × D)) (bs : List (Str × String)) (g : Addr → Option Obj) : He.AlD := obsC fa fn cs bs (He.frG g (He.asD g n))
structure SaysC (fa : List He.Fa) (fn : List He.DefD) (cs : List (Str × D)) (bs : List (Str × String)) (K : PySem.W.Frag) : Prop where
  d : He.SaysD fa fn K
  c : ∀ p ∈ cs, conB K p = true
  b : ∀ p ∈ bs, bfB K p = true
theorem saysC_of {fa : List He.Fa} {fn : List He.DefD} {cs : List (Str × D)} {bs : List (Str × String)} {K : PySem.W.Frag} (e : obsC fa fn cs bs K = He.valD fn) : SaysC fa fn cs bs K := by
  have e1 : ((He.obsD fa fn K).1 && exB cs bs K) = true := congrArg (fun z : He.AlD => z.1) e
  have e2 : (He.obsD fa fn K).2 = (He.valD fn).2 := by
    have z := congrArg (fun z : He.AlD => z.2) (show ((_, _) : He.AlD) = _ from e)
    exact z
  obtain ⟨h1, h2⟩ := Bool.and_eq_true_iff.mp e1
  obtain ⟨h3, h4⟩ := Bool.and_eq_true_iff.mp h2
  exact ⟨Prod.ext h1 e2, List.all_eq_true.mp h3, List.all_eq_true.mp h4⟩
def hookC (n : Nat) (fa : List He.Fa) (fn : List He.DefD) (cs : List (Str × D)) (bs : List (Str × String)) : PySem.W.Hook where
  α := He.AlD
  obs := fun s => obsCG n fa fn cs bs s.heap.get?
  val := fun _ => He.valD fn
  says := fun _ h => ∃ K : PySem.W.Frag, K.In h ∧ SaysC fa fn cs bs K
  of := fun _ _ e => ⟨_, He.frG_in, saysC_of e⟩
  keeps := fun _ _ _ ⟨K, hK, c⟩ k => ⟨K, PySem.W.Frag.In.keeps hK k, c⟩
theorem obsCG_eq {n : Nat} {fa : List He.Fa} {fn : List He.DefD} {cs : List (Str × D)} {bs : List (Str × String)} {g : Addr → Option Obj} {s : Shared} (h : ∀ a, g a = s.heap.get? a) : obsCG n fa fn cs bs g = (hookC n fa fn cs bs).obs s := by
  have e : g = s.heap.get? := funext h
  rw [e]; rfl
theorem EntOk.mono {P : Program} {w : World} {K : PySem.W.Frag} {mg : Str → Option Value} {base : Heap} {j k : Nat} {e : Ent} (h : EntOk P w K mg base j e) (le : j ≤ k) : EntOk P w K mg base k e := by
  obtain ⟨f, fd, ps, sp, gs, gv, h1, h2, h3, h4, h5⟩ := h
  exact ⟨f, fd, ps, sp, gs, gv, h1, h2, h3.mono le, h4, h5⟩
theorem ents_nil {P : Program} {w : World} {K : PySem.W.Frag} {mg : Str → Option Value} {base : Heap} {k : Nat} : ∀ e ∈ ([] : List Ent), EntOk P w K mg base k e := fun _ h => by cases h
theorem ents_cons {P : Program} {w : World} {K : PySem.W.Frag} {mg : Str → Option Value} {base : Heap} {j k : Nat} {e : Ent} {es : List Ent} (h : EntOk P w K mg base j e) (le : j ≤ k) (t : ∀ e ∈ es, EntOk P w K mg base k e) : ∀ z ∈ e :: es, EntOk P w K mg base k z := fun z hz => by
  rcases List.mem_cons.mp hz with q | hz
  · rw [q]; exact h.mono le
  · exact t z hz
end PD
namespace PD
theorem fa_nil {α : Type} {p : α → Prop} : ∀ z ∈ ([] : List α), p z := fun _ h => by cases h
theorem fa_cons {α : Type} {p : α → Prop} {a : α} {l : List α} (h : p a) (t : ∀ z ∈ l, p z) : ∀ z ∈ a :: l, p z := fun z hz => by
  rcases List.mem_cons.mp hz with q | hz
  · rw [q]; exact h
  · exact t z hz
end PD

set_option Elab.async false
set_option linter.all false
set_option maxRecDepth 100000
set_option maxHeartbeats 8000000
/-! PD, part r: the evaluator's equations. -/
namespace PD
open PySem PySem.Spec PyProof.Rows L2
section
variable {G : Gam} {L : Loc} {S : Store}
@[simp] theorem evX_nm {i : Nat} : evX G (.nm i) L S = match L[i]? with
    | some (.dat d) => some (.d d, S)
    | some (.own xs) => some (.b xs, S)
    | _ => none := rfl
@[simp] theorem evX_lit {d : D} : evX G (.lit d) L S = some (.d d, S) := rfl
@[simp] theorem evX_gc {j : Nat} : evX G (.gc j) L S = match G.cons[j]? with | some p => some (.d p.2, S) | none => none := rfl
@[simp] theorem evX_bin {o : BO} {a b : Xp} : evX G (.bin o a b) L S = bnd (evX G a L S) fun x S1 => bnd (evX G b L S1) fun y S2 => lft ((binV o x y).map .d) S2 := rfl
@[simp] theorem evX_neg {a : Xp} : evX G (.neg a) L S = bnd (evX G a L S) fun x S1 => lft ((negV x).map .d) S1 := rfl
@[simp] theorem evX_cmp {o : CO} {a b : Xp} : evX G (.cmp o a b) L S = bnd (evX G a L S) fun x S1 => bnd (evX G b L S1) fun y S2 => lft ((cmpV o x y).map fun c => .d (.bl c)) S2 := rfl
@[simp] theorem evX_cmp2 {o o' : CO} {a b c : Xp} : evX G (.cmp2 o o' a b c) L S = bnd (evX G a L S) fun x S1 => bnd (evX G b L S1) fun y S2 => bnd (lft (cmpV o x y) S2) fun k S2 =>
      if k = true then bnd (evX G c L S2) fun z S3 => lft ((cmpV o' y z).map fun c => .d (.bl c)) S3 else some (.d (.bl false), S2) := rfl
@[simp] theorem evX_and {a b : Xp} : evX G (.and a b) L S = bnd (evX G a L S) fun x S1 => bnd (lft (asB x) S1) fun c S1 => if c = true then evX G b L S1 else some (.d (.bl false), S1) := rfl
@[simp] theorem evX_or {a b : Xp} : evX G (.or a b) L S = bnd (evX G a L S) fun x S1 => bnd (lft (asB x) S1) fun c S1 => if c = true then some (.d (.bl true), S1) else evX G b L S1 := rfl
@[simp] theorem evX_not {a : Xp} : evX G (.not a) L S = bnd (evX G a L S) fun x S1 => lft ((asB x).map fun c => .d (.bl (!c))) S1 := rfl
@[simp] theorem evX_ife {c a b : Xp} : evX G (.ife c a b) L S = bnd (evX G c L S) fun x S1 => bnd (lft (asB x) S1) fun c S1 => if c = true then evX G a L S1 else evX G b L S1 := rfl
@[simp] theorem evX_tup {es : Xps} : evX G (.tup es) L S = bnd (evXs G es L S) fun xs S1 => lft ((unVs xs).map fun ds => .d (.tup ds)) S1 := rfl
@[simp] theorem evX_ix {a b : Xp} : evX G (.ix a b) L S = bnd (evX G a L S) fun x S1 => bnd (evX G b L S1) fun y S2 => lft ((ixV x y S2).map .d) S2 := rfl
@[simp] theorem evX_slc {a : Xp} {lo hi : Xo} : evX G (.slc a lo hi) L S = bnd (evX G a L S) fun x S1 => bnd (evO G lo L S1) fun l S2 => bnd (evO G hi L S2) fun h S3 => lft ((slcT x l h).map .d) S3 := rfl
@[simp] theorem evX_call {j : Nat} {es ks : Xps} : evX G (.call j es ks) L S = match G.ents[j]? with
    | some e => bnd (evXs G es L S) fun xs S1 => bnd (evXs G ks L S1) fun zs S2 => bnd (lft (unVs (xs ++ zs)) S2) fun ds S2 =>
        if xs.length = e.n ∧ zs.length = e.ks.length then bnd (e.sem ds S2) fun d S3 => some (.d d, S3) else none
    | none => none := rfl
@[simp] theorem evX_bi {b : Bi} {es : Xps} : evX G (.bi b es) L S = bnd (evXs G es L S) fun xs S1 => lft ((biV b xs).map .d) S1 := rfl
@[simp] theorem evX_isi {a : Xp} {t : String} : evX G (.isi a t) L S = bnd (evX G a L S) fun x S1 => lft ((isiV x t).map fun c => .d (.bl c)) S1 := rfl
@[simp] theorem evX_fr {f : Fx} : evX G (.fr f) L S = bnd (evF G f L S) fun xs S1 => some (.d (.lst xs), S1) := rfl
@[simp] theorem evXs_nil : evXs G .nil L S = some ([], S) := rfl
@[simp] theorem evXs_cons {e : Xp} {es : Xps} : evXs G (.cons e es) L S = bnd (evX G e L S) fun x S1 => bnd (evXs G es L S1) fun xs S2 => some (x :: xs, S2) := rfl
@[simp] theorem evO_none : evO G .none L S = some (none, S) := rfl
@[simp] theorem evO_some {e : Xp} : evO G (.some e) L S = bnd (evX G e L S) fun x S1 => lft (optI (some x)) S1 := rfl
@[simp] theorem evF_disp {es : Xps} : evF G (.disp es) L S = bnd (evXs G es L S) fun xs S1 => lft (unVs xs) S1 := rfl
@[simp] theorem evF_comp {elt : Xp} {t : Tg} {w : Wk} {c : Xo} {own : List Nat} : evF G (.comp elt t w c own) L S = bnd (evW G w L S) fun ds S1 => if ds.length < line then
      compL (fun d S => bnd (evG G t d (wipeL L own) S) fun L2 S => bnd (evC G c L2 S) fun k S => if k = true then bnd (evX G elt L2 S) fun x S => bnd (lft (unV x) S) fun y S => some (some y, S) else some (none, S)) ds S1
      else none := rfl
@[simp] theorem evF_list {e : Xp} : evF G (.list e) L S = bnd (evX G e L S) fun x S1 => lft (match asL x with | some l => some l | none => asT x) S1 := rfl
@[simp] theorem evF_cat {a b : Xp} : evF G (.cat a b) L S = bnd (evX G a L S) fun x S1 => bnd (evX G b L S1) fun y S2 => lft (match asL x, asL y with
      | some l, some m => if l.length + m.length ≤ line then some (l ++ m) else none
      | _, _ => none) S2 := rfl
@[simp] theorem evF_slc {a : Xp} {lo hi : Xo} : evF G (.slc a lo hi) L S = bnd (evX G a L S) fun x S1 => bnd (evO G lo L S1) fun l S2 => bnd (evO G hi L S2) fun h S3 => lft (slcL x l h) S3 := rfl
@[simp] theorem evC_none : evC G .none L S = some (true, S) := rfl
@[simp] theorem evC_some {e : Xp} : evC G (.some e) L S = bnd (evX G e L S) fun x S1 => lft (asB x) S1 := rfl
@[simp] theorem evW_seq {e : Xp} : evW G (.seq e) L S = bnd (evX G e L S) fun x S1 => lft (match x with | .d (.lst l) => some l | .d (.tup l) => some l | _ => none) S1 := rfl
@[simp] theorem evW_bor {i : Nat} : evW G (.bor i) L S = match L[i]? with
    | some (.own xs) => some (xs, S)
    | _ => none := rfl
@[simp] theorem evW_range1 {a : Xp} : evW G (.range1 a) L S = bnd (evX G a L S) fun x S1 => lft (match x with
      | .d (.int n) => if n < 2 ^ 62 ∧ -(2 ^ 62) ≤ n then some ((List.range n.toNat).map fun i => .int (i : Nat)) else none
      | _ => none) S1 := rfl
@[simp] theorem evG_nm {i : Nat} {d : D} : evG G (.nm i) d L S = some (L.set i (.dat d), S) := rfl
@[simp] theorem evG_tup {ts : Tgs} {ds : List D} : evG G (.tup ts) (.tup ds) L S = evGs G ts ds L S := rfl
@[simp] theorem evG_sub {i : Nat} {b : Xp} {d : D} : evG G (.sub i b) d L S = bnd (evX G b L S) fun y S1 => match y with
    | .d (.int k) => match L[i]? with
      | some (.own xs) => match ixN xs.length k with | some j => some (L.set i (.own (xs.set j d)), S1) | none => none
      | some (.dat (.cell n)) => match S1[n]? with
        | some xs => match ixN xs.length k with | some j => some (L, S1.set n (xs.set j d)) | none => none
        | none => none
      | _ => none
    | _ => none := rfl
@[simp] theorem evGs_nil : evGs G .nil [] L S = some (L, S) := rfl
@[simp] theorem evGs_cons {t : Tg} {ts : Tgs} {d : D} {ds : List D} : evGs G (.cons t ts) (d :: ds) L S = bnd (evG G t d L S) fun L1 S1 => evGs G ts ds L1 S1 := rfl
@[simp] theorem evSs_nil : evSs G .nil L S = some ((.nx, L), S) := rfl
@[simp] theorem evSs_cons {s : Sm} {ss : Sms} : evSs G (.cons s ss) L S = bnd (evS G s L S) fun r S1 => match r.1 with
    | .nx => evSs G ss r.2 S1
    | f => some ((f, r.2), S1) := rfl
@[simp] theorem evS_asg {t : Tg} {e : Xp} : evS G (.asg t e) L S = bnd (evX G e L S) fun x S1 => bnd (lft (unV x) S1) fun d S1 => bnd (evG G t d L S1) fun L2 S2 => some ((.nx, L2), S2) := rfl
@[simp] theorem evS_own {i : Nat} {f : Fx} : evS G (.own i f) L S = bnd (evF G f L S) fun xs S1 => some ((.nx, L.set i (.own xs)), S1) := rfl
@[simp] theorem evS_par {is : List Nat} {es : Xps} : evS G (.par is es) L S = bnd (evXs G es L S) fun xs S1 => bnd (lft (unVs xs) S1) fun ds S1 => if ds.length = is.length then some ((.nx, setAll is.reverse ds.reverse L), S1) else none := rfl
@[simp] theorem evS_aug {i : Nat} {o : BO} {e : Xp} : evS G (.aug i o e) L S = match L[i]? with
    | some (.dat d) => bnd (evX G e L S) fun y S1 => bnd (lft (augV o d y) S1) fun z S1 => some ((.nx, L.set i (.dat z)), S1)
    | _ => none := rfl
@[simp] theorem evS_app {i : Nat} {e : Xp} : evS G (.app i e) L S = bnd (evX G e L S) fun x S1 => bnd (lft (unV x) S1) fun d S1 => match L[i]? with
    | some (.own xs) => if xs.length < line then some ((.nx, L.set i (.own (xs ++ [d]))), S1) else none
    | _ => none := rfl
@[simp] theorem evS_fz {i : Nat} : evS G (.fz i) L S = match L[i]? with
    | some (.own xs) => some ((.nx, L.set i (.dat (.lst xs))), S)
    | _ => some ((.nx, L), S) := rfl
@[simp] theorem evS_retc {es : Xps} : evS G (.retc es) L S = bnd (evXs G es L S) fun xs S1 => bnd (lft (unVs xs) S1) fun ds S1 => some ((.ret (.cell S1.length), L), S1 ++ [ds]) := rfl
@[simp] theorem evS_ex {e : Xp} : evS G (.ex e) L S = bnd (evX G e L S) fun _ S1 => some ((.nx, L), S1) := rfl
@[simp] theorem evS_ret {e : Xp} : evS G (.ret e) L S = bnd (evX G e L S) fun x S1 => bnd (lft (unV x) S1) fun d S1 => some ((.ret d, L), S1) := rfl
@[simp] theorem evS_ret0 : evS G .ret0 L S = some ((.ret .non, L), S) := rfl
@[simp] theorem evS_ife {c : Xp} {a b : Sms} : evS G (.ife c a b) L S = bnd (evX G c L S) fun x S1 => bnd (lft (asB x) S1) fun k S1 => if k = true then evSs G a L S1 else evSs G b L S1 := rfl
theorem ev_for {t : Tg} {w : Wk} {b : Sms} {ds : List D} {S1 : Store} {r : (Fl × Loc) × Store} (h : w.isB = false) (hw : evW G w L S = some (ds, S1)) (hl : forL (fun d L S => bnd (evG G t d L S) fun L2 S2 => evSs G b L2 S2) ds L S1 = some r) : evS G (.for_ t w b) L S = some r := by
  show (if w.isB = true then none else bnd (evW G w L S) fun ds S1 => forL (fun d L S => bnd (evG G t d L S) fun L2 S2 => evSs G b L2 S2) ds L S1) = _
  rw [h, hw, ← hl]
  rfl
theorem evS_for {t : Tg} {w : Wk} {b : Sms} : evS G (.for_ t w b) L S = if w.isB then none else bnd (evW G w L S) fun ds S1 => forL (fun d L S => bnd (evG G t d L S) fun L2 S2 => evSs G b L2 S2) ds L S1 := rfl
theorem evS_wh {c : Xp} {b : Sms} : evS G (.wh c b) L S = whL (fun L S => bnd (evX G c L S) fun x S1 => lft (asB x) S1) (fun L S => evSs G b L S) L S := rfl
theorem wh_go {c : Xp} {b : Sms} {L2 : Loc} {S1 S2 : Store} (hc : evX G c L S = some (.d (.bl true), S1)) (hb : evSs G b L S1 = some ((.nx, L2), S2)) : evS G (.wh c b) L S = evS G (.wh c b) L2 S2 := by
  rw [evS_wh, whL_eq, hc, bnd_some]
  show bnd (some (true, S1)) _ = _
  rw [bnd_some, if_pos rfl, hb]
  rfl
theorem wh_stop {c : Xp} {b : Sms} {S1 : Store} (hc : evX G c L S = some (.d (.bl false), S1)) : evS G (.wh c b) L S = some ((.nx, L), S1) := by
  rw [evS_wh, whL_eq, hc]
  rfl
@[simp] theorem evS_never : evS G .never L S = none := rfl
@[simp] theorem compL_nil {turn : D → Store → Option (Option D × Store)} : compL turn [] S = some ([], S) := rfl
@[simp] theorem compL_cons {turn : D → Store → Option (Option D × Store)} {d : D} {ds : List D} : compL turn (d :: ds) S = bnd (turn d S) fun r S1 => bnd (compL turn ds S1) fun rs S2 => some ((match r with | some x => x :: rs | none => rs), S2) := rfl
@[simp] theorem wipeL_nil : wipeL L [] = L := rfl
@[simp] theorem wipeL_cons {v : Nat} {vs : List Nat} : wipeL L (v :: vs) = (wipeL L vs).set v .un := rfl
theorem runF_eq {n : Nat} {b : Sms} {ds : List D} : runF G n b ds S = bnd (evSs G b (ds.map .dat ++ List.replicate (n - ds.length) .un) S) fun r S1 => match r.1 with
    | .ret d => some (d, S1)
    | .nx => some (.non, S1)
    | _ => none := rfl
@[simp] theorem binV_add {i j : Int} : binV .add (.d (.int i)) (.d (.int j)) = some (.int (i + j)) := rfl
@[simp] theorem binV_sub {i j : Int} : binV .sub (.d (.int i)) (.d (.int j)) = some (.int (i - j)) := rfl
@[simp] theorem binV_mul {i j : Int} : binV .mul (.d (.int i)) (.d (.int j)) = if okMul i j then some (.int (i * j)) else none := rfl
@[simp] theorem binV_fdiv {i j : Int} : binV .fdiv (.d (.int i)) (.d (.int j)) = if okDiv j then some (.int (i.fdiv j)) else none := rfl
@[simp] theorem binV_mod {i j : Int} : binV .mod (.d (.int i)) (.d (.int j)) = if j ≠ 0 then some (.int (i.fmod j)) else none := rfl
@[simp] theorem binV_pow {i j : Int} : binV .pow (.d (.int i)) (.d (.int j)) = if okPow i j then some (.int (i ^ j.toNat)) else none := rfl
@[simp] theorem binV_subB {i j : Bool} : binV .sub (.d (.bl i)) (.d (.bl j)) = some (.int ((if i then 1 else 0) - (if j then 1 else 0))) := rfl
@[simp] theorem negV_int {i : Int} : negV (.d (.int i)) = some (.int (-i)) := rfl
@[simp] theorem cmpV_lt {i j : Int} : cmpV .lt (.d (.int i)) (.d (.int j)) = some (decide (i < j)) := rfl
@[simp] theorem cmpV_le {i j : Int} : cmpV .le (.d (.int i)) (.d (.int j)) = some (decide (i ≤ j)) := rfl
@[simp] theorem cmpV_gt {i j : Int} : cmpV .gt (.d (.int i)) (.d (.int j)) = some (decide (j < i)) := rfl
@[simp] theorem cmpV_ge {i j : Int} : cmpV .ge (.d (.int i)) (.d (.int j)) = some (decide (j ≤ i)) := rfl
@[simp] theorem eqOk_int {i : Int} : eqOk (.int i) = true := rfl

@[simp] theorem cmpV_eqI {i j : Int} : cmpV .eq (.d (.int i)) (.d (.int j)) = some (decide (i = j)) := by
  show (if (eqOk (.int i) && eqOk (.int j)) then some (eqD (.int i) (.int j)) else none) = _
  rw [eqOk_int, eqOk_int]; rfl
@[simp] theorem cmpV_neI {i j : Int} : cmpV .ne (.d (.int i)) (.d (.int j)) = some (!decide (i = j)) := by
  show (if (eqOk (.int i) && eqOk (.int j)) then some (!eqD (.int i) (.int j)) else none) = _
  rw [eqOk_int, eqOk_int]; rfl
@[simp] theorem cmpV_eqS {i j : Str} : cmpV .eq (.d (.str i)) (.d (.str j)) = some (decide (i = j)) := rfl
@[simp] theorem cmpV_neS {i j : Str} : cmpV .ne (.d (.str i)) (.d (.str j)) = some (!decide (i = j)) := rfl
@[simp] theorem unV_d {d : D} : unV (.d d) = some d := rfl
@[simp] theorem unVs_nil : unVs [] = some [] := rfl
@[simp] theorem unVs_cons {d : D} {r : List Va} : unVs (.d d :: r) = match unVs r with | some l => some (d :: l) | none => none := rfl
@[simp] theorem asB_bl {b : Bool} : asB (.d (.bl b)) = some b := rfl
@[simp] theorem ixV_tup {xs : List D} {i : Int} {S : Store} : ixV (.d (.tup xs)) (.d (.int i)) S = atI xs i := rfl
@[simp] theorem ixV_lst {xs : List D} {i : Int} {S : Store} : ixV (.d (.lst xs)) (.d (.int i)) S = atI xs i := rfl
@[simp] theorem ixV_cell {n : Nat} {i : Int} {S : Store} : ixV (.d (.cell n)) (.d (.int i)) S = match S[n]? with | some xs => atI xs i | none => none := rfl
@[simp] theorem biV_abs {i : Int} : biV .abs [.d (.int i)] = some (.int (if i < 0 then -i else i)) := rfl
@[simp] theorem biV_gcd {i j : Int} : biV .gcd [.d (.int i), .d (.int j)] = some (.int ((Nat.gcd i.natAbs j.natAbs : Nat) : Int)) := rfl
@[simp] theorem biV_min {i j : Int} : biV .min2 [.d (.int i), .d (.int j)] = some (.int (if j < i then j else i)) := rfl
@[simp] theorem biV_max {i j : Int} : biV .max2 [.d (.int i), .d (.int j)] = some (.int (if j > i then j else i)) := rfl
@[simp] theorem biV_int {i : Int} : biV .int1 [.d (.int i)] = some (.int i) := rfl
@[simp] theorem biV_lenT {xs : List D} : biV .len [.d (.tup xs)] = some (.int xs.length) := rfl
@[simp] theorem biV_lenL {xs : List D} : biV .len [.d (.lst xs)] = some (.int xs.length) := rfl
@[simp] theorem biV_divmod {i j : Int} : biV .divmod [.d (.int i), .d (.int j)] = if 0 < j ∧ j < 1073741824 then some (.tup [.int (i / j), .int (i % j)]) else none := rfl
@[simp] theorem setAll_nil {ds : List D} : setAll [] ds L = L := by cases ds <;> rfl
@[simp] theorem setAll_cons {i : Nat} {is : List Nat} {d : D} {ds : List D} : setAll (i :: is) (d :: ds) L = setAll is ds (L.set i (.dat d)) := rfl
@[simp] theorem atI_2_0 {α : Type} {a b : α} : atI [a, b] 0 = some a := rfl
@[simp] theorem atI_2_1 {α : Type} {a b : α} : atI [a, b] 1 = some b := rfl
@[simp] theorem atI_3_0 {α : Type} {a b c : α} : atI [a, b, c] 0 = some a := rfl
@[simp] theorem atI_3_1 {α : Type} {a b c : α} : atI [a, b, c] 1 = some b := rfl
@[simp] theorem atI_3_2 {α : Type} {a b c : α} : atI [a, b, c] 2 = some c := rfl
@[simp] theorem mk_n {name : Str} {n m : Nat} {ks : List Str} {dd : List D} {ix : List Nat} {b : Sms} : (mkEnt name n ks dd ix G m b).n = n := rfl
@[simp] theorem mk_ks {name : Str} {n m : Nat} {ks : List Str} {dd : List D} {ix : List Nat} {b : Sms} : (mkEnt name n ks dd ix G m b).ks = ks := rfl
@[simp] theorem mk_sem {name : Str} {n m : Nat} {ks : List Str} {dd : List D} {ix : List Nat} {b : Sms} {ds : List D} : (mkEnt name n ks dd ix G m b).sem ds S = runF G m b (pick ix (ds.take n ++ dd ++ ds.drop n)) S := rfl
end
end PD

set_option Elab.async false
set_option linter.all false
set_option maxRecDepth 100000
set_option maxHeartbeats 1000000
/-! PD, part s: sizes, fractions. -/
namespace PD
open PySem PySem.Spec PyProof.Rows L2

/-- of at most k bits -/
def sz (k : Nat) (i : Int) : Prop := i.natAbs < 2 ^ k
theorem sz.log {k : Nat} {i : Int} (h : sz k i) : i.natAbs.log2 ≤ k := by
  by_cases z : i.natAbs = 0
  · rw [z, show Nat.log2 0 = 0 by decide]; exact Nat.zero_le _
  · exact Nat.le_of_lt ((Nat.log2_lt z).mpr h)
theorem sz.mono {k l : Nat} {i : Int} (h : sz k i) (le : k ≤ l) : sz l i := Nat.lt_of_lt_of_le h (Nat.pow_le_pow_right (by decide) le)
theorem sz.mul {k l : Nat} {i j : Int} (h : sz k i) (h' : sz l j) : sz (k + l) (i * j) := by
  unfold sz at *
  rw [Int.natAbs_mul, Nat.pow_add]
  exact Nat.mul_lt_mul'' h h'
theorem sz.add {k : Nat} {i j : Int} (h : sz k i) (h' : sz k j) : sz (k + 1) (i + j) := by
  unfold sz at *
  rw [Nat.pow_succ]
  omega
theorem sz.sub {k : Nat} {i j : Int} (h : sz k i) (h' : sz k j) : sz (k + 1) (i - j) := by
  unfold sz at *
  rw [Nat.pow_succ]
  omega
theorem sz.neg {k : Nat} {i : Int} (h : sz k i) : sz k (-i) := by
  unfold sz at *
  omega
theorem sz.le {k : Nat} {i j : Int} (h : sz k i) (le : j.natAbs ≤ i.natAbs) : sz k j := Nat.lt_of_le_of_lt le h
theorem okMul_sz {k l : Nat} {i j : Int} (h : sz k i) (h' : sz l j) (le : k + l < 1000000) : okMul i j = true := by
  unfold okMul
  have := h.log
  have := h'.log
  exact decide_eq_true (by omega)
theorem okDiv_sz {k : Nat} {j : Int} (h : sz k j) (hj : j ≠ 0) (le : k < 9000) : okDiv j = true := by
  unfold okDiv
  have := h.log
  rw [Bool.and_eq_true]
  exact ⟨decide_eq_true hj, decide_eq_true (by omega)⟩

/-! ### fractions -/
def F (r : Rat) : D := .tup [.int r.num, .int r.den]
def Nm (p : Rat × Rat) : D := .tup [F p.1, F p.2]
/-- numerator and denominator of at most k bits -/
structure Sz (k : Nat) (r : Rat) : Prop where
  n : sz k r.num
  d : sz k (r.den : Int)
theorem Sz.mono {k l : Nat} {r : Rat} (h : Sz k r) (le : k ≤ l) : Sz l r := ⟨h.n.mono le, h.d.mono le⟩
theorem den_pos (r : Rat) : (0 : Int) < r.den := by have := r.den_pos; omega
theorem den_ne (r : Rat) : (r.den : Int) ≠ 0 := by have := r.den_pos; omega
/-- reduced -/
theorem Sz.div {k : Nat} {n m : Int} (hn : sz k n) (hm : sz k m) (h : m ≠ 0) : Sz k (Rat.divInt n m) := by
  refine ⟨?_, ?_⟩
  · rw [Rat.num_divInt]
    refine hn.le ?_
    have e : (m.sign * n / (m.gcd n : Int)).natAbs ≤ (m.sign * n).natAbs := by
      rw [Int.natAbs_ediv_of_dvd]
      · exact Nat.div_le_self _ _
      · exact Int.dvd_mul_of_dvd_right (Int.gcd_dvd_right ..)
    refine Nat.le_trans e ?_
    rw [Int.natAbs_mul, Int.natAbs_sign_of_ne_zero h, Nat.one_mul]
    exact Nat.le_refl _
  · rw [Rat.den_divInt, if_neg h]
    refine hm.le ?_
    rw [Int.natAbs_natCast]
    exact Nat.div_le_self _ _
theorem red_num {n m : Int} (h : m ≠ 0) : (n.fdiv (if 0 < m then ((Nat.gcd n.natAbs m.natAbs : Nat) : Int) else -((Nat.gcd n.natAbs m.natAbs : Nat) : Int))) = (Rat.divInt n m).num := by
  rw [Rat.num_divInt]
  have eg : (m.gcd n) = Nat.gcd n.natAbs m.natAbs := by show Nat.gcd m.natAbs n.natAbs = _; exact Nat.gcd_comm _ _
  rw [eg]
  split
  · rename_i hp
    rw [Int.sign_eq_one_of_pos hp, Int.one_mul, Int.fdiv_eq_ediv_of_nonneg _ (by omega)]
  · have hn : m < 0 := by omega
    rw [Int.sign_eq_neg_one_of_neg hn, Int.neg_one_mul, ← Int.neg_neg n, Int.neg_fdiv_neg, Int.fdiv_eq_ediv_of_nonneg _ (by omega), Int.neg_neg]
theorem red_den {n m : Int} (h : m ≠ 0) : (m.fdiv (if 0 < m then ((Nat.gcd n.natAbs m.natAbs : Nat) : Int) else -((Nat.gcd n.natAbs m.natAbs : Nat) : Int))) = ((Rat.divInt n m).den : Int) := by
  rw [Rat.den_divInt, if_neg h]
  have eg : (m.gcd n) = Nat.gcd n.natAbs m.natAbs := by show Nat.gcd m.natAbs n.natAbs = _; exact Nat.gcd_comm _ _
  rw [eg, Int.natCast_ediv]
  split
  · rename_i hp
    rw [Int.fdiv_eq_ediv_of_nonneg _ (by omega), Int.natAbs_of_nonneg (by omega)]
  · have hn : m < 0 := by omega
    have e : (m.natAbs : Int) = -m := by omega
    rw [e, ← Int.neg_neg m, Int.neg_fdiv_neg, Int.fdiv_eq_ediv_of_nonneg _ (by omega), Int.natAbs_neg, Int.neg_neg]
theorem red_F {n m : Int} (h : m ≠ 0) : D.tup [.int (n.fdiv (if 0 < m then ((Nat.gcd n.natAbs m.natAbs : Nat) : Int) else -((Nat.gcd n.natAbs m.natAbs : Nat) : Int))), .int (m.fdiv (if 0 < m then ((Nat.gcd n.natAbs m.natAbs : Nat) : Int) else -((Nat.gcd n.natAbs m.natAbs : Nat) : Int)))] = F (Rat.divInt n m) := by
  rw [red_num h, red_den h]; rfl
theorem gcd_sz {n m : Int} (h : m ≠ 0) : (Nat.gcd n.natAbs m.natAbs) ≤ m.natAbs ∧ 0 < Nat.gcd n.natAbs m.natAbs :=
  ⟨Nat.le_of_dvd (by omega) (Nat.gcd_dvd_right _ _), Nat.gcd_pos_of_pos_right _ (by omega)⟩
end PD

set_option Elab.async false
set_option linter.all false
set_option maxRecDepth 100000
set_option maxHeartbeats 1000000
/-! PD, part t: what may be shown. -/
namespace PD
open PySem PySem.Spec PyProof.Rows L2
mutual
def D.okSh : D → Prop
  | .non => True | .bl _ => True | .int i => i.natAbs.log2 < 1920 | .str x => x.cps.size ≤ 100 ∧ (PyData.str x).showable = true ∧ (x.cps.toList.all fun c => decide (c < 16 ^ 8)) = true
  | .ty _ => False | .cell _ => False
  | .tup xs => D.okShs xs | .lst xs => D.okShs xs
def D.okShs : List D → Prop
  | [] => True | x :: xs => x.okSh ∧ D.okShs xs
end
mutual
def D.cnt : D → Nat
  | .tup xs => D.cnts xs + 1 | .lst xs => D.cnts xs + 1 | _ => 1
def D.cnts : List D → Nat
  | [] => 0 | x :: xs => x.cnt + D.cnts xs
end
mutual
theorem okSh_pure : ∀ {d : D}, d.okSh → d.pure = true
  | .non, _ => rfl
  | .bl _, _ => rfl
  | .int _, _ => rfl
  | .str _, _ => rfl
  | .ty _, h => h.elim
  | .cell _, h => h.elim
  | .tup xs, h => okShs_pure (xs := xs) h
  | .lst xs, h => okShs_pure (xs := xs) h
theorem okShs_pure : ∀ {xs : List D}, D.okShs xs → D.pures xs = true
  | [], _ => rfl
  | x :: xs, h => by
    show (x.pure && D.pures xs) = true
    rw [okSh_pure h.1, okShs_pure h.2]; rfl
end
mutual
theorem okSh_showable : ∀ {d : D}, d.okSh → d.py.showable = true
  | .non, _ => by simp only [D.py, PyData.showable]
  | .bl _, _ => by simp only [D.py, PyData.showable]
  | .int i, h => by
    have h : i.natAbs.log2 < 1920 := h
    simp only [D.py, PyData.showable, decide_eq_true h]
  | .str _, h => h.2.1
  | .ty _, h => h.elim
  | .cell _, h => h.elim
  | .tup xs, h => by
    simp only [D.py, PyData.showable]
    exact okShs_showable (xs := xs) h
  | .lst xs, h => by
    simp only [D.py, PyData.showable]
    exact okShs_showable (xs := xs) h
theorem okShs_showable : ∀ {xs : List D}, D.okShs xs → PyData.showableAll (D.pys xs) = true
  | [], _ => by simp only [D.pys, PyData.showableAll]
  | x :: xs, h => by
    simp only [D.pys, PyData.showableAll]
    rw [okSh_showable h.1, okShs_showable h.2]; rfl
end
mutual
theorem okSh_len : ∀ {d : D}, d.okSh → d.py.shown.length + 2 ≤ 1995 * d.cnt
  | .non, _ => by decide +kernel
  | .bl true, _ => by decide +kernel
  | .bl false, _ => by decide +kernel
  | .int i, h => by
    have h : i.natAbs.log2 < 1920 := h
    have := int_text_len_1921 h
    simp only [D.py, PyData.shown, D.cnt]
    omega
  | .str x, h => by
    have a := PyData.shown_le 8 (by decide) (.str x) (by simp only [PyData.leavesShort]; exact h.2.2)
    have b := h.1
    simp only [PyData.weight] at a
    simp only [D.py, D.cnt]
    omega
  | .ty _, h => h.elim
  | .cell _, h => h.elim
  | .tup xs, h => by
    have h1 := okShs_len (xs := xs) h
    have h2 := tupleText_len_le (PyData.shownAll (D.pys xs))
    simp only [D.py, PyData.shown, D.cnt]
    omega
  | .lst xs, h => by
    have h1 := okShs_len (xs := xs) h
    have h2 := listText_len_le (PyData.shownAll (D.pys xs))
    simp only [D.py, PyData.shown, D.cnt]
    omega
theorem okShs_len : ∀ {xs : List D}, D.okShs xs → ((PyData.shownAll (D.pys xs)).map (·.length)).sum + 2 * (PyData.shownAll (D.pys xs)).length ≤ 1995 * D.cnts xs
  | [], _ => by simp only [D.pys, PyData.shownAll, D.cnts]; decide
  | x :: xs, h => by
    have h1 := okSh_len h.1
    have h2 := okShs_len h.2
    have h3 : 1 ≤ x.cnt := by cases x <;> simp [D.cnt]
    simp only [D.pys, PyData.shownAll, D.cnts, List.map_cons, List.sum_cons, List.length_cons]
    omega
end
/-- may be shown -/
theorem shOk_sz {d : D} (h : d.okSh) (hd : d.py.depth ≤ 64) (hc : d.cnt ≤ 8000) : shOk d = true := by
  unfold shOk
  have h1 := okSh_len h
  simp only [Bool.and_eq_true, decide_eq_true_eq]
  exact ⟨⟨⟨okSh_pure h, okSh_showable h⟩, hd⟩, by omega⟩
theorem okSh_F {r : Rat} (h : Sz 1900 r) : (F r).okSh := by
  have a := h.n.log
  have b := h.d.log
  exact ⟨by show r.num.natAbs.log2 < 1920; omega, by show (r.den : Int).natAbs.log2 < 1920; omega, trivial⟩
theorem okSh_Nm {p : Rat × Rat} (h1 : Sz 1900 p.1) (h2 : Sz 1900 p.2) : (Nm p).okSh := ⟨okSh_F h1, okSh_F h2, trivial⟩
end PD

set_option Elab.async false
set_option linter.all false
set_option maxRecDepth 100000
set_option maxHeartbeats 0
namespace W
open PySem PySem.Spec PyProof.Rows L2 PD
def top (i : Nat) : Stmt := PySem.Challenge.pw_withinrim_k03_whole_rim_numbers_there_an.main.body.getD i (.Pass ⟨0, 0, 0, 0⟩)
def c_FRAC_ONE : Str × D := ("FRAC_ONE", .tup [.int 1, .int 1])
def c_NOUGHT : Str × D := ("NOUGHT", .tup [.tup [.int 0, .int 1], .tup [.int 0, .int 1]])

/-! ### _law_dip -/
def N_Ldip : List Str := ["_law_pail_here", "_law_many", "_law_one", "_law_figure"]
def P_Ldip : List Str := ["_law_pail_here", "_law_many"]
noncomputable def G_Ldip : Gam := ⟨[], [], ["divmod", "int"], []⟩
def b_Ldip : Sms := .cons (.ife (.cmp .gt (.ix (.nm 0) (.lit (.int 0))) (.lit (.int 0))) (.cons (.asg (.tup (.cons (.sub 0 (.lit (.int 0))) (.cons (.nm 3) .nil))) (.bi .divmod (.cons (.ix (.nm 0) (.lit (.int 0))) (.cons (.nm 1) .nil)))) (.cons (.ret (.nm 3)) .nil)) .nil) (.cons (.asg (.sub 0 (.lit (.int 2))) (.bin .add (.ix (.nm 0) (.lit (.int 2))) (.lit (.int 1)))) (.cons (.asg (.nm 2) (.bin .mod (.bi .int1 (.cons (.bin .add (.bin .mul (.ix (.nm 0) (.lit (.int 1))) (.lit (.int 48271))) (.bin .mul (.ix (.nm 0) (.lit (.int 2))) (.lit (.int 69621)))) .nil)) (.lit (.int 2147483629)))) (.cons (.asg (.sub 0 (.lit (.int 1))) (.bin .mod (.bi .int1 (.cons (.bin .add (.bin .mul (.nm 2) (.bin .add (.bin .fdiv (.nm 2) (.lit (.int 4099))) (.bin .mul (.lit (.int 3)) (.ix (.nm 0) (.lit (.int 2)))))) (.lit (.int 16807))) .nil)) (.lit (.int 2147483629)))) (.cons (.ret (.bin .mod (.bi .int1 (.cons (.bin .fdiv (.ix (.nm 0) (.lit (.int 1))) (.lit (.int 257))) .nil)) (.nm 1))) .nil))))
theorem s_Ldip : FnScope N_Ldip P_Ldip (defScope (top 35)) := C8.fnScope_by (by kernel_rfl)
theorem k_Ldip : chSs G_Ldip ⟨N_Ldip, (defScope (top 35)).names, fun _ => true⟩ b_Ldip (defBody (top 35)) = true := by kernel_rfl
def d_Ldip : He.DefD := ⟨("_law_dip", none), "_law_dip", "_law_dip", defArgs (top 35), defBody (top 35), defScope (top 35), [], []⟩
noncomputable def e_Ldip_2 : Ent := mkEnt "_law_dip" 2 [] [] [0, 1] G_Ldip 4 b_Ldip

/-! ### _law_one_of -/
def N_Lone_of : List Str := ["_law_pail_here", "_law_some"]
def P_Lone_of : List Str := ["_law_pail_here", "_law_some"]
noncomputable def G_Lone_of : Gam := ⟨[e_Ldip_2], [], ["len"], []⟩
def b_Lone_of : Sms := .cons (.ret (.ix (.nm 1) (.call 0 (.cons (.nm 0) (.cons (.bi .len (.cons (.nm 1) .nil)) .nil)) .nil))) .nil
theorem s_Lone_of : FnScope N_Lone_of P_Lone_of (defScope (top 36)) := C8.fnScope_by (by kernel_rfl)
theorem k_Lone_of : chSs G_Lone_of ⟨N_Lone_of, (defScope (top 36)).names, fun _ => true⟩ b_Lone_of (defBody (top 36)) = true := by kernel_rfl
def d_Lone_of : He.DefD := ⟨("_law_one_of", none), "_law_one_of", "_law_one_of", defArgs (top 36), defBody (top 36), defScope (top 36), [], []⟩
noncomputable def e_Lone_of_2 : Ent := mkEnt "_law_one_of" 2 [] [] [0, 1] G_Lone_of 2 b_Lone_of

/-! ### _law_gcd -/
def N_Lgcd : List Str := ["_law_a", "_law_b"]
def P_Lgcd : List Str := ["_law_a", "_law_b"]
noncomputable def G_Lgcd : Gam := ⟨[], [], ["abs", "int"], []⟩
def b_Lgcd : Sms := .cons (.par [0, 1] (.cons (.bi .abs (.cons (.nm 0) .nil)) (.cons (.bi .abs (.cons (.nm 1) .nil)) .nil))) (.cons (.wh (.cmp .gt (.nm 1) (.lit (.int 0))) (.cons (.par [0, 1] (.cons (.nm 1) (.cons (.bin .mod (.bi .int1 (.cons (.nm 0) .nil)) (.nm 1)) .nil))) .nil)) (.cons (.ret (.nm 0)) .nil))
theorem s_Lgcd : FnScope N_Lgcd P_Lgcd (defScope (top 37)) := C8.fnScope_by (by kernel_rfl)
theorem k_Lgcd : chSs G_Lgcd ⟨N_Lgcd, (defScope (top 37)).names, fun _ => true⟩ b_Lgcd (defBody (top 37)) = true := by kernel_rfl
def d_Lgcd : He.DefD := ⟨("_law_gcd", none), "_law_gcd", "_law_gcd", defArgs (top 37), defBody (top 37), defScope (top 37), [], []⟩
noncomputable def e_Lgcd_2 : Ent := mkEnt "_law_gcd" 2 [] [] [0, 1] G_Lgcd 2 b_Lgcd

/-! ### _law_cut -/
def N_Lcut : List Str := ["_law_a", "_law_b", "_law_d", "_law_g"]
def P_Lcut : List Str := ["_law_a", "_law_b", "_law_d"]
noncomputable def G_Lcut : Gam := ⟨[e_Lgcd_2], [], [], []⟩
def b_Lcut : Sms := .cons (.asg (.nm 3) (.call 0 (.cons (.call 0 (.cons (.nm 0) (.cons (.nm 1) .nil)) .nil) (.cons (.nm 2) .nil)) .nil)) (.cons (.ife (.cmp .lt (.nm 2) (.lit (.int 0))) (.cons (.asg (.nm 3) (.bin .sub (.lit (.int 0)) (.nm 3))) .nil) .nil) (.cons (.ret (.tup (.cons (.bin .fdiv (.nm 0) (.nm 3)) (.cons (.bin .fdiv (.nm 1) (.nm 3)) (.cons (.bin .fdiv (.nm 2) (.nm 3)) .nil))))) .nil))
theorem s_Lcut : FnScope N_Lcut P_Lcut (defScope (top 38)) := C8.fnScope_by (by kernel_rfl)
theorem k_Lcut : chSs G_Lcut ⟨N_Lcut, (defScope (top 38)).names, fun _ => true⟩ b_Lcut (defBody (top 38)) = true := by kernel_rfl
def d_Lcut : He.DefD := ⟨("_law_cut", none), "_law_cut", "_law_cut", defArgs (top 38), defBody (top 38), defScope (top 38), [], []⟩
noncomputable def e_Lcut_3 : Ent := mkEnt "_law_cut" 3 [] [] [0, 1, 2] G_Lcut 4 b_Lcut

/-! ### _law_number -/
def N_Lnumber : List Str := ["_law_pail_here", "_law_top", "_law_a", "_law_b"]
def P_Lnumber : List Str := ["_law_pail_here"]
noncomputable def G_Lnumber : Gam := ⟨[e_Lone_of_2, e_Ldip_2, e_Lcut_3], [], [], []⟩
def b_Lnumber : Sms := .cons (.asg (.nm 1) (.call 0 (.cons (.nm 0) (.cons (.fr (.disp (.cons (.lit (.int 2)) (.cons (.lit (.int 5)) (.cons (.lit (.int 40)) .nil))))) .nil)) .nil)) (.cons (.par [2, 3] (.cons (.bin .sub (.call 1 (.cons (.nm 0) (.cons (.bin .add (.bin .mul (.lit (.int 2)) (.nm 1)) (.lit (.int 1))) .nil)) .nil) (.nm 1)) (.cons (.bin .sub (.call 1 (.cons (.nm 0) (.cons (.bin .add (.bin .mul (.lit (.int 2)) (.nm 1)) (.lit (.int 1))) .nil)) .nil) (.nm 1)) .nil))) (.cons (.ret (.call 2 (.cons (.nm 2) (.cons (.ife (.cmp .eq (.call 1 (.cons (.nm 0) (.cons (.lit (.int 4)) .nil)) .nil) (.lit (.int 0))) (.lit (.int 0)) (.nm 3)) (.cons (.bin .add (.lit (.int 1)) (.call 1 (.cons (.nm 0) (.cons (.nm 1) .nil)) .nil)) .nil))) .nil)) .nil))
theorem s_Lnumber : FnScope N_Lnumber P_Lnumber (defScope (top 49)) := C8.fnScope_by (by kernel_rfl)
theorem k_Lnumber : chSs G_Lnumber ⟨N_Lnumber, (defScope (top 49)).names, fun _ => true⟩ b_Lnumber (defBody (top 49)) = true := by kernel_rfl
def d_Lnumber : He.DefD := ⟨("_law_number", none), "_law_number", "_law_number", defArgs (top 49), defBody (top 49), defScope (top 49), [], []⟩
noncomputable def e_Lnumber_1 : Ent := mkEnt "_law_number" 1 [] [] [0] G_Lnumber 4 b_Lnumber

/-! ### _law_fraction -/
def N_Lfraction : List Str := ["_law_n", "_law_m", "_law_g"]
def P_Lfraction : List Str := ["_law_n", "_law_m"]
noncomputable def G_Lfraction : Gam := ⟨[e_Lgcd_2], [], [], []⟩
def b_Lfraction : Sms := .cons (.asg (.nm 2) (.call 0 (.cons (.nm 0) (.cons (.nm 1) .nil)) .nil)) (.cons (.ife (.cmp .lt (.nm 1) (.lit (.int 0))) (.cons (.asg (.nm 2) (.bin .sub (.lit (.int 0)) (.nm 2))) .nil) .nil) (.cons (.ret (.tup (.cons (.bin .fdiv (.nm 0) (.nm 2)) (.cons (.bin .fdiv (.nm 1) (.nm 2)) .nil)))) .nil))
theorem s_Lfraction : FnScope N_Lfraction P_Lfraction (defScope (top 43)) := C8.fnScope_by (by kernel_rfl)
theorem k_Lfraction : chSs G_Lfraction ⟨N_Lfraction, (defScope (top 43)).names, fun _ => true⟩ b_Lfraction (defBody (top 43)) = true := by kernel_rfl
def d_Lfraction : He.DefD := ⟨("_law_fraction", none), "_law_fraction", "_law_fraction", defArgs (top 43), defBody (top 43), defScope (top 43), [], []⟩
noncomputable def e_Lfraction_2 : Ent := mkEnt "_law_fraction" 2 [] [] [0, 1] G_Lfraction 3 b_Lfraction

/-! ### _law_size -/
def N_Lsize : List Str := ["_law_x"]
def P_Lsize : List Str := ["_law_x"]
noncomputable def G_Lsize : Gam := ⟨[e_Lfraction_2], [], [], []⟩
def b_Lsize : Sms := .cons (.ret (.call 0 (.cons (.bin .add (.bin .mul (.ix (.nm 0) (.lit (.int 0))) (.ix (.nm 0) (.lit (.int 0)))) (.bin .mul (.ix (.nm 0) (.lit (.int 1))) (.ix (.nm 0) (.lit (.int 1))))) (.cons (.bin .mul (.ix (.nm 0) (.lit (.int 2))) (.ix (.nm 0) (.lit (.int 2)))) .nil)) .nil)) .nil
theorem s_Lsize : FnScope N_Lsize P_Lsize (defScope (top 44)) := C8.fnScope_by (by kernel_rfl)
theorem k_Lsize : chSs G_Lsize ⟨N_Lsize, (defScope (top 44)).names, fun _ => true⟩ b_Lsize (defBody (top 44)) = true := by kernel_rfl
def d_Lsize : He.DefD := ⟨("_law_size", none), "_law_size", "_law_size", defArgs (top 44), defBody (top 44), defScope (top 44), [], []⟩
noncomputable def e_Lsize_1 : Ent := mkEnt "_law_size" 1 [] [] [0] G_Lsize 1 b_Lsize

/-! ### is_whole -/
def N_is_whole : List Str := ["value"]
def P_is_whole : List Str := ["value"]
noncomputable def G_is_whole : Gam := ⟨[], [], ["isinstance", "bool", "int"], []⟩
def b_is_whole : Sms := .cons (.ret (.and (.isi (.nm 0) "int") (.not (.isi (.nm 0) "bool")))) .nil
theorem s_is_whole : FnScope N_is_whole P_is_whole (defScope (top 9)) := C8.fnScope_by (by kernel_rfl)
theorem k_is_whole : chSs G_is_whole ⟨N_is_whole, (defScope (top 9)).names, fun _ => true⟩ b_is_whole (defBody (top 9)) = true := by kernel_rfl
def d_is_whole : He.DefD := ⟨("is_whole", none), "is_whole", "is_whole", defArgs (top 9), defBody (top 9), defScope (top 9), [], []⟩
noncomputable def e_is_whole_1 : Ent := mkEnt "is_whole" 1 [] [] [0] G_is_whole 1 b_is_whole

/-! ### is_frac -/
def N_is_frac : List Str := ["value"]
def P_is_frac : List Str := ["value"]
noncomputable def G_is_frac : Gam := ⟨[e_is_whole_1], [], ["isinstance", "tuple", "len"], [("gcd", "math.gcd")]⟩
def b_is_frac : Sms := .cons (.ife (.or (.not (.isi (.nm 0) "tuple")) (.or (.cmp .ne (.bi .len (.cons (.nm 0) .nil)) (.lit (.int 2))) (.or (.not (.call 0 (.cons (.ix (.nm 0) (.lit (.int 0))) .nil) .nil)) (.not (.call 0 (.cons (.ix (.nm 0) (.lit (.int 1))) .nil) .nil))))) (.cons (.ret (.lit (.bl false))) .nil) .nil) (.cons (.ret (.and (.cmp .gt (.ix (.nm 0) (.lit (.int 1))) (.lit (.int 0))) (.cmp .eq (.bi .gcd (.cons (.ix (.nm 0) (.lit (.int 0))) (.cons (.ix (.nm 0) (.lit (.int 1))) .nil))) (.lit (.int 1))))) .nil)
theorem s_is_frac : FnScope N_is_frac P_is_frac (defScope (top 10)) := C8.fnScope_by (by kernel_rfl)
theorem k_is_frac : chSs G_is_frac ⟨N_is_frac, (defScope (top 10)).names, fun _ => true⟩ b_is_frac (defBody (top 10)) = true := by kernel_rfl
def d_is_frac : He.DefD := ⟨("is_frac", none), "is_frac", "is_frac", defArgs (top 10), defBody (top 10), defScope (top 10), [], []⟩
noncomputable def e_is_frac_1 : Ent := mkEnt "is_frac" 1 [] [] [0] G_is_frac 1 b_is_frac

/-! ### is_num -/
def N_is_num : List Str := ["value"]
def P_is_num : List Str := ["value"]
noncomputable def G_is_num : Gam := ⟨[e_is_frac_1], [], ["isinstance", "tuple", "len"], []⟩
def b_is_num : Sms := .cons (.ret (.and (.isi (.nm 0) "tuple") (.and (.cmp .eq (.bi .len (.cons (.nm 0) .nil)) (.lit (.int 2))) (.and (.call 0 (.cons (.ix (.nm 0) (.lit (.int 0))) .nil) .nil) (.call 0 (.cons (.ix (.nm 0) (.lit (.int 1))) .nil) .nil))))) .nil
theorem s_is_num : FnScope N_is_num P_is_num (defScope (top 11)) := C8.fnScope_by (by kernel_rfl)
theorem k_is_num : chSs G_is_num ⟨N_is_num, (defScope (top 11)).names, fun _ => true⟩ b_is_num (defBody (top 11)) = true := by kernel_rfl
def d_is_num : He.DefD := ⟨("is_num", none), "is_num", "is_num", defArgs (top 11), defBody (top 11), defScope (top 11), [], []⟩
noncomputable def e_is_num_1 : Ent := mkEnt "is_num" 1 [] [] [0] G_is_num 1 b_is_num

/-! ### check_number -/
def N_check_number : List Str := ["value"]
def P_check_number : List Str := ["value"]
noncomputable def G_check_number : Gam := ⟨[e_is_num_1], [], [], []⟩
def b_check_number : Sms := .cons (.ife (.not (.call 0 (.cons (.nm 0) .nil) .nil)) (.cons .never .nil) .nil) .nil
theorem s_check_number : FnScope N_check_number P_check_number (defScope (top 25)) := C8.fnScope_by (by kernel_rfl)
theorem k_check_number : chSs G_check_number ⟨N_check_number, (defScope (top 25)).names, fun _ => true⟩ b_check_number (defBody (top 25)) = true := by kernel_rfl
def d_check_number : He.DefD := ⟨("check_number", none), "check_number", "check_number", defArgs (top 25), defBody (top 25), defScope (top 25), [], []⟩
noncomputable def e_check_number_1 : Ent := mkEnt "check_number" 1 [] [] [0] G_check_number 1 b_check_number

/-! ### frac_reduced -/
def N_frac_reduced : List Str := ["n", "m", "divisor"]
def P_frac_reduced : List Str := ["n", "m"]
noncomputable def G_frac_reduced : Gam := ⟨[], [], [], [("gcd", "math.gcd")]⟩
def b_frac_reduced : Sms := .cons (.asg (.nm 2) (.ife (.cmp .gt (.nm 1) (.lit (.int 0))) (.bi .gcd (.cons (.nm 0) (.cons (.nm 1) .nil))) (.neg (.bi .gcd (.cons (.nm 0) (.cons (.nm 1) .nil)))))) (.cons (.ret (.tup (.cons (.bin .fdiv (.nm 0) (.nm 2)) (.cons (.bin .fdiv (.nm 1) (.nm 2)) .nil)))) .nil)
theorem s_frac_reduced : FnScope N_frac_reduced P_frac_reduced (defScope (top 12)) := C8.fnScope_by (by kernel_rfl)
theorem k_frac_reduced : chSs G_frac_reduced ⟨N_frac_reduced, (defScope (top 12)).names, fun _ => true⟩ b_frac_reduced (defBody (top 12)) = true := by kernel_rfl
def d_frac_reduced : He.DefD := ⟨("frac_reduced", none), "frac_reduced", "frac_reduced", defArgs (top 12), defBody (top 12), defScope (top 12), [], []⟩
noncomputable def e_frac_reduced_2 : Ent := mkEnt "frac_reduced" 2 [] [] [0, 1] G_frac_reduced 3 b_frac_reduced

/-! ### num_product -/
def N_num_product : List Str := ["x", "y", "a", "b", "c", "d", "p", "q", "r", "s", "under"]
def P_num_product : List Str := ["x", "y"]
noncomputable def G_num_product : Gam := ⟨[e_frac_reduced_2], [], [], []⟩
def b_num_product : Sms := .cons (.asg (.tup (.cons (.tup (.cons (.nm 2) (.cons (.nm 3) .nil))) (.cons (.tup (.cons (.nm 4) (.cons (.nm 5) .nil))) .nil))) (.nm 0)) (.cons (.asg (.tup (.cons (.tup (.cons (.nm 6) (.cons (.nm 7) .nil))) (.cons (.tup (.cons (.nm 8) (.cons (.nm 9) .nil))) .nil))) (.nm 1)) (.cons (.asg (.nm 10) (.bin .mul (.bin .mul (.bin .mul (.nm 3) (.nm 5)) (.nm 7)) (.nm 9))) (.cons (.ret (.tup (.cons (.call 0 (.cons (.bin .sub (.bin .mul (.bin .mul (.bin .mul (.nm 2) (.nm 6)) (.nm 5)) (.nm 9)) (.bin .mul (.bin .mul (.bin .mul (.nm 4) (.nm 8)) (.nm 3)) (.nm 7))) (.cons (.nm 10) .nil)) .nil) (.cons (.call 0 (.cons (.bin .add (.bin .mul (.bin .mul (.bin .mul (.nm 2) (.nm 8)) (.nm 5)) (.nm 7)) (.bin .mul (.bin .mul (.bin .mul (.nm 4) (.nm 6)) (.nm 3)) (.nm 9))) (.cons (.nm 10) .nil)) .nil) .nil)))) .nil)))
theorem s_num_product : FnScope N_num_product P_num_product (defScope (top 16)) := C8.fnScope_by (by kernel_rfl)
theorem k_num_product : chSs G_num_product ⟨N_num_product, (defScope (top 16)).names, fun _ => true⟩ b_num_product (defBody (top 16)) = true := by kernel_rfl
def d_num_product : He.DefD := ⟨("num_product", none), "num_product", "num_product", defArgs (top 16), defBody (top 16), defScope (top 16), [], []⟩
noncomputable def e_num_product_2 : Ent := mkEnt "num_product" 2 [] [] [0, 1] G_num_product 11 b_num_product

/-! ### number_product -/
def N_number_product : List Str := ["number", "other"]
def P_number_product : List Str := ["number", "other"]
noncomputable def G_number_product : Gam := ⟨[e_check_number_1, e_num_product_2], [], [], []⟩
def b_number_product : Sms := .cons (.ex (.call 0 (.cons (.nm 0) .nil) .nil)) (.cons (.ex (.call 0 (.cons (.nm 1) .nil) .nil)) (.cons (.ret (.call 1 (.cons (.nm 0) (.cons (.nm 1) .nil)) .nil)) .nil))
theorem s_number_product : FnScope N_number_product P_number_product (defScope (top 26)) := C8.fnScope_by (by kernel_rfl)
theorem k_number_product : chSs G_number_product ⟨N_number_product, (defScope (top 26)).names, fun _ => true⟩ b_number_product (defBody (top 26)) = true := by kernel_rfl
def d_number_product : He.DefD := ⟨("number_product", none), "number_product", "number_product", defArgs (top 26), defBody (top 26), defScope (top 26), [], []⟩
noncomputable def e_number_product_2 : Ent := mkEnt "number_product" 2 [] [] [0, 1] G_number_product 2 b_number_product

/-! ### _law_times -/
def N_Ltimes : List Str := ["_law_x", "_law_y"]
def P_Ltimes : List Str := ["_law_x", "_law_y"]
noncomputable def G_Ltimes : Gam := ⟨[e_Lcut_3], [], [], []⟩
def b_Ltimes : Sms := .cons (.ret (.call 0 (.cons (.bin .sub (.bin .mul (.ix (.nm 0) (.lit (.int 0))) (.ix (.nm 1) (.lit (.int 0)))) (.bin .mul (.ix (.nm 0) (.lit (.int 1))) (.ix (.nm 1) (.lit (.int 1))))) (.cons (.bin .add (.bin .mul (.ix (.nm 0) (.lit (.int 0))) (.ix (.nm 1) (.lit (.int 1)))) (.bin .mul (.ix (.nm 0) (.lit (.int 1))) (.ix (.nm 1) (.lit (.int 0))))) (.cons (.bin .mul (.ix (.nm 0) (.lit (.int 2))) (.ix (.nm 1) (.lit (.int 2)))) .nil))) .nil)) .nil
theorem s_Ltimes : FnScope N_Ltimes P_Ltimes (defScope (top 41)) := C8.fnScope_by (by kernel_rfl)
theorem k_Ltimes : chSs G_Ltimes ⟨N_Ltimes, (defScope (top 41)).names, fun _ => true⟩ b_Ltimes (defBody (top 41)) = true := by kernel_rfl
def d_Ltimes : He.DefD := ⟨("_law_times", none), "_law_times", "_law_times", defArgs (top 41), defBody (top 41), defScope (top 41), [], []⟩
noncomputable def e_Ltimes_2 : Ent := mkEnt "_law_times" 2 [] [] [0, 1] G_Ltimes 2 b_Ltimes

/-! ### frac_product -/
def N_frac_product : List Str := ["x", "y"]
def P_frac_product : List Str := ["x", "y"]
noncomputable def G_frac_product : Gam := ⟨[e_frac_reduced_2], [], [], []⟩
def b_frac_product : Sms := .cons (.ret (.call 0 (.cons (.bin .mul (.ix (.nm 0) (.lit (.int 0))) (.ix (.nm 1) (.lit (.int 0)))) (.cons (.bin .mul (.ix (.nm 0) (.lit (.int 1))) (.ix (.nm 1) (.lit (.int 1)))) .nil)) .nil)) .nil
theorem s_frac_product : FnScope N_frac_product P_frac_product (defScope (top 14)) := C8.fnScope_by (by kernel_rfl)
theorem k_frac_product : chSs G_frac_product ⟨N_frac_product, (defScope (top 14)).names, fun _ => true⟩ b_frac_product (defBody (top 14)) = true := by kernel_rfl
def d_frac_product : He.DefD := ⟨("frac_product", none), "frac_product", "frac_product", defArgs (top 14), defBody (top 14), defScope (top 14), [], []⟩
noncomputable def e_frac_product_2 : Ent := mkEnt "frac_product" 2 [] [] [0, 1] G_frac_product 2 b_frac_product

/-! ### num_scaled -/
def N_num_scaled : List Str := ["x", "fraction"]
def P_num_scaled : List Str := ["x", "fraction"]
noncomputable def G_num_scaled : Gam := ⟨[e_frac_product_2], [], [], []⟩
def b_num_scaled : Sms := .cons (.ret (.tup (.cons (.call 0 (.cons (.ix (.nm 0) (.lit (.int 0))) (.cons (.nm 1) .nil)) .nil) (.cons (.call 0 (.cons (.ix (.nm 0) (.lit (.int 1))) (.cons (.nm 1) .nil)) .nil) .nil)))) .nil
theorem s_num_scaled : FnScope N_num_scaled P_num_scaled (defScope (top 17)) := C8.fnScope_by (by kernel_rfl)
theorem k_num_scaled : chSs G_num_scaled ⟨N_num_scaled, (defScope (top 17)).names, fun _ => true⟩ b_num_scaled (defBody (top 17)) = true := by kernel_rfl
def d_num_scaled : He.DefD := ⟨("num_scaled", none), "num_scaled", "num_scaled", defArgs (top 17), defBody (top 17), defScope (top 17), [], []⟩
noncomputable def e_num_scaled_2 : Ent := mkEnt "num_scaled" 2 [] [] [0, 1] G_num_scaled 2 b_num_scaled

/-! ### frac_over -/
def N_frac_over : List Str := ["x", "y"]
def P_frac_over : List Str := ["x", "y"]
noncomputable def G_frac_over : Gam := ⟨[e_frac_reduced_2], [], [], []⟩
def b_frac_over : Sms := .cons (.ret (.call 0 (.cons (.bin .mul (.ix (.nm 0) (.lit (.int 0))) (.ix (.nm 1) (.lit (.int 1)))) (.cons (.bin .mul (.ix (.nm 0) (.lit (.int 1))) (.ix (.nm 1) (.lit (.int 0)))) .nil)) .nil)) .nil
theorem s_frac_over : FnScope N_frac_over P_frac_over (defScope (top 15)) := C8.fnScope_by (by kernel_rfl)
theorem k_frac_over : chSs G_frac_over ⟨N_frac_over, (defScope (top 15)).names, fun _ => true⟩ b_frac_over (defBody (top 15)) = true := by kernel_rfl
def d_frac_over : He.DefD := ⟨("frac_over", none), "frac_over", "frac_over", defArgs (top 15), defBody (top 15), defScope (top 15), [], []⟩
noncomputable def e_frac_over_2 : Ent := mkEnt "frac_over" 2 [] [] [0, 1] G_frac_over 2 b_frac_over

/-! ### num_mirrored -/
def N_num_mirrored : List Str := ["x"]
def P_num_mirrored : List Str := ["x"]
noncomputable def G_num_mirrored : Gam := ⟨[], [], [], []⟩
def b_num_mirrored : Sms := .cons (.ret (.tup (.cons (.ix (.nm 0) (.lit (.int 0))) (.cons (.tup (.cons (.neg (.ix (.ix (.nm 0) (.lit (.int 1))) (.lit (.int 0)))) (.cons (.ix (.ix (.nm 0) (.lit (.int 1))) (.lit (.int 1))) .nil))) .nil)))) .nil
theorem s_num_mirrored : FnScope N_num_mirrored P_num_mirrored (defScope (top 18)) := C8.fnScope_by (by kernel_rfl)
theorem k_num_mirrored : chSs G_num_mirrored ⟨N_num_mirrored, (defScope (top 18)).names, fun _ => true⟩ b_num_mirrored (defBody (top 18)) = true := by kernel_rfl
def d_num_mirrored : He.DefD := ⟨("num_mirrored", none), "num_mirrored", "num_mirrored", defArgs (top 18), defBody (top 18), defScope (top 18), [], []⟩
noncomputable def e_num_mirrored_1 : Ent := mkEnt "num_mirrored" 1 [] [] [0] G_num_mirrored 1 b_num_mirrored

/-! ### num_size -/
def N_num_size : List Str := ["x", "a", "b", "c", "d"]
def P_num_size : List Str := ["x"]
noncomputable def G_num_size : Gam := ⟨[e_frac_reduced_2], [], [], []⟩
def b_num_size : Sms := .cons (.asg (.tup (.cons (.tup (.cons (.nm 1) (.cons (.nm 2) .nil))) (.cons (.tup (.cons (.nm 3) (.cons (.nm 4) .nil))) .nil))) (.nm 0)) (.cons (.ret (.call 0 (.cons (.bin .add (.bin .mul (.bin .mul (.bin .mul (.nm 1) (.nm 1)) (.nm 4)) (.nm 4)) (.bin .mul (.bin .mul (.bin .mul (.nm 3) (.nm 3)) (.nm 2)) (.nm 2))) (.cons (.bin .mul (.bin .mul (.bin .mul (.nm 2) (.nm 2)) (.nm 4)) (.nm 4)) .nil)) .nil)) .nil)
theorem s_num_size : FnScope N_num_size P_num_size (defScope (top 19)) := C8.fnScope_by (by kernel_rfl)
theorem k_num_size : chSs G_num_size ⟨N_num_size, (defScope (top 19)).names, fun _ => true⟩ b_num_size (defBody (top 19)) = true := by kernel_rfl
def d_num_size : He.DefD := ⟨("num_size", none), "num_size", "num_size", defArgs (top 19), defBody (top 19), defScope (top 19), [], []⟩
noncomputable def e_num_size_1 : Ent := mkEnt "num_size" 1 [] [] [0] G_num_size 5 b_num_size

/-! ### num_over -/
def N_num_over : List Str := ["x", "y"]
def P_num_over : List Str := ["x", "y"]
noncomputable def G_num_over : Gam := ⟨[e_num_scaled_2, e_num_product_2, e_num_mirrored_1, e_frac_over_2, e_num_size_1], [c_FRAC_ONE], [], []⟩
def b_num_over : Sms := .cons (.ret (.call 0 (.cons (.call 1 (.cons (.nm 0) (.cons (.call 2 (.cons (.nm 1) .nil) .nil) .nil)) .nil) (.cons (.call 3 (.cons (.gc 0) (.cons (.call 4 (.cons (.nm 1) .nil) .nil) .nil)) .nil) .nil)) .nil)) .nil
theorem s_num_over : FnScope N_num_over P_num_over (defScope (top 20)) := C8.fnScope_by (by kernel_rfl)
theorem k_num_over : chSs G_num_over ⟨N_num_over, (defScope (top 20)).names, fun _ => true⟩ b_num_over (defBody (top 20)) = true := by kernel_rfl
def d_num_over : He.DefD := ⟨("num_over", none), "num_over", "num_over", defArgs (top 20), defBody (top 20), defScope (top 20), [], []⟩
noncomputable def e_num_over_2 : Ent := mkEnt "num_over" 2 [] [] [0, 1] G_num_over 2 b_num_over

/-! ### number_over -/
def N_number_over : List Str := ["number", "other"]
def P_number_over : List Str := ["number", "other"]
noncomputable def G_number_over : Gam := ⟨[e_check_number_1, e_num_over_2], [c_NOUGHT], [], []⟩
def b_number_over : Sms := .cons (.ex (.call 0 (.cons (.nm 0) .nil) .nil)) (.cons (.ex (.call 0 (.cons (.nm 1) .nil) .nil)) (.cons (.ife (.cmp .eq (.nm 1) (.gc 0)) (.cons .never .nil) .nil) (.cons (.ret (.call 1 (.cons (.nm 0) (.cons (.nm 1) .nil)) .nil)) .nil)))
theorem s_number_over : FnScope N_number_over P_number_over (defScope (top 27)) := C8.fnScope_by (by kernel_rfl)
theorem k_number_over : chSs G_number_over ⟨N_number_over, (defScope (top 27)).names, fun _ => true⟩ b_number_over (defBody (top 27)) = true := by kernel_rfl
def d_number_over : He.DefD := ⟨("number_over", none), "number_over", "number_over", defArgs (top 27), defBody (top 27), defScope (top 27), [], []⟩
noncomputable def e_number_over_2 : Ent := mkEnt "number_over" 2 [] [] [0, 1] G_number_over 2 b_number_over

/-! ### _law_half -/
def N_Lhalf : List Str := ["_law_pail_here", "_law_top"]
def P_Lhalf : List Str := ["_law_pail_here"]
noncomputable def G_Lhalf : Gam := ⟨[e_Lone_of_2, e_Lfraction_2, e_Ldip_2], [], [], []⟩
def b_Lhalf : Sms := .cons (.asg (.nm 1) (.call 0 (.cons (.nm 0) (.cons (.fr (.disp (.cons (.lit (.int 3)) (.cons (.lit (.int 3)) (.cons (.lit (.int 8)) (.cons (.lit (.int 40)) (.cons (.lit (.int 1000)) .nil))))))) .nil)) .nil)) (.cons (.ret (.call 1 (.cons (.bin .sub (.call 2 (.cons (.nm 0) (.cons (.bin .add (.bin .mul (.lit (.int 2)) (.nm 1)) (.lit (.int 1))) .nil)) .nil) (.nm 1)) (.cons (.bin .add (.lit (.int 1)) (.call 2 (.cons (.nm 0) (.cons (.nm 1) .nil)) .nil)) .nil)) .nil)) .nil)
theorem s_Lhalf : FnScope N_Lhalf P_Lhalf (defScope (top 46)) := C8.fnScope_by (by kernel_rfl)
theorem k_Lhalf : chSs G_Lhalf ⟨N_Lhalf, (defScope (top 46)).names, fun _ => true⟩ b_Lhalf (defBody (top 46)) = true := by kernel_rfl
def d_Lhalf : He.DefD := ⟨("_law_half", none), "_law_half", "_law_half", defArgs (top 46), defBody (top 46), defScope (top 46), [], []⟩
noncomputable def e_Lhalf_1 : Ent := mkEnt "_law_half" 1 [] [] [0] G_Lhalf 2 b_Lhalf

/-! ### _law_on_rim -/
def N_Lon_rim : List Str := ["_law_half_here", "_law_p", "_law_q"]
def P_Lon_rim : List Str := ["_law_half_here"]
noncomputable def G_Lon_rim : Gam := ⟨[e_Lcut_3], [], [], []⟩
def b_Lon_rim : Sms := .cons (.asg (.tup (.cons (.nm 1) (.cons (.nm 2) .nil))) (.nm 0)) (.cons (.ret (.call 0 (.cons (.bin .sub (.bin .mul (.nm 2) (.nm 2)) (.bin .mul (.nm 1) (.nm 1))) (.cons (.bin .mul (.bin .mul (.lit (.int 2)) (.nm 1)) (.nm 2)) (.cons (.bin .add (.bin .mul (.nm 2) (.nm 2)) (.bin .mul (.nm 1) (.nm 1))) .nil))) .nil)) .nil)
theorem s_Lon_rim : FnScope N_Lon_rim P_Lon_rim (defScope (top 47)) := C8.fnScope_by (by kernel_rfl)
theorem k_Lon_rim : chSs G_Lon_rim ⟨N_Lon_rim, (defScope (top 47)).names, fun _ => true⟩ b_Lon_rim (defBody (top 47)) = true := by kernel_rfl
def d_Lon_rim : He.DefD := ⟨("_law_on_rim", none), "_law_on_rim", "_law_on_rim", defArgs (top 47), defBody (top 47), defScope (top 47), [], []⟩
noncomputable def e_Lon_rim_1 : Ent := mkEnt "_law_on_rim" 1 [] [] [0] G_Lon_rim 3 b_Lon_rim

/-! ### _law_told -/
def N_Ltold : List Str := ["_law_x"]
def P_Ltold : List Str := ["_law_x"]
noncomputable def G_Ltold : Gam := ⟨[e_Lfraction_2], [], [], []⟩
def b_Ltold : Sms := .cons (.ret (.tup (.cons (.call 0 (.cons (.ix (.nm 0) (.lit (.int 0))) (.cons (.ix (.nm 0) (.lit (.int 2))) .nil)) .nil) (.cons (.call 0 (.cons (.ix (.nm 0) (.lit (.int 1))) (.cons (.ix (.nm 0) (.lit (.int 2))) .nil)) .nil) .nil)))) .nil
theorem s_Ltold : FnScope N_Ltold P_Ltold (defScope (top 45)) := C8.fnScope_by (by kernel_rfl)
theorem k_Ltold : chSs G_Ltold ⟨N_Ltold, (defScope (top 45)).names, fun _ => true⟩ b_Ltold (defBody (top 45)) = true := by kernel_rfl
def d_Ltold : He.DefD := ⟨("_law_told", none), "_law_told", "_law_told", defArgs (top 45), defBody (top 45), defScope (top 45), [], []⟩
noncomputable def e_Ltold_1 : Ent := mkEnt "_law_told" 1 [] [] [0] G_Ltold 1 b_Ltold

/-! ### lies -/
def N_lies : List Str := ["number", "n", "m"]
def P_lies : List Str := ["number"]
noncomputable def G_lies : Gam := ⟨[e_check_number_1, e_num_size_1], [], [], []⟩
def b_lies : Sms := .cons (.ex (.call 0 (.cons (.nm 0) .nil) .nil)) (.cons (.asg (.tup (.cons (.nm 1) (.cons (.nm 2) .nil))) (.call 1 (.cons (.nm 0) .nil) .nil)) (.cons (.ife (.cmp .eq (.nm 1) (.nm 2)) (.cons (.ret (.lit (.str "rim"))) .nil) .nil) (.cons (.ret (.ife (.cmp .lt (.nm 1) (.nm 2)) (.lit (.str "disc")) (.lit (.str "beyond")))) .nil)))
theorem s_lies : FnScope N_lies P_lies (defScope (top 30)) := C8.fnScope_by (by kernel_rfl)
theorem k_lies : chSs G_lies ⟨N_lies, (defScope (top 30)).names, fun _ => true⟩ b_lies (defBody (top 30)) = true := by kernel_rfl
def d_lies : He.DefD := ⟨("lies", none), "lies", "lies", defArgs (top 30), defBody (top 30), defScope (top 30), [], []⟩
noncomputable def e_lies_1 : Ent := mkEnt "lies" 1 [] [] [0] G_lies 3 b_lies

/-! ### frac_sum -/
def N_frac_sum : List Str := ["x", "y"]
def P_frac_sum : List Str := ["x", "y"]
noncomputable def G_frac_sum : Gam := ⟨[e_frac_reduced_2], [], [], []⟩
def b_frac_sum : Sms := .cons (.ret (.call 0 (.cons (.bin .add (.bin .mul (.ix (.nm 0) (.lit (.int 0))) (.ix (.nm 1) (.lit (.int 1)))) (.bin .mul (.ix (.nm 1) (.lit (.int 0))) (.ix (.nm 0) (.lit (.int 1))))) (.cons (.bin .mul (.ix (.nm 0) (.lit (.int 1))) (.ix (.nm 1) (.lit (.int 1)))) .nil)) .nil)) .nil
theorem s_frac_sum : FnScope N_frac_sum P_frac_sum (defScope (top 13)) := C8.fnScope_by (by kernel_rfl)
theorem k_frac_sum : chSs G_frac_sum ⟨N_frac_sum, (defScope (top 13)).names, fun _ => true⟩ b_frac_sum (defBody (top 13)) = true := by kernel_rfl
def d_frac_sum : He.DefD := ⟨("frac_sum", none), "frac_sum", "frac_sum", defArgs (top 13), defBody (top 13), defScope (top 13), [], []⟩
noncomputable def e_frac_sum_2 : Ent := mkEnt "frac_sum" 2 [] [] [0, 1] G_frac_sum 2 b_frac_sum

/-! ### rim_fraction -/
def N_rim_fraction : List Str := ["number"]
def P_rim_fraction : List Str := ["number"]
noncomputable def G_rim_fraction : Gam := ⟨[e_lies_1, e_frac_over_2, e_frac_sum_2], [], [], []⟩
def b_rim_fraction : Sms := .cons (.ife (.cmp .ne (.call 0 (.cons (.nm 0) .nil) .nil) (.lit (.str "rim"))) (.cons .never .nil) .nil) (.cons (.ife (.cmp .eq (.ix (.nm 0) (.lit (.int 0))) (.tup (.cons (.neg (.lit (.int 1))) (.cons (.lit (.int 1)) .nil)))) (.cons (.ret (.lit (.non))) .nil) .nil) (.cons (.ret (.call 1 (.cons (.ix (.nm 0) (.lit (.int 1))) (.cons (.call 2 (.cons (.tup (.cons (.lit (.int 1)) (.cons (.lit (.int 1)) .nil))) (.cons (.ix (.nm 0) (.lit (.int 0))) .nil)) .nil) .nil)) .nil)) .nil))
theorem s_rim_fraction : FnScope N_rim_fraction P_rim_fraction (defScope (top 32)) := C8.fnScope_by (by kernel_rfl)
theorem k_rim_fraction : chSs G_rim_fraction ⟨N_rim_fraction, (defScope (top 32)).names, fun _ => true⟩ b_rim_fraction (defBody (top 32)) = true := by kernel_rfl
def d_rim_fraction : He.DefD := ⟨("rim_fraction", none), "rim_fraction", "rim_fraction", defArgs (top 32), defBody (top 32), defScope (top 32), [], []⟩
noncomputable def e_rim_fraction_1 : Ent := mkEnt "rim_fraction" 1 [] [] [0] G_rim_fraction 1 b_rim_fraction
noncomputable def e_rim_fraction_0_number : Ent := mkEnt "rim_fraction" 0 ["number"] [] [0] G_rim_fraction 1 b_rim_fraction

/-! ### _law_add -/
def N_Ladd : List Str := ["_law_x", "_law_y"]
def P_Ladd : List Str := ["_law_x", "_law_y"]
noncomputable def G_Ladd : Gam := ⟨[e_Lcut_3], [], [], []⟩
def b_Ladd : Sms := .cons (.ret (.call 0 (.cons (.bin .add (.bin .mul (.ix (.nm 0) (.lit (.int 0))) (.ix (.nm 1) (.lit (.int 2)))) (.bin .mul (.ix (.nm 1) (.lit (.int 0))) (.ix (.nm 0) (.lit (.int 2))))) (.cons (.bin .add (.bin .mul (.ix (.nm 0) (.lit (.int 1))) (.ix (.nm 1) (.lit (.int 2)))) (.bin .mul (.ix (.nm 1) (.lit (.int 1))) (.ix (.nm 0) (.lit (.int 2))))) (.cons (.bin .mul (.ix (.nm 0) (.lit (.int 2))) (.ix (.nm 1) (.lit (.int 2)))) .nil))) .nil)) .nil
theorem s_Ladd : FnScope N_Ladd P_Ladd (defScope (top 39)) := C8.fnScope_by (by kernel_rfl)
theorem k_Ladd : chSs G_Ladd ⟨N_Ladd, (defScope (top 39)).names, fun _ => true⟩ b_Ladd (defBody (top 39)) = true := by kernel_rfl
def d_Ladd : He.DefD := ⟨("_law_add", none), "_law_add", "_law_add", defArgs (top 39), defBody (top 39), defScope (top 39), [], []⟩
noncomputable def e_Ladd_2 : Ent := mkEnt "_law_add" 2 [] [] [0, 1] G_Ladd 2 b_Ladd

/-! ### _law_less -/
def N_Lless : List Str := ["_law_x", "_law_y"]
def P_Lless : List Str := ["_law_x", "_law_y"]
noncomputable def G_Lless : Gam := ⟨[e_Lcut_3], [], [], []⟩
def b_Lless : Sms := .cons (.ret (.call 0 (.cons (.bin .sub (.bin .mul (.ix (.nm 0) (.lit (.int 0))) (.ix (.nm 1) (.lit (.int 2)))) (.bin .mul (.ix (.nm 1) (.lit (.int 0))) (.ix (.nm 0) (.lit (.int 2))))) (.cons (.bin .sub (.bin .mul (.ix (.nm 0) (.lit (.int 1))) (.ix (.nm 1) (.lit (.int 2)))) (.bin .mul (.ix (.nm 1) (.lit (.int 1))) (.ix (.nm 0) (.lit (.int 2))))) (.cons (.bin .mul (.ix (.nm 0) (.lit (.int 2))) (.ix (.nm 1) (.lit (.int 2)))) .nil))) .nil)) .nil
theorem s_Lless : FnScope N_Lless P_Lless (defScope (top 40)) := C8.fnScope_by (by kernel_rfl)
theorem k_Lless : chSs G_Lless ⟨N_Lless, (defScope (top 40)).names, fun _ => true⟩ b_Lless (defBody (top 40)) = true := by kernel_rfl
def d_Lless : He.DefD := ⟨("_law_less", none), "_law_less", "_law_less", defArgs (top 40), defBody (top 40), defScope (top 40), [], []⟩
noncomputable def e_Lless_2 : Ent := mkEnt "_law_less" 2 [] [] [0, 1] G_Lless 2 b_Lless

/-! ### check_fraction -/
def N_check_fraction : List Str := ["value"]
def P_check_fraction : List Str := ["value"]
noncomputable def G_check_fraction : Gam := ⟨[e_is_frac_1], [], [], []⟩
def b_check_fraction : Sms := .cons (.ife (.not (.call 0 (.cons (.nm 0) .nil) .nil)) (.cons .never .nil) .nil) .nil
theorem s_check_fraction : FnScope N_check_fraction P_check_fraction (defScope (top 24)) := C8.fnScope_by (by kernel_rfl)
theorem k_check_fraction : chSs G_check_fraction ⟨N_check_fraction, (defScope (top 24)).names, fun _ => true⟩ b_check_fraction (defBody (top 24)) = true := by kernel_rfl
def d_check_fraction : He.DefD := ⟨("check_fraction", none), "check_fraction", "check_fraction", defArgs (top 24), defBody (top 24), defScope (top 24), [], []⟩
noncomputable def e_check_fraction_1 : Ent := mkEnt "check_fraction" 1 [] [] [0] G_check_fraction 1 b_check_fraction

/-! ### number_at_rim -/
def N_number_at_rim : List Str := ["fraction", "n", "m"]
def P_number_at_rim : List Str := ["fraction"]
noncomputable def G_number_at_rim : Gam := ⟨[e_num_over_2], [], [], []⟩
def b_number_at_rim : Sms := .cons (.asg (.tup (.cons (.nm 1) (.cons (.nm 2) .nil))) (.nm 0)) (.cons (.ret (.call 0 (.cons (.tup (.cons (.tup (.cons (.nm 2) (.cons (.lit (.int 1)) .nil))) (.cons (.tup (.cons (.nm 1) (.cons (.lit (.int 1)) .nil))) .nil))) (.cons (.tup (.cons (.tup (.cons (.nm 2) (.cons (.lit (.int 1)) .nil))) (.cons (.tup (.cons (.neg (.nm 1)) (.cons (.lit (.int 1)) .nil))) .nil))) .nil)) .nil)) .nil)
theorem s_number_at_rim : FnScope N_number_at_rim P_number_at_rim (defScope (top 22)) := C8.fnScope_by (by kernel_rfl)
theorem k_number_at_rim : chSs G_number_at_rim ⟨N_number_at_rim, (defScope (top 22)).names, fun _ => true⟩ b_number_at_rim (defBody (top 22)) = true := by kernel_rfl
def d_number_at_rim : He.DefD := ⟨("number_at_rim", none), "number_at_rim", "number_at_rim", defArgs (top 22), defBody (top 22), defScope (top 22), [], []⟩
noncomputable def e_number_at_rim_1 : Ent := mkEnt "number_at_rim" 1 [] [] [0] G_number_at_rim 3 b_number_at_rim

/-! ### rim_number -/
def N_rim_number : List Str := ["fraction"]
def P_rim_number : List Str := ["fraction"]
noncomputable def G_rim_number : Gam := ⟨[e_check_fraction_1, e_number_at_rim_1], [], [], []⟩
def b_rim_number : Sms := .cons (.ex (.call 0 (.cons (.nm 0) .nil) .nil)) (.cons (.ret (.call 1 (.cons (.nm 0) .nil) .nil)) .nil)
theorem s_rim_number : FnScope N_rim_number P_rim_number (defScope (top 31)) := C8.fnScope_by (by kernel_rfl)
theorem k_rim_number : chSs G_rim_number ⟨N_rim_number, (defScope (top 31)).names, fun _ => true⟩ b_rim_number (defBody (top 31)) = true := by kernel_rfl
def d_rim_number : He.DefD := ⟨("rim_number", none), "rim_number", "rim_number", defArgs (top 31), defBody (top 31), defScope (top 31), [], []⟩
noncomputable def e_rim_number_1 : Ent := mkEnt "rim_number" 1 [] [] [0] G_rim_number 1 b_rim_number
noncomputable def e_rim_number_0_fraction : Ent := mkEnt "rim_number" 0 ["fraction"] [] [0] G_rim_number 1 b_rim_number

/-! ### _law_both -/
def N_Lboth : List Str := ["_law_one", "_law_other", "_law_sign", "_law_p", "_law_q", "_law_r", "_law_s"]
def P_Lboth : List Str := ["_law_one", "_law_other", "_law_sign"]
noncomputable def G_Lboth : Gam := ⟨[e_Lfraction_2], [], [], []⟩
def b_Lboth : Sms := .cons (.asg (.tup (.cons (.nm 3) (.cons (.nm 4) (.cons (.nm 5) (.cons (.nm 6) .nil))))) (.tup (.cons (.ix (.nm 0) (.lit (.int 0))) (.cons (.ix (.nm 0) (.lit (.int 1))) (.cons (.bin .mul (.nm 2) (.ix (.nm 1) (.lit (.int 0)))) (.cons (.ix (.nm 1) (.lit (.int 1))) .nil)))))) (.cons (.ife (.cmp .eq (.bin .sub (.bin .mul (.nm 4) (.nm 6)) (.bin .mul (.nm 3) (.nm 5))) (.lit (.int 0))) (.cons (.ret (.lit (.non))) .nil) .nil) (.cons (.ret (.call 0 (.cons (.bin .add (.bin .mul (.nm 3) (.nm 6)) (.bin .mul (.nm 5) (.nm 4))) (.cons (.bin .sub (.bin .mul (.nm 4) (.nm 6)) (.bin .mul (.nm 3) (.nm 5))) .nil)) .nil)) .nil))
theorem s_Lboth : FnScope N_Lboth P_Lboth (defScope (top 48)) := C8.fnScope_by (by kernel_rfl)
theorem k_Lboth : chSs G_Lboth ⟨N_Lboth, (defScope (top 48)).names, fun _ => true⟩ b_Lboth (defBody (top 48)) = true := by kernel_rfl
def d_Lboth : He.DefD := ⟨("_law_both", none), "_law_both", "_law_both", defArgs (top 48), defBody (top 48), defScope (top 48), [], []⟩
noncomputable def e_Lboth_3 : Ent := mkEnt "_law_both" 3 [] [] [0, 1, 2] G_Lboth 7 b_Lboth

/-! ### size -/
def N_size : List Str := ["number"]
def P_size : List Str := ["number"]
noncomputable def G_size : Gam := ⟨[e_check_number_1, e_num_size_1], [], [], []⟩
def b_size : Sms := .cons (.ex (.call 0 (.cons (.nm 0) .nil) .nil)) (.cons (.ret (.call 1 (.cons (.nm 0) .nil) .nil)) .nil)
theorem s_size : FnScope N_size P_size (defScope (top 29)) := C8.fnScope_by (by kernel_rfl)
theorem k_size : chSs G_size ⟨N_size, (defScope (top 29)).names, fun _ => true⟩ b_size (defBody (top 29)) = true := by kernel_rfl
def d_size : He.DefD := ⟨("size", none), "size", "size", defArgs (top 29), defBody (top 29), defScope (top 29), [], []⟩
noncomputable def e_size_1 : Ent := mkEnt "size" 1 [] [] [0] G_size 1 b_size

/-! ### _law_over -/
def N_Lover : List Str := ["_law_x", "_law_y", "_law_down"]
def P_Lover : List Str := ["_law_x", "_law_y"]
noncomputable def G_Lover : Gam := ⟨[e_Lcut_3], [], [], []⟩
def b_Lover : Sms := .cons (.asg (.nm 2) (.bin .mul (.ix (.nm 0) (.lit (.int 2))) (.bin .add (.bin .mul (.ix (.nm 1) (.lit (.int 0))) (.ix (.nm 1) (.lit (.int 0)))) (.bin .mul (.ix (.nm 1) (.lit (.int 1))) (.ix (.nm 1) (.lit (.int 1))))))) (.cons (.ret (.call 0 (.cons (.bin .mul (.bin .add (.bin .mul (.ix (.nm 0) (.lit (.int 0))) (.ix (.nm 1) (.lit (.int 0)))) (.bin .mul (.ix (.nm 0) (.lit (.int 1))) (.ix (.nm 1) (.lit (.int 1))))) (.ix (.nm 1) (.lit (.int 2)))) (.cons (.bin .mul (.bin .sub (.bin .mul (.ix (.nm 0) (.lit (.int 1))) (.ix (.nm 1) (.lit (.int 0)))) (.bin .mul (.ix (.nm 0) (.lit (.int 0))) (.ix (.nm 1) (.lit (.int 1))))) (.ix (.nm 1) (.lit (.int 2)))) (.cons (.nm 2) .nil))) .nil)) .nil)
theorem s_Lover : FnScope N_Lover P_Lover (defScope (top 42)) := C8.fnScope_by (by kernel_rfl)
theorem k_Lover : chSs G_Lover ⟨N_Lover, (defScope (top 42)).names, fun _ => true⟩ b_Lover (defBody (top 42)) = true := by kernel_rfl
def d_Lover : He.DefD := ⟨("_law_over", none), "_law_over", "_law_over", defArgs (top 42), defBody (top 42), defScope (top 42), [], []⟩
noncomputable def e_Lover_2 : Ent := mkEnt "_law_over" 2 [] [] [0, 1] G_Lover 3 b_Lover

/-! ### mirrored -/
def N_mirrored : List Str := ["number"]
def P_mirrored : List Str := ["number"]
noncomputable def G_mirrored : Gam := ⟨[e_check_number_1, e_num_mirrored_1], [], [], []⟩
def b_mirrored : Sms := .cons (.ex (.call 0 (.cons (.nm 0) .nil) .nil)) (.cons (.ret (.call 1 (.cons (.nm 0) .nil) .nil)) .nil)
theorem s_mirrored : FnScope N_mirrored P_mirrored (defScope (top 28)) := C8.fnScope_by (by kernel_rfl)
theorem k_mirrored : chSs G_mirrored ⟨N_mirrored, (defScope (top 28)).names, fun _ => true⟩ b_mirrored (defBody (top 28)) = true := by kernel_rfl
def d_mirrored : He.DefD := ⟨("mirrored", none), "mirrored", "mirrored", defArgs (top 28), defBody (top 28), defScope (top 28), [], []⟩
noncomputable def e_mirrored_1 : Ent := mkEnt "mirrored" 1 [] [] [0] G_mirrored 1 b_mirrored

/-! ### _law_right -/
def N_Lright : List Str := ["_law_pail_here", "_law_one", "_law_other", "_law_way", "_law_x", "_law_y", "_law_first", "_law_second", "_law_told_here", "_law_w", "_law_n", "_law_m", "_law_turned", "_law_v", "_law_far", "_law_up", "_law_down", "_law_led"]
def P_Lright : List Str := ["_law_pail_here"]
noncomputable def G_Lright : Gam := ⟨[e_Lhalf_1, e_Ldip_2, e_Lfraction_2, e_Lon_rim_1, e_Ltold_1, e_rim_number_1, e_rim_number_0_fraction, e_rim_fraction_1, e_rim_fraction_0_number, e_number_product_2, e_number_over_2, e_Lboth_3, e_mirrored_1, e_Lnumber_1, e_Lsize_1, e_size_1, e_Ltimes_2, e_lies_1, e_Ladd_2, e_Lless_2, e_Lover_2], [], ["repr"], []⟩
def b_Lright : Sms := .cons (.par [1, 2] (.cons (.call 0 (.cons (.nm 0) .nil) .nil) (.cons (.call 0 (.cons (.nm 0) .nil) .nil) .nil))) (.cons (.asg (.nm 3) (.call 1 (.cons (.nm 0) (.cons (.lit (.int 6)) .nil)) .nil)) (.cons (.ife (.and (.cmp .lt (.nm 3) (.lit (.int 2))) (.cmp .ne (.ix (.nm 1) (.lit (.int 0))) (.lit (.int 0)))) (.cons (.asg (.nm 2) (.call 2 (.cons (.bin .mul (.bin .sub (.lit (.int 1)) (.bin .mul (.lit (.int 2)) (.nm 3))) (.ix (.nm 1) (.lit (.int 1)))) (.cons (.ix (.nm 1) (.lit (.int 0))) .nil)) .nil)) .nil) .nil) (.cons (.par [4, 5] (.cons (.call 3 (.cons (.nm 1) .nil) .nil) (.cons (.call 3 (.cons (.nm 2) .nil) .nil) .nil))) (.cons (.par [6, 7] (.cons (.call 4 (.cons (.nm 4) .nil) .nil) (.cons (.call 4 (.cons (.nm 5) .nil) .nil) .nil))) (.cons (.ife (.cmp .ne (.bi .repr (.cons (.fr (.disp (.cons (.call 5 (.cons (.nm 1) .nil) .nil) (.cons (.call 6 .nil (.cons (.nm 2) .nil)) .nil)))) .nil)) (.bi .repr (.cons (.fr (.disp (.cons (.nm 6) (.cons (.nm 7) .nil)))) .nil))) (.cons (.ret (.lit (.bl false))) .nil) .nil) (.cons (.ife (.cmp .ne (.bi .repr (.cons (.fr (.disp (.cons (.call 7 (.cons (.nm 6) .nil) .nil) (.cons (.call 8 .nil (.cons (.nm 7) .nil)) .nil)))) .nil)) (.bi .repr (.cons (.fr (.disp (.cons (.nm 1) (.cons (.nm 2) .nil)))) .nil))) (.cons (.ret (.lit (.bl false))) .nil) .nil) (.cons (.asg (.nm 8) (.fr (.disp (.cons (.call 7 (.cons (.call 9 (.cons (.nm 6) (.cons (.nm 7) .nil)) .nil) .nil) .nil) (.cons (.call 7 (.cons (.call 10 (.cons (.nm 6) (.cons (.nm 7) .nil)) .nil) .nil) .nil) .nil))))) (.cons (.ife (.cmp .ne (.bi .repr (.cons (.nm 8) .nil)) (.bi .repr (.cons (.fr (.disp (.cons (.call 11 (.cons (.nm 1) (.cons (.nm 2) (.cons (.lit (.int 1)) .nil))) .nil) (.cons (.call 11 (.cons (.nm 1) (.cons (.nm 2) (.cons (.bin .sub (.lit (.int 0)) (.lit (.int 1))) .nil))) .nil) .nil)))) .nil))) (.cons (.ret (.lit (.bl false))) .nil) .nil) (.cons (.ife (.or (.cmp .ne (.bi .repr (.cons (.call 7 (.cons (.call 12 (.cons (.nm 6) .nil) .nil) .nil) .nil) .nil)) (.bi .repr (.cons (.tup (.cons (.bin .sub (.lit (.int 0)) (.ix (.nm 1) (.lit (.int 0)))) (.cons (.ix (.nm 1) (.lit (.int 1))) .nil))) .nil))) (.cmp .notN (.call 7 (.cons (.tup (.cons (.tup (.cons (.bin .sub (.lit (.int 0)) (.lit (.int 1))) (.cons (.lit (.int 1)) .nil))) (.cons (.tup (.cons (.lit (.int 0)) (.cons (.lit (.int 1)) .nil))) .nil))) .nil) .nil) (.lit (.non)))) (.cons (.ret (.lit (.bl false))) .nil) .nil) (.cons (.asg (.nm 9) (.call 13 (.cons (.nm 0) .nil) .nil)) (.cons (.asg (.tup (.cons (.nm 10) (.cons (.nm 11) .nil))) (.call 14 (.cons (.nm 9) .nil) .nil)) (.cons (.asg (.nm 12) (.call 9 (.cons (.nm 6) (.cons (.call 4 (.cons (.nm 9) .nil) .nil) .nil)) .nil)) (.cons (.ife (.cmp .ne (.bi .repr (.cons (.fr (.disp (.cons (.nm 12) (.cons (.call 15 (.cons (.nm 12) .nil) .nil) .nil)))) .nil)) (.bi .repr (.cons (.fr (.disp (.cons (.call 4 (.cons (.call 16 (.cons (.nm 4) (.cons (.nm 9) .nil)) .nil) .nil) .nil) (.cons (.tup (.cons (.nm 10) (.cons (.nm 11) .nil))) .nil)))) .nil))) (.cons (.ret (.lit (.bl false))) .nil) .nil) (.cons (.ife (.cmp .ne (.call 17 (.cons (.nm 12) .nil) .nil) (.ife (.cmp .lt (.nm 10) (.nm 11)) (.lit (.str "disc")) (.ife (.cmp .eq (.nm 10) (.nm 11)) (.lit (.str "rim")) (.lit (.str "beyond"))))) (.cons (.ret (.lit (.bl false))) .nil) .nil) (.cons (.asg (.nm 13) (.call 13 (.cons (.nm 0) .nil) .nil)) (.cons (.ife (.cmp .eq (.nm 13) (.tup (.cons (.lit (.int 0)) (.cons (.bin .sub (.lit (.int 0)) (.lit (.int 1))) (.cons (.lit (.int 1)) .nil))))) (.cons (.asg (.nm 13) (.tup (.cons (.lit (.int 0)) (.cons (.lit (.int 0)) (.cons (.lit (.int 1)) .nil))))) .nil) .nil) (.cons (.asg (.nm 14) (.call 16 (.cons (.tup (.cons (.lit (.int 0)) (.cons (.lit (.int 1)) (.cons (.lit (.int 1)) .nil)))) (.cons (.nm 13) .nil)) .nil)) (.cons (.par [15, 16] (.cons (.call 18 (.cons (.tup (.cons (.lit (.int 1)) (.cons (.lit (.int 0)) (.cons (.lit (.int 1)) .nil)))) (.cons (.nm 14) .nil)) .nil) (.cons (.call 19 (.cons (.tup (.cons (.lit (.int 1)) (.cons (.lit (.int 0)) (.cons (.lit (.int 1)) .nil)))) (.cons (.nm 14) .nil)) .nil) .nil))) (.cons (.asg (.nm 17) (.call 10 (.cons (.call 4 (.cons (.nm 15) .nil) .nil) (.cons (.call 4 (.cons (.nm 16) .nil) .nil) .nil)) .nil)) (.cons (.ife (.cmp .ne (.bi .repr (.cons (.nm 17) .nil)) (.bi .repr (.cons (.call 4 (.cons (.call 20 (.cons (.nm 15) (.cons (.nm 16) .nil)) .nil) .nil) .nil) .nil))) (.cons (.ret (.lit (.bl false))) .nil) .nil) (.cons (.ife (.cmp .ne (.call 17 (.cons (.nm 17) .nil) .nil) (.ife (.cmp .gt (.ix (.nm 13) (.lit (.int 1))) (.lit (.int 0))) (.lit (.str "disc")) (.ife (.cmp .eq (.ix (.nm 13) (.lit (.int 1))) (.lit (.int 0))) (.lit (.str "rim")) (.lit (.str "beyond"))))) (.cons (.ret (.lit (.bl false))) .nil) .nil) (.cons (.ret (.or (.cmp .ne (.ix (.nm 13) (.lit (.int 1))) (.lit (.int 0))) (.cmp .eq (.bi .repr (.cons (.call 7 (.cons (.nm 17) .nil) .nil) .nil)) (.bi .repr (.cons (.tup (.cons (.ix (.nm 13) (.lit (.int 0))) (.cons (.ix (.nm 13) (.lit (.int 2))) .nil))) .nil))))) .nil))))))))))))))))))))))
theorem s_Lright : FnScope N_Lright P_Lright (defScope (top 50)) := C8.fnScope_by (by kernel_rfl)
theorem k_Lright : chSs G_Lright ⟨N_Lright, (defScope (top 50)).names, fun _ => true⟩ b_Lright (defBody (top 50)) = true := by kernel_rfl
def d_Lright : He.DefD := ⟨("_law_right", none), "_law_right", "_law_right", defArgs (top 50), defBody (top 50), defScope (top 50), [], []⟩
noncomputable def e_Lright_1 : Ent := mkEnt "_law_right" 1 [] [] [0] G_Lright 18 b_Lright

/-! ### _law_pail -/
def N_Lpail : List Str := ["_law_script", "_law_turn", "_law_cell", "_law_mixed", "_law_each", "_law_rich"]
def P_Lpail : List Str := ["_law_script", "_law_turn"]
noncomputable def G_Lpail : Gam := ⟨[], [], ["len", "int", "abs"], []⟩
def b_Lpail : Sms := .cons (.asg (.nm 2) (.ife (.cmp .lt (.nm 1) (.bi .len (.cons (.nm 0) .nil))) (.bi .int1 (.cons (.ix (.nm 0) (.nm 1)) .nil)) (.bin .add (.bin .mul (.lit (.int 977)) (.nm 1)) (.lit (.int 41))))) (.cons (.asg (.nm 3) (.bin .add (.lit (.int 51043)) (.bin .mul (.lit (.int 8009)) (.nm 1)))) (.cons (.for_ (.nm 4) (.seq (.fr (.slc (.nm 0) .none (.some (.lit (.int 9)))))) (.cons (.asg (.nm 3) (.bin .mod (.bi .int1 (.cons (.bin .add (.bin .add (.bin .mul (.nm 3) (.lit (.int 69069))) (.bin .mul (.bin .mod (.bi .int1 (.cons (.nm 4) .nil)) (.lit (.int 998244353))) (.lit (.int 31)))) (.lit (.int 7))) .nil)) (.lit (.int 2147483629)))) .nil)) (.cons (.asg (.nm 5) (.or (.cmp .lt (.nm 2) (.lit (.int 0))) (.cmp .ge (.nm 2) (.bin .pow (.lit (.int 10)) (.lit (.int 15)))))) (.cons (.retc (.cons (.ife (.nm 5) (.bi .abs (.cons (.nm 2) .nil)) (.lit (.int 0))) (.cons (.bin .mod (.bi .int1 (.cons (.bin .add (.bin .add (.bin .mul (.nm 3) (.lit (.int 89))) (.bin .mul (.bin .mod (.bi .int1 (.cons (.nm 2) .nil)) (.lit (.int 998244353))) (.lit (.int 20011)))) (.lit (.int 5))) .nil)) (.lit (.int 2147483629))) (.cons (.lit (.int 0)) .nil)))) .nil))))
theorem s_Lpail : FnScope N_Lpail P_Lpail (defScope (top 34)) := C8.fnScope_by (by kernel_rfl)
theorem k_Lpail : chSs G_Lpail ⟨N_Lpail, (defScope (top 34)).names, fun _ => true⟩ b_Lpail (defBody (top 34)) = true := by kernel_rfl
def d_Lpail : He.DefD := ⟨("_law_pail", none), "_law_pail", "_law_pail", defArgs (top 34), defBody (top 34), defScope (top 34), [], []⟩
noncomputable def e_Lpail_2 : Ent := mkEnt "_law_pail" 2 [] [] [0, 1] G_Lpail 6 b_Lpail

/-! ### law -/
def N_law : List Str := ["_law_script", "_law_turn"]
def P_law : List Str := ["_law_script"]
noncomputable def G_law : Gam := ⟨[e_Lright_1, e_Lpail_2], [], ["all", "range", "max", "min", "len"], []⟩
def b_law : Sms := .cons (.ret (.bi .all (.cons (.fr (.comp (.call 0 (.cons (.call 1 (.cons (.nm 0) (.cons (.nm 1) .nil)) .nil) .nil) .nil) (.nm 1) (.range1 (.bi .max2 (.cons (.lit (.int 2)) (.cons (.bi .min2 (.cons (.bi .len (.cons (.nm 0) .nil)) (.cons (.lit (.int 4)) .nil))) .nil)))) .none [1])) .nil))) .nil
theorem s_law : FnScope N_law P_law (defScope (top 51)) := C8.fnScope_by (by kernel_rfl)
theorem k_law : chSs G_law ⟨N_law, (defScope (top 51)).names, fun _ => true⟩ b_law (defBody (top 51)) = true := by kernel_rfl
def d_law : He.DefD := ⟨("law", none), "law", "law", defArgs (top 51), defBody (top 51), defScope (top 51), [], []⟩

/-! ### the head -/
def fn : List He.DefD := [d_Ldip, d_Lone_of, d_Lgcd, d_Lcut, d_Lnumber, d_Lfraction, d_Lsize, d_is_whole, d_is_frac, d_is_num, d_check_number, d_frac_reduced, d_num_product, d_number_product, d_Ltimes, d_frac_product, d_num_scaled, d_frac_over, d_num_mirrored, d_num_size, d_num_over, d_number_over, d_Lhalf, d_Lon_rim, d_Ltold, d_lies, d_frac_sum, d_rim_fraction, d_Ladd, d_Lless, d_check_fraction, d_number_at_rim, d_rim_number, d_Lboth, d_size, d_Lover, d_mirrored, d_Lright, d_Lpail, d_law]
def fa : List He.Fa := ([.glo "_law_dip", .glo "_law_one_of", .glo "_law_gcd", .glo "_law_cut", .glo "_law_number", .glo "_law_fraction", .glo "_law_size", .glo "is_whole", .glo "is_frac", .glo "is_num", .glo "check_number", .glo "frac_reduced", .glo "num_product", .glo "number_product", .glo "_law_times", .glo "frac_product", .glo "num_scaled", .glo "frac_over", .glo "num_mirrored", .glo "num_size", .glo "num_over", .glo "number_over", .glo "_law_half", .glo "_law_on_rim", .glo "_law_told", .glo "lies", .glo "frac_sum", .glo "rim_fraction", .glo "_law_add", .glo "_law_less"] : List He.Fa) ++ ([.glo "check_fraction", .glo "number_at_rim", .glo "rim_number", .glo "_law_both", .glo "size", .glo "_law_over", .glo "mirrored", .glo "_law_right", .glo "_law_pail", .glo "law", .free "divmod", .free "int", .free "len", .free "abs", .free "isinstance", .free "bool", .free "tuple", .free "repr", .free "all", .free "range", .free "max", .free "min"] : List He.Fa)
def cs : List (Str × D) := [c_FRAC_ONE, c_NOUGHT]
def bs : List (Str × String) := [("gcd", "math.gcd")]
abbrev R : PySem.W.OpenRow := PySem.W.OpenLaw.row PySem.Challenge.rw_withinrim_k03_whole_rim_numbers_there_an
abbrev hk : PySem.W.Hook := hookC 4 fa fn cs bs
def ob (s : PySem.W.SharedT) : He.AlD := obsCG 4 fa fn cs bs (HandSHeadRun.getT s)
theorem ob_eq (s : PySem.W.SharedT) : ob s = hk.obs s.abs := obsCG_eq (HandSHeadRun.getT_eq s)
def loose : List Str := (["__name__", "RimError", "ValueError", "InvalidFraction", "InvalidNumber", "NotNow", "FRAC_ONE", "NOUGHT", "is_whole", "is_frac", "is_num", "frac_reduced", "frac_sum", "frac_product", "frac_over", "num_product", "num_scaled", "num_mirrored", "num_size", "num_over", "number_at_rim", "check_fraction", "check_number", "number_product", "number_over", "mirrored", "size", "lies", "rim_number", "rim_fraction"] : List Str) ++ (["_law_pail", "_law_dip", "_law_one_of", "_law_gcd", "_law_cut", "_law_add", "_law_less", "_law_times", "_law_over", "_law_fraction", "_law_size", "_law_told", "_law_half", "_law_on_rim", "_law_both", "_law_number", "_law_right"] : List Str)
theorem run (w : World) : HandSHeadRun.RunEqI R (PySem.W.view R.prog [0, 51]) hk ob 6000 loose w := by
  unfold HandSHeadRun.RunEqI; kernel_rfl
section
variable {P : Program} {w : World} {K : PySem.W.Frag} {mg : Str → Option Value} {base h : Heap}
theorem facts (X : K.In h) (G : h.Ns mainGlobals mg) {f : Addr} (hfa : mg ("law" : Str) = some (.ref f)) (c : SaysC fa fn cs bs K) :
    ∃ fd : FuncData, (∀ (s : Shared) (v : Value), BindsTo s fd ⟨[v], []⟩ [("_law_script", v)]) ∧ ∀ base : Heap, K.In base → base.Ns mainGlobals mg → FnG P w K mg base 40 f fd P_law (spD K G_law 2 b_law P_law) := by
  have r_divmod : mg ("divmod" : Str) = none := He.free_ok X G (c.d.fact 40 (f := .free "divmod") rfl)
  have r_int : mg ("int" : Str) = none := He.free_ok X G (c.d.fact 41 (f := .free "int") rfl)
  have r_len : mg ("len" : Str) = none := He.free_ok X G (c.d.fact 42 (f := .free "len") rfl)
  have r_abs : mg ("abs" : Str) = none := He.free_ok X G (c.d.fact 43 (f := .free "abs") rfl)
  have r_isinstance : mg ("isinstance" : Str) = none := He.free_ok X G (c.d.fact 44 (f := .free "isinstance") rfl)
  have r_bool : mg ("bool" : Str) = none := He.free_ok X G (c.d.fact 45 (f := .free "bool") rfl)
  have r_tuple : mg ("tuple" : Str) = none := He.free_ok X G (c.d.fact 46 (f := .free "tuple") rfl)
  have r_repr : mg ("repr" : Str) = none := He.free_ok X G (c.d.fact 47 (f := .free "repr") rfl)
  have r_all : mg ("all" : Str) = none := He.free_ok X G (c.d.fact 48 (f := .free "all") rfl)
  have r_range : mg ("range" : Str) = none := He.free_ok X G (c.d.fact 49 (f := .free "range") rfl)
  have r_max : mg ("max" : Str) = none := He.free_ok X G (c.d.fact 50 (f := .free "max") rfl)
  have r_min : mg ("min" : Str) = none := He.free_ok X G (c.d.fact 51 (f := .free "min") rfl)
  have q_FRAC_ONE := con_ok X G (c.c c_FRAC_ONE (by simp [cs]))
  have q_NOUGHT := con_ok X G (c.c c_NOUGHT (by simp [cs]))
  have u_gcd : mg ("gcd" : Str) = some (.builtin "math.gcd") := bf_ok X G (c.b ("gcd", "math.gcd") (by simp [bs]))
  obtain ⟨fd0, F0⟩ := c.d.def_ 0 (d := d_Ldip) rfl
  have m0 : mg ("_law_dip" : Str) = some (.ref _) := He.glo_ok X G (c.d.fact 0 (f := .glo "_law_dip") rfl)
  obtain ⟨fd1, F1⟩ := c.d.def_ 1 (d := d_Lone_of) rfl
  have m1 : mg ("_law_one_of" : Str) = some (.ref _) := He.glo_ok X G (c.d.fact 1 (f := .glo "_law_one_of") rfl)
  obtain ⟨fd2, F2⟩ := c.d.def_ 2 (d := d_Lgcd) rfl
  have m2 : mg ("_law_gcd" : Str) = some (.ref _) := He.glo_ok X G (c.d.fact 2 (f := .glo "_law_gcd") rfl)
  obtain ⟨fd3, F3⟩ := c.d.def_ 3 (d := d_Lcut) rfl
  have m3 : mg ("_law_cut" : Str) = some (.ref _) := He.glo_ok X G (c.d.fact 3 (f := .glo "_law_cut") rfl)
  obtain ⟨fd4, F4⟩ := c.d.def_ 4 (d := d_Lnumber) rfl
  have m4 : mg ("_law_number" : Str) = some (.ref _) := He.glo_ok X G (c.d.fact 4 (f := .glo "_law_number") rfl)
  obtain ⟨fd5, F5⟩ := c.d.def_ 5 (d := d_Lfraction) rfl
  have m5 : mg ("_law_fraction" : Str) = some (.ref _) := He.glo_ok X G (c.d.fact 5 (f := .glo "_law_fraction") rfl)
  obtain ⟨fd6, F6⟩ := c.d.def_ 6 (d := d_Lsize) rfl
  have m6 : mg ("_law_size" : Str) = some (.ref _) := He.glo_ok X G (c.d.fact 6 (f := .glo "_law_size") rfl)
  obtain ⟨fd7, F7⟩ := c.d.def_ 7 (d := d_is_whole) rfl
  have m7 : mg ("is_whole" : Str) = some (.ref _) := He.glo_ok X G (c.d.fact 7 (f := .glo "is_whole") rfl)
  obtain ⟨fd8, F8⟩ := c.d.def_ 8 (d := d_is_frac) rfl
  have m8 : mg ("is_frac" : Str) = some (.ref _) := He.glo_ok X G (c.d.fact 8 (f := .glo "is_frac") rfl)
  obtain ⟨fd9, F9⟩ := c.d.def_ 9 (d := d_is_num) rfl
  have m9 : mg ("is_num" : Str) = some (.ref _) := He.glo_ok X G (c.d.fact 9 (f := .glo "is_num") rfl)
  obtain ⟨fd10, F10⟩ := c.d.def_ 10 (d := d_check_number) rfl
  have m10 : mg ("check_number" : Str) = some (.ref _) := He.glo_ok X G (c.d.fact 10 (f := .glo "check_number") rfl)
  obtain ⟨fd11, F11⟩ := c.d.def_ 11 (d := d_frac_reduced) rfl
  have m11 : mg ("frac_reduced" : Str) = some (.ref _) := He.glo_ok X G (c.d.fact 11 (f := .glo "frac_reduced") rfl)
  obtain ⟨fd12, F12⟩ := c.d.def_ 12 (d := d_num_product) rfl
  have m12 : mg ("num_product" : Str) = some (.ref _) := He.glo_ok X G (c.d.fact 12 (f := .glo "num_product") rfl)
  obtain ⟨fd13, F13⟩ := c.d.def_ 13 (d := d_number_product) rfl
  have m13 : mg ("number_product" : Str) = some (.ref _) := He.glo_ok X G (c.d.fact 13 (f := .glo "number_product") rfl)
  obtain ⟨fd14, F14⟩ := c.d.def_ 14 (d := d_Ltimes) rfl
  have m14 : mg ("_law_times" : Str) = some (.ref _) := He.glo_ok X G (c.d.fact 14 (f := .glo "_law_times") rfl)
  obtain ⟨fd15, F15⟩ := c.d.def_ 15 (d := d_frac_product) rfl
  have m15 : mg ("frac_product" : Str) = some (.ref _) := He.glo_ok X G (c.d.fact 15 (f := .glo "frac_product") rfl)
  obtain ⟨fd16, F16⟩ := c.d.def_ 16 (d := d_num_scaled) rfl
  have m16 : mg ("num_scaled" : Str) = some (.ref _) := He.glo_ok X G (c.d.fact 16 (f := .glo "num_scaled") rfl)
  obtain ⟨fd17, F17⟩ := c.d.def_ 17 (d := d_frac_over) rfl
  have m17 : mg ("frac_over" : Str) = some (.ref _) := He.glo_ok X G (c.d.fact 17 (f := .glo "frac_over") rfl)
  obtain ⟨fd18, F18⟩ := c.d.def_ 18 (d := d_num_mirrored) rfl
  have m18 : mg ("num_mirrored" : Str) = some (.ref _) := He.glo_ok X G (c.d.fact 18 (f := .glo "num_mirrored") rfl)
  obtain ⟨fd19, F19⟩ := c.d.def_ 19 (d := d_num_size) rfl
  have m19 : mg ("num_size" : Str) = some (.ref _) := He.glo_ok X G (c.d.fact 19 (f := .glo "num_size") rfl)
  obtain ⟨fd20, F20⟩ := c.d.def_ 20 (d := d_num_over) rfl
  have m20 : mg ("num_over" : Str) = some (.ref _) := He.glo_ok X G (c.d.fact 20 (f := .glo "num_over") rfl)
  obtain ⟨fd21, F21⟩ := c.d.def_ 21 (d := d_number_over) rfl
  have m21 : mg ("number_over" : Str) = some (.ref _) := He.glo_ok X G (c.d.fact 21 (f := .glo "number_over") rfl)
  obtain ⟨fd22, F22⟩ := c.d.def_ 22 (d := d_Lhalf) rfl
  have m22 : mg ("_law_half" : Str) = some (.ref _) := He.glo_ok X G (c.d.fact 22 (f := .glo "_law_half") rfl)
  obtain ⟨fd23, F23⟩ := c.d.def_ 23 (d := d_Lon_rim) rfl
  have m23 : mg ("_law_on_rim" : Str) = some (.ref _) := He.glo_ok X G (c.d.fact 23 (f := .glo "_law_on_rim") rfl)
  obtain ⟨fd24, F24⟩ := c.d.def_ 24 (d := d_Ltold) rfl
  have m24 : mg ("_law_told" : Str) = some (.ref _) := He.glo_ok X G (c.d.fact 24 (f := .glo "_law_told") rfl)
  obtain ⟨fd25, F25⟩ := c.d.def_ 25 (d := d_lies) rfl
  have m25 : mg ("lies" : Str) = some (.ref _) := He.glo_ok X G (c.d.fact 25 (f := .glo "lies") rfl)
  obtain ⟨fd26, F26⟩ := c.d.def_ 26 (d := d_frac_sum) rfl
  have m26 : mg ("frac_sum" : Str) = some (.ref _) := He.glo_ok X G (c.d.fact 26 (f := .glo "frac_sum") rfl)
  obtain ⟨fd27, F27⟩ := c.d.def_ 27 (d := d_rim_fraction) rfl
  have m27 : mg ("rim_fraction" : Str) = some (.ref _) := He.glo_ok X G (c.d.fact 27 (f := .glo "rim_fraction") rfl)
  obtain ⟨fd28, F28⟩ := c.d.def_ 28 (d := d_Ladd) rfl
  have m28 : mg ("_law_add" : Str) = some (.ref _) := He.glo_ok X G (c.d.fact 28 (f := .glo "_law_add") rfl)
  obtain ⟨fd29, F29⟩ := c.d.def_ 29 (d := d_Lless) rfl
  have m29 : mg ("_law_less" : Str) = some (.ref _) := He.glo_ok X G (c.d.fact 29 (f := .glo "_law_less") rfl)
  obtain ⟨fd30, F30⟩ := c.d.def_ 30 (d := d_check_fraction) rfl
  have m30 : mg ("check_fraction" : Str) = some (.ref _) := He.glo_ok X G (c.d.fact 30 (f := .glo "check_fraction") rfl)
  obtain ⟨fd31, F31⟩ := c.d.def_ 31 (d := d_number_at_rim) rfl
  have m31 : mg ("number_at_rim" : Str) = some (.ref _) := He.glo_ok X G (c.d.fact 31 (f := .glo "number_at_rim") rfl)
  obtain ⟨fd32, F32⟩ := c.d.def_ 32 (d := d_rim_number) rfl
  have m32 : mg ("rim_number" : Str) = some (.ref _) := He.glo_ok X G (c.d.fact 32 (f := .glo "rim_number") rfl)
  obtain ⟨fd33, F33⟩ := c.d.def_ 33 (d := d_Lboth) rfl
  have m33 : mg ("_law_both" : Str) = some (.ref _) := He.glo_ok X G (c.d.fact 33 (f := .glo "_law_both") rfl)
  obtain ⟨fd34, F34⟩ := c.d.def_ 34 (d := d_size) rfl
  have m34 : mg ("size" : Str) = some (.ref _) := He.glo_ok X G (c.d.fact 34 (f := .glo "size") rfl)
  obtain ⟨fd35, F35⟩ := c.d.def_ 35 (d := d_Lover) rfl
  have m35 : mg ("_law_over" : Str) = some (.ref _) := He.glo_ok X G (c.d.fact 35 (f := .glo "_law_over") rfl)
  obtain ⟨fd36, F36⟩ := c.d.def_ 36 (d := d_mirrored) rfl
  have m36 : mg ("mirrored" : Str) = some (.ref _) := He.glo_ok X G (c.d.fact 36 (f := .glo "mirrored") rfl)
  obtain ⟨fd37, F37⟩ := c.d.def_ 37 (d := d_Lright) rfl
  have m37 : mg ("_law_right" : Str) = some (.ref _) := He.glo_ok X G (c.d.fact 37 (f := .glo "_law_right") rfl)
  obtain ⟨fd38, F38⟩ := c.d.def_ 38 (d := d_Lpail) rfl
  have m38 : mg ("_law_pail" : Str) = some (.ref _) := He.glo_ok X G (c.d.fact 38 (f := .glo "_law_pail") rfl)
  obtain ⟨fd39, F39⟩ := c.d.def_ 39 (d := d_law) rfl
  have m39 : mg ("law" : Str) = some (.ref _) := He.glo_ok X G (c.d.fact 39 (f := .glo "law") rfl)
  have e := hfa.symm.trans m39
  cases e
  have bl := FunD.bindsA (ps := P_law) F39 fun _ _ _ _ _ _ us hl => match us, hl with | [_], _ => rfl
  obtain ⟨_, y_e_Ldip_2⟩ := kbn0 (ps := P_Ldip) F0 2 [] [0, 1] fun _ _ _ _ _ _ us ws hu hw => match us, ws, hu, hw with | [_, _], [], _, _ => rfl
  obtain ⟨_, y_e_Lone_of_2⟩ := kbn0 (ps := P_Lone_of) F1 2 [] [0, 1] fun _ _ _ _ _ _ us ws hu hw => match us, ws, hu, hw with | [_, _], [], _, _ => rfl
  obtain ⟨_, y_e_Lgcd_2⟩ := kbn0 (ps := P_Lgcd) F2 2 [] [0, 1] fun _ _ _ _ _ _ us ws hu hw => match us, ws, hu, hw with | [_, _], [], _, _ => rfl
  obtain ⟨_, y_e_Lcut_3⟩ := kbn0 (ps := P_Lcut) F3 3 [] [0, 1, 2] fun _ _ _ _ _ _ us ws hu hw => match us, ws, hu, hw with | [_, _, _], [], _, _ => rfl
  obtain ⟨_, y_e_Lnumber_1⟩ := kbn0 (ps := P_Lnumber) F4 1 [] [0] fun _ _ _ _ _ _ us ws hu hw => match us, ws, hu, hw with | [_], [], _, _ => rfl
  obtain ⟨_, y_e_Lfraction_2⟩ := kbn0 (ps := P_Lfraction) F5 2 [] [0, 1] fun _ _ _ _ _ _ us ws hu hw => match us, ws, hu, hw with | [_, _], [], _, _ => rfl
  obtain ⟨_, y_e_Lsize_1⟩ := kbn0 (ps := P_Lsize) F6 1 [] [0] fun _ _ _ _ _ _ us ws hu hw => match us, ws, hu, hw with | [_], [], _, _ => rfl
  obtain ⟨_, y_e_is_whole_1⟩ := kbn0 (ps := P_is_whole) F7 1 [] [0] fun _ _ _ _ _ _ us ws hu hw => match us, ws, hu, hw with | [_], [], _, _ => rfl
  obtain ⟨_, y_e_is_frac_1⟩ := kbn0 (ps := P_is_frac) F8 1 [] [0] fun _ _ _ _ _ _ us ws hu hw => match us, ws, hu, hw with | [_], [], _, _ => rfl
  obtain ⟨_, y_e_is_num_1⟩ := kbn0 (ps := P_is_num) F9 1 [] [0] fun _ _ _ _ _ _ us ws hu hw => match us, ws, hu, hw with | [_], [], _, _ => rfl
  obtain ⟨_, y_e_check_number_1⟩ := kbn0 (ps := P_check_number) F10 1 [] [0] fun _ _ _ _ _ _ us ws hu hw => match us, ws, hu, hw with | [_], [], _, _ => rfl
  obtain ⟨_, y_e_frac_reduced_2⟩ := kbn0 (ps := P_frac_reduced) F11 2 [] [0, 1] fun _ _ _ _ _ _ us ws hu hw => match us, ws, hu, hw with | [_, _], [], _, _ => rfl
  obtain ⟨_, y_e_num_product_2⟩ := kbn0 (ps := P_num_product) F12 2 [] [0, 1] fun _ _ _ _ _ _ us ws hu hw => match us, ws, hu, hw with | [_, _], [], _, _ => rfl
  obtain ⟨_, y_e_number_product_2⟩ := kbn0 (ps := P_number_product) F13 2 [] [0, 1] fun _ _ _ _ _ _ us ws hu hw => match us, ws, hu, hw with | [_, _], [], _, _ => rfl
  obtain ⟨_, y_e_Ltimes_2⟩ := kbn0 (ps := P_Ltimes) F14 2 [] [0, 1] fun _ _ _ _ _ _ us ws hu hw => match us, ws, hu, hw with | [_, _], [], _, _ => rfl
  obtain ⟨_, y_e_frac_product_2⟩ := kbn0 (ps := P_frac_product) F15 2 [] [0, 1] fun _ _ _ _ _ _ us ws hu hw => match us, ws, hu, hw with | [_, _], [], _, _ => rfl
  obtain ⟨_, y_e_num_scaled_2⟩ := kbn0 (ps := P_num_scaled) F16 2 [] [0, 1] fun _ _ _ _ _ _ us ws hu hw => match us, ws, hu, hw with | [_, _], [], _, _ => rfl
  obtain ⟨_, y_e_frac_over_2⟩ := kbn0 (ps := P_frac_over) F17 2 [] [0, 1] fun _ _ _ _ _ _ us ws hu hw => match us, ws, hu, hw with | [_, _], [], _, _ => rfl
  obtain ⟨_, y_e_num_mirrored_1⟩ := kbn0 (ps := P_num_mirrored) F18 1 [] [0] fun _ _ _ _ _ _ us ws hu hw => match us, ws, hu, hw with | [_], [], _, _ => rfl
  obtain ⟨_, y_e_num_size_1⟩ := kbn0 (ps := P_num_size) F19 1 [] [0] fun _ _ _ _ _ _ us ws hu hw => match us, ws, hu, hw with | [_], [], _, _ => rfl
  obtain ⟨_, y_e_num_over_2⟩ := kbn0 (ps := P_num_over) F20 2 [] [0, 1] fun _ _ _ _ _ _ us ws hu hw => match us, ws, hu, hw with | [_, _], [], _, _ => rfl
  obtain ⟨_, y_e_number_over_2⟩ := kbn0 (ps := P_number_over) F21 2 [] [0, 1] fun _ _ _ _ _ _ us ws hu hw => match us, ws, hu, hw with | [_, _], [], _, _ => rfl
  obtain ⟨_, y_e_Lhalf_1⟩ := kbn0 (ps := P_Lhalf) F22 1 [] [0] fun _ _ _ _ _ _ us ws hu hw => match us, ws, hu, hw with | [_], [], _, _ => rfl
  obtain ⟨_, y_e_Lon_rim_1⟩ := kbn0 (ps := P_Lon_rim) F23 1 [] [0] fun _ _ _ _ _ _ us ws hu hw => match us, ws, hu, hw with | [_], [], _, _ => rfl
  obtain ⟨_, y_e_Ltold_1⟩ := kbn0 (ps := P_Ltold) F24 1 [] [0] fun _ _ _ _ _ _ us ws hu hw => match us, ws, hu, hw with | [_], [], _, _ => rfl
  obtain ⟨_, y_e_lies_1⟩ := kbn0 (ps := P_lies) F25 1 [] [0] fun _ _ _ _ _ _ us ws hu hw => match us, ws, hu, hw with | [_], [], _, _ => rfl
  obtain ⟨_, y_e_frac_sum_2⟩ := kbn0 (ps := P_frac_sum) F26 2 [] [0, 1] fun _ _ _ _ _ _ us ws hu hw => match us, ws, hu, hw with | [_, _], [], _, _ => rfl
  obtain ⟨_, y_e_rim_fraction_1⟩ := kbn0 (ps := P_rim_fraction) F27 1 [] [0] fun _ _ _ _ _ _ us ws hu hw => match us, ws, hu, hw with | [_], [], _, _ => rfl
  obtain ⟨_, y_e_rim_fraction_0_number⟩ := kbn0 (ps := P_rim_fraction) F27 0 ["number"] [0] fun _ _ _ _ _ _ us ws hu hw => match us, ws, hu, hw with | [], [_], _, _ => rfl
  obtain ⟨_, y_e_Ladd_2⟩ := kbn0 (ps := P_Ladd) F28 2 [] [0, 1] fun _ _ _ _ _ _ us ws hu hw => match us, ws, hu, hw with | [_, _], [], _, _ => rfl
  obtain ⟨_, y_e_Lless_2⟩ := kbn0 (ps := P_Lless) F29 2 [] [0, 1] fun _ _ _ _ _ _ us ws hu hw => match us, ws, hu, hw with | [_, _], [], _, _ => rfl
  obtain ⟨_, y_e_check_fraction_1⟩ := kbn0 (ps := P_check_fraction) F30 1 [] [0] fun _ _ _ _ _ _ us ws hu hw => match us, ws, hu, hw with | [_], [], _, _ => rfl
  obtain ⟨_, y_e_number_at_rim_1⟩ := kbn0 (ps := P_number_at_rim) F31 1 [] [0] fun _ _ _ _ _ _ us ws hu hw => match us, ws, hu, hw with | [_], [], _, _ => rfl
  obtain ⟨_, y_e_rim_number_1⟩ := kbn0 (ps := P_rim_number) F32 1 [] [0] fun _ _ _ _ _ _ us ws hu hw => match us, ws, hu, hw with | [_], [], _, _ => rfl
  obtain ⟨_, y_e_rim_number_0_fraction⟩ := kbn0 (ps := P_rim_number) F32 0 ["fraction"] [0] fun _ _ _ _ _ _ us ws hu hw => match us, ws, hu, hw with | [], [_], _, _ => rfl
  obtain ⟨_, y_e_Lboth_3⟩ := kbn0 (ps := P_Lboth) F33 3 [] [0, 1, 2] fun _ _ _ _ _ _ us ws hu hw => match us, ws, hu, hw with | [_, _, _], [], _, _ => rfl
  obtain ⟨_, y_e_size_1⟩ := kbn0 (ps := P_size) F34 1 [] [0] fun _ _ _ _ _ _ us ws hu hw => match us, ws, hu, hw with | [_], [], _, _ => rfl
  obtain ⟨_, y_e_Lover_2⟩ := kbn0 (ps := P_Lover) F35 2 [] [0, 1] fun _ _ _ _ _ _ us ws hu hw => match us, ws, hu, hw with | [_, _], [], _, _ => rfl
  obtain ⟨_, y_e_mirrored_1⟩ := kbn0 (ps := P_mirrored) F36 1 [] [0] fun _ _ _ _ _ _ us ws hu hw => match us, ws, hu, hw with | [_], [], _, _ => rfl
  obtain ⟨_, y_e_Lright_1⟩ := kbn0 (ps := P_Lright) F37 1 [] [0] fun _ _ _ _ _ _ us ws hu hw => match us, ws, hu, hw with | [_], [], _, _ => rfl
  obtain ⟨_, y_e_Lpail_2⟩ := kbn0 (ps := P_Lpail) F38 2 [] [0, 1] fun _ _ _ _ _ _ us ws hu hw => match us, ws, hu, hw with | [_, _], [], _, _ => rfl
  refine ⟨fd39, fun s v => bl s [v] rfl, fun base _ _ => ?_⟩
  have g0 : FnG P w K mg base 1 _ fd0 P_Ldip (spD K G_Ldip 4 b_Ldip P_Ldip) := fnG_of (N := N_Ldip) F0 s_Ldip k_Ldip ⟨(fa_cons r_divmod (fa_cons r_int fa_nil)), fa_nil, fa_nil⟩ ents_nil
  have t_e_Ldip_2 : EntOk P w K mg base 1 e_Ldip_2 := ent_of m0 F0.kp g0 y_e_Ldip_2 (fun _ _ => .nil) rfl rfl
  have g1 : FnG P w K mg base 2 _ fd1 P_Lone_of (spD K G_Lone_of 2 b_Lone_of P_Lone_of) := fnG_of (N := N_Lone_of) F1 s_Lone_of k_Lone_of ⟨(fa_cons r_len fa_nil), fa_nil, fa_nil⟩ (ents_cons t_e_Ldip_2 (by decide) ents_nil)
  have t_e_Lone_of_2 : EntOk P w K mg base 2 e_Lone_of_2 := ent_of m1 F1.kp g1 y_e_Lone_of_2 (fun _ _ => .nil) rfl rfl
  have g2 : FnG P w K mg base 3 _ fd2 P_Lgcd (spD K G_Lgcd 2 b_Lgcd P_Lgcd) := fnG_of (N := N_Lgcd) F2 s_Lgcd k_Lgcd ⟨(fa_cons r_abs (fa_cons r_int fa_nil)), fa_nil, fa_nil⟩ ents_nil
  have t_e_Lgcd_2 : EntOk P w K mg base 3 e_Lgcd_2 := ent_of m2 F2.kp g2 y_e_Lgcd_2 (fun _ _ => .nil) rfl rfl
  have g3 : FnG P w K mg base 4 _ fd3 P_Lcut (spD K G_Lcut 4 b_Lcut P_Lcut) := fnG_of (N := N_Lcut) F3 s_Lcut k_Lcut ⟨fa_nil, fa_nil, fa_nil⟩ (ents_cons t_e_Lgcd_2 (by decide) ents_nil)
  have t_e_Lcut_3 : EntOk P w K mg base 4 e_Lcut_3 := ent_of m3 F3.kp g3 y_e_Lcut_3 (fun _ _ => .nil) rfl rfl
  have g4 : FnG P w K mg base 5 _ fd4 P_Lnumber (spD K G_Lnumber 4 b_Lnumber P_Lnumber) := fnG_of (N := N_Lnumber) F4 s_Lnumber k_Lnumber ⟨fa_nil, fa_nil, fa_nil⟩ (ents_cons t_e_Lone_of_2 (by decide) (ents_cons t_e_Ldip_2 (by decide) (ents_cons t_e_Lcut_3 (by decide) ents_nil)))
  have t_e_Lnumber_1 : EntOk P w K mg base 5 e_Lnumber_1 := ent_of m4 F4.kp g4 y_e_Lnumber_1 (fun _ _ => .nil) rfl rfl
  have g5 : FnG P w K mg base 6 _ fd5 P_Lfraction (spD K G_Lfraction 3 b_Lfraction P_Lfraction) := fnG_of (N := N_Lfraction) F5 s_Lfraction k_Lfraction ⟨fa_nil, fa_nil, fa_nil⟩ (ents_cons t_e_Lgcd_2 (by decide) ents_nil)
  have t_e_Lfraction_2 : EntOk P w K mg base 6 e_Lfraction_2 := ent_of m5 F5.kp g5 y_e_Lfraction_2 (fun _ _ => .nil) rfl rfl
  have g6 : FnG P w K mg base 7 _ fd6 P_Lsize (spD K G_Lsize 1 b_Lsize P_Lsize) := fnG_of (N := N_Lsize) F6 s_Lsize k_Lsize ⟨fa_nil, fa_nil, fa_nil⟩ (ents_cons t_e_Lfraction_2 (by decide) ents_nil)
  have t_e_Lsize_1 : EntOk P w K mg base 7 e_Lsize_1 := ent_of m6 F6.kp g6 y_e_Lsize_1 (fun _ _ => .nil) rfl rfl
  have g7 : FnG P w K mg base 8 _ fd7 P_is_whole (spD K G_is_whole 1 b_is_whole P_is_whole) := fnG_of (N := N_is_whole) F7 s_is_whole k_is_whole ⟨(fa_cons r_isinstance (fa_cons r_bool (fa_cons r_int fa_nil))), fa_nil, fa_nil⟩ ents_nil
  have t_e_is_whole_1 : EntOk P w K mg base 8 e_is_whole_1 := ent_of m7 F7.kp g7 y_e_is_whole_1 (fun _ _ => .nil) rfl rfl
  have g8 : FnG P w K mg base 9 _ fd8 P_is_frac (spD K G_is_frac 1 b_is_frac P_is_frac) := fnG_of (N := N_is_frac) F8 s_is_frac k_is_frac ⟨(fa_cons r_isinstance (fa_cons r_tuple (fa_cons r_len fa_nil))), fa_nil, (fa_cons u_gcd fa_nil)⟩ (ents_cons t_e_is_whole_1 (by decide) ents_nil)
  have t_e_is_frac_1 : EntOk P w K mg base 9 e_is_frac_1 := ent_of m8 F8.kp g8 y_e_is_frac_1 (fun _ _ => .nil) rfl rfl
  have g9 : FnG P w K mg base 10 _ fd9 P_is_num (spD K G_is_num 1 b_is_num P_is_num) := fnG_of (N := N_is_num) F9 s_is_num k_is_num ⟨(fa_cons r_isinstance (fa_cons r_tuple (fa_cons r_len fa_nil))), fa_nil, fa_nil⟩ (ents_cons t_e_is_frac_1 (by decide) ents_nil)
  have t_e_is_num_1 : EntOk P w K mg base 10 e_is_num_1 := ent_of m9 F9.kp g9 y_e_is_num_1 (fun _ _ => .nil) rfl rfl
  have g10 : FnG P w K mg base 11 _ fd10 P_check_number (spD K G_check_number 1 b_check_number P_check_number) := fnG_of (N := N_check_number) F10 s_check_number k_check_number ⟨fa_nil, fa_nil, fa_nil⟩ (ents_cons t_e_is_num_1 (by decide) ents_nil)
  have t_e_check_number_1 : EntOk P w K mg base 11 e_check_number_1 := ent_of m10 F10.kp g10 y_e_check_number_1 (fun _ _ => .nil) rfl rfl
  have g11 : FnG P w K mg base 12 _ fd11 P_frac_reduced (spD K G_frac_reduced 3 b_frac_reduced P_frac_reduced) := fnG_of (N := N_frac_reduced) F11 s_frac_reduced k_frac_reduced ⟨fa_nil, fa_nil, (fa_cons u_gcd fa_nil)⟩ ents_nil
  have t_e_frac_reduced_2 : EntOk P w K mg base 12 e_frac_reduced_2 := ent_of m11 F11.kp g11 y_e_frac_reduced_2 (fun _ _ => .nil) rfl rfl
  have g12 : FnG P w K mg base 13 _ fd12 P_num_product (spD K G_num_product 11 b_num_product P_num_product) := fnG_of (N := N_num_product) F12 s_num_product k_num_product ⟨fa_nil, fa_nil, fa_nil⟩ (ents_cons t_e_frac_reduced_2 (by decide) ents_nil)
  have t_e_num_product_2 : EntOk P w K mg base 13 e_num_product_2 := ent_of m12 F12.kp g12 y_e_num_product_2 (fun _ _ => .nil) rfl rfl
  have g13 : FnG P w K mg base 14 _ fd13 P_number_product (spD K G_number_product 2 b_number_product P_number_product) := fnG_of (N := N_number_product) F13 s_number_product k_number_product ⟨fa_nil, fa_nil, fa_nil⟩ (ents_cons t_e_check_number_1 (by decide) (ents_cons t_e_num_product_2 (by decide) ents_nil))
  have t_e_number_product_2 : EntOk P w K mg base 14 e_number_product_2 := ent_of m13 F13.kp g13 y_e_number_product_2 (fun _ _ => .nil) rfl rfl
  have g14 : FnG P w K mg base 15 _ fd14 P_Ltimes (spD K G_Ltimes 2 b_Ltimes P_Ltimes) := fnG_of (N := N_Ltimes) F14 s_Ltimes k_Ltimes ⟨fa_nil, fa_nil, fa_nil⟩ (ents_cons t_e_Lcut_3 (by decide) ents_nil)
  have t_e_Ltimes_2 : EntOk P w K mg base 15 e_Ltimes_2 := ent_of m14 F14.kp g14 y_e_Ltimes_2 (fun _ _ => .nil) rfl rfl
  have g15 : FnG P w K mg base 16 _ fd15 P_frac_product (spD K G_frac_product 2 b_frac_product P_frac_product) := fnG_of (N := N_frac_product) F15 s_frac_product k_frac_product ⟨fa_nil, fa_nil, fa_nil⟩ (ents_cons t_e_frac_reduced_2 (by decide) ents_nil)
  have t_e_frac_product_2 : EntOk P w K mg base 16 e_frac_product_2 := ent_of m15 F15.kp g15 y_e_frac_product_2 (fun _ _ => .nil) rfl rfl
  have g16 : FnG P w K mg base 17 _ fd16 P_num_scaled (spD K G_num_scaled 2 b_num_scaled P_num_scaled) := fnG_of (N := N_num_scaled) F16 s_num_scaled k_num_scaled ⟨fa_nil, fa_nil, fa_nil⟩ (ents_cons t_e_frac_product_2 (by decide) ents_nil)
  have t_e_num_scaled_2 : EntOk P w K mg base 17 e_num_scaled_2 := ent_of m16 F16.kp g16 y_e_num_scaled_2 (fun _ _ => .nil) rfl rfl
  have g17 : FnG P w K mg base 18 _ fd17 P_frac_over (spD K G_frac_over 2 b_frac_over P_frac_over) := fnG_of (N := N_frac_over) F17 s_frac_over k_frac_over ⟨fa_nil, fa_nil, fa_nil⟩ (ents_cons t_e_frac_reduced_2 (by decide) ents_nil)
  have t_e_frac_over_2 : EntOk P w K mg base 18 e_frac_over_2 := ent_of m17 F17.kp g17 y_e_frac_over_2 (fun _ _ => .nil) rfl rfl
  have g18 : FnG P w K mg base 19 _ fd18 P_num_mirrored (spD K G_num_mirrored 1 b_num_mirrored P_num_mirrored) := fnG_of (N := N_num_mirrored) F18 s_num_mirrored k_num_mirrored ⟨fa_nil, fa_nil, fa_nil⟩ ents_nil
  have t_e_num_mirrored_1 : EntOk P w K mg base 19 e_num_mirrored_1 := ent_of m18 F18.kp g18 y_e_num_mirrored_1 (fun _ _ => .nil) rfl rfl
  have g19 : FnG P w K mg base 20 _ fd19 P_num_size (spD K G_num_size 5 b_num_size P_num_size) := fnG_of (N := N_num_size) F19 s_num_size k_num_size ⟨fa_nil, fa_nil, fa_nil⟩ (ents_cons t_e_frac_reduced_2 (by decide) ents_nil)
  have t_e_num_size_1 : EntOk P w K mg base 20 e_num_size_1 := ent_of m19 F19.kp g19 y_e_num_size_1 (fun _ _ => .nil) rfl rfl
  have g20 : FnG P w K mg base 21 _ fd20 P_num_over (spD K G_num_over 2 b_num_over P_num_over) := fnG_of (N := N_num_over) F20 s_num_over k_num_over ⟨fa_nil, (fa_cons q_FRAC_ONE fa_nil), fa_nil⟩ (ents_cons t_e_num_scaled_2 (by decide) (ents_cons t_e_num_product_2 (by decide) (ents_cons t_e_num_mirrored_1 (by decide) (ents_cons t_e_frac_over_2 (by decide) (ents_cons t_e_num_size_1 (by decide) ents_nil)))))
  have t_e_num_over_2 : EntOk P w K mg base 21 e_num_over_2 := ent_of m20 F20.kp g20 y_e_num_over_2 (fun _ _ => .nil) rfl rfl
  have g21 : FnG P w K mg base 22 _ fd21 P_number_over (spD K G_number_over 2 b_number_over P_number_over) := fnG_of (N := N_number_over) F21 s_number_over k_number_over ⟨fa_nil, (fa_cons q_NOUGHT fa_nil), fa_nil⟩ (ents_cons t_e_check_number_1 (by decide) (ents_cons t_e_num_over_2 (by decide) ents_nil))
  have t_e_number_over_2 : EntOk P w K mg base 22 e_number_over_2 := ent_of m21 F21.kp g21 y_e_number_over_2 (fun _ _ => .nil) rfl rfl
  have g22 : FnG P w K mg base 23 _ fd22 P_Lhalf (spD K G_Lhalf 2 b_Lhalf P_Lhalf) := fnG_of (N := N_Lhalf) F22 s_Lhalf k_Lhalf ⟨fa_nil, fa_nil, fa_nil⟩ (ents_cons t_e_Lone_of_2 (by decide) (ents_cons t_e_Lfraction_2 (by decide) (ents_cons t_e_Ldip_2 (by decide) ents_nil)))
  have t_e_Lhalf_1 : EntOk P w K mg base 23 e_Lhalf_1 := ent_of m22 F22.kp g22 y_e_Lhalf_1 (fun _ _ => .nil) rfl rfl
  have g23 : FnG P w K mg base 24 _ fd23 P_Lon_rim (spD K G_Lon_rim 3 b_Lon_rim P_Lon_rim) := fnG_of (N := N_Lon_rim) F23 s_Lon_rim k_Lon_rim ⟨fa_nil, fa_nil, fa_nil⟩ (ents_cons t_e_Lcut_3 (by decide) ents_nil)
  have t_e_Lon_rim_1 : EntOk P w K mg base 24 e_Lon_rim_1 := ent_of m23 F23.kp g23 y_e_Lon_rim_1 (fun _ _ => .nil) rfl rfl
  have g24 : FnG P w K mg base 25 _ fd24 P_Ltold (spD K G_Ltold 1 b_Ltold P_Ltold) := fnG_of (N := N_Ltold) F24 s_Ltold k_Ltold ⟨fa_nil, fa_nil, fa_nil⟩ (ents_cons t_e_Lfraction_2 (by decide) ents_nil)
  have t_e_Ltold_1 : EntOk P w K mg base 25 e_Ltold_1 := ent_of m24 F24.kp g24 y_e_Ltold_1 (fun _ _ => .nil) rfl rfl
  have g25 : FnG P w K mg base 26 _ fd25 P_lies (spD K G_lies 3 b_lies P_lies) := fnG_of (N := N_lies) F25 s_lies k_lies ⟨fa_nil, fa_nil, fa_nil⟩ (ents_cons t_e_check_number_1 (by decide) (ents_cons t_e_num_size_1 (by decide) ents_nil))
  have t_e_lies_1 : EntOk P w K mg base 26 e_lies_1 := ent_of m25 F25.kp g25 y_e_lies_1 (fun _ _ => .nil) rfl rfl
  have g26 : FnG P w K mg base 27 _ fd26 P_frac_sum (spD K G_frac_sum 2 b_frac_sum P_frac_sum) := fnG_of (N := N_frac_sum) F26 s_frac_sum k_frac_sum ⟨fa_nil, fa_nil, fa_nil⟩ (ents_cons t_e_frac_reduced_2 (by decide) ents_nil)
  have t_e_frac_sum_2 : EntOk P w K mg base 27 e_frac_sum_2 := ent_of m26 F26.kp g26 y_e_frac_sum_2 (fun _ _ => .nil) rfl rfl
  have g27 : FnG P w K mg base 28 _ fd27 P_rim_fraction (spD K G_rim_fraction 1 b_rim_fraction P_rim_fraction) := fnG_of (N := N_rim_fraction) F27 s_rim_fraction k_rim_fraction ⟨fa_nil, fa_nil, fa_nil⟩ (ents_cons t_e_lies_1 (by decide) (ents_cons t_e_frac_over_2 (by decide) (ents_cons t_e_frac_sum_2 (by decide) ents_nil)))
  have t_e_rim_fraction_1 : EntOk P w K mg base 28 e_rim_fraction_1 := ent_of m27 F27.kp g27 y_e_rim_fraction_1 (fun _ _ => .nil) rfl rfl
  have t_e_rim_fraction_0_number : EntOk P w K mg base 28 e_rim_fraction_0_number := ent_of m27 F27.kp g27 y_e_rim_fraction_0_number (fun _ _ => .nil) rfl rfl
  have g28 : FnG P w K mg base 29 _ fd28 P_Ladd (spD K G_Ladd 2 b_Ladd P_Ladd) := fnG_of (N := N_Ladd) F28 s_Ladd k_Ladd ⟨fa_nil, fa_nil, fa_nil⟩ (ents_cons t_e_Lcut_3 (by decide) ents_nil)
  have t_e_Ladd_2 : EntOk P w K mg base 29 e_Ladd_2 := ent_of m28 F28.kp g28 y_e_Ladd_2 (fun _ _ => .nil) rfl rfl
  have g29 : FnG P w K mg base 30 _ fd29 P_Lless (spD K G_Lless 2 b_Lless P_Lless) := fnG_of (N := N_Lless) F29 s_Lless k_Lless ⟨fa_nil, fa_nil, fa_nil⟩ (ents_cons t_e_Lcut_3 (by decide) ents_nil)
  have t_e_Lless_2 : EntOk P w K mg base 30 e_Lless_2 := ent_of m29 F29.kp g29 y_e_Lless_2 (fun _ _ => .nil) rfl rfl
  have g30 : FnG P w K mg base 31 _ fd30 P_check_fraction (spD K G_check_fraction 1 b_check_fraction P_check_fraction) := fnG_of (N := N_check_fraction) F30 s_check_fraction k_check_fraction ⟨fa_nil, fa_nil, fa_nil⟩ (ents_cons t_e_is_frac_1 (by decide) ents_nil)
  have t_e_check_fraction_1 : EntOk P w K mg base 31 e_check_fraction_1 := ent_of m30 F30.kp g30 y_e_check_fraction_1 (fun _ _ => .nil) rfl rfl
  have g31 : FnG P w K mg base 32 _ fd31 P_number_at_rim (spD K G_number_at_rim 3 b_number_at_rim P_number_at_rim) := fnG_of (N := N_number_at_rim) F31 s_number_at_rim k_number_at_rim ⟨fa_nil, fa_nil, fa_nil⟩ (ents_cons t_e_num_over_2 (by decide) ents_nil)
  have t_e_number_at_rim_1 : EntOk P w K mg base 32 e_number_at_rim_1 := ent_of m31 F31.kp g31 y_e_number_at_rim_1 (fun _ _ => .nil) rfl rfl
  have g32 : FnG P w K mg base 33 _ fd32 P_rim_number (spD K G_rim_number 1 b_rim_number P_rim_number) := fnG_of (N := N_rim_number) F32 s_rim_number k_rim_number ⟨fa_nil, fa_nil, fa_nil⟩ (ents_cons t_e_check_fraction_1 (by decide) (ents_cons t_e_number_at_rim_1 (by decide) ents_nil))
  have t_e_rim_number_1 : EntOk P w K mg base 33 e_rim_number_1 := ent_of m32 F32.kp g32 y_e_rim_number_1 (fun _ _ => .nil) rfl rfl
  have t_e_rim_number_0_fraction : EntOk P w K mg base 33 e_rim_number_0_fraction := ent_of m32 F32.kp g32 y_e_rim_number_0_fraction (fun _ _ => .nil) rfl rfl
  have g33 : FnG P w K mg base 34 _ fd33 P_Lboth (spD K G_Lboth 7 b_Lboth P_Lboth) := fnG_of (N := N_Lboth) F33 s_Lboth k_Lboth ⟨fa_nil, fa_nil, fa_nil⟩ (ents_cons t_e_Lfraction_2 (by decide) ents_nil)
  have t_e_Lboth_3 : EntOk P w K mg base 34 e_Lboth_3 := ent_of m33 F33.kp g33 y_e_Lboth_3 (fun _ _ => .nil) rfl rfl
  have g34 : FnG P w K mg base 35 _ fd34 P_size (spD K G_size 1 b_size P_size) := fnG_of (N := N_size) F34 s_size k_size ⟨fa_nil, fa_nil, fa_nil⟩ (ents_cons t_e_check_number_1 (by decide) (ents_cons t_e_num_size_1 (by decide) ents_nil))
  have t_e_size_1 : EntOk P w K mg base 35 e_size_1 := ent_of m34 F34.kp g34 y_e_size_1 (fun _ _ => .nil) rfl rfl
  have g35 : FnG P w K mg base 36 _ fd35 P_Lover (spD K G_Lover 3 b_Lover P_Lover) := fnG_of (N := N_Lover) F35 s_Lover k_Lover ⟨fa_nil, fa_nil, fa_nil⟩ (ents_cons t_e_Lcut_3 (by decide) ents_nil)
  have t_e_Lover_2 : EntOk P w K mg base 36 e_Lover_2 := ent_of m35 F35.kp g35 y_e_Lover_2 (fun _ _ => .nil) rfl rfl
  have g36 : FnG P w K mg base 37 _ fd36 P_mirrored (spD K G_mirrored 1 b_mirrored P_mirrored) := fnG_of (N := N_mirrored) F36 s_mirrored k_mirrored ⟨fa_nil, fa_nil, fa_nil⟩ (ents_cons t_e_check_number_1 (by decide) (ents_cons t_e_num_mirrored_1 (by decide) ents_nil))
  have t_e_mirrored_1 : EntOk P w K mg base 37 e_mirrored_1 := ent_of m36 F36.kp g36 y_e_mirrored_1 (fun _ _ => .nil) rfl rfl
  have g37 : FnG P w K mg base 38 _ fd37 P_Lright (spD K G_Lright 18 b_Lright P_Lright) := fnG_of (N := N_Lright) F37 s_Lright k_Lright ⟨(fa_cons r_repr fa_nil), fa_nil, fa_nil⟩ (ents_cons t_e_Lhalf_1 (by decide) (ents_cons t_e_Ldip_2 (by decide) (ents_cons t_e_Lfraction_2 (by decide) (ents_cons t_e_Lon_rim_1 (by decide) (ents_cons t_e_Ltold_1 (by decide) (ents_cons t_e_rim_number_1 (by decide) (ents_cons t_e_rim_number_0_fraction (by decide) (ents_cons t_e_rim_fraction_1 (by decide) (ents_cons t_e_rim_fraction_0_number (by decide) (ents_cons t_e_number_product_2 (by decide) (ents_cons t_e_number_over_2 (by decide) (ents_cons t_e_Lboth_3 (by decide) (ents_cons t_e_mirrored_1 (by decide) (ents_cons t_e_Lnumber_1 (by decide) (ents_cons t_e_Lsize_1 (by decide) (ents_cons t_e_size_1 (by decide) (ents_cons t_e_Ltimes_2 (by decide) (ents_cons t_e_lies_1 (by decide) (ents_cons t_e_Ladd_2 (by decide) (ents_cons t_e_Lless_2 (by decide) (ents_cons t_e_Lover_2 (by decide) ents_nil)))))))))))))))))))))
  have t_e_Lright_1 : EntOk P w K mg base 38 e_Lright_1 := ent_of m37 F37.kp g37 y_e_Lright_1 (fun _ _ => .nil) rfl rfl
  have g38 : FnG P w K mg base 39 _ fd38 P_Lpail (spD K G_Lpail 6 b_Lpail P_Lpail) := fnG_of (N := N_Lpail) F38 s_Lpail k_Lpail ⟨(fa_cons r_len (fa_cons r_int (fa_cons r_abs fa_nil))), fa_nil, fa_nil⟩ ents_nil
  have t_e_Lpail_2 : EntOk P w K mg base 39 e_Lpail_2 := ent_of m38 F38.kp g38 y_e_Lpail_2 (fun _ _ => .nil) rfl rfl
  have g39 : FnG P w K mg base 40 _ fd39 P_law (spD K G_law 2 b_law P_law) := fnG_of (N := N_law) F39 s_law k_law ⟨(fa_cons r_all (fa_cons r_range (fa_cons r_max (fa_cons r_min (fa_cons r_len fa_nil))))), fa_nil, fa_nil⟩ (ents_cons t_e_Lright_1 (by decide) (ents_cons t_e_Lpail_2 (by decide) ents_nil))
  exact g39
end
end W
open PySem PySem.W PySem.Calls PyProof.Rows
theorem THELAW (main : ∀ ns : List Int, ns.length ≤ 63 → ∃ S, PD.runF W.G_law 2 W.b_law [.lst (ns.map PD.D.int)] [] = some (.bl true, S)) : PySem.Challenge.rw_withinrim_k03_whole_rim_numbers_there_an.Holds := by
  w_on; o_law
  refine HandSHeadRun.head_imp (r := OpenLaw.row PySem.Challenge.rw_withinrim_k03_whole_rim_numbers_there_an) (q := view (OpenLaw.row PySem.Challenge.rw_withinrim_k03_whole_rim_numbers_there_an).prog [0, 51]) (H := W.hk) (ob := W.ob) (M := 6000) (loose := W.loose) (d := HandSHeadRun.topDef (OpenLaw.row PySem.Challenge.rw_withinrim_k03_whole_rim_numbers_there_an).prog 51) (kwd := []) W.ob_eq
    W.run (by kernel_rfl) (by kernel_rfl) (by kernel_rfl) (by rfl) (by first | assumption | decide +kernel) (by decide +kernel) ⟨rfl, rfl, rfl, rfl, rfl, by decide +kernel⟩ ?hw ?hc
  case hw => w_witness2
  case hc =>
    refine PD.walkG (l := PySem.Challenge.rw_withinrim_k03_whole_rim_numbers_there_an) (k := 40) (x := "_law_script") (G := W.G_law) (m := 2) (b := W.b_law) rfl (by kernel_rfl) ⟨rfl, by decide, by decide⟩ ?F main
    intro w mg fa h Y G hmg0
    obtain ⟨K, KX, c⟩ := Y
    have hmg : mg ("law" : PySem.Str) = some (.ref fa) := by
      have e : (HandSHeadRun.topDef (OpenLaw.row PySem.Challenge.rw_withinrim_k03_whole_rim_numbers_there_an).prog 51).name = ("law" : PySem.Str) := by kernel_rfl
      rw [← e]
      exact hmg0
    obtain ⟨fd, hb, hF⟩ := W.facts (P := (PySem.Challenge.rw_withinrim_k03_whole_rim_numbers_there_an).prog) (w := w) KX G hmg c
    exact ⟨K, fd, KX, hb, hF⟩

set_option Elab.async false
set_option linter.all false
set_option maxRecDepth 100000
set_option maxHeartbeats 1000000
namespace PD
theorem rne {B : Int} (h : B ≠ 0) : (B : Rat) ≠ 0 := by
  intro e
  exact h (by exact_mod_cast e)
theorem divInt_eq {A B : Int} {r : Rat} (hB : B ≠ 0) (h : (A : Rat) = r * (B : Rat)) : Rat.divInt A B = r := by
  have := rne hB
  rw [Rat.divInt_eq_div, h]
  grind
theorem nd (x : Rat) : (x.num : Rat) = x * ((x.den : Int) : Rat) := by
  have h := Rat.num_divInt_den x
  rw [Rat.divInt_eq_div] at h
  have := rne (den_ne x)
  grind
theorem add_eq (x y : Rat) : Rat.divInt (x.num * y.den + y.num * x.den) (x.den * y.den) = x + y := by
  refine divInt_eq (Int.mul_ne_zero (den_ne x) (den_ne y)) ?_
  have h1 := nd x
  have h2 := nd y
  simp only [Rat.intCast_mul, Rat.intCast_add, h1, h2]
  grind
theorem sub_eq (x y : Rat) : Rat.divInt (x.num * y.den - y.num * x.den) (x.den * y.den) = x - y := by
  refine divInt_eq (Int.mul_ne_zero (den_ne x) (den_ne y)) ?_
  have h1 := nd x
  have h2 := nd y
  simp only [Rat.intCast_mul, Rat.intCast_sub, h1, h2]
  grind
theorem mul_eq (x y : Rat) : Rat.divInt (x.num * y.num) (x.den * y.den) = x * y := by
  refine divInt_eq (Int.mul_ne_zero (den_ne x) (den_ne y)) ?_
  have h1 := nd x
  have h2 := nd y
  simp only [Rat.intCast_mul, h1, h2]
  grind
theorem num_ne {x : Rat} (h : x ≠ 0) : x.num ≠ 0 := by
  intro e
  exact h (Rat.num_eq_zero.mp e)
theorem over_eq (x y : Rat) (hy : y ≠ 0) : Rat.divInt (x.num * y.den) (x.den * y.num) = x / y := by
  refine divInt_eq (Int.mul_ne_zero (den_ne x) (num_ne hy)) ?_
  have h1 := nd x
  have h2 := nd y
  simp only [Rat.intCast_mul, h1, h2]
  grind
end PD
namespace W
open PySem PySem.Spec PyProof.Rows L2 PD
theorem r_red {n m : Int} {k : Nat} {S : Store} (h : m ≠ 0) (hm : sz k m) (hk : k < 9000) : runF G_frac_reduced 3 b_frac_reduced [.int n, .int m] S = some (F (Rat.divInt n m), S) := by
  obtain ⟨g1, g2⟩ := gcd_sz (n := n) h
  have ok : okDiv (if 0 < m then ((Nat.gcd n.natAbs m.natAbs : Nat) : Int) else -((Nat.gcd n.natAbs m.natAbs : Nat) : Int)) = true := by
    refine okDiv_sz (k := k) ?_ ?_ hk
    · refine hm.le ?_
      split <;> omega
    · split <;> omega
  rw [runF_eq]
  by_cases hp : 0 < m
  · have e := red_F (n := n) h
    simp only [hp, if_true] at e ok
    simp [b_frac_reduced, G_frac_reduced, hp, ok]
    exact e
  · have e := red_F (n := n) h
    simp only [hp, if_false] at e ok
    simp [b_frac_reduced, G_frac_reduced, hp, ok]
    exact e
section
variable {x y : Rat} {S : Store}
theorem r_frac_sum (hx : Sz 2000 x) (hy : Sz 2000 y) : runF G_frac_sum 2 b_frac_sum [F x, F y] S = some (F (x + y), S) := by
  rw [runF_eq]
  have o1 := okMul_sz hx.n hy.d (by decide)
  have o2 := okMul_sz hy.n hx.d (by decide)
  have o3 := okMul_sz hx.d hy.d (by decide)
  have e := r_red (n := x.num * y.den + y.num * x.den) (S := S) (Int.mul_ne_zero (den_ne x) (den_ne y)) (hx.d.mul hy.d) (by decide)
  rw [add_eq] at e
  simp only [F] at e ⊢
  simp [b_frac_sum, G_frac_sum, o1, o2, o3, e_frac_reduced_2, pick, e]
theorem r_frac_product (hx : Sz 2000 x) (hy : Sz 2000 y) : runF G_frac_product 2 b_frac_product [F x, F y] S = some (F (x * y), S) := by
  rw [runF_eq]
  have o1 := okMul_sz hx.n hy.n (by decide)
  have o3 := okMul_sz hx.d hy.d (by decide)
  have e := r_red (n := x.num * y.num) (S := S) (Int.mul_ne_zero (den_ne x) (den_ne y)) (hx.d.mul hy.d) (by decide)
  rw [mul_eq] at e
  simp only [F] at e ⊢
  simp [b_frac_product, G_frac_product, o1, o3, e_frac_reduced_2, pick, e]
theorem r_frac_over (hx : Sz 2000 x) (hy : Sz 2000 y) (h0 : y ≠ 0) : runF G_frac_over 2 b_frac_over [F x, F y] S = some (F (x / y), S) := by
  rw [runF_eq]
  have o1 := okMul_sz hx.n hy.d (by decide)
  have o3 := okMul_sz hx.d hy.n (by decide)
  have e := r_red (n := x.num * y.den) (S := S) (Int.mul_ne_zero (den_ne x) (num_ne h0)) (hx.d.mul hy.n) (by decide)
  rw [over_eq x y h0] at e
  simp only [F] at e ⊢
  simp [b_frac_over, G_frac_over, o1, o3, e_frac_reduced_2, pick, e]
end
end W

namespace PD
open PySem PySem.Spec PyProof.Rows L2
section
variable {i : Int} {b : Bool} {xs : List D} {z : Str}
@[simp] theorem isi1 : isiV (.d (.int i)) "int" = some true := rfl
@[simp] theorem isi2 : isiV (.d (.int i)) "bool" = some false := rfl
@[simp] theorem isi3 : isiV (.d (.bl b)) "int" = some true := rfl
@[simp] theorem isi4 : isiV (.d (.bl b)) "bool" = some true := rfl
@[simp] theorem isi5 : isiV (.d (.tup xs)) "tuple" = some true := rfl
@[simp] theorem isi6 : isiV (.d (.int i)) "tuple" = some false := rfl
@[simp] theorem isi7 : isiV (.d (.lst xs)) "tuple" = some false := rfl
@[simp] theorem isi8 : isiV (.d .non) "tuple" = some false := rfl
@[simp] theorem isi9 : isiV (.d (.str z)) "tuple" = some false := rfl
@[simp] theorem isi10 : isiV (.d (.tup xs)) "int" = some false := rfl
@[simp] theorem isi11 : isiV (.d (.bl b)) "tuple" = some false := rfl
end
def mulN (p q : Rat × Rat) : Rat × Rat := (p.1 * q.1 - p.2 * q.2, p.1 * q.2 + p.2 * q.1)
def conN (p : Rat × Rat) : Rat × Rat := (p.1, -p.2)
def sizN (p : Rat × Rat) : Rat := p.1 * p.1 + p.2 * p.2
def addN (p q : Rat × Rat) : Rat × Rat := (p.1 + q.1, p.2 + q.2)
def subN (p q : Rat × Rat) : Rat × Rat := (p.1 - q.1, p.2 - q.2)
def sclN (p : Rat × Rat) (r : Rat) : Rat × Rat := (p.1 * r, p.2 * r)
def ovrN (p q : Rat × Rat) : Rat × Rat := sclN (mulN p (conN q)) (1 / sizN q)
/-- both parts of at most k bits -/
def Szn (k : Nat) (p : Rat × Rat) : Prop := Sz k p.1 ∧ Sz k p.2
end PD
namespace W
open PySem PySem.Spec PyProof.Rows L2 PD
section
variable {x y : Rat} {p q : Rat × Rat} {S : Store} {i j : Int} {b : Bool} {xs : List D} {z : Str}
theorem r_is_whole_i : runF G_is_whole 1 b_is_whole [.int i] S = some (.bl true, S) := by
  rw [runF_eq]; simp [b_is_whole, G_is_whole]
theorem r_is_whole_b : runF G_is_whole 1 b_is_whole [.bl b] S = some (.bl false, S) := by
  rw [runF_eq]; simp [b_is_whole, G_is_whole]
theorem r_is_whole_t : runF G_is_whole 1 b_is_whole [.tup xs] S = some (.bl false, S) := by
  rw [runF_eq]; simp [b_is_whole, G_is_whole]
/-- of a pair -/
theorem r_is_frac_ij : runF G_is_frac 1 b_is_frac [.tup [.int i, .int j]] S = some (.bl (decide (0 < j) && decide (Nat.gcd i.natAbs j.natAbs = 1)), S) := by
  rw [runF_eq]
  simp [b_is_frac, G_is_frac, e_is_whole_1, pick, r_is_whole_i]
  by_cases h : 0 < j
  · simp [h]
    omega
  · simp [h]
theorem r_is_frac_F : runF G_is_frac 1 b_is_frac [F x] S = some (.bl true, S) := by
  have h := x.reduced
  have e : F x = .tup [.int x.num, .int x.den] := rfl
  rw [e, r_is_frac_ij, decide_eq_true (den_pos x)]
  have h2 : Nat.gcd x.num.natAbs (x.den : Int).natAbs = 1 := by rw [Int.natAbs_natCast]; exact h
  rw [decide_eq_true h2]
  rfl
theorem r_is_num_N : runF G_is_num 1 b_is_num [Nm p] S = some (.bl true, S) := by
  rw [runF_eq]
  simp [b_is_num, G_is_num, e_is_frac_1, pick, Nm, r_is_frac_F]
theorem r_check_fraction : runF G_check_fraction 1 b_check_fraction [F x] S = some (.non, S) := by
  rw [runF_eq]
  simp [b_check_fraction, G_check_fraction, e_is_frac_1, pick, r_is_frac_F]
theorem r_check_number : runF G_check_number 1 b_check_number [Nm p] S = some (.non, S) := by
  rw [runF_eq]
  simp [b_check_number, G_check_number, e_is_num_1, pick, r_is_num_N]
/-- 1, 0, -1 -/
def sgn (i : Int) : Int := (if 0 < i then 1 else 0) - (if i < 0 then 1 else 0)
theorem r_num_scaled (hp : Szn 2000 p) (hy : Sz 2000 y) : runF G_num_scaled 2 b_num_scaled [Nm p, F y] S = some (Nm (sclN p y), S) := by
  rw [runF_eq]
  simp [b_num_scaled, G_num_scaled, Nm, e_frac_product_2, pick, r_frac_product hp.1 hy, r_frac_product hp.2 hy, sclN]
theorem r_num_mirrored : runF G_num_mirrored 1 b_num_mirrored [Nm p] S = some (Nm (conN p), S) := by
  rw [runF_eq]
  simp [b_num_mirrored, G_num_mirrored, Nm, F, conN, Rat.neg_num, Rat.neg_den]
end
section
variable {p q : Rat × Rat} {S : Store}
theorem mulN_1 (p q : Rat × Rat) : Rat.divInt (p.1.num * q.1.num * p.2.den * q.2.den - p.2.num * q.2.num * p.1.den * q.1.den) (p.1.den * p.2.den * q.1.den * q.2.den) = (mulN p q).1 := by
  refine divInt_eq (Int.mul_ne_zero (Int.mul_ne_zero (Int.mul_ne_zero (den_ne _) (den_ne _)) (den_ne _)) (den_ne _)) ?_
  simp only [Rat.intCast_mul, Rat.intCast_sub, nd p.1, nd p.2, nd q.1, nd q.2, mulN]
  grind
theorem mulN_2 (p q : Rat × Rat) : Rat.divInt (p.1.num * q.2.num * p.2.den * q.1.den + p.2.num * q.1.num * p.1.den * q.2.den) (p.1.den * p.2.den * q.1.den * q.2.den) = (mulN p q).2 := by
  refine divInt_eq (Int.mul_ne_zero (Int.mul_ne_zero (Int.mul_ne_zero (den_ne _) (den_ne _)) (den_ne _)) (den_ne _)) ?_
  simp only [Rat.intCast_mul, Rat.intCast_add, nd p.1, nd p.2, nd q.1, nd q.2, mulN]
  grind
theorem sizN_1 (p : Rat × Rat) : Rat.divInt (p.1.num * p.1.num * p.2.den * p.2.den + p.2.num * p.2.num * p.1.den * p.1.den) (p.1.den * p.1.den * p.2.den * p.2.den) = sizN p := by
  refine divInt_eq (Int.mul_ne_zero (Int.mul_ne_zero (Int.mul_ne_zero (den_ne _) (den_ne _)) (den_ne _)) (den_ne _)) ?_
  simp only [Rat.intCast_mul, Rat.intCast_add, nd p.1, nd p.2, sizN]
  grind
theorem ok2 {k : Nat} {a b : Int} (ha : sz k a) (hb : sz k b) (h : k ≤ 2000) : okMul a b = true := okMul_sz ha hb (by omega)
theorem ok3 {k : Nat} {a b c : Int} (ha : sz k a) (hb : sz k b) (hc : sz k c) (h : k ≤ 2000) : okMul (a * b) c = true := okMul_sz (ha.mul hb) hc (by omega)
theorem ok4 {k : Nat} {a b c d : Int} (ha : sz k a) (hb : sz k b) (hc : sz k c) (hd : sz k d) (h : k ≤ 2000) : okMul (a * b * c) d = true := okMul_sz ((ha.mul hb).mul hc) hd (by omega)
theorem sz4 {k : Nat} {a b c d : Int} (ha : sz k a) (hb : sz k b) (hc : sz k c) (hd : sz k d) : sz (4 * k) (a * b * c * d) := (((ha.mul hb).mul hc).mul hd).mono (by omega)
theorem r_num_product {k : Nat} (hk : k ≤ 2000) (hp : Szn k p) (hq : Szn k q) : runF G_num_product 11 b_num_product [Nm p, Nm q] S = some (Nm (mulN p q), S) ∧ Szn (4 * k + 1) (mulN p q) := by
  obtain ⟨⟨a, b⟩, c, d⟩ := hp
  obtain ⟨⟨e, f⟩, g, h⟩ := hq
  have nz : ((p.1.den : Int) * p.2.den * q.1.den * q.2.den) ≠ 0 := Int.mul_ne_zero (Int.mul_ne_zero (Int.mul_ne_zero (den_ne _) (den_ne _)) (den_ne _)) (den_ne _)
  have hu := sz4 b d f h
  have e1 := r_red (n := p.1.num * q.1.num * p.2.den * q.2.den - p.2.num * q.2.num * p.1.den * q.1.den) (S := S) nz hu (by omega)
  have e2 := r_red (n := p.1.num * q.2.num * p.2.den * q.1.den + p.2.num * q.1.num * p.1.den * q.2.den) (S := S) nz hu (by omega)
  have z1 := Sz.div ((sz4 a e d h).sub (sz4 c g b f)) (hu.mono (Nat.le_succ _)) nz
  have z2 := Sz.div ((sz4 a g d f).add (sz4 c e b h)) (hu.mono (Nat.le_succ _)) nz
  rw [mulN_1] at e1 z1
  rw [mulN_2] at e2 z2
  refine ⟨?_, z1, z2⟩
  rw [runF_eq]
  simp [b_num_product, G_num_product, Nm, F, e_frac_reduced_2, pick, ok2 b d hk, ok3 b d f hk, ok4 b d f h hk, ok2 a e hk, ok3 a e d hk, ok4 a e d h hk, ok2 c g hk, ok3 c g b hk, ok4 c g b f hk,
    ok2 a g hk, ok3 a g d hk, ok4 a g d f hk, ok2 c e hk, ok3 c e b hk, ok4 c e b h hk]
  simp only [F] at e1 e2
  simp [e1, e2]
theorem r_num_size {k : Nat} (hk : k ≤ 2000) (hp : Szn k p) : runF G_num_size 5 b_num_size [Nm p] S = some (F (sizN p), S) ∧ Sz (4 * k + 1) (sizN p) := by
  obtain ⟨⟨a, b⟩, c, d⟩ := hp
  have nz : ((p.1.den : Int) * p.1.den * p.2.den * p.2.den) ≠ 0 := Int.mul_ne_zero (Int.mul_ne_zero (Int.mul_ne_zero (den_ne _) (den_ne _)) (den_ne _)) (den_ne _)
  have hu := sz4 b b d d
  have e1 := r_red (n := p.1.num * p.1.num * p.2.den * p.2.den + p.2.num * p.2.num * p.1.den * p.1.den) (S := S) nz hu (by omega)
  have z1 := Sz.div ((sz4 a a d d).add (sz4 c c b b)) (hu.mono (Nat.le_succ _)) nz
  rw [sizN_1] at e1 z1
  refine ⟨?_, z1⟩
  rw [runF_eq]
  simp only [F] at e1 ⊢
  simp [b_num_size, G_num_size, Nm, F, e_frac_reduced_2, pick, ok2 b b hk, ok3 b b d hk, ok4 b b d d hk, ok2 a a hk, ok3 a a d hk, ok4 a a d d hk, ok2 c c hk, ok3 c c b hk, ok4 c c b b hk, e1]
end
end W

namespace PD
open PySem PySem.Spec PyProof.Rows L2
theorem sq_nn (a : Rat) : 0 ≤ a * a := by
  rcases Rat.nonneg_total a with h | h
  · exact Rat.mul_nonneg h h
  · have := Rat.mul_nonneg h h
    have e : -a * -a = a * a := by grind
    rw [e] at this
    exact this
theorem sizN_ne {q : Rat × Rat} (h : q.1 ≠ 0 ∨ q.2 ≠ 0) : sizN q ≠ 0 := by
  intro e
  unfold sizN at e
  have h1 := sq_nn q.1
  have h2 := sq_nn q.2
  have e1 : q.1 * q.1 = 0 := by grind
  have e2 : q.2 * q.2 = 0 := by grind
  rcases h with h | h
  · rcases Rat.mul_eq_zero.mp e1 with z | z <;> exact h z
  · rcases Rat.mul_eq_zero.mp e2 with z | z <;> exact h z
theorem one_sz : Sz 1 (1 : Rat) := ⟨by unfold sz; decide, by unfold sz; decide⟩
theorem F_one : F 1 = .tup [.int 1, .int 1] := rfl
theorem Sz.neg {k : Nat} {r : Rat} (h : Sz k r) : Sz k (-r) := ⟨by rw [Rat.neg_num]; exact h.n.neg, by rw [Rat.neg_den]; exact h.d⟩
theorem Sz.mul {k l : Nat} {x y : Rat} (h : Sz k x) (h' : Sz l y) : Sz (k + l) (x * y) := by
  rw [← mul_eq]
  exact Sz.div (h.n.mul h'.n) (h.d.mul h'.d) (Int.mul_ne_zero (den_ne _) (den_ne _))
theorem Sz.add {k : Nat} {x y : Rat} (h : Sz k x) (h' : Sz k y) : Sz (2 * k + 1) (x + y) := by
  rw [← add_eq]
  refine Sz.div (((h.n.mul h'.d).add (h'.n.mul h.d)).mono (by omega)) ((h.d.mul h'.d).mono (by omega)) (Int.mul_ne_zero (den_ne _) (den_ne _))
theorem Sz.sub {k : Nat} {x y : Rat} (h : Sz k x) (h' : Sz k y) : Sz (2 * k + 1) (x - y) := by
  rw [← sub_eq]
  refine Sz.div (((h.n.mul h'.d).sub (h'.n.mul h.d)).mono (by omega)) ((h.d.mul h'.d).mono (by omega)) (Int.mul_ne_zero (den_ne _) (den_ne _))
theorem Sz.over {k l : Nat} {x y : Rat} (h : Sz k x) (h' : Sz l y) (h0 : y ≠ 0) : Sz (k + l) (x / y) := by
  rw [← over_eq x y h0]
  exact Sz.div (h.n.mul h'.d) (h.d.mul h'.n) (Int.mul_ne_zero (den_ne _) (num_ne h0))
theorem eqOk_Nm {q : Rat × Rat} : eqOk (Nm q) = true := rfl
theorem eqD_Nm {q : Rat × Rat} (h : q.1 ≠ 0 ∨ q.2 ≠ 0) : eqD (Nm q) (.tup [.tup [.int 0, .int 1], .tup [.int 0, .int 1]]) = false := by
  have e : eqD (Nm q) (.tup [.tup [.int 0, .int 1], .tup [.int 0, .int 1]]) = ((q.1.num == 0 && ((q.1.den : Int) == 1 && true)) && (((q.2.num == 0 && ((q.2.den : Int) == 1 && true))) && true)) := by simp [eqD, Nm, F, D.py, D.pys, PySem.PyData.eqv, PySem.PyData.eqvAll]
  rw [e]
  rcases h with h | h
  · have : (q.1.num == 0) = false := by simpa using num_ne h
    rw [this]; rfl
  · have : (q.2.num == 0) = false := by simpa using num_ne h
    rw [this]; simp
theorem cmp_nought {q : Rat × Rat} (h : q.1 ≠ 0 ∨ q.2 ≠ 0) : cmpV .eq (.d (Nm q)) (.d (.tup [.tup [.int 0, .int 1], .tup [.int 0, .int 1]])) = some false := by
  show (if (eqOk (Nm q) && eqOk (.tup [.tup [.int 0, .int 1], .tup [.int 0, .int 1]])) = true then some (eqD (Nm q) (.tup [.tup [.int 0, .int 1], .tup [.int 0, .int 1]])) else none) = _
  rw [eqOk_Nm, eqD_Nm h]; rfl
end PD
namespace W
open PySem PySem.Spec PyProof.Rows L2 PD
section
variable {x y : Rat} {p q : Rat × Rat} {S : Store}
theorem r_num_over (hp : Szn 300 p) (hq : Szn 300 q) (h : q.1 ≠ 0 ∨ q.2 ≠ 0) : runF G_num_over 2 b_num_over [Nm p, Nm q] S = some (Nm (ovrN p q), S) := by
  have hc : Szn 300 (conN q) := ⟨hq.1, hq.2.neg⟩
  obtain ⟨m1, m2⟩ := r_num_product (S := S) (by decide : 300 ≤ 2000) hp hc
  obtain ⟨s1, s2⟩ := r_num_size (S := S) (by decide : 300 ≤ 2000) hq
  have hs := sizN_ne h
  have o1 := r_frac_over (S := S) (one_sz.mono (by decide)) (s2.mono (by decide)) hs
  have o2 := (one_sz.over s2 hs).mono (by decide : _ ≤ 2000)
  have sc := r_num_scaled (S := S) ⟨m2.1.mono (by decide), m2.2.mono (by decide)⟩ o2
  rw [runF_eq]
  rw [F_one] at o1
  simp [b_num_over, G_num_over, e_num_scaled_2, e_num_product_2, e_num_mirrored_1, e_frac_over_2, e_num_size_1, pick, c_FRAC_ONE, r_num_mirrored, m1, s1, o1, sc, ovrN]
theorem r_number_over (hp : Szn 300 p) (hq : Szn 300 q) (h : q.1 ≠ 0 ∨ q.2 ≠ 0) : runF G_number_over 2 b_number_over [Nm p, Nm q] S = some (Nm (ovrN p q), S) := by
  rw [runF_eq]
  simp [b_number_over, G_number_over, e_check_number_1, e_num_over_2, pick, c_NOUGHT, r_check_number, cmp_nought h, r_num_over hp hq h]
theorem r_number_product {k : Nat} (hk : k ≤ 2000) (hp : Szn k p) (hq : Szn k q) : runF G_number_product 2 b_number_product [Nm p, Nm q] S = some (Nm (mulN p q), S) := by
  rw [runF_eq]
  simp [b_number_product, G_number_product, e_check_number_1, e_num_product_2, pick, r_check_number, (r_num_product (S := S) hk hp hq).1]
theorem r_mirrored : runF G_mirrored 1 b_mirrored [Nm p] S = some (Nm (conN p), S) := by
  rw [runF_eq]
  simp [b_mirrored, G_mirrored, e_check_number_1, e_num_mirrored_1, pick, r_check_number, r_num_mirrored]
theorem r_size {k : Nat} (hk : k ≤ 2000) (hp : Szn k p) : runF G_size 1 b_size [Nm p] S = some (F (sizN p), S) := by
  rw [runF_eq]
  simp [b_size, G_size, e_check_number_1, e_num_size_1, pick, r_check_number, (r_num_size (S := S) hk hp).1]
/-- where it lies -/
def whr (r : Rat) : Str := if r.num = r.den then "rim" else if r.num < r.den then "disc" else "beyond"
theorem r_lies {k : Nat} (hk : k ≤ 2000) (hp : Szn k p) : runF G_lies 3 b_lies [Nm p] S = some (.str (whr (sizN p)), S) := by
  have e := (r_num_size (S := S) hk hp).1
  simp only [F] at e
  rw [runF_eq]
  simp [b_lies, G_lies, e_check_number_1, e_num_size_1, pick, r_check_number, e, whr]
  by_cases h : (sizN p).num = (sizN p).den
  · simp [h]
  · by_cases h2 : (sizN p).num < (sizN p).den
    · simp [h, h2]
    · simp [h, h2]
end
/-! ### the law's own -/
section
variable {S : Store} {k : Nat}
def gcdW : Sm := .wh (.cmp .gt (.nm 1) (.lit (.int 0))) (.cons (.par [0, 1] (.cons (.nm 1) (.cons (.bin .mod (.bi .int1 (.cons (.nm 0) .nil)) (.nm 1)) .nil))) .nil)
theorem gcd_loop (b : Nat) : ∀ (a : Nat), evS G_Lgcd gcdW [.dat (.int a), .dat (.int b)] S = some ((.nx, [.dat (.int (Nat.gcd a b : Nat)), .dat (.int 0)]), S) := by
  induction b using Nat.strongRecOn with
  | _ b ih =>
    intro a
    by_cases h : b = 0
    · subst h
      unfold gcdW
      rw [wh_stop (S1 := S) (by simp)]
      simp
    · have hb : (0 : Int) < b := by omega
      have hb1 : 0 < b := by omega
      have e : Int.fmod (a : Int) (b : Int) = ((a % b : Nat) : Int) := by rw [Int.fmod_eq_emod_of_nonneg _ (by omega)]; rfl
      have z := ih (a % b) (Nat.mod_lt _ (by omega)) b
      rw [show Nat.gcd b (a % b) = Nat.gcd a b by rw [Nat.gcd_comm a b, Nat.gcd_rec b a, Nat.gcd_comm]] at z
      rw [← z]
      unfold gcdW
      refine wh_go (S1 := S) ?_ ?_
      · simp [hb1]
      · simp [h, e]
theorem r_Lgcd {a b : Int} : runF G_Lgcd 2 b_Lgcd [.int a, .int b] S = some (.int ((Nat.gcd a.natAbs b.natAbs : Nat) : Int), S) := by
  have ab : ∀ i : Int, (if i < 0 then -i else i) = (i.natAbs : Int) := fun i => by split <;> omega
  have z := gcd_loop (S := S) b.natAbs a.natAbs
  rw [runF_eq]
  unfold gcdW at z
  simp [b_Lgcd, ab, z]
theorem r_Lfraction {n m : Int} (h : m ≠ 0) (hm : sz k m) (hk : k < 9000) : runF G_Lfraction 3 b_Lfraction [.int n, .int m] S = some (F (Rat.divInt n m), S) := by
  obtain ⟨g1, g2⟩ := gcd_sz (n := n) h
  have ok : okDiv (if 0 < m then ((Nat.gcd n.natAbs m.natAbs : Nat) : Int) else -((Nat.gcd n.natAbs m.natAbs : Nat) : Int)) = true := by
    refine okDiv_sz (k := k) ?_ ?_ hk
    · refine hm.le ?_
      split <;> omega
    · split <;> omega
  have e := red_F (n := n) h
  rw [runF_eq]
  by_cases hp : m < 0
  · have hp2 : ¬ 0 < m := by omega
    simp only [hp2, if_false] at e ok
    simp [b_Lfraction, G_Lfraction, e_Lgcd_2, pick, r_Lgcd, hp, ok]
    exact e
  · have hp2 : 0 < m := by omega
    simp only [hp2, if_true] at e ok
    simp [b_Lfraction, G_Lfraction, e_Lgcd_2, pick, r_Lgcd, hp, ok]
    exact e
/-- three whole numbers, the number that they tell -/
def Tri (k : Nat) (t : D) (p : Rat × Rat) : Prop := ∃ a b d : Int, t = .tup [.int a, .int b, .int d] ∧ 0 < d ∧ sz k a ∧ sz k b ∧ sz k d ∧ p = (Rat.divInt a d, Rat.divInt b d)
theorem Tri.mono {l : Nat} {t : D} {p : Rat × Rat} (h : Tri k t p) (le : k ≤ l) : Tri l t p := by
  obtain ⟨a, b, d, h1, h2, h3, h4, h5, h6⟩ := h
  exact ⟨a, b, d, h1, h2, h3.mono le, h4.mono le, h5.mono le, h6⟩
theorem Tri.sz {t : D} {p : Rat × Rat} (h : Tri k t p) : Szn k p := by
  obtain ⟨a, b, d, h1, h2, h3, h4, h5, rfl⟩ := h
  exact ⟨Sz.div h3 h5 (by omega), Sz.div h4 h5 (by omega)⟩
theorem r_Ltold {t : D} {p : Rat × Rat} (h : Tri k t p) (hk : k < 9000) : runF G_Ltold 1 b_Ltold [t] S = some (Nm p, S) := by
  obtain ⟨a, b, d, rfl, h2, h3, h4, h5, rfl⟩ := h
  have e1 := r_Lfraction (n := a) (S := S) (by omega : d ≠ 0) h5 hk
  have e2 := r_Lfraction (n := b) (S := S) (by omega : d ≠ 0) h5 hk
  rw [runF_eq]
  simp [b_Ltold, G_Ltold, e_Lfraction_2, pick, e1, e2, Nm]
theorem r_Lcut {a b d : Int} (h : d ≠ 0) (ha : sz k a) (hb : sz k b) (hd : sz k d) (hk : k < 9000) : ∃ t, runF G_Lcut 4 b_Lcut [.int a, .int b, .int d] S = some (t, S) ∧ Tri k t (Rat.divInt a d, Rat.divInt b d) := by
  obtain ⟨g, hg⟩ : ∃ g : Nat, Nat.gcd (Nat.gcd a.natAbs b.natAbs) d.natAbs = g := ⟨_, rfl⟩
  have g0 : 0 < g := by rw [← hg]; exact Nat.gcd_pos_of_pos_right _ (by omega)
  have gd : g ∣ d.natAbs := by rw [← hg]; exact Nat.gcd_dvd_right _ _
  have gl : g ≤ d.natAbs := Nat.le_of_dvd (by omega) gd
  have ga : g ∣ a.natAbs := by
    rw [← hg]; exact Nat.dvd_trans (Nat.gcd_dvd_left _ _) (Nat.gcd_dvd_left _ _)
  have gb : g ∣ b.natAbs := by
    rw [← hg]; exact Nat.dvd_trans (Nat.gcd_dvd_left _ _) (Nat.gcd_dvd_right _ _)
  have main : ∀ s : Int, s.natAbs = g → 0 < s * d → okDiv s = true ∧ ∃ a' b' d', a.fdiv s = a' ∧ b.fdiv s = b' ∧ d.fdiv s = d' ∧ Tri k (.tup [.int a', .int b', .int d']) (Rat.divInt a d, Rat.divInt b d) := by
    intro s hs hp
    have s0 : s ≠ 0 := by omega
    obtain ⟨a', rfl⟩ : s ∣ a := Int.natAbs_dvd_natAbs.mp (by rw [hs]; exact ga)
    obtain ⟨b', rfl⟩ : s ∣ b := Int.natAbs_dvd_natAbs.mp (by rw [hs]; exact gb)
    obtain ⟨d', rfl⟩ : s ∣ d := Int.natAbs_dvd_natAbs.mp (by rw [hs]; exact gd)
    have le : ∀ z : Int, z.natAbs ≤ (s * z).natAbs := fun z => by
      rw [Int.natAbs_mul, hs]
      exact Nat.le_mul_of_pos_left _ g0
    refine ⟨okDiv_sz (hd.le (by rw [hs]; exact gl)) s0 hk, a', b', d', Int.mul_fdiv_cancel_left _ s0, Int.mul_fdiv_cancel_left _ s0, Int.mul_fdiv_cancel_left _ s0, a', b', d', rfl, ?_, ha.le (le _), hb.le (le _), hd.le (le _), ?_⟩
    · rw [← Int.mul_assoc] at hp
      have : 0 < s * s := by
        rcases Int.lt_or_gt_of_ne s0 with q | q
        · exact Int.mul_pos_of_neg_of_neg q q
        · exact Int.mul_pos q q
      by_cases q : 0 < d'
      · exact q
      · have := Int.mul_le_mul_of_nonneg_left (show d' ≤ 0 by omega) (Int.le_of_lt this)
        rw [Int.mul_zero] at this
        omega
    · rw [Rat.divInt_mul_left s0, Rat.divInt_mul_left s0]
  by_cases hp : d < 0
  · obtain ⟨ok, a', b', d', e1, e2, e3, tr⟩ := main (-(g : Int)) (by omega) (Int.mul_pos_of_neg_of_neg (by omega) hp)
    refine ⟨_, ?_, tr⟩
    rw [runF_eq]
    simp [b_Lcut, G_Lcut, e_Lgcd_2, pick, r_Lgcd, hp, hg, ok, e1, e2, e3]
  · obtain ⟨ok, a', b', d', e1, e2, e3, tr⟩ := main (g : Int) (by omega) (Int.mul_pos (by omega) (by omega))
    refine ⟨_, ?_, tr⟩
    rw [runF_eq]
    simp [b_Lcut, G_Lcut, e_Lgcd_2, pick, r_Lgcd, hp, hg, ok, e1, e2, e3]
end
end W

namespace W
open PySem PySem.Spec PyProof.Rows L2 PD
section
variable {S : Store} {k : Nat} {x y : D} {p q : Rat × Rat}
theorem di {a d : Int} (h : d ≠ 0) : (a : Rat) = Rat.divInt a d * (d : Rat) := by
  have := rne h
  rw [Rat.divInt_eq_div]
  grind
theorem r_Ladd (hx : Tri k x p) (hy : Tri k y q) (hk : k < 4000) : ∃ t, runF G_Ladd 2 b_Ladd [x, y] S = some (t, S) ∧ Tri (2 * k + 1) t (addN p q) := by
  obtain ⟨a, b, d, rfl, h2, h3, h4, h5, rfl⟩ := hx
  obtain ⟨a', b', d', rfl, h2', h3', h4', h5', rfl⟩ := hy
  have nz : d * d' ≠ 0 := Int.mul_ne_zero (by omega) (by omega)
  obtain ⟨t, e, tr⟩ := r_Lcut (S := S) (k := 2 * k + 1) nz (((h3.mul h5').add (h3'.mul h5)).mono (by omega)) (((h4.mul h5').add (h4'.mul h5)).mono (by omega)) ((h5.mul h5').mono (by omega)) (by omega)
  refine ⟨t, ?_, ?_⟩
  · rw [runF_eq]
    simp [b_Ladd, G_Ladd, e_Lcut_3, pick, okMul_sz h3 h5' (by omega), okMul_sz h3' h5 (by omega), okMul_sz h4 h5' (by omega), okMul_sz h4' h5 (by omega), okMul_sz h5 h5' (by omega), e]
  · have e1 : Rat.divInt (a * d' + a' * d) (d * d') = Rat.divInt a d + Rat.divInt a' d' := by
      refine divInt_eq nz ?_
      simp only [Rat.intCast_mul, Rat.intCast_add]
      have z1 := di (a := a) (by omega : d ≠ 0)
      have z2 := di (a := a') (by omega : d' ≠ 0)
      generalize Rat.divInt a d = u at z1 ⊢
      generalize Rat.divInt a' d' = v at z2 ⊢
      rw [z1, z2]
      grind
    have e2 : Rat.divInt (b * d' + b' * d) (d * d') = Rat.divInt b d + Rat.divInt b' d' := by
      refine divInt_eq nz ?_
      simp only [Rat.intCast_mul, Rat.intCast_add]
      have z1 := di (a := b) (by omega : d ≠ 0)
      have z2 := di (a := b') (by omega : d' ≠ 0)
      generalize Rat.divInt b d = u at z1 ⊢
      generalize Rat.divInt b' d' = v at z2 ⊢
      rw [z1, z2]
      grind
    rw [e1, e2] at tr
    exact tr
theorem r_Lless (hx : Tri k x p) (hy : Tri k y q) (hk : k < 4000) : ∃ t, runF G_Lless 2 b_Lless [x, y] S = some (t, S) ∧ Tri (2 * k + 1) t (subN p q) := by
  obtain ⟨a, b, d, rfl, h2, h3, h4, h5, rfl⟩ := hx
  obtain ⟨a', b', d', rfl, h2', h3', h4', h5', rfl⟩ := hy
  have nz : d * d' ≠ 0 := Int.mul_ne_zero (by omega) (by omega)
  obtain ⟨t, e, tr⟩ := r_Lcut (S := S) (k := 2 * k + 1) nz (((h3.mul h5').sub (h3'.mul h5)).mono (by omega)) (((h4.mul h5').sub (h4'.mul h5)).mono (by omega)) ((h5.mul h5').mono (by omega)) (by omega)
  refine ⟨t, ?_, ?_⟩
  · rw [runF_eq]
    simp [b_Lless, G_Lless, e_Lcut_3, pick, okMul_sz h3 h5' (by omega), okMul_sz h3' h5 (by omega), okMul_sz h4 h5' (by omega), okMul_sz h4' h5 (by omega), okMul_sz h5 h5' (by omega), e]
  · have e1 : Rat.divInt (a * d' - a' * d) (d * d') = Rat.divInt a d - Rat.divInt a' d' := by
      refine divInt_eq nz ?_
      simp only [Rat.intCast_mul, Rat.intCast_sub]
      have z1 := di (a := a) (by omega : d ≠ 0)
      have z2 := di (a := a') (by omega : d' ≠ 0)
      generalize Rat.divInt a d = u at z1 ⊢
      generalize Rat.divInt a' d' = v at z2 ⊢
      rw [z1, z2]
      grind
    have e2 : Rat.divInt (b * d' - b' * d) (d * d') = Rat.divInt b d - Rat.divInt b' d' := by
      refine divInt_eq nz ?_
      simp only [Rat.intCast_mul, Rat.intCast_sub]
      have z1 := di (a := b) (by omega : d ≠ 0)
      have z2 := di (a := b') (by omega : d' ≠ 0)
      generalize Rat.divInt b d = u at z1 ⊢
      generalize Rat.divInt b' d' = v at z2 ⊢
      rw [z1, z2]
      grind
    rw [e1, e2] at tr
    exact tr
theorem r_Ltimes (hx : Tri k x p) (hy : Tri k y q) (hk : k < 4000) : ∃ t, runF G_Ltimes 2 b_Ltimes [x, y] S = some (t, S) ∧ Tri (2 * k + 1) t (mulN p q) := by
  obtain ⟨a, b, d, rfl, h2, h3, h4, h5, rfl⟩ := hx
  obtain ⟨a', b', d', rfl, h2', h3', h4', h5', rfl⟩ := hy
  have nz : d * d' ≠ 0 := Int.mul_ne_zero (by omega) (by omega)
  obtain ⟨t, e, tr⟩ := r_Lcut (S := S) (k := 2 * k + 1) nz (((h3.mul h3').sub (h4.mul h4')).mono (by omega)) (((h3.mul h4').add (h4.mul h3')).mono (by omega)) ((h5.mul h5').mono (by omega)) (by omega)
  refine ⟨t, ?_, ?_⟩
  · rw [runF_eq]
    simp [b_Ltimes, G_Ltimes, e_Lcut_3, pick, okMul_sz h3 h3' (by omega), okMul_sz h4 h4' (by omega), okMul_sz h3 h4' (by omega), okMul_sz h4 h3' (by omega), okMul_sz h5 h5' (by omega), e]
  · have z1 := di (a := a) (by omega : d ≠ 0)
    have z2 := di (a := a') (by omega : d' ≠ 0)
    have z3 := di (a := b) (by omega : d ≠ 0)
    have z4 := di (a := b') (by omega : d' ≠ 0)
    have e1 : Rat.divInt (a * a' - b * b') (d * d') = Rat.divInt a d * Rat.divInt a' d' - Rat.divInt b d * Rat.divInt b' d' := by
      refine divInt_eq nz ?_
      simp only [Rat.intCast_mul, Rat.intCast_sub]
      generalize Rat.divInt a d = u at z1 ⊢
      generalize Rat.divInt a' d' = v at z2 ⊢
      generalize Rat.divInt b d = u2 at z3 ⊢
      generalize Rat.divInt b' d' = v2 at z4 ⊢
      rw [z1, z2, z3, z4]
      grind
    have e2 : Rat.divInt (a * b' + b * a') (d * d') = Rat.divInt a d * Rat.divInt b' d' + Rat.divInt b d * Rat.divInt a' d' := by
      refine divInt_eq nz ?_
      simp only [Rat.intCast_mul, Rat.intCast_add]
      generalize Rat.divInt a d = u at z1 ⊢
      generalize Rat.divInt a' d' = v at z2 ⊢
      generalize Rat.divInt b d = u2 at z3 ⊢
      generalize Rat.divInt b' d' = v2 at z4 ⊢
      rw [z1, z2, z3, z4]
      grind
    rw [e1, e2] at tr
    exact tr
theorem sq_pos {a b : Int} (h : a ≠ 0 ∨ b ≠ 0) : 0 < a * a + b * b := by
  have f : ∀ z : Int, 0 ≤ z * z ∧ (z ≠ 0 → 0 < z * z) := fun z => by
    rcases Int.lt_trichotomy z 0 with q | q | q
    · have := Int.mul_pos_of_neg_of_neg q q; exact ⟨by omega, fun _ => this⟩
    · subst q; exact ⟨by decide, fun h => absurd rfl h⟩
    · have := Int.mul_pos q q; exact ⟨by omega, fun _ => this⟩
  have fa := f a
  have fb := f b
  rcases h with h | h
  · have := fa.2 h; omega
  · have := fb.2 h; omega
theorem ne_of_tri {a b d : Int} (h2 : 0 < d) (h : Rat.divInt a d ≠ 0 ∨ Rat.divInt b d ≠ 0) : a ≠ 0 ∨ b ≠ 0 := by
  by_cases ha : a = 0
  · subst ha
    by_cases hb : b = 0
    · subst hb
      rcases h with h | h <;> exact absurd (Rat.zero_divInt _) h
    · exact .inr hb
  · exact .inl ha
theorem r_Lover (hx : Tri k x p) (hy : Tri k y q) (h : q.1 ≠ 0 ∨ q.2 ≠ 0) (hk : k < 2000) : ∃ t, runF G_Lover 3 b_Lover [x, y] S = some (t, S) ∧ Tri (3 * k + 2) t (ovrN p q) := by
  obtain ⟨a, b, d, rfl, h2, h3, h4, h5, rfl⟩ := hx
  obtain ⟨a', b', d', rfl, h2', h3', h4', h5', rfl⟩ := hy
  have hs := sq_pos (ne_of_tri h2' h)
  have nz : d * (a' * a' + b' * b') ≠ 0 := Int.mul_ne_zero (by omega) (by omega)
  have ss : sz (2 * k + 1) (a' * a' + b' * b') := ((h3'.mul h3').add (h4'.mul h4')).mono (by omega)
  have n1 : sz (2 * k + 1) (a * a' + b * b') := ((h3.mul h3').add (h4.mul h4')).mono (by omega)
  have n2 : sz (2 * k + 1) (b * a' - a * b') := ((h4.mul h3').sub (h3.mul h4')).mono (by omega)
  obtain ⟨t, e, tr⟩ := r_Lcut (S := S) (k := 3 * k + 2) nz ((n1.mul h5').mono (by omega)) ((n2.mul h5').mono (by omega)) ((h5.mul ss).mono (by omega)) (by omega)
  refine ⟨t, ?_, ?_⟩
  · rw [runF_eq]
    simp [b_Lover, G_Lover, e_Lcut_3, pick, okMul_sz h3 h3' (by omega), okMul_sz h4 h4' (by omega), okMul_sz h3 h4' (by omega), okMul_sz h4 h3' (by omega), okMul_sz h3' h3' (by omega), okMul_sz h4' h4' (by omega), okMul_sz h5 ss (by omega), okMul_sz n1 h5' (by omega), okMul_sz n2 h5' (by omega), e]
  · have z1 := di (a := a) (by omega : d ≠ 0)
    have z2 := di (a := a') (by omega : d' ≠ 0)
    have z3 := di (a := b) (by omega : d ≠ 0)
    have z4 := di (a := b') (by omega : d' ≠ 0)
    have hd := rne (by omega : d ≠ 0)
    have hd' := rne (by omega : d' ≠ 0)
    have sn := sizN_ne h
    have e1 : Rat.divInt ((a * a' + b * b') * d') (d * (a' * a' + b' * b')) = (ovrN (Rat.divInt a d, Rat.divInt b d) (Rat.divInt a' d', Rat.divInt b' d')).1 := by
      refine divInt_eq nz ?_
      simp only [Rat.intCast_mul, Rat.intCast_add, ovrN, sclN, mulN, conN]
      simp only [sizN] at sn ⊢
      generalize Rat.divInt a d = u at z1 ⊢
      generalize Rat.divInt a' d' = v at z2 sn ⊢
      generalize Rat.divInt b d = u2 at z3 ⊢
      generalize Rat.divInt b' d' = v2 at z4 sn ⊢
      rw [z1, z2, z3, z4]
      grind
    have e2 : Rat.divInt ((b * a' - a * b') * d') (d * (a' * a' + b' * b')) = (ovrN (Rat.divInt a d, Rat.divInt b d) (Rat.divInt a' d', Rat.divInt b' d')).2 := by
      refine divInt_eq nz ?_
      simp only [Rat.intCast_mul, Rat.intCast_add, Rat.intCast_sub, ovrN, sclN, mulN, conN]
      simp only [sizN] at sn ⊢
      generalize Rat.divInt a d = u at z1 ⊢
      generalize Rat.divInt a' d' = v at z2 sn ⊢
      generalize Rat.divInt b d = u2 at z3 ⊢
      generalize Rat.divInt b' d' = v2 at z4 sn ⊢
      rw [z1, z2, z3, z4]
      grind
    rw [e1, e2] at tr
    exact tr
theorem r_Lsize (hx : Tri k x p) (hk : k < 4000) : runF G_Lsize 1 b_Lsize [x] S = some (F (sizN p), S) := by
  obtain ⟨a, b, d, rfl, h2, h3, h4, h5, rfl⟩ := hx
  have nz : d * d ≠ 0 := Int.mul_ne_zero (by omega) (by omega)
  have e := r_Lfraction (n := a * a + b * b) (S := S) nz (h5.mul h5) (by omega)
  have z1 := di (a := a) (by omega : d ≠ 0)
  have z3 := di (a := b) (by omega : d ≠ 0)
  have e1 : Rat.divInt (a * a + b * b) (d * d) = sizN (Rat.divInt a d, Rat.divInt b d) := by
    refine divInt_eq nz ?_
    simp only [Rat.intCast_mul, Rat.intCast_add, sizN]
    generalize Rat.divInt a d = u at z1 ⊢
    generalize Rat.divInt b d = u2 at z3 ⊢
    rw [z1, z3]
    grind
  rw [e1] at e
  rw [runF_eq]
  simp [b_Lsize, G_Lsize, e_Lfraction_2, pick, okMul_sz h3 h3 (by omega), okMul_sz h4 h4 (by omega), okMul_sz h5 h5 (by omega), e]
end
end W

namespace PD
open PySem PySem.Spec PyProof.Rows L2
@[simp] theorem ixN30 : ixN 3 0 = some 0 := rfl
@[simp] theorem ixN31 : ixN 3 1 = some 1 := rfl
@[simp] theorem ixN32 : ixN 3 2 = some 2 := rfl
/-- a pail of draws, at most N of its own -/
def Pl (N : Nat) (S : Store) (n : Nat) : Prop := ∃ a b c : Int, S[n]? = some [.int a, .int b, .int c] ∧ 0 ≤ a ∧ 0 ≤ b ∧ b < 2147483629 ∧ 0 ≤ c ∧ c ≤ N
theorem Pl.mono {N M : Nat} {S : Store} {n : Nat} (h : Pl N S n) (le : N ≤ M) : Pl M S n := by
  obtain ⟨a, b, c, h1, h2, h3, h4, h5, h6⟩ := h
  exact ⟨a, b, c, h1, h2, h3, h4, h5, by omega⟩
theorem fm_nn (a : Int) {b : Int} (h : 0 < b) : 0 ≤ a.fmod b := by
  rw [Int.fmod_eq_emod_of_nonneg _ (by omega)]
  exact Int.emod_nonneg _ (by omega)
theorem fm_lt (a : Int) {b : Int} (h : 0 < b) : a.fmod b < b := by
  rw [Int.fmod_eq_emod_of_nonneg _ (by omega)]
  exact Int.emod_lt_of_pos _ h
theorem sz_of {k : Nat} {i : Int} (h1 : -(2 ^ k : Nat) < i) (h2 : i < (2 ^ k : Nat)) : sz k i := by
  unfold sz
  omega
end PD
namespace W
open PySem PySem.Spec PyProof.Rows L2 PD
section
variable {S : Store} {N n : Nat}
theorem r_Ldip {m : Int} (h : Pl N S n) (hN : N ≤ 1000000) (hm : 0 < m) (hm2 : m < 1073741824) : ∃ v S', runF G_Ldip 4 b_Ldip [.cell n, .int m] S = some (.int v, S') ∧ 0 ≤ v ∧ v < m ∧ Pl (N + 1) S' n := by
  obtain ⟨a, b, c, h1, h2, h3, h4, h5, h6⟩ := h
  have hn : n < S.length := (List.getElem?_eq_some_iff.mp h1).1
  by_cases ha : 0 < a
  · refine ⟨a % m, S.set n [.int (a / m), .int b, .int c], ?_, Int.emod_nonneg _ (by omega), Int.emod_lt_of_pos _ hm, a / m, b, c, List.getElem?_set_self hn, Int.ediv_nonneg h2 (by omega), h3, h4, h5, by omega⟩
    rw [runF_eq]
    simp [b_Ldip, G_Ldip, h1, ha, hm, hm2]
  · have s0 : sz 31 b := sz_of (by omega) (by omega)
    have s1 : sz 31 (48271 : Int) := sz_of (by decide) (by decide)
    have s2 : sz 31 (c + 1) := sz_of (by omega) (by omega)
    have s3 : sz 31 (69621 : Int) := sz_of (by decide) (by decide)
    have o1 := okMul_sz s0 s1 (by decide)
    have o2 := okMul_sz s2 s3 (by decide)
    obtain ⟨one, h1e⟩ : ∃ one, (b * 48271 + (c + 1) * 69621).fmod 2147483629 = one := ⟨_, rfl⟩
    have q0 : 0 ≤ one := by rw [← h1e]; exact fm_nn _ (by decide)
    have q1 : one < 2147483629 := by rw [← h1e]; exact fm_lt _ (by decide)
    have q2 : 0 ≤ one.fdiv 4099 := by rw [Int.fdiv_eq_ediv_of_nonneg _ (by decide)]; exact Int.ediv_nonneg q0 (by decide)
    have q3 : one.fdiv 4099 ≤ one := by rw [Int.fdiv_eq_ediv_of_nonneg _ (by decide)]; omega
    have s4 : sz 31 one := sz_of (by omega) (by omega)
    have s5 : sz 31 (3 : Int) := sz_of (by decide) (by decide)
    have s6 : sz 33 (one.fdiv 4099 + 3 * (c + 1)) := sz_of (by omega) (by omega)
    have o3 := okMul_sz s5 s2 (by decide)
    have o4 := okMul_sz s4 s6 (by decide)
    have o5 : okDiv 4099 = true := by decide
    have o6 : okDiv 257 = true := by decide
    obtain ⟨b', h2e⟩ : ∃ b', (one * (one.fdiv 4099 + 3 * (c + 1)) + 16807).fmod 2147483629 = b' := ⟨_, rfl⟩
    have k0 : 0 ≤ b' := by rw [← h2e]; exact fm_nn _ (by decide)
    have k1 : b' < 2147483629 := by rw [← h2e]; exact fm_lt _ (by decide)
    refine ⟨(b'.fdiv 257).fmod m, (S.set n [.int a, .int b, .int (c + 1)]).set n [.int a, .int b', .int (c + 1)], ?_, fm_nn _ hm, fm_lt _ hm, a, b', c + 1, List.getElem?_set_self (by simpa using hn), h2, k0, k1, by omega, by omega⟩
    have hm0 : m ≠ 0 := by omega
    rw [runF_eq]
    have g1 : ∀ xs, (S.set n xs)[n]? = some xs := fun xs => List.getElem?_set_self hn
    clear hn
    simp [b_Ldip, G_Ldip, h1, g1, ha, o1, o2, o3, o4, o5, o6, hm0, h1e, h2e]
theorem atI_mem {α : Type} {xs : List α} {i : Int} (h0 : 0 ≤ i) (h : i < xs.length) : ∃ x ∈ xs, atI xs i = some x := by
  unfold atI ixN
  have hi : i.toNat < xs.length := by omega
  refine ⟨xs[i.toNat], List.getElem_mem _, ?_⟩
  simp [h0, h, hi]
theorem r_Lone_of {xs : List D} (h : Pl N S n) (hN : N ≤ 1000000) (h0 : 0 < xs.length) (h1 : xs.length < 1000) : ∃ x S', x ∈ xs ∧ runF G_Lone_of 2 b_Lone_of [.cell n, .lst xs] S = some (x, S') ∧ Pl (N + 1) S' n := by
  obtain ⟨v, S', e, v0, v1, p⟩ := r_Ldip (m := xs.length) h hN (by omega) (by omega)
  obtain ⟨x, hx, ex⟩ := atI_mem v0 v1
  refine ⟨x, S', hx, ?_, p⟩
  rw [runF_eq]
  simp [b_Lone_of, G_Lone_of, e_Ldip_2, pick, e, ex]
end
end W

namespace W
open PySem PySem.Spec PyProof.Rows L2 PD
section
variable {S : Store} {N n : Nat}
theorem sz_abs {k : Nat} {i : Int} (h : sz k i) : sz k (if i < 0 then -i else i) := by
  split
  · exact h.neg
  · exact h
end
end W

namespace PD
open PySem PySem.Spec PyProof.Rows L2
@[simp] theorem biV_reprL {xs : List D} : biV .repr [.d (.lst xs)] = if shOk (.lst xs) then some (.str (D.lst xs).py.shown) else none := rfl
@[simp] theorem biV_reprT {xs : List D} : biV .repr [.d (.tup xs)] = if shOk (.tup xs) then some (.str (D.tup xs).py.shown) else none := rfl
theorem forL_nil {step : D → Loc → Store → Option ((Fl × Loc) × Store)} {L : Loc} {S : Store} : forL step [] L S = some ((.nx, L), S) := rfl
theorem forL_cons {step : D → Loc → Store → Option ((Fl × Loc) × Store)} {d : D} {ds : List D} {L : Loc} {S : Store} : forL step (d :: ds) L S = bnd (step d L S) fun r S1 => match r.1 with
    | .nx => forL step ds r.2 S1
    | .cnt => forL step ds r.2 S1
    | .brk => some ((.nx, r.2), S1)
    | .ret x => some ((.ret x, r.2), S1) := rfl
end PD
namespace W
open PySem PySem.Spec PyProof.Rows L2 PD
section
variable {S : Store} {N n : Nat}
/-! ### the pail -/
def mixB : Sms := .cons (.asg (.nm 3) (.bin .mod (.bi .int1 (.cons (.bin .add (.bin .add (.bin .mul (.nm 3) (.lit (.int 69069))) (.bin .mul (.bin .mod (.bi .int1 (.cons (.nm 4) .nil)) (.lit (.int 998244353))) (.lit (.int 31)))) (.lit (.int 7))) .nil)) (.lit (.int 2147483629)))) .nil
theorem mix_step {G : Gam} {A B C E R : Lv} {m z : Int} (h0 : 0 ≤ m) (h1 : m < 2147483648) : ∃ m', (bnd (evG G (.nm 4) (.int z) [A, B, C, .dat (.int m), E, R] S) fun L2 S2 => evSs G mixB L2 S2) = some ((.nx, [A, B, C, .dat (.int m'), .dat (.int z), R]), S) ∧ 0 ≤ m' ∧ m' < 2147483648 := by
  have s1 : sz 32 m := sz_of (by omega) (by omega)
  have q0 := fm_nn z (show (0 : Int) < 998244353 by decide)
  have q1 := fm_lt z (show (0 : Int) < 998244353 by decide)
  have s2 : sz 32 (z.fmod 998244353) := sz_of (by omega) (by omega)
  have s3 : sz 32 (69069 : Int) := sz_of (by decide) (by decide)
  have s4 : sz 32 (31 : Int) := sz_of (by decide) (by decide)
  refine ⟨(m * 69069 + z.fmod 998244353 * 31 + 7).fmod 2147483629, ?_, fm_nn _ (by decide), by have := fm_lt (m * 69069 + z.fmod 998244353 * 31 + 7) (show (0 : Int) < 2147483629 by decide); omega⟩
  simp [mixB, okMul_sz s1 s3 (by decide), okMul_sz s2 s4 (by decide)]
theorem mix_loop {G : Gam} {A B C R : Lv} : ∀ (zs : List Int) (m : Int) (E : Lv), 0 ≤ m → m < 2147483648 → ∃ m' E', forL (fun d L S => bnd (evG G (.nm 4) d L S) fun L2 S2 => evSs G mixB L2 S2) (zs.map D.int) [A, B, C, .dat (.int m), E, R] S = some ((.nx, [A, B, C, .dat (.int m'), E', R]), S) ∧ 0 ≤ m' ∧ m' < 2147483648
  | [], m, E, h0, h1 => ⟨m, E, rfl, h0, h1⟩
  | z :: zs, m, E, h0, h1 => by
    obtain ⟨m1, e1, a0, a1⟩ := mix_step (S := S) (G := G) (A := A) (B := B) (C := C) (E := E) (R := R) (z := z) h0 h1
    obtain ⟨m2, E2, e2, b0, b1⟩ := mix_loop (G := G) (A := A) (B := B) (C := C) (R := R) zs m1 (.dat (.int z)) a0 a1
    refine ⟨m2, E2, ?_, b0, b1⟩
    rw [List.map_cons, forL_cons, e1, bnd_some]
    exact e2
theorem cut_ints (zs : List Int) (lo hi : Option Int) : PD.cutD (zs.map D.int) lo hi = ((zs.drop (HT.sIx zs.length 0 lo)).take (HT.sIx zs.length zs.length hi - HT.sIx zs.length 0 lo)).map D.int := by
  unfold PD.cutD
  rw [List.length_map, List.map_take, List.map_drop]
theorem atI_ints {zs : List Int} {i : Int} (h0 : 0 ≤ i) (h : i < zs.length) : ∃ z, atI (zs.map D.int) i = some (.int z) := by
  obtain ⟨x, hx, e⟩ := atI_mem (xs := zs.map D.int) h0 (by rw [List.length_map]; exact h)
  obtain ⟨z, _, rfl⟩ := List.mem_map.mp hx
  exact ⟨z, e⟩
theorem r_Lpail {zs : List Int} {t : Int} (h0 : 0 ≤ t) (h1 : t < 100) : ∃ S', runF G_Lpail 6 b_Lpail [.lst (zs.map D.int), .int t] S = some (.cell S.length, S') ∧ Pl 0 S' S.length := by
  have st : sz 32 t := sz_of (by omega) (by omega)
  have s1 : sz 32 (977 : Int) := sz_of (by decide) (by decide)
  have s2 : sz 32 (8009 : Int) := sz_of (by decide) (by decide)
  have o1 := okMul_sz s1 st (by decide)
  have o2 := okMul_sz s2 st (by decide)
  have o3 : okPow 10 15 = true := by decide
  -- the cell
  obtain ⟨c, hc⟩ : ∃ c : Int, evX G_Lpail (.ife (.cmp .lt (.nm 1) (.bi .len (.cons (.nm 0) .nil))) (.bi .int1 (.cons (.ix (.nm 0) (.nm 1)) .nil)) (.bin .add (.bin .mul (.lit (.int 977)) (.nm 1)) (.lit (.int 41)))) [.dat (.lst (zs.map D.int)), .dat (.int t), .un, .un, .un, .un] S = some (.d (.int c), S) := by
    by_cases h : t < zs.length
    · obtain ⟨z, e⟩ := atI_ints h0 h
      exact ⟨z, by simp [h, e]⟩
    · exact ⟨977 * t + 41, by simp [h, o1]⟩
  obtain ⟨m', E', e2, b0, b1⟩ := mix_loop (S := S) (G := G_Lpail) (A := .dat (.lst (zs.map D.int))) (B := .dat (.int t)) (C := .dat (.int c)) (R := .un) ((zs.drop (HT.sIx zs.length 0 none)).take (HT.sIx zs.length zs.length (some 9) - HT.sIx zs.length 0 none)) (51043 + 8009 * t) .un (by omega) (by omega)
  rw [← cut_ints] at e2
  have e3 : evS G_Lpail (.for_ (.nm 4) (.seq (.fr (.slc (.nm 0) .none (.some (.lit (.int 9)))))) mixB) [.dat (.lst (zs.map D.int)), .dat (.int t), .dat (.int c), .dat (.int (51043 + 8009 * t)), .un, .un] S = some ((.nx, [.dat (.lst (zs.map D.int)), .dat (.int t), .dat (.int c), .dat (.int m'), E', .un]), S) := by
    refine ev_for (S1 := S) rfl ?_ e2
    simp [slcL, asL, optI, evF_slc]
  unfold mixB at e3
  have q0 := fm_nn c (show (0 : Int) < 998244353 by decide)
  have q1 := fm_lt c (show (0 : Int) < 998244353 by decide)
  have s4 : sz 32 m' := sz_of (by omega) (by omega)
  have s5 : sz 32 (c.fmod 998244353) := sz_of (by omega) (by omega)
  have s6 : sz 32 (89 : Int) := sz_of (by decide) (by decide)
  have s7 : sz 32 (20011 : Int) := sz_of (by decide) (by decide)
  have o4 := okMul_sz s4 s6 (by decide)
  have o5 := okMul_sz s5 s7 (by decide)
  have fin : ∀ a : Int, 0 ≤ a → Pl 0 (S ++ [[D.int a, D.int ((m' * 89 + c.fmod 998244353 * 20011 + 5).fmod 2147483629), D.int 0]]) S.length := fun a ha =>
    ⟨a, (m' * 89 + c.fmod 998244353 * 20011 + 5).fmod 2147483629, 0, by simp, ha, fm_nn _ (by decide), fm_lt _ (by decide), by decide, by decide⟩
  have e4 : evS G_Lpail (.asg (.nm 2) (.ife (.cmp .lt (.nm 1) (.bi .len (.cons (.nm 0) .nil))) (.bi .int1 (.cons (.ix (.nm 0) (.nm 1)) .nil)) (.bin .add (.bin .mul (.lit (.int 977)) (.nm 1)) (.lit (.int 41))))) [.dat (.lst (zs.map D.int)), .dat (.int t), .un, .un, .un, .un] S = some ((.nx, [.dat (.lst (zs.map D.int)), .dat (.int t), .dat (.int c), .un, .un, .un]), S) := by
    rw [evS_asg, hc]
    simp
  rw [runF_eq]
  simp only [b_Lpail, evSs_cons, List.map_cons, List.map_nil, List.length_cons, List.length_nil, List.cons_append, List.nil_append, show (6 : Nat) - (0 + 1 + 1) = 4 from rfl, show List.replicate 4 Lv.un = [Lv.un, .un, .un, .un] from rfl]
  rw [e4]
  by_cases r : c < 0
  · refine ⟨_, ?_, fin (-c) (by omega)⟩
    simp [o2, e3, o3, o4, o5, r]
  · by_cases r2 : 1000000000000000 ≤ c
    · refine ⟨_, ?_, fin c (by omega)⟩
      simp [o2, e3, o3, o4, o5, r, r2]
    · refine ⟨_, ?_, fin 0 (by omega)⟩
      simp [o2, e3, o3, o4, o5, r, r2]
end
end W

set_option Elab.async false
set_option linter.all false
set_option maxRecDepth 100000
set_option maxHeartbeats 1000000
namespace PD
open PySem PySem.Spec PyProof.Rows L2
def rimN (r : Rat) : Rat × Rat := ((1 - r * r) / (1 + r * r), (2 * r) / (1 + r * r))
theorem rim_pos (r : Rat) : (1 : Rat) + r * r ≠ 0 := by
  have := sq_nn r
  grind
theorem rim_size (r : Rat) : sizN (rimN r) = 1 := by
  have := rim_pos r
  unfold sizN rimN
  grind
theorem rim_con (r : Rat) : conN (rimN r) = rimN (-r) := by
  have := rim_pos r
  unfold conN rimN
  refine Prod.ext ?_ ?_ <;> grind
theorem siz_mul (p q : Rat × Rat) : sizN (mulN p q) = sizN p * sizN q := by
  unfold sizN mulN
  grind
theorem ovr_rim (p : Rat × Rat) (r : Rat) : ovrN p (rimN r) = mulN p (rimN (-r)) := by
  unfold ovrN sclN
  rw [rim_size, rim_con]
  refine Prod.ext ?_ ?_ <;> grind
theorem rim_den (x y : Rat) : (1 + x * x) * (1 + y * y) ≠ 0 := by
  intro z
  rcases Rat.mul_eq_zero.mp z with z | z
  · exact rim_pos x z
  · exact rim_pos y z
/-- the rim fraction -/
theorem rim_1 (x y : Rat) : (mulN (rimN x) (rimN y)).1 + 1 = 2 * (1 - x * y) * (1 - x * y) / ((1 + x * x) * (1 + y * y)) := by
  have h1 := rim_pos x
  have h2 := rim_pos y
  have h3 := rim_den x y
  unfold mulN rimN
  grind
theorem rim_2 (x y : Rat) : (mulN (rimN x) (rimN y)).2 = 2 * (x + y) * (1 - x * y) / ((1 + x * x) * (1 + y * y)) := by
  have h1 := rim_pos x
  have h2 := rim_pos y
  have h3 := rim_den x y
  unfold mulN rimN
  grind
theorem rim_none (x y : Rat) (h : 1 - x * y = 0) : (mulN (rimN x) (rimN y)).1 = -1 := by
  have := rim_1 x y
  rw [h] at this
  grind
theorem rim_some (x y : Rat) (h : 1 - x * y ≠ 0) : (mulN (rimN x) (rimN y)).1 ≠ -1 ∧ (mulN (rimN x) (rimN y)).2 / (1 + (mulN (rimN x) (rimN y)).1) = (x + y) / (1 - x * y) := by
  have h1 := rim_pos x
  have h2 := rim_pos y
  have a := rim_1 x y
  have b := rim_2 x y
  generalize (mulN (rimN x) (rimN y)).1 = u at a ⊢
  generalize (mulN (rimN x) (rimN y)).2 = v at b ⊢
  have hu : u + 1 ≠ 0 := by
    rw [a]
    intro e
    have : (1 + x * x) * (1 + y * y) ≠ 0 := by
      intro z
      rcases Rat.mul_eq_zero.mp z with z | z
      · exact h1 z
      · exact h2 z
    have e2 : 2 * (1 - x * y) * (1 - x * y) = 0 := by grind
    rcases Rat.mul_eq_zero.mp e2 with z | z
    · rcases Rat.mul_eq_zero.mp z with z | z
      · grind
      · exact h z
    · exact h z
  refine ⟨fun e => hu (by rw [e]; grind), ?_⟩
  grind
theorem rim_own (x : Rat) : (rimN x).1 ≠ -1 ∧ (rimN x).2 / (1 + (rimN x).1) = x := by
  have h1 := rim_pos x
  unfold rimN
  refine ⟨fun e => ?_, ?_⟩
  · grind
  · grind
end PD

set_option Elab.async false
set_option linter.all false
set_option maxRecDepth 100000
set_option maxHeartbeats 1000000
namespace PD
open PySem PySem.Spec PyProof.Rows L2
theorem F_int (k : Int) : F (k : Rat) = .tup [.int k, .int 1] := by
  have h : (k : Rat) = Rat.divInt k 1 := by rw [Rat.divInt_eq_div]; grind
  rw [h]
  have h1 : (Rat.divInt k 1).num = k := by rw [Rat.num_divInt]; simp
  have h2 : (Rat.divInt k 1).den = 1 := by rw [Rat.den_divInt]; simp
  unfold F
  rw [h1, h2]; rfl
theorem Sz_int {k : Nat} {i : Int} (h : sz k i) (h1 : 1 ≤ k) : Sz k (i : Rat) := by
  have e : (i : Rat) = Rat.divInt i 1 := by rw [Rat.divInt_eq_div]; grind
  rw [e]
  exact Sz.div h (sz.mono (show sz 1 1 by unfold sz; decide) h1) (by decide)
theorem sizN_one {p : Rat × Rat} (h : sizN p = 1) : p.1 ≠ 0 ∨ p.2 ≠ 0 := by
  by_cases h1 : p.1 = 0
  · refine .inr fun h2 => ?_
    unfold sizN at h
    rw [h1, h2] at h
    grind
  · exact .inl h1
theorem eqD_F {r : Rat} : eqD (F r) (.tup [.int (-1), .int 1]) = decide (r = -1) := by
  have e : eqD (F r) (.tup [.int (-1), .int 1]) = (r.num == -1 && ((r.den : Int) == 1 && true)) := by simp [eqD, F, D.py, D.pys, PySem.PyData.eqv, PySem.PyData.eqvAll]
  rw [e, Bool.and_true, Bool.eq_iff_iff]
  simp only [Bool.and_eq_true, beq_iff_eq, decide_eq_true_eq]
  constructor
  · rintro ⟨h1, h2⟩
    have := nd r
    rw [h1, h2] at this
    have h3 : r = ((-1 : Int) : Rat) := by grind
    rw [h3]; rfl
  · rintro rfl
    exact ⟨rfl, rfl⟩
theorem cmp_m1 {r : Rat} : cmpV .eq (.d (F r)) (.d (.tup [.int (-1), .int 1])) = some (decide (r = -1)) := by
  show (if (eqOk (F r) && eqOk (.tup [.int (-1), .int 1])) = true then some (eqD (F r) (.tup [.int (-1), .int 1])) else none) = _
  rw [eqD_F]
  rfl
end PD
namespace W
open PySem PySem.Spec PyProof.Rows L2 PD
section
variable {S : Store} {N n : Nat} {x y : Rat} {p q : Rat × Rat}
theorem whr_rim (h : sizN p = 1) : whr (sizN p) = "rim" := by
  rw [h]; rfl
theorem rim_atN (x : Rat) : ovrN ((((x.den : Int) : Rat)), ((x.num : Int) : Rat)) (((x.den : Int) : Rat), ((-x.num : Int) : Rat)) = rimN x := by
  have h := nd x
  have hd := rne (den_ne x)
  have hp := rim_pos x
  have s := sq_nn (((x.den : Int) : Rat))
  rw [Rat.intCast_neg, h]
  generalize ((x.den : Int) : Rat) = d at *
  have e : d * d + (x * d) * (x * d) ≠ 0 := by
    have e1 : d * d + (x * d) * (x * d) = (d * d) * (1 + x * x) := by grind
    rw [e1]
    intro z
    rcases Rat.mul_eq_zero.mp z with z | z
    · rcases Rat.mul_eq_zero.mp z with z | z <;> exact hd z
    · exact hp z
  unfold ovrN sclN mulN conN sizN rimN
  refine Prod.ext ?_ ?_ <;> grind
theorem r_number_at_rim (hx : Sz 100 x) : runF G_number_at_rim 3 b_number_at_rim [F x] S = some (Nm (rimN x), S) := by
  have s1 : Szn 300 (((x.den : Int) : Rat), ((x.num : Int) : Rat)) := ⟨(Sz_int hx.d (by decide)).mono (by decide), (Sz_int hx.n (by decide)).mono (by decide)⟩
  have s2 : Szn 300 (((x.den : Int) : Rat), ((-x.num : Int) : Rat)) := ⟨(Sz_int hx.d (by decide)).mono (by decide), (Sz_int hx.n.neg (by decide)).mono (by decide)⟩
  have e := r_num_over (S := S) s1 s2 (.inl (rne (den_ne x)))
  rw [rim_atN] at e
  have a1 : Nm (((x.den : Int) : Rat), ((x.num : Int) : Rat)) = .tup [.tup [.int x.den, .int 1], .tup [.int x.num, .int 1]] := by unfold Nm; rw [F_int, F_int]
  have a2 : Nm (((x.den : Int) : Rat), ((-x.num : Int) : Rat)) = .tup [.tup [.int x.den, .int 1], .tup [.int (-x.num), .int 1]] := by unfold Nm; rw [F_int, F_int]
  rw [a1, a2] at e
  rw [runF_eq]
  simp [b_number_at_rim, G_number_at_rim, e_num_over_2, pick, F, e]
theorem r_rim_number (hx : Sz 100 x) : runF G_rim_number 1 b_rim_number [F x] S = some (Nm (rimN x), S) := by
  rw [runF_eq]
  simp [b_rim_number, G_rim_number, e_check_fraction_1, e_number_at_rim_1, pick, r_check_fraction, r_number_at_rim hx]
theorem r_rim_none (hp : Szn 2000 p) (h : sizN p = 1) (h1 : p.1 = -1) : runF G_rim_fraction 1 b_rim_fraction [Nm p] S = some (.non, S) := by
  have e := r_lies (S := S) (by decide) hp
  rw [whr_rim h] at e
  have c := @cmp_m1 p.1
  rw [decide_eq_true h1] at c
  rw [runF_eq]
  simp [b_rim_fraction, G_rim_fraction, e_lies_1, pick, e]
  simp [Nm, c]
theorem r_rim_some (hp : Szn 2000 p) (h : sizN p = 1) (h1 : p.1 ≠ -1) (hs : Sz 2000 (1 + p.1)) : runF G_rim_fraction 1 b_rim_fraction [Nm p] S = some (F (p.2 / (1 + p.1)), S) := by
  have e := r_lies (S := S) (by decide) hp
  rw [whr_rim h] at e
  have c := @cmp_m1 p.1
  rw [decide_eq_false h1] at c
  have a := r_frac_sum (S := S) (one_sz.mono (by decide)) hp.1
  rw [F_one] at a
  have nz : 1 + p.1 ≠ 0 := fun z => h1 (by grind)
  have b := r_frac_over (S := S) hp.2 hs nz
  rw [runF_eq]
  simp [b_rim_fraction, G_rim_fraction, e_lies_1, pick, e]
  simp [Nm, c, e_frac_sum_2, e_frac_over_2, pick, a, b]
/-- sum of half turns -/
def bothN (x y : Rat) : D := if 1 - x * y = 0 then .non else F ((x + y) / (1 - x * y))
theorem r_rim_mul {k : Nat} (hk : k ≤ 900) (hp : Szn k (mulN (rimN x) (rimN y))) : runF G_rim_fraction 1 b_rim_fraction [Nm (mulN (rimN x) (rimN y))] S = some (bothN x y, S) := by
  have h : sizN (mulN (rimN x) (rimN y)) = 1 := by rw [siz_mul, rim_size, rim_size, Rat.one_mul]
  have hp2 : Szn 2000 (mulN (rimN x) (rimN y)) := ⟨hp.1.mono (by omega), hp.2.mono (by omega)⟩
  unfold bothN
  by_cases z : 1 - x * y = 0
  · rw [if_pos z]
    exact r_rim_none hp2 h (rim_none x y z)
  · rw [if_neg z]
    obtain ⟨a, b⟩ := rim_some x y z
    have hs : Sz 2000 (1 + (mulN (rimN x) (rimN y)).1) := (Sz.add (one_sz.mono (by omega : 1 ≤ k + 1)) (hp.1.mono (Nat.le_succ _))).mono (by omega)
    rw [← b]
    exact r_rim_some hp2 h a hs
theorem r_rim_own {k : Nat} (hk : k ≤ 900) (hp : Szn k (rimN x)) : runF G_rim_fraction 1 b_rim_fraction [Nm (rimN x)] S = some (F x, S) := by
  obtain ⟨a, b⟩ := rim_own x
  have hp2 : Szn 2000 (rimN x) := ⟨hp.1.mono (by omega), hp.2.mono (by omega)⟩
  have hs : Sz 2000 (1 + (rimN x).1) := (Sz.add (one_sz.mono (by omega : 1 ≤ k + 1)) (hp.1.mono (Nat.le_succ _))).mono (by omega)
  have e := r_rim_some (S := S) hp2 (rim_size x) a hs
  rw [b] at e
  exact e
/-! ### the law's own -/
theorem r_Lon_rim (hx : Sz 100 x) : ∃ t, runF G_Lon_rim 3 b_Lon_rim [F x] S = some (t, S) ∧ Tri 203 t (rimN x) := by
  have hp := rim_pos x
  have hd := rne (den_ne x)
  have hpos : 0 < (x.den : Int) * x.den + x.num * x.num := by
    have := Int.mul_pos (den_pos x) (den_pos x)
    have h2 : 0 ≤ x.num * x.num := by
      rcases Int.lt_trichotomy x.num 0 with q | q | q
      · have := Int.mul_pos_of_neg_of_neg q q; omega
      · rw [q]; decide
      · have := Int.mul_pos q q; omega
    omega
  have nz : (x.den : Int) * x.den + x.num * x.num ≠ 0 := by omega
  have two : sz 2 (2 : Int) := by unfold sz; decide
  have o1 := okMul_sz hx.d hx.d (by decide)
  have o2 := okMul_sz hx.n hx.n (by decide)
  have o3 := okMul_sz two hx.n (by decide)
  have o4 := okMul_sz (two.mul hx.n) hx.d (by decide)
  obtain ⟨t, e, tr⟩ := r_Lcut (S := S) (k := 203) nz (((hx.d.mul hx.d).sub (hx.n.mul hx.n)).mono (by decide)) (((two.mul hx.n).mul hx.d).mono (by decide)) (((hx.d.mul hx.d).add (hx.n.mul hx.n)).mono (by decide)) (by decide)
  refine ⟨t, ?_, ?_⟩
  · rw [runF_eq]
    simp [b_Lon_rim, G_Lon_rim, e_Lcut_3, pick, F, o1, o2, o3, o4, e]
  · have e1 : Rat.divInt ((x.den : Int) * x.den - x.num * x.num) ((x.den : Int) * x.den + x.num * x.num) = (rimN x).1 := by
      refine divInt_eq nz ?_
      simp only [Rat.intCast_mul, Rat.intCast_add, Rat.intCast_sub, nd x, rimN]
      grind
    have e2 : Rat.divInt (2 * x.num * x.den) ((x.den : Int) * x.den + x.num * x.num) = (rimN x).2 := by
      refine divInt_eq nz ?_
      simp only [Rat.intCast_mul, Rat.intCast_add, nd x, rimN]
      have : ((2 : Int) : Rat) = 2 := rfl
      rw [this]
      grind
    rw [e1, e2] at tr
    exact tr
theorem r_Lboth (s : Int) (hs : s = 1 ∨ s = -1) (hx : Sz 100 x) (hy : Sz 100 y) : runF G_Lboth 7 b_Lboth [F x, F y, .int s] S = some (bothN x ((s : Rat) * y), S) := by
  have ss : sz 1 s := by rcases hs with rfl | rfl <;> (unfold sz; decide)
  have o1 := okMul_sz ss hy.n (by decide)
  have sr := ss.mul hy.n
  have o2 := okMul_sz hx.d hy.d (by decide)
  have o3 := okMul_sz hx.n sr (by decide)
  have o4 := okMul_sz hx.n hy.d (by decide)
  have o5 := okMul_sz sr hx.d (by decide)
  have hx0 := rne (den_ne x)
  have hy0 := rne (den_ne y)
  have eq1 : (((x.den : Int) * y.den - x.num * (s * y.num) : Int) : Rat) = (1 - x * (s * y)) * (((x.den : Int) * y.den : Int) : Rat) := by
    simp only [Rat.intCast_mul, Rat.intCast_sub, nd x, nd y]
    grind
  have dn : (((x.den : Int) * y.den : Int) : Rat) ≠ 0 := rne (Int.mul_ne_zero (den_ne x) (den_ne y))
  unfold bothN
  by_cases h : (x.den : Int) * y.den - x.num * (s * y.num) = 0
  · have z : 1 - x * ((s : Rat) * y) = 0 := by
      rw [h] at eq1
      have := eq1.symm
      rcases Rat.mul_eq_zero.mp this with q | q
      · exact q
      · exact absurd q dn
    rw [if_pos z, runF_eq]
    simp [b_Lboth, G_Lboth, F, o1, o2, o3, h]
  · have z : 1 - x * ((s : Rat) * y) ≠ 0 := fun z => by
      rw [z, Rat.zero_mul] at eq1
      exact h (by exact_mod_cast eq1)
    have e := r_Lfraction (n := x.num * y.den + s * y.num * x.den) (S := S) h (((hx.d.mul hy.d).mono (by decide : _ ≤ 201)).sub ((hx.n.mul sr).mono (by decide))) (by decide)
    have e1 : Rat.divInt (x.num * y.den + s * y.num * x.den) ((x.den : Int) * y.den - x.num * (s * y.num)) = (x + s * y) / (1 - x * (s * y)) := by
      refine divInt_eq h ?_
      rw [eq1]
      simp only [Rat.intCast_mul, Rat.intCast_add, nd x, nd y]
      grind
    rw [e1] at e
    rw [if_neg z, runF_eq]
    simp [b_Lboth, G_Lboth, F, o1, o2, o3, o4, o5, h, e_Lfraction_2, pick] 
    simp only [F] at e
    simp [e]
end
end W

set_option Elab.async false
set_option linter.all false
set_option maxRecDepth 100000
set_option maxHeartbeats 1000000
namespace PD
open PySem PySem.Spec PyProof.Rows L2
def Sms.hd : Sms → Sm | .cons s _ => s | .nil => .pass
def Sms.tl : Sms → Sms | .cons _ ss => ss | .nil => .nil
theorem st_nx {G : Gam} {s : Sm} {ss : Sms} {L L2 : PD.Loc} {S S2 : Store} {r : Option ((Fl × PD.Loc) × Store)} (h : evS G s L S = some ((.nx, L2), S2)) (t : evSs G ss L2 S2 = r) : evSs G (.cons s ss) L S = r := by
  rw [evSs_cons, h]
  exact t
theorem st_ret {G : Gam} {s : Sm} {ss : Sms} {L L2 : PD.Loc} {S S2 : Store} {d : D} (h : evS G s L S = some ((.ret d, L2), S2)) : evSs G (.cons s ss) L S = some ((.ret d, L2), S2) := by
  rw [evSs_cons, h]
  rfl
end PD
namespace W
open PySem PySem.Spec PyProof.Rows L2 PD
section
variable {S : Store} {N n : Nat}
/-- three whole numbers without a common divisor -/
def Trg (k : Nat) (t : D) (p : Rat × Rat) : Prop := ∃ a b d : Int, t = .tup [.int a, .int b, .int d] ∧ 0 < d ∧ sz k a ∧ sz k b ∧ sz k d ∧ p = (Rat.divInt a d, Rat.divInt b d) ∧ Nat.gcd (Nat.gcd a.natAbs b.natAbs) d.natAbs = 1
theorem Trg.tri {k : Nat} {t : D} {p : Rat × Rat} (h : Trg k t p) : Tri k t p := by
  obtain ⟨a, b, d, h1, h2, h3, h4, h5, h6, _⟩ := h
  exact ⟨a, b, d, h1, h2, h3, h4, h5, h6⟩
theorem r_Lcutg {k : Nat} {a b d : Int} (h : 0 < d) (ha : sz k a) (hb : sz k b) (hd : sz k d) (hk : k < 9000) : ∃ t, runF G_Lcut 4 b_Lcut [.int a, .int b, .int d] S = some (t, S) ∧ Trg k t (Rat.divInt a d, Rat.divInt b d) := by
  obtain ⟨g, hg⟩ : ∃ g : Nat, Nat.gcd (Nat.gcd a.natAbs b.natAbs) d.natAbs = g := ⟨_, rfl⟩
  have g0 : 0 < g := by rw [← hg]; exact Nat.gcd_pos_of_pos_right _ (by omega)
  have gd : g ∣ d.natAbs := by rw [← hg]; exact Nat.gcd_dvd_right _ _
  have gl : g ≤ d.natAbs := Nat.le_of_dvd (by omega) gd
  have ga : g ∣ a.natAbs := by
    rw [← hg]; exact Nat.dvd_trans (Nat.gcd_dvd_left _ _) (Nat.gcd_dvd_left _ _)
  have gb : g ∣ b.natAbs := by
    rw [← hg]; exact Nat.dvd_trans (Nat.gcd_dvd_left _ _) (Nat.gcd_dvd_right _ _)
  have s0 : (g : Int) ≠ 0 := by omega
  obtain ⟨a', rfl⟩ : (g : Int) ∣ a := Int.natAbs_dvd_natAbs.mp (by rw [Int.natAbs_natCast]; exact ga)
  obtain ⟨b', rfl⟩ : (g : Int) ∣ b := Int.natAbs_dvd_natAbs.mp (by rw [Int.natAbs_natCast]; exact gb)
  obtain ⟨d', rfl⟩ : (g : Int) ∣ d := Int.natAbs_dvd_natAbs.mp (by rw [Int.natAbs_natCast]; exact gd)
  have le : ∀ z : Int, z.natAbs ≤ ((g : Int) * z).natAbs := fun z => by
    rw [Int.natAbs_mul, Int.natAbs_natCast]
    exact Nat.le_mul_of_pos_left _ g0
  have ok : okDiv (g : Int) = true := okDiv_sz (hd.le (by rw [Int.natAbs_natCast]; exact gl)) s0 hk
  have hd' : 0 < d' := by
    by_cases q : 0 < d'
    · exact q
    · have := Int.mul_le_mul_of_nonneg_left (show d' ≤ 0 by omega) (show (0 : Int) ≤ g by omega)
      rw [Int.mul_zero] at this
      omega
  refine ⟨.tup [.int a', .int b', .int d'], ?_, a', b', d', rfl, hd', ha.le (le _), hb.le (le _), hd.le (le _), ?_, ?_⟩
  · have hn : ¬ (g : Int) * d' < 0 := by omega
    rw [runF_eq]
    simp only [Int.natAbs_mul, Int.natAbs_natCast] at hg
    simp [b_Lcut, G_Lcut, e_Lgcd_2, pick, r_Lgcd, hn, Int.natAbs_mul, hg, ok, Int.mul_fdiv_cancel_left _ s0]
  · rw [Rat.divInt_mul_left s0, Rat.divInt_mul_left s0]
  · rw [Int.natAbs_mul, Int.natAbs_mul, Int.natAbs_mul, Int.natAbs_natCast, Nat.gcd_mul_left, Nat.gcd_mul_left] at hg
    exact Nat.eq_of_mul_eq_mul_left g0 (by rw [hg, Nat.mul_one])
theorem r_Lhalf (h : Pl N S n) (hN : N ≤ 900000) : ∃ r S', runF G_Lhalf 2 b_Lhalf [.cell n] S = some (F r, S') ∧ Sz 20 r ∧ Pl (N + 3) S' n := by
  obtain ⟨x, S1, hx, e1, p1⟩ := r_Lone_of (xs := [.int 3, .int 3, .int 8, .int 40, .int 1000]) h (by omega) (by decide) (by decide)
  obtain ⟨top, rfl, t0, t1⟩ : ∃ t : Int, x = .int t ∧ 0 < t ∧ t ≤ 1000 := by
    simp only [List.mem_cons, List.not_mem_nil, or_false] at hx
    rcases hx with rfl | rfl | rfl | rfl | rfl <;> exact ⟨_, rfl, by decide, by decide⟩
  have s2 : sz 2 (2 : Int) := by unfold sz; decide
  have st : sz 20 top := sz_of (by omega) (by omega)
  have o1 := okMul_sz s2 st (by decide)
  obtain ⟨u, S2, e2, u0, u1, p2⟩ := r_Ldip (m := 2 * top + 1) p1 (by omega) (by omega) (by omega)
  obtain ⟨v, S3, e3, v0, v1, p3⟩ := r_Ldip (m := top) p2 (by omega) t0 (by omega)
  have su : sz 20 (u - top) := sz_of (by omega) (by omega)
  have sv : sz 20 (1 + v) := sz_of (by omega) (by omega)
  have e := r_Lfraction (n := u - top) (S := S3) (show 1 + v ≠ 0 by omega) sv (by decide)
  refine ⟨_, S3, ?_, Sz.div su sv (by omega), p3⟩
  rw [runF_eq]
  simp [b_Lhalf, G_Lhalf, e_Lone_of_2, e_Ldip_2, e_Lfraction_2, pick, e1, o1, e2, e3, e]
theorem r_Lnumber (h : Pl N S n) (hN : N ≤ 900000) : ∃ t p S', runF G_Lnumber 4 b_Lnumber [.cell n] S = some (t, S') ∧ Trg 20 t p ∧ Pl (N + 5) S' n := by
  obtain ⟨x, S1, hx, e1, p1⟩ := r_Lone_of (xs := [.int 2, .int 5, .int 40]) h (by omega) (by decide) (by decide)
  obtain ⟨top, rfl, t0, t1⟩ : ∃ t : Int, x = .int t ∧ 0 < t ∧ t ≤ 1000 := by
    simp only [List.mem_cons, List.not_mem_nil, or_false] at hx
    rcases hx with rfl | rfl | rfl <;> exact ⟨_, rfl, by decide, by decide⟩
  have s2 : sz 2 (2 : Int) := by unfold sz; decide
  have st : sz 20 top := sz_of (by omega) (by omega)
  have o1 := okMul_sz s2 st (by decide)
  obtain ⟨u, S2, e2, u0, u1, p2⟩ := r_Ldip (m := 2 * top + 1) p1 (by omega) (by omega) (by omega)
  obtain ⟨w, S3, e3, w0, w1, p3⟩ := r_Ldip (m := 2 * top + 1) p2 (by omega) (by omega) (by omega)
  obtain ⟨z, S4, e4, z0, z1, p4⟩ := r_Ldip (m := 4) p3 (by omega) (by decide) (by decide)
  obtain ⟨v, S5, e5, v0, v1, p5⟩ := r_Ldip (m := top) p4 (by omega) t0 (by omega)
  have su : sz 20 (u - top) := sz_of (by omega) (by omega)
  have sw : sz 20 (if z = 0 then 0 else w - top) := by
    split
    · unfold sz; decide
    · exact sz_of (by omega) (by omega)
  have sv : sz 20 (1 + v) := sz_of (by omega) (by omega)
  obtain ⟨t, et, tr⟩ := r_Lcutg (S := S5) (show 0 < 1 + v by omega) su sw sv (by decide)
  refine ⟨t, _, S5, ?_, tr, p5⟩
  rw [runF_eq]
  by_cases q : z = 0
  · subst q
    simp at et
    simp [b_Lnumber, G_Lnumber, e_Lone_of_2, e_Ldip_2, e_Lcut_3, pick, e1, o1, e2, e3, e4, e5, et]
  · simp [q] at et
    simp [b_Lnumber, G_Lnumber, e_Lone_of_2, e_Ldip_2, e_Lcut_3, pick, e1, o1, e2, e3, e4, e5, et, q]
end
end W

set_option Elab.async false
set_option linter.all false
set_option maxRecDepth 100000
set_option maxHeartbeats 1000000
namespace PD
open PySem PySem.Spec PyProof.Rows L2
def dcB (d : D) : Bool := decide (d.py.depth ≤ 64) && decide (d.cnt ≤ 8000)
theorem shOk_L {xs : List D} (h : D.okShs xs) (h2 : dcB (.lst xs) = true) : shOk (.lst xs) = true := by
  unfold dcB at h2
  simp only [Bool.and_eq_true, decide_eq_true_eq] at h2
  exact shOk_sz h h2.1 h2.2
theorem shOk_T {xs : List D} (h : D.okShs xs) (h2 : dcB (.tup xs) = true) : shOk (.tup xs) = true := by
  unfold dcB at h2
  simp only [Bool.and_eq_true, decide_eq_true_eq] at h2
  exact shOk_sz h h2.1 h2.2
theorem okSh_N {k : Nat} {p : Rat × Rat} (h : Szn k p) (le : k ≤ 1900) : (Nm p).okSh := okSh_Nm (h.1.mono le) (h.2.mono le)
@[simp] theorem ixF0 {x : Rat} {S : Store} : ixV (.d (F x)) (.d (.int 0)) S = some (.int x.num) := rfl
@[simp] theorem ixF1 {x : Rat} {S : Store} : ixV (.d (F x)) (.d (.int 1)) S = some (.int x.den) := rfl
@[simp] theorem notN_non : cmpV .notN (.d .non) (.d .non) = some false := rfl
@[simp] theorem biV_reprLst {xs : List D} : biV .repr [.d (.lst xs)] = if shOk (.lst xs) then some (.str (D.lst xs).py.shown) else none := rfl
@[simp] theorem biV_reprTup {xs : List D} : biV .repr [.d (.tup xs)] = if shOk (.tup xs) then some (.str (D.tup xs).py.shown) else none := rfl
end PD
namespace W
open PySem PySem.Spec PyProof.Rows L2 PD
def Bt : Nat → Sms
  | 0 => b_Lright
  | k + 1 => (Bt k).tl
abbrev LQ (n : Nat) (v1 v2 v3 v4 v5 v6 v7 v8 v9 v10 v11 v12 v13 v14 v15 v16 v17 : Lv) : PD.Loc := [.dat (.cell n), v1, v2, v3, v4, v5, v6, v7, v8, v9, v10, v11, v12, v13, v14, v15, v16, v17]
section
variable {S : Store} {N n : Nat} {x y : Rat} {tx ty : D} {v3 : Lv} {r : Option ((Fl × PD.Loc) × Store)}
theorem Szn_con {k : Nat} {p : Rat × Rat} (h : Szn k p) : Szn k (conN p) := ⟨h.1, h.2.neg⟩
theorem both_ok (hx : Sz 30 x) (hy : Sz 30 y) : (bothN x y).okSh := by
  unfold bothN
  split
  · exact trivial
  · rename_i h
    have a := Sz.add hx hy
    have b := Sz.sub (one_sz.mono (by decide : 1 ≤ 60)) (hx.mul hy)
    exact okSh_F ((a.over b h).mono (by decide))
theorem partA' (hx : Sz 30 x) (hy : Sz 30 y) (t : ∀ (tx : D) (u1 u2 u3 : Lv), Tri 203 tx (rimN x) → ∃ L' S', evSs G_Lright (Bt 10) (LQ n (.dat (F x)) (.dat (F y)) v3 (.dat tx) u1 (.dat (Nm (rimN x))) u2 u3 .un .un .un .un .un .un .un .un .un) S = some ((.ret (.bl true), L'), S')) :
    ∃ L' S', evSs G_Lright (Bt 3) (LQ n (.dat (F x)) (.dat (F y)) v3 .un .un .un .un .un .un .un .un .un .un .un .un .un .un) S = some ((.ret (.bl true), L'), S') := by
  have hx1 : Sz 100 x := hx.mono (by decide)
  have hy1 : Sz 100 y := hy.mono (by decide)
  obtain ⟨tx, ex, rx⟩ := r_Lon_rim (S := S) hx1
  obtain ⟨ty, ey, ry⟩ := r_Lon_rim (S := S) hy1
  have fx := r_Ltold (S := S) rx (by decide)
  have fy := r_Ltold (S := S) ry (by decide)
  have zx := rx.sz
  have zy := ry.sz
  have zy' : Szn 203 (rimN (-y)) := by rw [← rim_con]; exact Szn_con zy
  have zx' : Szn 203 (rimN (-x)) := by rw [← rim_con]; exact Szn_con zx
  have g1 := r_rim_number (S := S) hx1
  have g2 := r_rim_number (S := S) hy1
  have h1 := r_rim_own (S := S) (by decide) zx
  have h2 := r_rim_own (S := S) (by decide) zy
  have h3 := r_rim_own (S := S) (by decide) zx'
  have p1 := r_num_product (S := S) (by decide : 203 ≤ 2000) zx zy
  have p2 := r_num_product (S := S) (by decide : 203 ≤ 2000) zx zy'
  have q1 := r_number_product (S := S) (by decide : 203 ≤ 2000) zx zy
  have q2 := r_number_over (S := S) ⟨zx.1.mono (by decide), zx.2.mono (by decide)⟩ ⟨zy.1.mono (by decide), zy.2.mono (by decide)⟩ (sizN_one (rim_size y))
  rw [ovr_rim] at q2
  have m1 := r_rim_mul (S := S) (by decide) p1.2
  have m2 := r_rim_mul (S := S) (by decide) p2.2
  have b1 := r_Lboth (S := S) 1 (.inl rfl) hx1 hy1
  have b2 := r_Lboth (S := S) (-1) (.inr rfl) hx1 hy1
  rw [show ((1 : Int) : Rat) * y = y by have : ((1 : Int) : Rat) = 1 := rfl
                                        rw [this, Rat.one_mul]] at b1
  rw [show ((-1 : Int) : Rat) * y = -y by have : ((-1 : Int) : Rat) = -1 := rfl
                                          rw [this]; grind] at b2
  have mi := r_mirrored (S := S) (p := rimN x)
  rw [rim_con] at mi
  have sh1 : shOk (.lst [Nm (rimN x), Nm (rimN y)]) = true := shOk_L ⟨okSh_N zx (by decide), okSh_N zy (by decide), trivial⟩ rfl
  have sh2 : shOk (.lst [F x, F y]) = true := shOk_L ⟨okSh_F (hx.mono (by decide)), okSh_F (hy.mono (by decide)), trivial⟩ rfl
  have k1 := both_ok hx hy
  have k2 := both_ok hx hy.neg
  have dc : dcB (.lst [bothN x y, bothN x (-y)]) = true := by
    unfold bothN
    split <;> split <;> rfl
  have sh3 : shOk (.lst [bothN x y, bothN x (-y)]) = true := shOk_L ⟨k1, k2, trivial⟩ dc
  have sh4 : shOk (.tup [.int (-x).num, .int (-x).den]) = true := shOk_T (okSh_F (hx.neg.mono (by decide))) rfl
  have m3 := r_rim_none (S := S) (p := (-1, 0)) ⟨⟨by unfold sz; decide +kernel, by unfold sz; decide +kernel⟩, ⟨by unfold sz; decide +kernel, by unfold sz; decide +kernel⟩⟩ (by unfold sizN; grind) rfl
  have e3 : Nm ((-1, 0) : Rat × Rat) = .tup [.tup [.int (-1), .int 1], .tup [.int 0, .int 1]] := rfl
  rw [e3] at m3
  obtain ⟨L', S', tt⟩ := t tx (.dat ty) (.dat (Nm (rimN y))) (.dat (.lst [bothN x y, bothN x (-y)])) rx
  refine ⟨L', S', ?_⟩
  rw [show Bt 3 = .cons (Bt 3).hd (Bt 4) from rfl]
  refine st_nx (L2 := LQ n (.dat (F x)) (.dat (F y)) v3 (.dat tx) (.dat ty) .un .un .un .un .un .un .un .un .un .un .un .un) (S2 := S) ?_ ?_
  · simp only [Bt, b_Lright, Sms.tl, Sms.hd, LQ]
    simp [G_Lright, e_Lon_rim_1, pick, ex, ey]
  rw [show Bt 4 = .cons (Bt 4).hd (Bt 5) from rfl]
  refine st_nx (L2 := LQ n (.dat (F x)) (.dat (F y)) v3 (.dat tx) (.dat ty) (.dat (Nm (rimN x))) (.dat (Nm (rimN y))) .un .un .un .un .un .un .un .un .un .un) (S2 := S) ?_ ?_
  · simp only [Bt, b_Lright, Sms.tl, Sms.hd, LQ]
    simp [G_Lright, e_Ltold_1, pick, fx, fy]
  rw [show Bt 5 = .cons (Bt 5).hd (Bt 6) from rfl]
  refine st_nx (L2 := LQ n (.dat (F x)) (.dat (F y)) v3 (.dat tx) (.dat ty) (.dat (Nm (rimN x))) (.dat (Nm (rimN y))) .un .un .un .un .un .un .un .un .un .un) (S2 := S) ?_ ?_
  · simp only [Bt, b_Lright, Sms.tl, Sms.hd, LQ]
    simp [G_Lright, e_rim_number_1, e_rim_number_0_fraction, pick, g1, g2, sh1]
  rw [show Bt 6 = .cons (Bt 6).hd (Bt 7) from rfl]
  refine st_nx (L2 := LQ n (.dat (F x)) (.dat (F y)) v3 (.dat tx) (.dat ty) (.dat (Nm (rimN x))) (.dat (Nm (rimN y))) .un .un .un .un .un .un .un .un .un .un) (S2 := S) ?_ ?_
  · simp only [Bt, b_Lright, Sms.tl, Sms.hd, LQ]
    simp [G_Lright, e_rim_fraction_1, e_rim_fraction_0_number, pick, h1, h2, sh2]
  rw [show Bt 7 = .cons (Bt 7).hd (Bt 8) from rfl]
  refine st_nx (L2 := LQ n (.dat (F x)) (.dat (F y)) v3 (.dat tx) (.dat ty) (.dat (Nm (rimN x))) (.dat (Nm (rimN y))) (.dat (.lst [bothN x y, bothN x (-y)])) .un .un .un .un .un .un .un .un .un) (S2 := S) ?_ ?_
  · simp only [Bt, b_Lright, Sms.tl, Sms.hd, LQ]
    simp [G_Lright, e_rim_fraction_1, e_number_product_2, e_number_over_2, pick, q1, q2, m1, m2]
  rw [show Bt 8 = .cons (Bt 8).hd (Bt 9) from rfl]
  refine st_nx (L2 := LQ n (.dat (F x)) (.dat (F y)) v3 (.dat tx) (.dat ty) (.dat (Nm (rimN x))) (.dat (Nm (rimN y))) (.dat (.lst [bothN x y, bothN x (-y)])) .un .un .un .un .un .un .un .un .un) (S2 := S) ?_ ?_
  · simp only [Bt, b_Lright, Sms.tl, Sms.hd, LQ]
    simp [G_Lright, e_Lboth_3, pick, b1, b2, sh3]
  rw [show Bt 9 = .cons (Bt 9).hd (Bt 10) from rfl]
  refine st_nx (L2 := LQ n (.dat (F x)) (.dat (F y)) v3 (.dat tx) (.dat ty) (.dat (Nm (rimN x))) (.dat (Nm (rimN y))) (.dat (.lst [bothN x y, bothN x (-y)])) .un .un .un .un .un .un .un .un .un) (S2 := S) ?_ tt
  simp only [Bt, b_Lright, Sms.tl, Sms.hd, LQ]
  simp only [F] at h3
  rw [Rat.neg_num, Rat.neg_den] at h3 sh4
  simp [G_Lright, e_rim_fraction_1, e_mirrored_1, pick, mi, h3, sh4, m3]
end
end W

set_option Elab.async false
set_option linter.all false
set_option maxRecDepth 100000
set_option maxHeartbeats 1000000
namespace PD
open PySem PySem.Spec PyProof.Rows L2
theorem whr_eq1 {r : Rat} : r.num = r.den ↔ r = 1 := by
  constructor
  · intro h
    have := nd r
    rw [h] at this
    have h2 := rne (den_ne r)
    grind
  · rintro rfl; rfl
theorem whr_lt1 {r : Rat} : r.num < r.den ↔ r < 1 := by
  rw [Rat.lt_iff]
  show _ ↔ r.num * ((1 : Rat).den : Int) < (1 : Rat).num * (r.den : Int)
  rw [show ((1 : Rat).den : Int) = 1 from rfl, show (1 : Rat).num = 1 from rfl, Int.mul_one, Int.one_mul]
theorem cmp3 {a b d : Int} : cmpV .eq (.d (.tup [.int a, .int b, .int d])) (.d (.tup [.int 0, .int (-1), .int 1])) = some (decide (a = 0) && (decide (b = -1) && decide (d = 1))) := by
  have e : eqD (.tup [.int a, .int b, .int d]) (.tup [.int 0, .int (-1), .int 1]) = (decide (a = 0) && (decide (b = -1) && decide (d = 1))) := by
    have e1 : eqD (.tup [.int a, .int b, .int d]) (.tup [.int 0, .int (-1), .int 1]) = (a == 0 && (b == -1 && (d == 1 && true))) := by simp [eqD, D.py, D.pys, PySem.PyData.eqv, PySem.PyData.eqvAll]
    rw [e1, Bool.and_true]
    rfl
  show (if (eqOk (.tup [.int a, .int b, .int d]) && eqOk (.tup [.int 0, .int (-1), .int 1])) = true then some (eqD (.tup [.int a, .int b, .int d]) (.tup [.int 0, .int (-1), .int 1])) else none) = _
  rw [e]
  rfl
theorem siz_ovr {p q : Rat × Rat} (h : sizN q ≠ 0) : sizN (ovrN p q) * sizN q = sizN p := by
  have e : sizN (ovrN p q) = sizN (mulN p (conN q)) * ((1 / sizN q) * (1 / sizN q)) := by
    unfold ovrN sclN
    generalize 1 / sizN q = c
    unfold sizN
    grind
  have e2 : sizN (conN q) = sizN q := by unfold sizN conN; grind
  rw [e, siz_mul, e2]
  grind
/-- the law's led number -/
theorem led_rim (a : Rat) : ovrN (1, a) (1, -a) = rimN a := by
  have := rim_pos a
  unfold ovrN sclN mulN conN sizN rimN
  refine Prod.ext ?_ ?_ <;> grind
end PD
namespace W
open PySem PySem.Spec PyProof.Rows L2 PD
theorem led_whr (p : Rat × Rat) (h : ¬ (p.1 = 0 ∧ p.2 = -1)) : whr (sizN (ovrN (1 - p.2, p.1) (1 + p.2, -p.1))) = if 0 < p.2 then "disc" else if p.2 = 0 then "rim" else "beyond" := by
  obtain ⟨a, b⟩ := p
  have nz : sizN ((1 + b, -a) : Rat × Rat) ≠ 0 := sizN_ne (by
    by_cases h1 : a = 0
    · by_cases h2 : b = -1
      · exact (h ⟨h1, h2⟩).elim
      · exact .inl (by show (1 : Rat) + b ≠ 0; intro e; exact h2 (by grind))
    · exact .inr (by show -a ≠ 0; intro e; exact h1 (by grind)))
  have e := siz_ovr (p := ((1 - b, a) : Rat × Rat)) nz
  have pos : 0 < sizN ((1 + b, -a) : Rat × Rat) := by
    have h1 := sq_nn (1 + b)
    have h2 := sq_nn (-a)
    unfold sizN at nz ⊢
    grind
  show whr (sizN (ovrN (1 - b, a) (1 + b, -a))) = if 0 < b then "disc" else if b = 0 then "rim" else "beyond"
  generalize sizN (ovrN (1 - b, a) (1 + b, -a)) = r at e ⊢
  have e2 : sizN ((1 - b, a) : Rat × Rat) = sizN ((1 + b, -a) : Rat × Rat) - 4 * b := by unfold sizN; grind
  rw [e2] at e
  generalize sizN ((1 + b, -a) : Rat × Rat) = s at *
  have f : (r - 1) * s = -4 * b := by grind
  unfold whr
  by_cases hb : 0 < b
  · have : r < 1 := by
      have h1 : (r - 1) * s < 0 := by grind
      have := (Rat.mul_neg_iff_of_pos_right pos).mp h1
      grind
    rw [if_neg (by rw [whr_eq1]; grind), if_pos (whr_lt1.mpr this), if_pos hb]
  · rw [if_neg hb]
    by_cases hz : b = 0
    · have : r = 1 := by
        rw [hz] at f
        have f2 : (r - 1) * s = 0 := by grind
        rcases Rat.mul_eq_zero.mp f2 with z | z
        · grind
        · exact absurd z nz
      rw [if_pos (whr_eq1.mpr this), if_pos hz]
    · have hb2 : b < 0 := by grind
      have : 1 < r := by
        have h1 : 0 < (r - 1) * s := by grind
        have := (Rat.mul_pos_iff_of_pos_right pos).mp h1
        grind
      rw [if_neg (by rw [whr_eq1]; grind), if_neg (by rw [whr_lt1]; grind), if_neg hz]
end W

set_option Elab.async false
set_option linter.all false
set_option maxRecDepth 100000
set_option maxHeartbeats 1000000
namespace PD
open PySem PySem.Spec PyProof.Rows L2
theorem okSh_whr {r : Rat} : (D.str (W.whr r)).okSh := by
  unfold W.whr
  split
  · exact ⟨by decide +kernel, by decide +kernel, by decide +kernel⟩
  · split
    · exact ⟨by decide +kernel, by decide +kernel, by decide +kernel⟩
    · exact ⟨by decide +kernel, by decide +kernel, by decide +kernel⟩
end PD
namespace W
open PySem PySem.Spec PyProof.Rows L2 PD
section
variable {S : Store} {N n : Nat} {x y : Rat} {tx : D} {v1 v2 v3 u1 u2 u3 : Lv}
theorem whr_law {r : Rat} : (if r.num < r.den then ("disc" : Str) else if r.num = r.den then "rim" else "beyond") = whr r := by
  unfold whr
  by_cases h : r.num < r.den
  · rw [if_pos h, if_neg (by omega), if_pos h]
  · rw [if_neg h]
    by_cases h2 : r.num = r.den
    · rw [if_pos h2, if_pos h2]
    · rw [if_neg h2, if_neg h2, if_neg h]
/-- the number that is turned -/
theorem partB (hx : Tri 203 tx (rimN x)) (h : Pl N S n) (hN : N ≤ 500000) : ∃ tw pw S1, Tri 20 tw pw ∧ Pl (N + 5) S1 n ∧ ∀ r, (evSs G_Lright (Bt 15) (LQ n v1 v2 v3 (.dat tx) u1 (.dat (Nm (rimN x))) u2 u3 (.dat tw) (.dat (.int (sizN pw).num)) (.dat (.int (sizN pw).den)) (.dat (Nm (mulN (rimN x) pw))) .un .un .un .un .un) S1 = r) →
    evSs G_Lright (Bt 10) (LQ n v1 v2 v3 (.dat tx) u1 (.dat (Nm (rimN x))) u2 u3 .un .un .un .un .un .un .un .un .un) S = r := by
  obtain ⟨tw, pw, S1, e1, g1, p1⟩ := r_Lnumber h (by omega)
  have rw1 := g1.tri
  refine ⟨tw, pw, S1, rw1, p1, fun r t => ?_⟩
  have zx := hx.sz
  have zw := rw1.sz
  have zw2 : Szn 203 pw := ⟨zw.1.mono (by decide), zw.2.mono (by decide)⟩
  have hs := r_Lsize (S := S1) rw1 (by decide)
  have tld := r_Ltold (S := S1) rw1 (by decide)
  have q1 := r_number_product (S := S1) (by decide : 203 ≤ 2000) zx zw2
  obtain ⟨tm, em, rm⟩ := r_Ltimes (S := S1) hx (rw1.mono (by decide : 20 ≤ 203)) (by decide)
  have fm := r_Ltold (S := S1) rm (by decide)
  have zm := rm.sz
  have sz1 : sizN (mulN (rimN x) pw) = sizN pw := by rw [siz_mul, rim_size, Rat.one_mul]
  have gs := r_size (S := S1) (by decide) zm
  have gl := r_lies (S := S1) (by decide) zm
  rw [sz1] at gs gl
  have ks := okSh_F ((r_num_size (S := S1) (by decide) zw).2.mono (by decide))
  have sh : shOk (.lst [Nm (mulN (rimN x) pw), F (sizN pw)]) = true := shOk_L ⟨okSh_N zm (by decide), ks, trivial⟩ rfl
  simp only [F] at hs gs sh
  rw [show Bt 10 = .cons (Bt 10).hd (Bt 11) from rfl]
  refine st_nx (L2 := LQ n v1 v2 v3 (.dat tx) u1 (.dat (Nm (rimN x))) u2 u3 (.dat tw) .un .un .un .un .un .un .un .un) (S2 := S1) ?_ ?_
  · simp only [Bt, b_Lright, Sms.tl, Sms.hd, LQ]
    simp [G_Lright, e_Lnumber_1, pick, e1]
  rw [show Bt 11 = .cons (Bt 11).hd (Bt 12) from rfl]
  refine st_nx (L2 := LQ n v1 v2 v3 (.dat tx) u1 (.dat (Nm (rimN x))) u2 u3 (.dat tw) (.dat (.int (sizN pw).num)) (.dat (.int (sizN pw).den)) .un .un .un .un .un .un) (S2 := S1) ?_ ?_
  · simp only [Bt, b_Lright, Sms.tl, Sms.hd, LQ]
    simp [G_Lright, e_Lsize_1, pick, hs]
  rw [show Bt 12 = .cons (Bt 12).hd (Bt 13) from rfl]
  refine st_nx (L2 := LQ n v1 v2 v3 (.dat tx) u1 (.dat (Nm (rimN x))) u2 u3 (.dat tw) (.dat (.int (sizN pw).num)) (.dat (.int (sizN pw).den)) (.dat (Nm (mulN (rimN x) pw))) .un .un .un .un .un) (S2 := S1) ?_ ?_
  · simp only [Bt, b_Lright, Sms.tl, Sms.hd, LQ]
    simp [G_Lright, e_Ltold_1, e_number_product_2, pick, tld, q1]
  rw [show Bt 13 = .cons (Bt 13).hd (Bt 14) from rfl]
  refine st_nx (L2 := LQ n v1 v2 v3 (.dat tx) u1 (.dat (Nm (rimN x))) u2 u3 (.dat tw) (.dat (.int (sizN pw).num)) (.dat (.int (sizN pw).den)) (.dat (Nm (mulN (rimN x) pw))) .un .un .un .un .un) (S2 := S1) ?_ ?_
  · simp only [Bt, b_Lright, Sms.tl, Sms.hd, LQ]
    simp [G_Lright, e_size_1, e_Ltold_1, e_Ltimes_2, pick, gs, em, fm, sh]
  rw [show Bt 14 = .cons (Bt 14).hd (Bt 15) from rfl]
  refine st_nx (L2 := LQ n v1 v2 v3 (.dat tx) u1 (.dat (Nm (rimN x))) u2 u3 (.dat tw) (.dat (.int (sizN pw).num)) (.dat (.int (sizN pw).den)) (.dat (Nm (mulN (rimN x) pw))) .un .un .un .un .un) (S2 := S1) ?_ t
  simp only [Bt, b_Lright, Sms.tl, Sms.hd, LQ]
  rw [← whr_law] at gl
  by_cases h1 : (sizN pw).num < (sizN pw).den
  · simp only [h1, if_true] at gl
    simp [G_Lright, e_lies_1, pick, gl, h1]
  · by_cases h2 : (sizN pw).num = (sizN pw).den
    · simp only [h1, h2, if_true, if_false] at gl
      simp [G_Lright, e_lies_1, pick, gl, h1, h2]
    · simp only [h1, h2, if_false] at gl
      simp [G_Lright, e_lies_1, pick, gl, h1, h2]
end
end W

set_option Elab.async false
set_option linter.all false
set_option maxRecDepth 100000
set_option maxHeartbeats 1000000
namespace W
open PySem PySem.Spec PyProof.Rows L2 PD
section
variable {S : Store} {N n : Nat} {v1 v2 v3 u1 u2 u3 u4 u5 u6 u7 u8 u9 : Lv}
theorem div0 {b d : Int} (hd : 0 < d) : (Rat.divInt b d = 0 ↔ b = 0) ∧ (0 < Rat.divInt b d ↔ 0 < b) := by
  have e := di (a := b) (by omega : d ≠ 0)
  have hp : (0 : Rat) < (d : Rat) := Rat.intCast_pos.mpr hd
  have h0 : Rat.divInt b d = 0 ↔ b = 0 := by
    constructor
    · intro z
      rw [z, Rat.zero_mul] at e
      exact_mod_cast e
    · rintro rfl
      exact Rat.zero_divInt _
  refine ⟨h0, ?_⟩
  rw [← Rat.intCast_pos (a := b), e]
  exact (Rat.mul_pos_iff_of_pos_right hp).symm
/-- the drawn number that is led to the rim -/
theorem partC (h : Pl N S n) (hN : N ≤ 500000) : ∃ L' S', evSs G_Lright (Bt 15) (LQ n v1 v2 v3 u1 u2 u3 u4 u5 u6 u7 u8 u9 .un .un .un .un .un) S = some ((.ret (.bl true), L'), S') := by
  obtain ⟨tv0, pv0, S1, e1, g1, p1⟩ := r_Lnumber h (by omega)
  -- never -i
  obtain ⟨tv, pv, gv, nv, e2⟩ : ∃ tv pv, Trg 20 tv pv ∧ ¬ (pv.1 = 0 ∧ pv.2 = -1) ∧ evS G_Lright (Bt 16).hd (LQ n v1 v2 v3 u1 u2 u3 u4 u5 u6 u7 u8 u9 (.dat tv0) .un .un .un .un) S1 = some ((.nx, LQ n v1 v2 v3 u1 u2 u3 u4 u5 u6 u7 u8 u9 (.dat tv) .un .un .un .un), S1) := by
    obtain ⟨a, b, d, rfl, d0, sa, sb, sd, rfl, gg⟩ := g1
    by_cases hc : a = 0 ∧ b = -1 ∧ d = 1
    · obtain ⟨rfl, rfl, rfl⟩ := hc
      refine ⟨.tup [.int 0, .int 0, .int 1], (Rat.divInt 0 1, Rat.divInt 0 1), ⟨0, 0, 1, rfl, by decide, by unfold sz; decide, by unfold sz; decide, by unfold sz; decide, rfl, by decide⟩, ?_, ?_⟩
      · rintro ⟨_, z⟩
        have z : Rat.divInt 0 1 = -1 := z
        rw [Rat.zero_divInt] at z
        grind
      · simp only [Bt, b_Lright, Sms.tl, Sms.hd, LQ]
        simp [cmp3]
    · refine ⟨_, _, ⟨a, b, d, rfl, d0, sa, sb, sd, rfl, gg⟩, ?_, ?_⟩
      · rintro ⟨z1, z2⟩
        have z1 : a = 0 := (div0 d0).1.mp z1
        have z2 : Rat.divInt b d = -1 := z2
        have e := di (a := b) (by omega : d ≠ 0)
        rw [z2] at e
        have hb : b = -d := by
          have : (b : Rat) = ((-d : Int) : Rat) := by rw [e, Rat.intCast_neg]; grind
          exact_mod_cast this
        subst z1
        rw [hb] at gg
        simp at gg
        exact hc ⟨rfl, by omega, by omega⟩
      · have hh : (decide (a = 0) && (decide (b = -1) && decide (d = 1))) = false := by
          rw [Bool.eq_false_iff]; intro z; simp only [Bool.and_eq_true, decide_eq_true_eq] at z; exact hc z
        simp only [Bt, b_Lright, Sms.tl, Sms.hd, LQ]
        simp [cmp3, hh]
  have tri := gv.tri
  have i1 : Tri 20 (.tup [.int 0, .int 1, .int 1]) (Rat.divInt 0 1, Rat.divInt 1 1) := ⟨0, 1, 1, rfl, by decide, by unfold sz; decide, by unfold sz; decide, by unfold sz; decide, rfl⟩
  have o1 : Tri 41 (.tup [.int 1, .int 0, .int 1]) (Rat.divInt 1 1, Rat.divInt 0 1) := ⟨1, 0, 1, rfl, by decide, by unfold sz; decide, by unfold sz; decide, by unfold sz; decide, rfl⟩
  have one : Rat.divInt 1 1 = 1 := Rat.divInt_self' (by decide)
  rw [Rat.zero_divInt, one] at i1 o1
  obtain ⟨tf, ef, rf⟩ := r_Ltimes (S := S1) i1 tri (by decide)
  obtain ⟨tu, eu, ru⟩ := r_Ladd (S := S1) o1 rf (by decide)
  obtain ⟨td, ed, rd⟩ := r_Lless (S := S1) o1 rf (by decide)
  have eU : addN ((1, 0) : Rat × Rat) (mulN (0, 1) pv) = (1 - pv.2, pv.1) := by unfold addN mulN; refine Prod.ext ?_ ?_ <;> grind
  have eD : subN ((1, 0) : Rat × Rat) (mulN (0, 1) pv) = (1 + pv.2, -pv.1) := by unfold subN mulN; refine Prod.ext ?_ ?_ <;> grind
  rw [eU] at ru
  rw [eD] at rd
  have nzD : ((1 + pv.2, -pv.1) : Rat × Rat).1 ≠ 0 ∨ ((1 + pv.2, -pv.1) : Rat × Rat).2 ≠ 0 := by
    by_cases h1 : pv.1 = 0
    · by_cases h2 : pv.2 = -1
      · exact (nv ⟨h1, h2⟩).elim
      · exact .inl (by show (1 : Rat) + pv.2 ≠ 0; intro e; exact h2 (by grind))
    · exact .inr (by show -pv.1 ≠ 0; intro e; exact h1 (by grind))
  have fu := r_Ltold (S := S1) ru (by decide)
  have fd := r_Ltold (S := S1) rd (by decide)
  have zu := ru.sz
  have zd := rd.sz
  have gov := r_number_over (S := S1) ⟨zu.1.mono (by decide), zu.2.mono (by decide)⟩ ⟨zd.1.mono (by decide), zd.2.mono (by decide)⟩ nzD
  obtain ⟨to, eo, ro⟩ := r_Lover (S := S1) ru rd nzD (by decide)
  have fo := r_Ltold (S := S1) ro (by decide)
  have zo := ro.sz
  have lw := led_whr pv nv
  have gl := r_lies (S := S1) (by decide) zo
  rw [lw] at gl
  have sh : shOk (Nm (ovrN (1 - pv.2, pv.1) (1 + pv.2, -pv.1))) = true := shOk_T (okSh_N zo (by decide)) rfl
  obtain ⟨a, b, d, rfl, d0, sa, sb, sd, rfl, gg⟩ := gv
  obtain ⟨b0, bp⟩ := div0 (b := b) d0
  have own : b = 0 → runF G_rim_fraction 1 b_rim_fraction [Nm (ovrN (1 - Rat.divInt b d, Rat.divInt a d) (1 + Rat.divInt b d, -Rat.divInt a d))] S1 = some (.tup [.int a, .int d], S1) ∧ shOk (.tup [.int a, .int d]) = true := fun hb => by
    have z := b0.mpr hb
    have eL : ovrN (1 - Rat.divInt b d, Rat.divInt a d) (1 + Rat.divInt b d, -Rat.divInt a d) = rimN (Rat.divInt a d) := by
      rw [z, ← led_rim]
      rw [show (1 : Rat) - 0 = 1 by grind, show (1 : Rat) + 0 = 1 by grind]
    have zo2 := zo
    have zo2 : Szn (3 * (2 * (2 * 20 + 1) + 1) + 2) (ovrN (1 - Rat.divInt b d, Rat.divInt a d) (1 + Rat.divInt b d, -Rat.divInt a d)) := zo2
    rw [eL] at zo2 ⊢
    have e := r_rim_own (S := S1) (by decide) zo2
    have hF : F (Rat.divInt a d) = .tup [.int a, .int d] := by
      subst hb
      simp at gg
      have h1 : (Rat.divInt a d).num = a := by
        rw [Rat.num_divInt, Int.sign_eq_one_of_pos d0, Int.one_mul]
        have : d.gcd a = 1 := by rw [Int.gcd_comm]; exact gg
        rw [this]; simp
      have h2 : ((Rat.divInt a d).den : Int) = d := by
        rw [Rat.den_divInt, if_neg (by omega)]
        have : d.gcd a = 1 := by rw [Int.gcd_comm]; exact gg
        rw [this, Nat.div_one]
        omega
      unfold F
      rw [h1, h2]
    rw [hF] at e
    exact ⟨e, by rw [← hF]; exact shOk_T (okSh_F (Sz.mono (Sz.div sa sd (by omega)) (by decide))) rfl⟩
  simp only at *
  generalize hP : ovrN (1 - Rat.divInt b d, Rat.divInt a d) (1 + Rat.divInt b d, -Rat.divInt a d) = P at *
  generalize Nm ((1 - Rat.divInt b d, Rat.divInt a d) : Rat × Rat) = NU at fu gov
  generalize Nm ((1 + Rat.divInt b d, -Rat.divInt a d) : Rat × Rat) = ND at fd gov
  refine ⟨LQ n v1 v2 v3 u1 u2 u3 u4 u5 u6 u7 u8 u9 (.dat (.tup [.int a, .int b, .int d])) (.dat tf) (.dat tu) (.dat td) (.dat (Nm P)), S1, ?_⟩
  rw [show Bt 15 = .cons (Bt 15).hd (Bt 16) from rfl]
  refine st_nx (L2 := LQ n v1 v2 v3 u1 u2 u3 u4 u5 u6 u7 u8 u9 (.dat tv0) .un .un .un .un) (S2 := S1) ?_ ?_
  · simp only [Bt, b_Lright, Sms.tl, Sms.hd, LQ]
    simp [G_Lright, e_Lnumber_1, pick, e1]
  rw [show Bt 16 = .cons (Bt 16).hd (Bt 17) from rfl]
  refine st_nx e2 ?_
  rw [show Bt 17 = .cons (Bt 17).hd (Bt 18) from rfl]
  refine st_nx (L2 := LQ n v1 v2 v3 u1 u2 u3 u4 u5 u6 u7 u8 u9 (.dat (.tup [.int a, .int b, .int d])) (.dat tf) .un .un .un) (S2 := S1) ?_ ?_
  · simp only [Bt, b_Lright, Sms.tl, Sms.hd, LQ]
    simp [G_Lright, e_Ltimes_2, pick, ef]
  rw [show Bt 18 = .cons (Bt 18).hd (Bt 19) from rfl]
  refine st_nx (L2 := LQ n v1 v2 v3 u1 u2 u3 u4 u5 u6 u7 u8 u9 (.dat (.tup [.int a, .int b, .int d])) (.dat tf) (.dat tu) (.dat td) .un) (S2 := S1) ?_ ?_
  · simp only [Bt, b_Lright, Sms.tl, Sms.hd, LQ]
    simp [G_Lright, e_Ladd_2, e_Lless_2, pick, eu, ed]
  rw [show Bt 19 = .cons (Bt 19).hd (Bt 20) from rfl]
  refine st_nx (L2 := LQ n v1 v2 v3 u1 u2 u3 u4 u5 u6 u7 u8 u9 (.dat (.tup [.int a, .int b, .int d])) (.dat tf) (.dat tu) (.dat td) (.dat (Nm P))) (S2 := S1) ?_ ?_
  · simp only [Bt, b_Lright, Sms.tl, Sms.hd, LQ]
    simp [G_Lright, e_Ltold_1, e_number_over_2, pick, fu, fd, gov]
  rw [show Bt 20 = .cons (Bt 20).hd (Bt 21) from rfl]
  refine st_nx (L2 := LQ n v1 v2 v3 u1 u2 u3 u4 u5 u6 u7 u8 u9 (.dat (.tup [.int a, .int b, .int d])) (.dat tf) (.dat tu) (.dat td) (.dat (Nm P))) (S2 := S1) ?_ ?_
  · simp only [Bt, b_Lright, Sms.tl, Sms.hd, LQ]
    have sN : Nm P = .tup [F P.1, F P.2] := rfl
    simp only [sN] at sh fo ⊢
    simp [G_Lright, e_Ltold_1, e_Lover_2, pick, eo, fo, sh]
  rw [show Bt 21 = .cons (Bt 21).hd (Bt 22) from rfl]
  refine st_nx (L2 := LQ n v1 v2 v3 u1 u2 u3 u4 u5 u6 u7 u8 u9 (.dat (.tup [.int a, .int b, .int d])) (.dat tf) (.dat tu) (.dat td) (.dat (Nm P))) (S2 := S1) ?_ ?_
  · simp only [Bt, b_Lright, Sms.tl, Sms.hd, LQ]
    by_cases h1 : 0 < b
    · rw [if_pos (bp.mpr h1)] at gl
      simp [G_Lright, e_lies_1, pick, gl, h1]
    · rw [if_neg (fun z => h1 (bp.mp z))] at gl
      by_cases h2 : b = 0
      · rw [if_pos (b0.mpr h2)] at gl
        simp [G_Lright, e_lies_1, pick, gl, h1, h2]
      · rw [if_neg (fun z => h2 (b0.mp z))] at gl
        simp [G_Lright, e_lies_1, pick, gl, h1, h2]
  rw [show Bt 22 = .cons (Bt 22).hd .nil from rfl]
  refine st_ret ?_
  simp only [Bt, b_Lright, Sms.tl, Sms.hd, LQ]
  by_cases h2 : b = 0
  · obtain ⟨o1, o2⟩ := own h2
    simp [G_Lright, e_rim_fraction_1, pick, h2, o1, o2]
  · simp [h2]
end
end W

set_option Elab.async false
set_option linter.all false
set_option maxRecDepth 100000
set_option maxHeartbeats 1000000
namespace W
open PySem PySem.Spec PyProof.Rows L2 PD
section
variable {S : Store} {N n : Nat}
theorem r_Lright (h : Pl N S n) (hN : N ≤ 400000) : ∃ S', runF G_Lright 18 b_Lright [.cell n] S = some (.bl true, S') := by
  obtain ⟨x, S1, e1, sx, p1⟩ := r_Lhalf h (by omega)
  obtain ⟨y0, S2, e2, sy, p2⟩ := r_Lhalf p1 (by omega)
  obtain ⟨w, S3, e3, w0, w1, p3⟩ := r_Ldip (m := 6) p2 (by omega) (by decide) (by decide)
  -- the other half
  obtain ⟨y, sy2, e4⟩ : ∃ y, Sz 30 y ∧ evS G_Lright (Bt 2).hd (LQ n (.dat (F x)) (.dat (F y0)) (.dat (.int w)) .un .un .un .un .un .un .un .un .un .un .un .un .un .un) S3 = some ((.nx, LQ n (.dat (F x)) (.dat (F y)) (.dat (.int w)) .un .un .un .un .un .un .un .un .un .un .un .un .un .un), S3) := by
    by_cases hw : w < 2
    · by_cases hz : x.num = 0
      · refine ⟨y0, sy.mono (by decide), ?_⟩
        simp only [Bt, b_Lright, Sms.tl, Sms.hd, LQ]
        simp [hw, hz]
      · have s2 : sz 2 (2 : Int) := by unfold sz; decide
        have sw : sz 3 w := sz_of (by omega) (by omega)
        have sw2 : sz 4 (1 - 2 * w) := sz_of (by omega) (by omega)
        have o1 := okMul_sz s2 sw (by decide)
        have o2 := okMul_sz sw2 sx.d (by decide)
        have e := r_Lfraction (n := (1 - 2 * w) * x.den) (S := S3) hz sx.n (by decide)
        refine ⟨_, (Sz.div ((sw2.mul sx.d).mono (by decide)) (sx.n.mono (by decide)) hz).mono (by decide : 24 ≤ 30), ?_⟩
        simp only [Bt, b_Lright, Sms.tl, Sms.hd, LQ]
        simp [G_Lright, e_Lfraction_2, pick, hw, hz, o1, o2, e]
    · refine ⟨y0, sy.mono (by decide), ?_⟩
      simp only [Bt, b_Lright, Sms.tl, Sms.hd, LQ]
      simp [hw]
  have go : ∃ L' S', evSs G_Lright (Bt 0) (LQ n .un .un .un .un .un .un .un .un .un .un .un .un .un .un .un .un .un) S = some ((.ret (.bl true), L'), S') := by
    have key : ∃ L' S', evSs G_Lright (Bt 3) (LQ n (.dat (F x)) (.dat (F y)) (.dat (.int w)) .un .un .un .un .un .un .un .un .un .un .un .un .un .un) S3 = some ((.ret (.bl true), L'), S') := by
      refine partA' (x := x) (y := y) (sx.mono (by decide)) sy2 fun tx u1 u2 u3 rx => ?_
      obtain ⟨tw, pw, S4, rw1, p4, kB⟩ := partB (v1 := .dat (F x)) (v2 := .dat (F y)) (v3 := .dat (.int w)) (u1 := u1) (u2 := u2) (u3 := u3) rx p3 (by omega)
      obtain ⟨L', S', e⟩ := partC (v1 := .dat (F x)) (v2 := .dat (F y)) (v3 := .dat (.int w)) (u1 := .dat tx) (u2 := u1) (u3 := .dat (Nm (rimN x))) (u4 := u2) (u5 := u3) (u6 := .dat tw) (u7 := .dat (.int (sizN pw).num)) (u8 := .dat (.int (sizN pw).den)) (u9 := .dat (Nm (mulN (rimN x) pw))) p4 (by omega)
      exact ⟨L', S', kB _ e⟩
    obtain ⟨L', S', e⟩ := key
    refine ⟨L', S', ?_⟩
    rw [show Bt 0 = .cons (Bt 0).hd (Bt 1) from rfl]
    refine st_nx (L2 := LQ n (.dat (F x)) (.dat (F y0)) .un .un .un .un .un .un .un .un .un .un .un .un .un .un .un) (S2 := S2) ?_ ?_
    · simp only [Bt, b_Lright, Sms.tl, Sms.hd, LQ]
      simp [G_Lright, e_Lhalf_1, pick, e1, e2]
    rw [show Bt 1 = .cons (Bt 1).hd (Bt 2) from rfl]
    refine st_nx (L2 := LQ n (.dat (F x)) (.dat (F y0)) (.dat (.int w)) .un .un .un .un .un .un .un .un .un .un .un .un .un .un) (S2 := S3) ?_ ?_
    · simp only [Bt, b_Lright, Sms.tl, Sms.hd, LQ]
      simp [G_Lright, e_Ldip_2, pick, e3]
    rw [show Bt 2 = .cons (Bt 2).hd (Bt 3) from rfl]
    exact st_nx e4 e
  obtain ⟨L', S', e⟩ := go
  refine ⟨S', ?_⟩
  show bnd (evSs G_Lright (Bt 0) (LQ n .un .un .un .un .un .un .un .un .un .un .un .un .un .un .un .un .un) S) _ = _
  rw [e]
  rfl
theorem law_loop {zs : List Int} : ∀ (ts : List Int) (S : Store), (∀ t ∈ ts, 0 ≤ t ∧ t < 100) → ∃ S', compL (fun d S => bnd (evG G_law (.nm 1) d (wipeL [.dat (.lst (zs.map D.int)), .un] [1]) S) fun L2 S => bnd (evC G_law .none L2 S) fun k S => if k = true then bnd (evX G_law (.call 0 (.cons (.call 1 (.cons (.nm 0) (.cons (.nm 1) .nil)) .nil) .nil) .nil) L2 S) fun x S => bnd (lft (unV x) S) fun y S => some (some y, S) else some (none, S)) (ts.map D.int) S = some (List.replicate ts.length (D.bl true), S')
  | [], S, _ => ⟨S, rfl⟩
  | t :: ts, S, h => by
    obtain ⟨t0, t1⟩ := h t (List.mem_cons_self ..)
    obtain ⟨S1, e1, p1⟩ := r_Lpail (S := S) (zs := zs) t0 t1
    obtain ⟨S2, e2⟩ := r_Lright p1 (by decide)
    obtain ⟨S3, e3⟩ := law_loop ts S2 fun z hz => h z (List.mem_cons_of_mem _ hz)
    refine ⟨S3, ?_⟩
    rw [List.map_cons, compL_cons]
    have step : (bnd (evG G_law (.nm 1) (.int t) (wipeL [.dat (.lst (zs.map D.int)), .un] [1]) S) fun L2 S => bnd (evC G_law .none L2 S) fun k S => if k = true then bnd (evX G_law (.call 0 (.cons (.call 1 (.cons (.nm 0) (.cons (.nm 1) .nil)) .nil) .nil) .nil) L2 S) fun x S => bnd (lft (unV x) S) fun y S => some (some y, S) else some (none, S)) = some (some (.bl true), S2) := by
      simp [G_law, e_Lright_1, e_Lpail_2, pick, e1, e2]
    rw [step, bnd_some, e3, bnd_some]
    rfl
theorem bools_rep (k : Nat) : boolsOf (List.replicate k (D.bl true)) = some (List.replicate k true) := by
  induction k with
  | zero => rfl
  | succ k ih =>
    rw [List.replicate_succ, List.replicate_succ]
    show (match boolsOf (List.replicate k (D.bl true)) with | some l => some (true :: l) | none => none) = _
    rw [ih]
theorem main (ns : List Int) (_ : ns.length ≤ 63) : ∃ S, runF G_law 2 b_law [.lst (ns.map .int)] [] = some (.bl true, S) := by
  obtain ⟨k, hk, k4⟩ : ∃ k : Nat, (if (2 : Int) < (if (4 : Int) < (ns.map D.int).length then 4 else ((ns.map D.int).length : Int)) then (if (4 : Int) < (ns.map D.int).length then 4 else ((ns.map D.int).length : Int)) else 2) = (k : Int) ∧ k ≤ 4 := by
    generalize (ns.map D.int).length = l
    by_cases h1 : 4 < l
    · exact ⟨4, by rw [if_pos (by omega : (4 : Int) < l), if_pos (by decide)]; rfl, by decide⟩
    · by_cases h2 : 2 < l
      · exact ⟨l, by rw [if_neg (show ¬ (4 : Int) < l by omega), if_pos (show (2 : Int) < l by omega)], by omega⟩
      · exact ⟨2, by rw [if_neg (show ¬ (4 : Int) < l by omega), if_neg (show ¬ (2 : Int) < l by omega)]; rfl, by decide⟩
  obtain ⟨S, e⟩ := law_loop (zs := ns) ((List.range k).map fun i => ((i : Nat) : Int)) [] fun t ht => by
    obtain ⟨i, hi, rfl⟩ := List.mem_map.mp ht
    have := List.mem_range.mp hi
    omega
  rw [List.map_map, List.length_map, List.length_range] at e
  refine ⟨S, ?_⟩
  have c1 : evW G_law (.range1 (.bi .max2 (.cons (.lit (.int 2)) (.cons (.bi .min2 (.cons (.bi .len (.cons (.nm 0) .nil)) (.cons (.lit (.int 4)) .nil))) .nil)))) [.dat (.lst (ns.map D.int)), .un] [] = some ((List.range k).map fun i => D.int (i : Nat), []) := by
    simp only [evW_range1, evX_bi, evXs_cons, evXs_nil, evX_lit, evX_nm, bnd_some, lft_some, List.getElem?_cons_zero, biV_lenL, Option.map_some, biV_min, biV_max, gt_iff_lt]
    rw [hk]
    have : (k : Int) < 2 ^ 62 ∧ -(2 ^ 62) ≤ (k : Int) := by omega
    rw [if_pos this]
    rfl
  have c2 : evF G_law (.comp (.call 0 (.cons (.call 1 (.cons (.nm 0) (.cons (.nm 1) .nil)) .nil) .nil) .nil) (.nm 1) (.range1 (.bi .max2 (.cons (.lit (.int 2)) (.cons (.bi .min2 (.cons (.bi .len (.cons (.nm 0) .nil)) (.cons (.lit (.int 4)) .nil))) .nil)))) .none [1]) [.dat (.lst (ns.map D.int)), .un] [] = some (List.replicate k (D.bl true), S) := by
    rw [evF_comp, c1, bnd_some, if_pos (by rw [List.length_map, List.length_range]; exact Nat.lt_of_le_of_lt k4 (by decide))]
    exact e
  show bnd (evSs G_law b_law [.dat (.lst (ns.map D.int)), .un] []) _ = _
  simp only [b_law, evSs_cons, evS_ret, evX_bi, evXs_cons, evXs_nil, evX_fr]
  rw [c2]
  have hall : (List.replicate k true).all id = true := by simp
  show bnd (bnd (bnd (lft ((match some (List.replicate k (D.bl true)) with | some ds => (boolsOf ds).map fun l : List Bool => D.bl (l.all id) | none => none).map Va.d) S) _) _) _ = _
  simp only [bools_rep, Option.map_some, hall, lft_some, bnd_some]
  rfl
end
end W
theorem PySem.Challenge.cw_withinrim_k03_whole_rim_numbers_there_an_holds : PySem.Challenge.rw_withinrim_k03_whole_rim_numbers_there_an.Holds :=
  THELAW W.main

