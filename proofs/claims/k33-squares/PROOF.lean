import PyProof.Rows.All
import Wide.All
import OpenK.AllK
import Wide.FinOn
import HandS.ForMost
import HandS.Gcd
import HandS.Wide
import HandS.TupAny
import HandS.Defaults
import HandS.IsInst
import HandS.Conv
import HandS.RaiseMore
import HandS.Head2
import HandS.HeadEnd
import HandS.HeadHook2
import HandS.Star
import HandS.TupLe
import HandS.TryOnly
import HandS.EndBits
import HandS.Rev
import HandS.RevRange
import HandS.Zip
import HandS.Zip0
import PyProof.Draws
import HandS.TupMul
import PyProof.FactsAll.bool_2
import PyProof.FactsAll.NoneType_2
import HandS.Style
import HandS.Head0
import HandS.Head1
import HandS.HeadHook1
import HandS.Codes
import HandS.Head3
import PySem.Challenge.RW_withinrim_k33_whole_stepped_squares_told
set_option Elab.async false
set_option linter.all false
set_option maxRecDepth 100000
set_option maxHeartbeats 4000000
/-! PD: pure data over the hand layer. Part a: data, the relation to the abstract heap. -/
namespace PD
open PySem PySem.Spec PyProof.Rows L2

/-- data: tuples and (no longer changed) lists are values; a cell is a list that may be changed by whoever holds it -/
inductive D where
  | non | bl (b : Bool) | int (i : Int) | str (x : Str) | ty (n : String)
  | tup (xs : List D) | lst (xs : List D) | cell (n : Nat)

/-- an expression's value: a datum, or a look at a list that a slot owns -/
inductive Va where
  | d (x : D) | b (xs : List D)

/-- a slot: nothing known, a datum, a list of its own -/
inductive Lv where
  | un | dat (d : D) | own (xs : List D)

abbrev Loc := List Lv
abbrev Store := List (List D)

/-- the ghost: where the cells stand; which addresses may be written -/
structure Gh where
  ca : List Addr
  W : Addr → Prop

/-- a tuple of the written part -/
def KTup (K : PySem.W.Frag) (a : Addr) (xs : List V) : Prop :=
  ∃ (o : Obj) (its : Array Value) (n : Nat), K.lookup a = some o ∧ o.cls = .type "tuple" ∧ o.data = .seq its n ∧
    its.size ≤ sizeLine ∧ Vals xs its.toList
/-- a list of the written part, its object as it stands -/
def KLst (K : PySem.W.Frag) (a : Addr) (xs : List V) : Prop :=
  ∃ (its : List Value) (n : Nat), K.lookup a = some { cls := .type "list", data := .seq its.toArray n } ∧ its.length ≤ sizeLine ∧ Vals xs its

def TupAt (K : PySem.W.Frag) (g : Gh) (H : Hp) (a : Addr) (xs : List V) : Prop := (Rd H a (.tup xs) ∧ ¬ g.W a) ∨ KTup K a xs
def LstAt (K : PySem.W.Frag) (g : Gh) (H : Hp) (a : Addr) (xs : List V) : Prop := (Rd H a (.lst xs) ∧ ¬ g.W a) ∨ KLst K a xs
theorem TupAt.sq {K : PySem.W.Frag} {g : Gh} {H : Hp} {a : Addr} {xs : List V} (h : TupAt K g H a xs) : SqT K H a xs :=
  h.elim (fun z => .inl z.1) .inr
theorem KLst.sq {K : PySem.W.Frag} {H : Hp} {a : Addr} {xs : List V} (h : KLst K a xs) : SqL K H a xs := by
  obtain ⟨its, n, h1, h2, h3⟩ := h
  exact .inr ⟨_, its.toArray, n, h1, rfl, rfl, rfl, by simpa using h2, by simpa using h3⟩
theorem LstAt.sq {K : PySem.W.Frag} {g : Gh} {H : Hp} {a : Addr} {xs : List V} (h : LstAt K g H a xs) : SqL K H a xs :=
  h.elim (fun z => .inl z.1) KLst.sq
/-- a list whose object is known -/
def LX (K : PySem.W.Frag) (H : Hp) (a : Addr) (xs : List V) : Prop := Rd H a (.lst xs) ∨ KLst K a xs
theorem LX.obj {X : Cx} {pins : List (Addr × Obj)} {σ : L2.St} {H : Hp} {s : Shared} {a : Addr} {xs : List V} (I : Inv X pins σ H s) (h : LX X.K H a xs) :
    xs.length ≤ sizeLine ∧ ∃ (its : List Value) (n : Nat), Vals xs its ∧ s.heap.get? a = some { cls := .type "list", data := .seq its.toArray n } := by
  rcases h with h | ⟨its, n, h1, h2, h3⟩
  · obtain ⟨z, its, n, r, e⟩ := h.ok I.hok
    exact ⟨z, its, n, r, e⟩
  · exact ⟨by rw [h3.length]; exact h2, its, n, h3, I.kIn a _ h1⟩

mutual
inductive Rp (K : PySem.W.Frag) (g : Gh) (H : Hp) : V → D → Prop
  | non : Rp K g H .non .non
  | bl (b : Bool) : Rp K g H (.bl b) (.bl b)
  | int (i : Int) : Rp K g H (.int i) (.int i)
  | str (x : Str) : Rp K g H (.str x) (.str x)
  | ty (n : String) : Rp K g H (.ty n) (.ty n)
  | tup {a : Addr} {xs : List V} {ds : List D} : TupAt K g H a xs → Rps K g H xs ds → Rp K g H (.ref a) (.tup ds)
  | lst {a : Addr} {xs : List V} {ds : List D} : LstAt K g H a xs → Rps K g H xs ds → Rp K g H (.ref a) (.lst ds)
  | cell {a : Addr} {n : Nat} : g.ca[n]? = some a → Rp K g H (.ref a) (.cell n)
inductive Rps (K : PySem.W.Frag) (g : Gh) (H : Hp) : List V → List D → Prop
  | nil : Rps K g H [] []
  | cons {v : V} {vs : List V} {d : D} {ds : List D} : Rp K g H v d → Rps K g H vs ds → Rps K g H (v :: vs) (d :: ds)
end

/-- from one moment to a later one: nothing but cells is written, what is new is new -/
structure Ext (g : Gh) (H : Hp) (g' : Gh) (H' : Hp) : Prop where
  keep : ∀ b o, H b = some o → b ∉ g.ca → H' b = some o
  there : ∀ b o, H b = some o → ∃ o', H' b = some o'
  wk : ∀ b o, H b = some o → (g'.W b ↔ g.W b)
  ca : ∃ m, g'.ca = g.ca ++ m
  new : ∀ c ∈ g'.ca, c ∈ g.ca ∨ H c = none
theorem Ext.refl {g : Gh} {H : Hp} : Ext g H g H := ⟨fun _ _ h _ => h, fun _ o h => ⟨o, h⟩, fun _ _ _ => Iff.rfl, ⟨[], by simp⟩, fun _ h => .inl h⟩
theorem Ext.trans {g g1 g2 : Gh} {H H1 H2 : Hp} (a : Ext g H g1 H1) (b : Ext g1 H1 g2 H2) : Ext g H g2 H2 := by
  obtain ⟨m, em⟩ := a.ca
  obtain ⟨m', em'⟩ := b.ca
  refine ⟨fun c o h hc => ?_, fun c o h => ?_, fun c o h => ?_, ⟨m ++ m', by rw [em', em, List.append_assoc]⟩, fun c hc => ?_⟩
  · refine b.keep c o (a.keep c o h hc) fun hm => ?_
    rcases a.new c hm with z | z
    · exact hc z
    · rw [h] at z; cases z
  · obtain ⟨o1, h1⟩ := a.there c o h
    exact b.there c o1 h1
  · obtain ⟨o1, h1⟩ := a.there c o h
    exact (b.wk c o1 h1).trans (a.wk c o h)
  · rcases b.new c hc with z | z
    · exact a.new c z
    · right
      cases e : H c with
      | none => rfl
      | some o =>
        obtain ⟨o1, h1⟩ := a.there c o e
        rw [h1] at z; cases z

/-- the cells stand, what may be written stands -/
structure Gs (K : PySem.W.Frag) (g : Gh) (H : Hp) (S : Store) : Prop where
  wi : ∀ b, g.W b → ∃ xs, H b = some (.lst xs)
  cw : ∀ a ∈ g.ca, g.W a
  nd : g.ca.Nodup
  len : g.ca.length = S.length
  st : ∀ (n : Nat) (a : Addr) (ds : List D), g.ca[n]? = some a → S[n]? = some ds → ∃ xs, H a = some (.lst xs) ∧ Rps K g H xs ds

section
variable {K : PySem.W.Frag} {g g' : Gh} {H H' : Hp}
theorem Rd.ext {a : Addr} {u : HO} (e : Ext g H g' H') (h : Rd H a u) (hw : ¬ g.W a) (hc : ∀ c ∈ g.ca, g.W c) : Rd H' a u ∧ ¬ g'.W a := by
  have n : a ∉ g.ca := fun z => hw (hc a z)
  rcases h with h | ⟨o, h⟩
  · exact ⟨.inl (e.keep _ _ h n), fun z => hw ((e.wk _ _ h).mp z)⟩
  · exact ⟨.inr ⟨o, e.keep _ _ h n⟩, fun z => hw ((e.wk _ _ h).mp z)⟩
mutual
theorem Rp.ext (e : Ext g H g' H') (hc : ∀ c ∈ g.ca, g.W c) : ∀ {v : V} {d : D}, Rp K g H v d → Rp K g' H' v d
  | _, _, .non => .non
  | _, _, .bl b => .bl b
  | _, _, .int i => .int i
  | _, _, .str x => .str x
  | _, _, .ty n => .ty n
  | _, _, .tup h r => .tup (h.elim (fun z => .inl (Rd.ext e z.1 z.2 hc)) .inr) (Rps.ext e hc r)
  | _, _, .lst h r => .lst (h.elim (fun z => .inl (Rd.ext e z.1 z.2 hc)) .inr) (Rps.ext e hc r)
  | _, _, .cell (a := a) (n := n) h => by
    obtain ⟨m, em⟩ := e.ca
    refine .cell ?_
    rw [em, List.getElem?_append_left (List.getElem?_eq_some_iff.mp h).1]
    exact h
theorem Rps.ext (e : Ext g H g' H') (hc : ∀ c ∈ g.ca, g.W c) : ∀ {vs : List V} {ds : List D}, Rps K g H vs ds → Rps K g' H' vs ds
  | _, _, .nil => .nil
  | _, _, .cons h r => .cons (Rp.ext e hc h) (Rps.ext e hc r)
end
theorem Rps.length : ∀ {vs : List V} {ds : List D}, Rps K g H vs ds → vs.length = ds.length
  | _, _, .nil => rfl
  | _, _, .cons _ r => by simp [Rps.length r]
theorem Rps.get : ∀ {vs : List V} {ds : List D} {i : Nat} {d : D}, Rps K g H vs ds → ds[i]? = some d → ∃ v, vs[i]? = some v ∧ Rp K g H v d
  | _, _, _, _, .nil, e => by simp at e
  | _, _, 0, _, .cons h _, e => by simp at e; subst e; exact ⟨_, rfl, h⟩
  | _, _, i + 1, _, .cons _ r, e => by
    obtain ⟨v, h1, h2⟩ := Rps.get (i := i) r (by simpa using e)
    exact ⟨v, by simpa using h1, h2⟩
theorem Rps.append : ∀ {vs ws : List V} {ds es : List D}, Rps K g H vs ds → Rps K g H ws es → Rps K g H (vs ++ ws) (ds ++ es)
  | _, _, _, _, .nil, s => s
  | _, _, _, _, .cons h r, s => .cons h (Rps.append r s)
theorem Rps.take : ∀ {vs : List V} {ds : List D} (n : Nat), Rps K g H vs ds → Rps K g H (vs.take n) (ds.take n)
  | _, _, 0, _ => .nil
  | _, _, _ + 1, .nil => .nil
  | _, _, n + 1, .cons h r => .cons h (Rps.take n r)
theorem Rps.drop : ∀ {vs : List V} {ds : List D} (n : Nat), Rps K g H vs ds → Rps K g H (vs.drop n) (ds.drop n)
  | _, _, 0, r => r
  | _, _, _ + 1, .nil => .nil
  | _, _, n + 1, .cons _ r => Rps.drop n r
theorem Rps.set {v : V} {d : D} (h : Rp K g H v d) : ∀ {vs : List V} {ds : List D} (i : Nat), Rps K g H vs ds → Rps K g H (vs.set i v) (ds.set i d)
  | _, _, _, .nil => .nil
  | _, _, 0, .cons _ r => .cons h r
  | _, _, i + 1, .cons q r => .cons q (Rps.set h i r)
theorem Rps.reverse {vs : List V} {ds : List D} (h : Rps K g H vs ds) : Rps K g H vs.reverse ds.reverse := by
  induction h using Rps.rec (motive_1 := fun _ _ _ => True) with
  | nil => exact .nil
  | cons h _ _ ih => rw [List.reverse_cons, List.reverse_cons]; exact ih.append (.cons h .nil)
  | _ => trivial
theorem Rps.ints : ∀ {vs : List V} {ns : List Int}, Rps K g H vs (ns.map D.int) → vs = ns.map V.int
  | _, [], .nil => rfl
  | _, _ :: _, .cons (.int _) r => by rw [Rps.ints r]; rfl
theorem Rps.of_ints : ∀ (ns : List Int), Rps K g H (ns.map V.int) (ns.map D.int)
  | [] => .nil
  | n :: r => .cons (.int n) (Rps.of_ints r)

/-- what a value is -/
def RpV (K : PySem.W.Frag) (g : Gh) (H : Hp) (v : V) : Va → Prop
  | .d x => Rp K g H v x
  | .b ds => ∃ a xs, v = .ref a ∧ H a = some (.lst xs) ∧ Rps K g H xs ds ∧ g.W a ∧ a ∉ g.ca
theorem RpV.ext (e : Ext g H g' H') (hc : ∀ c ∈ g.ca, g.W c) {v : V} : ∀ {d : Va}, RpV K g H v d → RpV K g' H' v d
  | .d x, h => Rp.ext e hc h
  | .b ds, ⟨a, xs, e1, h, r, w, n⟩ => ⟨a, xs, e1, e.keep _ _ h n, Rps.ext e hc r, (e.wk _ _ h).mpr w, fun z => (e.new a z).elim n fun q => by rw [h] at q; cases q⟩

/-- the slots -/
structure LR (K : PySem.W.Frag) (g : Gh) (H0 : Hp) (σ : L2.St) (H : Hp) (L : Loc) : Prop where
  len : L.length ≤ σ.length
  old : ∀ b o, H0 b = some o → ∃ o', H b = some o'
  dat : ∀ (i : Nat) d, L[i]? = some (.dat d) → ∃ v, σ[i]? = some (some v) ∧ Rp K g H v d
  own : ∀ (i : Nat) ds, L[i]? = some (.own ds) → ∃ a xs, σ[i]? = some (some (.ref a)) ∧ H a = some (.lst xs) ∧ Rps K g H xs ds ∧ g.W a ∧ a ∉ g.ca ∧ H0 a = none
  inj : ∀ (i j : Nat) ds es a, L[i]? = some (.own ds) → L[j]? = some (.own es) → σ[i]? = some (some (.ref a)) → σ[j]? = some (some (.ref a)) → i = j
theorem LR.ext {H0 : Hp} {σ : L2.St} {L : Loc} (e : Ext g H g' H') (hc : ∀ c ∈ g.ca, g.W c) (l : LR K g H0 σ H L) : LR K g' H0 σ H' L := by
  refine ⟨l.len, fun b o h => let ⟨o1, h1⟩ := l.old b o h; e.there b o1 h1, fun i d h => ?_, fun i ds h => ?_, l.inj⟩
  · obtain ⟨v, h1, r⟩ := l.dat i d h
    exact ⟨v, h1, r.ext e hc⟩
  · obtain ⟨a, xs, h1, h2, r, w, n, z⟩ := l.own i ds h
    refine ⟨a, xs, h1, e.keep _ _ h2 n, Rps.ext e hc r, (e.wk _ _ h2).mpr w, fun q => ?_, z⟩
    rcases e.new a q with q | q
    · exact n q
    · rw [h2] at q; cases q

/-- all of it -/
structure Cr (K : PySem.W.Frag) (g : Gh) (H0 : Hp) (σ : L2.St) (H : Hp) (L : Loc) (S : Store) : Prop where
  s : Gs K g H S
  l : LR K g H0 σ H L
theorem Cr.ext {H0 : Hp} {σ : L2.St} {L : Loc} {S S' : Store} (c : Cr K g H0 σ H L S) (e : Ext g H g' H') (s : Gs K g' H' S') : Cr K g' H0 σ H' L S' :=
  ⟨s, c.l.ext e c.s.cw⟩

/-- a new object at p that is not written any more -/
theorem Ext.laid {S : Store} {p : Addr} {o : HO} (s : Gs K g H S) (hp : H p = none) : Ext g H g (upd H p o) ∧ Gs K g (upd H p o) S := by
  have ne : ∀ b u, H b = some u → b ≠ p := fun b u h z => by subst z; rw [hp] at h; cases h
  have e : Ext g H g (upd H p o) := ⟨fun b u h _ => by rw [upd_ne (ne b u h)]; exact h, fun b u h => ⟨u, by rw [upd_ne (ne b u h)]; exact h⟩, fun _ _ _ => Iff.rfl, ⟨[], by simp⟩, fun _ h => .inl h⟩
  refine ⟨e, ⟨fun b w => ?_, s.cw, s.nd, s.len, fun n a ds h1 h2 => ?_⟩⟩
  · obtain ⟨xs, h⟩ := s.wi b w
    exact ⟨xs, by rw [upd_ne (ne b _ h)]; exact h⟩
  · obtain ⟨xs, h, r⟩ := s.st n a ds h1 h2
    exact ⟨xs, by rw [upd_ne (ne a _ h)]; exact h, Rps.ext e s.cw r⟩
theorem Gs.nw {S : Store} {p : Addr} (s : Gs K g H S) (hp : H p = none) : ¬ g.W p := fun w => by
  obtain ⟨xs, h⟩ := s.wi p w
  rw [hp] at h; cases h
/-- a new tuple -/
theorem new_tup {S : Store} {p : Addr} {xs : List V} {ds : List D} (s : Gs K g H S) (hp : H p = none) (r : Rps K g H xs ds) :
    Ext g H g (upd H p (.tup xs)) ∧ Gs K g (upd H p (.tup xs)) S ∧ Rp K g (upd H p (.tup xs)) (.ref p) (.tup ds) := by
  obtain ⟨e, s'⟩ := Ext.laid (o := .tup xs) s hp
  exact ⟨e, s', .tup (.inl ⟨.inl upd_same, s.nw hp⟩) (Rps.ext e s.cw r)⟩
/-- a new list, not written any more -/
theorem new_lst {S : Store} {p : Addr} {xs : List V} {ds : List D} (s : Gs K g H S) (hp : H p = none) (r : Rps K g H xs ds) :
    Ext g H g (upd H p (.lst xs)) ∧ Gs K g (upd H p (.lst xs)) S ∧ Rp K g (upd H p (.lst xs)) (.ref p) (.lst ds) := by
  obtain ⟨e, s'⟩ := Ext.laid (o := .lst xs) s hp
  exact ⟨e, s', .lst (.inl ⟨.inl upd_same, s.nw hp⟩) (Rps.ext e s.cw r)⟩
/-- what is told as data stands (lists of one's own may have been written) -/
structure ExtW (g : Gh) (H : Hp) (g' : Gh) (H' : Hp) : Prop where
  keep : ∀ b o, H b = some o → ¬ g.W b → H' b = some o ∧ ¬ g'.W b
  ca : ∃ m, g'.ca = g.ca ++ m
theorem ExtW.refl : ExtW g H g H := ⟨fun _ _ h w => ⟨h, w⟩, ⟨[], by simp⟩⟩
theorem ExtW.trans {g2 : Gh} {H2 : Hp} (a : ExtW g H g' H') (b : ExtW g' H' g2 H2) : ExtW g H g2 H2 := by
  obtain ⟨m, em⟩ := a.ca
  obtain ⟨m', em'⟩ := b.ca
  exact ⟨fun c o h w => let ⟨h1, w1⟩ := a.keep c o h w; b.keep c o h1 w1, ⟨m ++ m', by rw [em', em, List.append_assoc]⟩⟩
theorem Ext.w (e : Ext g H g' H') (hc : ∀ c ∈ g.ca, g.W c) : ExtW g H g' H' :=
  ⟨fun b o h w => ⟨e.keep b o h fun z => w (hc b z), fun z => w ((e.wk b o h).mp z)⟩, e.ca⟩
theorem Rd.extW {a : Addr} {u : HO} (e : ExtW g H g' H') (h : Rd H a u) (hw : ¬ g.W a) : Rd H' a u ∧ ¬ g'.W a := by
  rcases h with h | ⟨o, h⟩
  · exact ⟨.inl (e.keep _ _ h hw).1, (e.keep _ _ h hw).2⟩
  · exact ⟨.inr ⟨o, (e.keep _ _ h hw).1⟩, (e.keep _ _ h hw).2⟩
mutual
theorem Rp.extW (e : ExtW g H g' H') : ∀ {v : V} {d : D}, Rp K g H v d → Rp K g' H' v d
  | _, _, .non => .non
  | _, _, .bl b => .bl b
  | _, _, .int i => .int i
  | _, _, .str x => .str x
  | _, _, .ty n => .ty n
  | _, _, .tup h r => .tup (h.elim (fun z => .inl (Rd.extW e z.1 z.2)) .inr) (Rps.extW e r)
  | _, _, .lst h r => .lst (h.elim (fun z => .inl (Rd.extW e z.1 z.2)) .inr) (Rps.extW e r)
  | _, _, .cell (a := a) (n := n) h => by
    obtain ⟨m, em⟩ := e.ca
    refine .cell ?_
    rw [em, List.getElem?_append_left (List.getElem?_eq_some_iff.mp h).1]
    exact h
theorem Rps.extW (e : ExtW g H g' H') : ∀ {vs : List V} {ds : List D}, Rps K g H vs ds → Rps K g' H' vs ds
  | _, _, .nil => .nil
  | _, _, .cons h r => .cons (Rp.extW e h) (Rps.extW e r)
end

theorem old_upd {H0 : Hp} {p : Addr} {u : HO} (h : ∀ b o, H0 b = some o → ∃ o', H b = some o') : ∀ b o, H0 b = some o → ∃ o', (upd H p u) b = some o' := fun b o q => by
  by_cases z : b = p
  · exact ⟨u, by rw [z]; exact upd_same⟩
  · obtain ⟨o', q'⟩ := h b o q
    exact ⟨o', by rw [upd_ne z]; exact q'⟩
/-- one address more that may be written -/
def Gh.plus (g : Gh) (p : Addr) : Gh := ⟨g.ca, fun b => g.W b ∨ b = p⟩
/-- one less -/
def Gh.minus (g : Gh) (p : Addr) : Gh := ⟨g.ca, fun b => g.W b ∧ b ≠ p⟩
/-- a new list that may be written -/
theorem new_own {S : Store} {p : Addr} {xs : List V} (s : Gs K g H S) (hp : H p = none) :
    Ext g H (g.plus p) (upd H p (.lst xs)) ∧ Gs K (g.plus p) (upd H p (.lst xs)) S := by
  have ne : ∀ b u, H b = some u → b ≠ p := fun b u h z => by subst z; rw [hp] at h; cases h
  have e : Ext g H (g.plus p) (upd H p (.lst xs)) := ⟨fun b u h _ => by rw [upd_ne (ne b u h)]; exact h, fun b u h => ⟨u, by rw [upd_ne (ne b u h)]; exact h⟩,
    fun b u h => ⟨fun w => w.elim (fun z => z) fun z => absurd z (ne b u h), .inl⟩, ⟨[], by simp [Gh.plus]⟩, fun _ h => .inl h⟩
  refine ⟨e, ⟨fun b w => ?_, fun a h => .inl (s.cw a h), s.nd, s.len, fun n a ds h1 h2 => ?_⟩⟩
  · rcases w with w | w
    · obtain ⟨ys, h⟩ := s.wi b w
      exact ⟨ys, by rw [upd_ne (ne b _ h)]; exact h⟩
    · exact ⟨xs, by rw [w]; exact upd_same⟩
  · obtain ⟨ys, h, r⟩ := s.st n a ds h1 h2
    exact ⟨ys, by rw [upd_ne (ne a _ h)]; exact h, Rps.ext e s.cw r⟩
mutual
theorem Rp.minus {p : Addr} : ∀ {v : V} {d : D}, Rp K g H v d → Rp K (g.minus p) H v d
  | _, _, .non => .non
  | _, _, .bl b => .bl b
  | _, _, .int i => .int i
  | _, _, .str x => .str x
  | _, _, .ty n => .ty n
  | _, _, .tup h r => .tup (h.elim (fun z => .inl ⟨z.1, fun w => z.2 w.1⟩) .inr) (Rps.minus r)
  | _, _, .lst h r => .lst (h.elim (fun z => .inl ⟨z.1, fun w => z.2 w.1⟩) .inr) (Rps.minus r)
  | _, _, .cell h => .cell h
theorem Rps.minus {p : Addr} : ∀ {vs : List V} {ds : List D}, Rps K g H vs ds → Rps K (g.minus p) H vs ds
  | _, _, .nil => .nil
  | _, _, .cons h r => .cons (Rp.minus h) (Rps.minus r)
end
theorem Gs.minus {S : Store} {p : Addr} (s : Gs K g H S) (hp : p ∉ g.ca) : Gs K (g.minus p) H S := by
  refine ⟨fun b w => s.wi b w.1, fun a h => ⟨s.cw a h, fun z => hp (z ▸ h)⟩, s.nd, s.len, fun n a ds h1 h2 => ?_⟩
  obtain ⟨xs, h, r⟩ := s.st n a ds h1 h2
  exact ⟨xs, h, r.minus⟩
/-- what was new is left as it is -/
theorem Ext.minus {g0 : Gh} {H0 : Hp} {p : Addr} (e : Ext g0 H0 g H) (hp : H0 p = none) : Ext g0 H0 (g.minus p) H :=
  ⟨e.keep, e.there, fun b o h => ⟨fun w => (e.wk b o h).mp w.1, fun w => ⟨(e.wk b o h).mpr w, fun z => by subst z; rw [hp] at h; cases h⟩⟩, e.ca, e.new⟩
/-- writing an address that is not told as data -/
theorem Ext.wrote {p : Addr} {o o1 : HO} (hp : H p = some o1) (hc : p ∈ g.ca) : Ext g H g (upd H p o) :=
  ⟨fun b u h n => by rw [upd_ne (show b ≠ p from fun z => n (by rw [z]; exact hc))]; exact h, fun b u h => by
    by_cases z : b = p
    · exact ⟨o, by rw [z]; exact upd_same⟩
    · exact ⟨u, by rw [upd_ne z]; exact h⟩, fun _ _ _ => Iff.rfl, ⟨[], by simp⟩, fun _ h => .inl h⟩
theorem Rd.wrote {p a : Addr} {o u : HO} (w : g.W p) (h : Rd H a u) (n : ¬ g.W a) : Rd (upd H p o) a u := by
  have ne : a ≠ p := fun e => n (by rw [e]; exact w)
  rcases h with h | ⟨x, h⟩
  · exact .inl (by rw [upd_ne ne]; exact h)
  · exact .inr ⟨x, by rw [upd_ne ne]; exact h⟩
mutual
/-- data do not lean on what may be written -/
theorem Rp.wrote {p : Addr} {o : HO} (w : g.W p) : ∀ {v : V} {d : D}, Rp K g H v d → Rp K g (upd H p o) v d
  | _, _, .non => .non
  | _, _, .bl b => .bl b
  | _, _, .int i => .int i
  | _, _, .str x => .str x
  | _, _, .ty n => .ty n
  | _, _, .tup h r => .tup (h.elim (fun z => .inl ⟨Rd.wrote w z.1 z.2, z.2⟩) .inr) (Rps.wrote w r)
  | _, _, .lst h r => .lst (h.elim (fun z => .inl ⟨Rd.wrote w z.1 z.2, z.2⟩) .inr) (Rps.wrote w r)
  | _, _, .cell h => .cell h
theorem Rps.wrote {p : Addr} {o : HO} (w : g.W p) : ∀ {vs : List V} {ds : List D}, Rps K g H vs ds → Rps K g (upd H p o) vs ds
  | _, _, .nil => .nil
  | _, _, .cons h r => .cons (Rp.wrote w h) (Rps.wrote w r)
end
/-- a list of one's own is written -/
theorem Gs.wrote {S : Store} {p : Addr} {ys : List V} (s : Gs K g H S) (w : g.W p) (n : p ∉ g.ca) : Gs K g (upd H p (.lst ys)) S := by
  refine ⟨fun b wb => ?_, s.cw, s.nd, s.len, fun m a ds h1 h2 => ?_⟩
  · by_cases z : b = p
    · exact ⟨ys, by rw [z]; exact upd_same⟩
    · obtain ⟨xs, h⟩ := s.wi b wb
      exact ⟨xs, by rw [upd_ne z]; exact h⟩
  · obtain ⟨xs, h, r⟩ := s.st m a ds h1 h2
    have ne : a ≠ p := fun z => n (by rw [← z]; exact List.mem_of_getElem? h1)
    exact ⟨xs, by rw [upd_ne ne]; exact h, Rps.wrote w r⟩
theorem Ext.wroteNew {g0 : Gh} {H0 : Hp} {p : Addr} {o : HO} (e : Ext g0 H0 g H) (h : H0 p = none) : Ext g0 H0 g (upd H p o) := by
  have ne : ∀ b u, H0 b = some u → b ≠ p := fun b u q z => by rw [z, h] at q; cases q
  exact ⟨fun b u q n => by rw [upd_ne (ne b u q)]; exact e.keep b u q n, fun b u q => by rw [upd_ne (ne b u q)]; exact e.there b u q, e.wk, e.ca, e.new⟩
theorem ExtW.wrote {p : Addr} {o : HO} (w : g.W p) : ExtW g H g (upd H p o) :=
  ⟨fun b u h n => ⟨by rw [upd_ne (show b ≠ p from fun z => n (by rw [z]; exact w))]; exact h, n⟩, ⟨[], by simp⟩⟩
theorem ExtW.minus {p : Addr} : ExtW g H (g.minus p) H := ⟨fun b u h n => ⟨h, fun z => n z.1⟩, ⟨[], by simp [Gh.minus]⟩⟩
theorem ExtW.plus {p : Addr} {o : HO} (hp : H p = none) : ExtW g H (g.plus p) (upd H p o) :=
  ⟨fun b u h n => by
    have ne : b ≠ p := fun z => by rw [z, hp] at h; cases h
    exact ⟨by rw [upd_ne ne]; exact h, fun z => z.elim n ne⟩, ⟨[], by simp [Gh.plus]⟩⟩
/-- a cell is written -/
theorem Gs.cell {S : Store} {n : Nat} {p : Addr} {ys : List V} {ds : List D} (s : Gs K g H S) (hc : g.ca[n]? = some p) (r : Rps K g H ys ds) : Gs K g (upd H p (.lst ys)) (S.set n ds) := by
  have hm : p ∈ g.ca := List.mem_of_getElem? hc
  have w := s.cw p hm
  refine ⟨fun b wb => ?_, s.cw, s.nd, by rw [List.length_set]; exact s.len, fun m a es h1 h2 => ?_⟩
  · by_cases z : b = p
    · exact ⟨ys, by rw [z]; exact upd_same⟩
    · obtain ⟨xs, h⟩ := s.wi b wb
      exact ⟨xs, by rw [upd_ne z]; exact h⟩
  · by_cases z : m = n
    · subst z
      rw [hc] at h1; cases h1
      have hl : m < S.length := by rw [← s.len]; exact (List.getElem?_eq_some_iff.mp hc).1
      rw [List.getElem?_set_self hl] at h2
      cases h2
      exact ⟨ys, upd_same, Rps.wrote w r⟩
    · rw [List.getElem?_set_ne (Ne.symm z)] at h2
      obtain ⟨xs, h, r'⟩ := s.st m a es h1 h2
      have ne : a ≠ p := fun q => by
        subst q
        obtain ⟨k1, e1⟩ := List.getElem?_eq_some_iff.mp h1
        obtain ⟨k2, e2⟩ := List.getElem?_eq_some_iff.mp hc
        exact z ((List.getElem_inj s.nd).mp (e1.trans e2.symm))
      exact ⟨xs, by rw [upd_ne ne]; exact h, Rps.wrote w r'⟩
/-- one cell more -/
def Gh.cell (g : Gh) (p : Addr) : Gh := ⟨g.ca ++ [p], fun b => g.W b ∨ b = p⟩
theorem new_cell {S : Store} {p : Addr} {xs : List V} {ds : List D} (s : Gs K g H S) (hp : H p = none) (r : Rps K g H xs ds) :
    Ext g H (g.cell p) (upd H p (.lst xs)) ∧ Gs K (g.cell p) (upd H p (.lst xs)) (S ++ [ds]) ∧ Rp K (g.cell p) (upd H p (.lst xs)) (.ref p) (.cell S.length) := by
  have ne : ∀ b u, H b = some u → b ≠ p := fun b u h z => by subst z; rw [hp] at h; cases h
  have e : Ext g H (g.cell p) (upd H p (.lst xs)) := ⟨fun b u h _ => by rw [upd_ne (ne b u h)]; exact h, fun b u h => ⟨u, by rw [upd_ne (ne b u h)]; exact h⟩,
    fun b u h => ⟨fun w => w.elim (fun z => z) fun z => absurd z (ne b u h), .inl⟩, ⟨[p], rfl⟩, fun c hc => (List.mem_append.mp hc).elim .inl fun z => .inr (by rw [List.mem_singleton.mp z]; exact hp)⟩
  have pn : p ∉ g.ca := fun z => s.nw hp (s.cw p z)
  refine ⟨e, ⟨fun b w => ?_, fun a h => ?_, ?_, by simp [Gh.cell, s.len], fun n a es h1 h2 => ?_⟩, .cell (by show (g.ca ++ [p])[S.length]? = some p; rw [← s.len, List.getElem?_append_right (Nat.le_refl _)]; simp)⟩
  · rcases w with w | w
    · obtain ⟨ys, h⟩ := s.wi b w
      exact ⟨ys, by rw [upd_ne (ne b _ h)]; exact h⟩
    · exact ⟨xs, by rw [w]; exact upd_same⟩
  · rcases List.mem_append.mp h with h | h
    · exact .inl (s.cw a h)
    · exact .inr (List.mem_singleton.mp h)
  · show (g.ca ++ [p]).Nodup
    rw [List.nodup_append]
    exact ⟨s.nd, by simp, fun a ha b hb z => by rw [List.mem_singleton.mp hb] at z; exact pn (z ▸ ha)⟩
  · have h1 : (g.ca ++ [p])[n]? = some a := h1
    by_cases z : n < g.ca.length
    · rw [List.getElem?_append_left z] at h1
      rw [List.getElem?_append_left (by rw [← s.len]; exact z)] at h2
      obtain ⟨ys, h, r'⟩ := s.st n a es h1 h2
      exact ⟨ys, by rw [upd_ne (ne a _ h)]; exact h, Rps.ext e s.cw r'⟩
    · have sl := s.len
      rw [List.getElem?_append_right (by omega)] at h1
      rw [List.getElem?_append_right (by omega)] at h2
      have z0 : n - g.ca.length = 0 := by
        have := (List.getElem?_eq_some_iff.mp h1).1
        simp at this
        omega
      rw [z0] at h1
      rw [show n - S.length = 0 by rw [← s.len]; exact z0] at h2
      cases h1; cases h2
      exact ⟨xs, upd_same, Rps.ext e s.cw r⟩
end
end PD

set_option Elab.async false
set_option linter.all false
set_option maxRecDepth 100000
set_option maxHeartbeats 2000000
/-! PD, part z: zip of a tuple and a list. -/
namespace PD
open PySem PySem.Spec PyProof.Rows L2
open PySem.Sem (wp)
section
variable {prog : Program} {w : World} {A : Around} {E : Value → Shared → Prop} {s : Shared} {z TI TO i1 i2 l1 l2 : Addr} {k1 k2 : Nat} {xs ys : Array Value} {x y a b : Value}
/-- what stands before a turn -/
structure Zm (h : Heap) (z TI TO i1 i2 l1 l2 : Addr) (k1 k2 : Nat) (f a b : Value) : Prop where
  z : IsZip h z TI TO f
  ti : IsPair h TI (.ref i1) (.ref i2)
  td : IsPair h TO a b
  a1 : h.IsTupleIter i1 l1 k1
  a2 : h.IsListIter i2 l2 k2
theorem zm_next {Q : Value → Shared → Prop} (D : ZipApart z TI TO i1 i2 l1 l2) (Z : Zm s.heap z TI TO i1 i2 l1 l2 k1 k2 .none a b) (t1 : s.heap.IsTuple l1 xs) (t2 : s.heap.IsList l2 ys) (ex : xs[k1]? = some x) (ey : ys[k2]? = some y)
    (q : ∀ h, Zm h z TI TO i1 i2 l1 l2 (k1 + 1) (k2 + 1) (rawInt s.heap.objs.size) x y → IsPair h s.heap.objs.size x y → h.objs.size = s.heap.objs.size + 1 → (∀ c o, c ≠ z → c ≠ TO → c ≠ i1 → c ≠ i2 → s.heap.get? c = some o → h.get? c = some o) → Q (.ref s.heap.objs.size) { s with heap := h }) :
    wpAny (model prog w) A (Builtin.«zip.__next__» ⟨[.ref z], []⟩) (fun fin s' => ∃ v, fin = .done (.ret v) ∧ Q v s') E s := by
  have zz := Z.z; have zi := Z.ti; have zo := Z.td
  show wpAny _ _ (field (.ref z) 2 >>= _) _ _ _; refine wpAny_bind (wpAny_field zz rfl (x := .bool false) rfl ?_)
  show wpAny _ _ (field (.ref z) 3 >>= _) _ _ _; refine wpAny_bind (wpAny_field zz rfl (x := .ref TI) rfl (wpAny_bind (wpAny_seqItems zi rfl ?_)))
  show wpAny _ _ (Builtin.SmallTypes.ownedTupleIsFree (.ref z) >>= _) _ _ _; unfold Builtin.SmallTypes.ownedTupleIsFree
  refine wpAny_bind (wpAny_bind (wpAny_field zz rfl (x := .none) rfl (wpAny_pure ?_))); simp only [if_true]
  refine wpAny_bind (wpAny_rule (wpAny_bind (wpAny_field zz rfl (x := .ref TO) rfl (wpAny_bind (wpAny_setField_rec zz (by simp) fun g1 n1 r1 => ?_)))))
  have n1 : IsZip g1 z TI TO .ellipsis := n1
  simp only [List.zipIdx_cons, List.zipIdx_nil, List.forIn_cons, List.forIn_nil]; refine wpAny_bind (wpAny_bind (wpAny_bind (wpAny_onRaise ?_)))
  show wpAny _ _ (Builtin.SmallTypes.nextOf (.ref i1) >>= _) _ _ _; refine wpAny_bind (RZ.nextOf_tuple_item (Z.a1.extBut r1.extBut D.i1z) (t1.extBut r1.extBut D.l1z) ex fun g2 n2 r2 => wpAny_pure ?_)
  have o2 : IsPair g2 TO a b := r2.extBut _ _ D.TOi1 (r1.extBut _ _ D.TOz zo)
  refine wpAny_bind (wpAny_seqItems o2 rfl (wpAny_bind (wpAny_updateSeq_pair o2 fun g3 o3 r3 => ?_)))
  have o3 : IsPair g3 TO x b := o3
  refine wpAny_bind (wpAny_letGo (wpAny_pure (wpAny_bind (wpAny_bind (wpAny_onRaise ?_)))))
  show wpAny _ _ (Builtin.SmallTypes.nextOf (.ref i2) >>= _) _ _ _; refine wpAny_bind (wpAny_nextOf_list_item (((Z.a2.extBut r1.extBut D.i2z).extBut r2.extBut D.i12.symm).extBut r3.extBut D.TOi2.symm) (((t2.extBut r1.extBut D.l2z).extBut r2.extBut D.l2i1).extBut r3.extBut D.l2TO) ey fun g4 n4 r4 => wpAny_pure ?_)
  have o4 : IsPair g4 TO x b := r4.extBut _ _ D.TOi2 o3
  refine wpAny_bind (wpAny_seqItems o4 rfl (wpAny_bind (wpAny_updateSeq_pair o4 fun g5 o5 r5 => ?_)))
  have o5 : IsPair g5 TO x y := o5
  refine wpAny_bind (wpAny_letGo (wpAny_pure (wpAny_pure (wpAny_bind (wpAny_seqItems o5 rfl (wpAny_bind (wpAny_newTuple ?_)))))))
  have sz : g5.objs.size = s.heap.objs.size := by rw [r5.1, r4.1, r3.1, r2.1, r1.1]
  have n5 : IsZip g5 z TI TO .ellipsis := r5.extBut _ _ D.TOz.symm (r4.extBut _ _ D.i2z.symm (r3.extBut _ _ D.TOz.symm (r2.extBut _ _ D.i1z.symm n1)))
  have kp : ∀ c o, c ≠ z → c ≠ TO → c ≠ i1 → c ≠ i2 → s.heap.get? c = some o → g5.get? c = some o := fun c o d1 d2 d3 d4 e => r5.extBut _ _ d2 (r4.extBut _ _ d4 (r3.extBut _ _ d2 (r2.extBut _ _ d3 (r1.extBut _ _ d1 e))))
  have p1 : g5.IsTupleIter i1 l1 (k1 + 1) := ((n2.extBut r3.extBut D.TOi1.symm).extBut r4.extBut D.i12).extBut r5.extBut D.TOi1.symm
  have p2 : g5.IsListIter i2 l2 (k2 + 1) := n4.extBut r5.extBut D.TOi2.symm
  have zl : z < g5.objs.size := Heap.lt_size n5
  show wpAny _ _ (Builtin.SmallTypes.ownedTupleHandOut (.ref z) (.ref g5.objs.size) >>= _) _ _ _; unfold Builtin.SmallTypes.ownedTupleHandOut
  have n6 : IsZip (g5.push { cls := .type "tuple", data := .seq #[x, y] }) z TI TO .ellipsis := Heap.get?_push_of_some _ n5
  refine wpAny_bind (wpAny_bind (wpAny_setField_rec n6 (by simp) fun g7 n7 r7 => ?_))
  have n7 : IsZip g7 z TI TO (rawInt g5.objs.size) := n7
  refine wpAny_setField_rec n7 (by simp) fun g8 n8 r8 => ?_
  have n8 : IsZip g8 z TI TO (rawInt g5.objs.size) := n8
  have up : ∀ c o, c ≠ z → g5.get? c = some o → g8.get? c = some o := fun c o d e => r8.extBut _ _ d (r7.extBut _ _ d (Heap.get?_push_of_some _ e))
  have pr : IsPair g8 g5.objs.size x y := r8.extBut _ _ (Nat.ne_of_gt zl) (r7.extBut _ _ (Nat.ne_of_gt zl) (Heap.get?_push_size _ rfl))
  have s8 : g8.objs.size = g5.objs.size + 1 := by rw [r8.1, r7.1, Heap.size_push]
  have pi' : IsPair g8 TI (.ref i1) (.ref i2) := up _ _ D.TIz (kp _ _ D.TIz D.TITO D.TIi1 D.TIi2 zi)
  rw [sz] at n8 pr s8; refine wpAny_pure ⟨_, rfl, ?_⟩; show Q (.ref g5.objs.size) _; rw [sz]
  exact q g8 ⟨n8, pi', up _ _ D.TOz o5, p1.at fun o e => up _ o D.i1z e, p2.at fun o e => up _ o D.i2z e⟩ pr s8 fun c o d1 d2 d3 d4 e => up c o d1 (kp c o d1 d2 d3 d4 e)
theorem zm_end {Q : Fin → Shared → Prop} (hh : A.handled = none) (D : ZipApart z TI TO i1 i2 l1 l2) (Z : Zm s.heap z TI TO i1 i2 l1 l2 k1 k2 .none a b) (t1 : s.heap.IsTuple l1 xs) (t2 : s.heap.IsList l2 ys) (en : xs[k1]? = none ∨ ys[k2]? = none)
    (q : ∀ h e, (∀ c o, c ≠ z → c ≠ TO → c ≠ i1 → c ≠ i2 → s.heap.get? c = some o → h.get? c = some o) → (∃ o, h.get? e = some o ∧ o.cls = .type "StopIteration") → E (.ref e) { s with heap := h }) :
    wpAny (model prog w) A (Builtin.«zip.__next__» ⟨[.ref z], []⟩) Q E s := by
  have zz := Z.z; have zi := Z.ti; have zo := Z.td
  show wpAny _ _ (field (.ref z) 2 >>= _) _ _ _; refine wpAny_bind (wpAny_field zz rfl (x := .bool false) rfl ?_)
  show wpAny _ _ (field (.ref z) 3 >>= _) _ _ _; refine wpAny_bind (wpAny_field zz rfl (x := .ref TI) rfl (wpAny_bind (wpAny_seqItems zi rfl ?_)))
  show wpAny _ _ (Builtin.SmallTypes.ownedTupleIsFree (.ref z) >>= _) _ _ _; unfold Builtin.SmallTypes.ownedTupleIsFree
  refine wpAny_bind (wpAny_bind (wpAny_field zz rfl (x := .none) rfl (wpAny_pure ?_))); simp only [if_true]
  refine wpAny_bind (wpAny_rule (wpAny_bind (wpAny_field zz rfl (x := .ref TO) rfl (wpAny_bind (wpAny_setField_rec zz (by simp) fun g1 n1 r1 => ?_)))))
  have n1 : IsZip g1 z TI TO .ellipsis := n1
  simp only [List.zipIdx_cons, List.zipIdx_nil, List.forIn_cons, List.forIn_nil]; refine wpAny_bind (wpAny_bind (wpAny_bind (wpAny_onRaise ?_)))
  show wpAny _ _ (Builtin.SmallTypes.nextOf (.ref i1) >>= _) _ _ _
  cases ex : xs[k1]? with
  | none =>
    refine wpAny_bind (RZ.nextOf_tuple_end hh (Z.a1.extBut r1.extBut D.i1z) (t1.extBut r1.extBut D.l1z) ex fun g2 e r2 ⟨oe, ho, hc⟩ => ?_)
    have n2 : IsZip g2 z TI TO .ellipsis := r2 _ _ D.i1z.symm n1
    have ne : e ≠ z := fun u => by subst u; rw [n2] at ho; cases ho; simp at hc
    exact wpAny_setField_rec n2 (by simp) fun g3 _ r3 => q g3 e (fun c o d1 _ d3 _ u => r3.extBut _ _ d1 (r2 _ _ d3 (r1.extBut _ _ d1 u))) ⟨oe, r3.extBut _ _ ne ho, hc⟩
  | some x =>
    have ey : ys[k2]? = none := en.resolve_left fun h => by rw [ex] at h; cases h
    refine wpAny_bind (RZ.nextOf_tuple_item (Z.a1.extBut r1.extBut D.i1z) (t1.extBut r1.extBut D.l1z) ex fun g2 n2 r2 => wpAny_pure ?_)
    have o2 : IsPair g2 TO a b := r2.extBut _ _ D.TOi1 (r1.extBut _ _ D.TOz zo)
    refine wpAny_bind (wpAny_seqItems o2 rfl (wpAny_bind (wpAny_updateSeq_pair o2 fun g3 o3 r3 => ?_)))
    refine wpAny_bind (wpAny_letGo (wpAny_pure (wpAny_bind (wpAny_bind (wpAny_onRaise ?_)))))
    show wpAny _ _ (Builtin.SmallTypes.nextOf (.ref i2) >>= _) _ _ _; refine wpAny_bind (wpAny_nextOf_list_end hh (((Z.a2.extBut r1.extBut D.i2z).extBut r2.extBut D.i12.symm).extBut r3.extBut D.TOi2.symm) (((t2.extBut r1.extBut D.l2z).extBut r2.extBut D.l2i1).extBut r3.extBut D.l2TO) ey fun g4 e r4 ⟨oe, ho, hc⟩ => ?_)
    have n4 : IsZip g4 z TI TO .ellipsis := r4 _ _ D.i2z.symm (r3.extBut _ _ D.TOz.symm (r2.extBut _ _ D.i1z.symm n1))
    have ne : e ≠ z := fun u => by subst u; rw [n4] at ho; cases ho; simp at hc
    exact wpAny_setField_rec n4 (by simp) fun g5 _ r5 => q g5 e (fun c o d1 d2 d3 d4 u => r5.extBut _ _ d1 (r4 _ _ d4 (r3.extBut _ _ d2 (r2.extBut _ _ d3 (r1.extBut _ _ d1 u))))) ⟨oe, r5.extBut _ _ ne ho, hc⟩
theorem zm_pyNext {Q : Option Value → Shared → Prop} (D : ZipApart z TI TO i1 i2 l1 l2) (Z : Zm s.heap z TI TO i1 i2 l1 l2 k1 k2 .none a b) (t1 : s.heap.IsTuple l1 xs) (t2 : s.heap.IsList l2 ys) (ex : xs[k1]? = some x) (ey : ys[k2]? = some y)
    (q : ∀ h, Zm h z TI TO i1 i2 l1 l2 (k1 + 1) (k2 + 1) (rawInt s.heap.objs.size) x y → IsPair h s.heap.objs.size x y → h.objs.size = s.heap.objs.size + 1 → (∀ c o, c ≠ z → c ≠ TO → c ≠ i1 → c ≠ i2 → s.heap.get? c = some o → h.get? c = some o) → Q (some (.ref s.heap.objs.size)) { s with heap := h }) :
    wpAny (model prog w) A (pyNext (.ref z)) Q E s := by
  have ty : s.TypeIs (.ref z) "zip" := ⟨_, Z.z, rfl⟩
  unfold pyNext
  exact wpAny_bind (wpAny_attempt (wpAny_callSpecial?_slot (name := Str.ofString "__next__") ty F.slot_zip_next (wpAny_call_entry F.slot_zip_next ty F.entry_zip_next (zm_next D Z t1 t2 ex ey fun h a1 a2 a3 a4 => wpAny_pure (q h a1 a2 a3 a4)) (F.args_zip_next_1 _))))
theorem zm_pyEnd {Q : Option Value → Shared → Prop} (hh : A.handled = none) (D : ZipApart z TI TO i1 i2 l1 l2) (Z : Zm s.heap z TI TO i1 i2 l1 l2 k1 k2 .none a b) (t1 : s.heap.IsTuple l1 xs) (t2 : s.heap.IsList l2 ys) (en : xs[k1]? = none ∨ ys[k2]? = none)
    (q : ∀ h, (∀ c o, c ≠ z → c ≠ TO → c ≠ i1 → c ≠ i2 → s.heap.get? c = some o → h.get? c = some o) → Q none { s with heap := h }) : wpAny (model prog w) A (pyNext (.ref z)) Q E s := by
  have ty : s.TypeIs (.ref z) "zip" := ⟨_, Z.z, rfl⟩
  unfold pyNext
  refine wpAny_bind (wpAny_attempt (wpAny_callSpecial?_slot (name := Str.ofString "__next__") ty F.slot_zip_next (wpAny_call_entry F.slot_zip_next ty F.entry_zip_next (zm_end hh D Z t1 t2 en fun h e hk ⟨o, ho, hc⟩ => ?_) (F.args_zip_next_1 _))))
  exact wpAny_bind (wpAny_isInstance (T := "StopIteration") (b := true) ⟨o, ho, hc⟩ isSubtype_stop (wpAny_pure (q _ hk)))
end
abbrev zmA (h : Heap) (l1 : Addr) : Heap := h.push { cls := .type "tuple_iterator", data := .fields #[.ref l1, .int 0 0] }
abbrev zmB (h : Heap) (l1 l2 : Addr) : Heap := (zmA h l1).push { cls := .type "list_iterator", data := .fields #[.ref l2, .int 0 0] }
abbrev zmC (h : Heap) (l1 l2 : Addr) : Heap := (zmB h l1 l2).push { cls := .type "tuple", data := .seq #[.ref h.objs.size, .ref (zmA h l1).objs.size] }
abbrev zmD (h : Heap) (l1 l2 : Addr) : Heap := (zmC h l1 l2).push { cls := .type "tuple", data := .seq #[.none, .none] }
abbrev zmE (h : Heap) (l1 l2 : Addr) : Heap := (zmD h l1 l2).push { cls := .type "zip", data := .fields #[.none, .bool false, .bool false, .ref (zmB h l1 l2).objs.size, .ref (zmC h l1 l2).objs.size] }
theorem zm_new (l1 l2 : Addr) (xs ys : Array Value) : Meets (Builtin.«zip.__new__» ⟨[.type "zip", .ref l1, .ref l2], []⟩) (fun _ R s => s.heap.IsTuple l1 xs ∧ s.heap.IsList l2 ys ∧ R (.ok (.ret (.ref (zmD s.heap l1 l2).objs.size))) { s with heap := zmE s.heap l1 l2 }) :=
  .of_wp fun prog w A R s h => by
    obtain ⟨hp, g, d, tk, os⟩ := s
    obtain ⟨h1, h2, h⟩ := h
    have hs := sub_zip
    have g1 : Heap.IsTuple (Shared.heap ⟨hp, g, d, tk, os⟩) l1 xs := h1
    have g2 : Heap.IsList (Shared.heap ⟨hp.push { cls := .type "tuple_iterator", data := .fields #[.ref l1, .int 0 0] }, g, d, tk, os⟩) l2 ys := Heap.IsList.push h2 _
    wp_walk using wpAny_pyIter_tuple g1, wpAny_pyIter_list g2
    exact ⟨_, rfl, h⟩
theorem zm_call {prog : Program} {w : World} {A : Around} {E : Value → Shared → Prop} {s : Shared} {l1 l2 : Addr} {xs ys : Array Value} {Q : Value → Shared → Prop} (h1 : s.heap.IsTuple l1 xs) (h2 : s.heap.IsList l2 ys)
    (q : ∀ h, Zm h (s.heap.objs.size + 4) (s.heap.objs.size + 2) (s.heap.objs.size + 3) s.heap.objs.size (s.heap.objs.size + 1) l1 l2 0 0 .none .none .none → (∀ c o, s.heap.get? c = some o → h.get? c = some o) → Q (.ref (s.heap.objs.size + 4)) { s with heap := h }) :
    wpAny (model prog w) A (call (.type "zip") [.ref l1, .ref l2]) Q E s := by
  refine callType_new F.called_zip (by decide) (F.typeCall_zip_2 _ _) (F.newCall_zip_2 _ _) (fun obj => F.args_object_init_3 obj _ _) F.entry_zip_new (zm_new l1 l2 xs ys) ⟨h1, h2, ?_⟩
  have e1 : (zmA s.heap l1).objs.size = s.heap.objs.size + 1 := Heap.size_push ..
  have e2 : (zmB s.heap l1 l2).objs.size = s.heap.objs.size + 2 := by rw [Heap.size_push, e1]
  have e3 : (zmC s.heap l1 l2).objs.size = s.heap.objs.size + 3 := by rw [Heap.size_push, e2]
  have e4 : (zmD s.heap l1 l2).objs.size = s.heap.objs.size + 4 := by rw [Heap.size_push, e3]
  have p5 : (zmE s.heap l1 l2).get? (zmD s.heap l1 l2).objs.size = some _ := Heap.get?_push_size _ rfl
  have p4 : (zmE s.heap l1 l2).get? (zmC s.heap l1 l2).objs.size = some _ := Heap.get?_push_of_some _ (Heap.get?_push_size _ rfl)
  have p3 : (zmE s.heap l1 l2).get? (zmB s.heap l1 l2).objs.size = some _ := Heap.get?_push_of_some _ (Heap.get?_push_of_some _ (Heap.get?_push_size _ rfl))
  have p2 : (zmE s.heap l1 l2).get? (zmA s.heap l1).objs.size = some _ := Heap.get?_push_of_some _ (Heap.get?_push_of_some _ (Heap.get?_push_of_some _ (Heap.get?_push_size _ rfl)))
  have p1 : (zmE s.heap l1 l2).get? s.heap.objs.size = some _ := Heap.get?_push_of_some _ (Heap.get?_push_of_some _ (Heap.get?_push_of_some _ (Heap.get?_push_of_some _ (Heap.get?_push_size _ rfl))))
  show _ ∧ _
  rw [e2, e3, e4] at p5; rw [e1, e2] at p3; rw [e3] at p4; rw [e1] at p2; rw [e4]
  exact ⟨⟨_, p5, rfl⟩, q _ ⟨p5, p3, p4, ⟨_, p1, rfl, rfl⟩, ⟨_, p2, rfl, rfl⟩⟩ fun c o u => Heap.get?_push_of_some _ (Heap.get?_push_of_some _ (Heap.get?_push_of_some _ (Heap.get?_push_of_some _ (Heap.get?_push_of_some _ u))))⟩
/-- the tuple at a, the list at b, turn by turn -/
def ItM (K : PySem.W.Frag) (a b : Addr) : It :=
  ⟨fun i H => ∃ (xs ys : List V) (x y : V), SqT K H a xs ∧ SqL K H b ys ∧ xs[i]? = some x ∧ ys[i]? = some y,
    fun i H v H' => ∃ T x y, v = .ref T ∧ H T = none ∧ H' = upd H T (.tup [x, y]) ∧ (∀ xs, SqT K H a xs → xs[i]? = some x) ∧ ∀ ys, SqL K H b ys → ys[i]? = some y,
    fun i H => ∃ xs ys : List V, SqT K H a xs ∧ SqL K H b ys ∧ (xs.length ≤ i ∨ ys.length ≤ i)⟩
theorem five {c z TI TO i1 i2 : Addr} (h : c ∈ [z, TI, TO, i1, i2]) : c = z ∨ c = TI ∨ c = TO ∨ c = i1 ∨ c = i2 := by simpa using h
theorem turn_M {P : Program} {w : World} {K : PySem.W.Frag} {elts : List Expr} {kk : Nat} {tpos : Pos} {a b z TI TO i1 i2 : Addr} (D : ZipApart z TI TO i1 i2 a b) :
    Turn P w K (.Tuple elts kk tpos) (ItM K a b) [z, TI, TO, i1, i2] z (fun i h => ∃ x y, Zm h z TI TO i1 i2 a b i i .none x y) where
  mem := by simp
  obj := fun i h ⟨x, y, Z⟩ c hc => by
    obtain ⟨o1, e1, _, d1⟩ := Z.a1
    obtain ⟨o2, e2, _, d2⟩ := Z.a2
    rcases five hc with q | q | q | q | q <;> rw [q]
    · exact ⟨_, Z.z, fun v u => nomatch u⟩
    · exact ⟨_, Z.ti, fun v u => nomatch u⟩
    · exact ⟨_, Z.td, fun v u => nomatch u⟩
    · exact ⟨o1, e1, fun v u => by rw [d1] at u; cases u⟩
    · exact ⟨o2, e2, fun v u => by rw [d2] at u; cases u⟩
  keep := fun i h h' ⟨x, y, Z⟩ k => ⟨x, y, k z (by simp) _ Z.z, k TI (by simp) _ Z.ti, k TO (by simp) _ Z.td, Z.a1.at fun o q => k i1 (by simp) o q, Z.a2.at fun o q => k i2 (by simp) o q⟩
  item := by
    intro X hP hw hK hc i pins s σ H E I hf st hg
    subst hP hw hK
    obtain ⟨x0, y0, Z⟩ := st
    obtain ⟨xs, ys, x, y, qx, qy, hx, hy⟩ := hg
    obtain ⟨its, rv, p, _⟩ := I.tuple qx
    obtain ⟨its2, rv2, p2, _⟩ := I.list qy
    obtain ⟨u, hu, ru⟩ := rv.get hx
    obtain ⟨u2, hu2, ru2⟩ := rv2.get hy
    have zl : z < s.heap.objs.size := Heap.lt_size Z.z
    refine zm_pyNext D Z p p2.isList (x := u) (y := u2) (by simpa using hu) (by simpa using hu2) fun h' Z' hT hsz hk => ⟨_, rfl, wpAny_letOwnedTupleGo_zip (s := { s with heap := h' }) Z'.z fun h'' z'' sb => ?_⟩
    have hT2 : h''.get? s.heap.objs.size = some { cls := .type "tuple", data := .seq #[u, u2] } := (sb.2 _ (Nat.ne_of_gt zl)).trans hT
    have nw : ObjOk X.prog X.w (upd H s.heap.objs.size (.tup [x, y])) h'' s.heap.objs.size (.tup [x, y]) := ⟨by show 2 ≤ sizeLine; decide, [u, u2], .cons ru (.cons ru2 .nil), ⟨_, hT2, rfl, _, rfl⟩⟩
    have out : ∀ {c : Addr}, c ∉ [z, TI, TO, i1, i2] → c ≠ z ∧ c ≠ TO ∧ c ≠ i1 ∧ c ≠ i2 := fun {c} hb => ⟨fun q => hb (by simp [q]), fun q => hb (by simp [q]), fun q => hb (by simp [q]), fun q => hb (by simp [q])⟩
    have I1 : Inv X pins σ (upd H s.heap.objs.size (.tup [x, y])) { s with heap := h'' } := I.turnedNew (t' := s.toks) (ch := [z, TI, TO, i1, i2]) (fun c o hb q => (sb.2 c (out hb).1).trans (hk c o (out hb).1 (out hb).2.1 (out hb).2.2.1 (out hb).2.2.2 q)) hf (Nat.le_refl _) nw
    refine ⟨.ref s.heap.objs.size, _, I1, rfl, ⟨_, x, y, rfl, I.hok.fresh (Nat.le_refl _), rfl, fun l hl => by rw [I.tuple_inj hl qx]; exact hx, fun l hl => by rw [I.list_inj hl qy]; exact hy⟩,
      ⟨u, u2, z'', (sb.2 _ D.TIz).trans Z'.ti, (sb.2 _ D.TOz).trans Z'.td, Z'.a1.at fun o q => (sb.2 _ D.i1z).trans q, Z'.a2.at fun o q => (sb.2 _ D.i2z).trans q⟩, fun c hcm => ?_⟩
    have hlt : c < s.heap.objs.size := by
      rcases five hcm with q | q | q | q | q <;> rw [q]
      · exact zl
      · exact Heap.lt_size Z.ti
      · exact Heap.lt_size Z.td
      · obtain ⟨_, e, _⟩ := Z.a1; exact Heap.lt_size e
      · obtain ⟨_, e, _⟩ := Z.a2; exact Heap.lt_size e
    rw [upd_ne (Nat.ne_of_lt hlt)]
    exact (hf c hcm).1
  done := by
    intro X hP hw hK hc i pins s σ H E I hf st hg
    subst hP hw hK
    obtain ⟨x0, y0, Z⟩ := st
    obtain ⟨xs, ys, qx, qy, hend⟩ := hg
    obtain ⟨its, rv, p, _⟩ := I.tuple qx
    obtain ⟨its2, rv2, p2, _⟩ := I.list qy
    have m1 := rv.length
    have m2 := rv2.length
    have he : its.toArray[i]? = none ∨ its2.toArray[i]? = none := hend.elim (fun q => .inl (by simp; omega)) fun q => .inr (by simp; omega)
    have out : ∀ {c : Addr}, c ∉ [z, TI, TO, i1, i2] → c ≠ z ∧ c ≠ TO ∧ c ≠ i1 ∧ c ≠ i2 := fun {c} hb => ⟨fun q => hb (by simp [q]), fun q => hb (by simp [q]), fun q => hb (by simp [q]), fun q => hb (by simp [q])⟩
    exact zm_pyEnd (I.ok.hd hc) D Z p p2.isList he fun h' hk => ⟨rfl, I.turnedL (t' := s.toks) (ch := [z, TI, TO, i1, i2]) (fun c o hb q => hk c o (out hb).1 (out hb).2.1 (out hb).2.2.1 (out hb).2.2.2 q) hf⟩
  self := fun A i s Q E ⟨x, y, Z⟩ h => wpAny_pyIter_zip Z.z h
def iZipM (K : PySem.W.Frag) (ta : TA) : TI := fun σ H R => ta σ H fun vs H1 => ∃ a b xs ys, vs = [.ref a, .ref b] ∧ SqT K H1 a xs ∧ SqL K H1 b ys ∧ R (ItM K a b) H1
theorem pi_zipM {X : Cx} {e e2 : Expr} {ta : TA} {p pos tpos : Pos} {elts : List Expr} {kk : Nat} (hg : Gl X "zip") (hm : X.mg "zip" = none) (ha : PA X [e, e2] ta)
    (hs : starEach [e, e2] X.env = (false, eval e X.env) :: starEach [e2] X.env) (hpl : (backTo pos (starEach [e2] X.env)).any (·.1) = false) : PI X (.Tuple elts kk tpos) (.Call (.Name "zip" p) [e, e2] [] pos) (iZipM X.K ta) := by
  refine ⟨fun pins s σ H R I h => Call_ (ld_blt I hg hm PyProof.Rows.boot_zip (PyProof.Rows.callWith_type1 (thn (ha.run pos pins s σ H _ I h) fun us s1 ⟨vs, H1, I1, r1, q1⟩ => ?_) hs hpl))⟩
  obtain ⟨a, b, xs, ys, ex, qx, qy, q⟩ := q1
  subst ex
  cases r1 with
  | cons r rr => cases rr with
   | cons r' rr =>
    cases rr
    cases r; cases r'
    obtain ⟨its, rv, p1, _⟩ := I1.tuple qx
    obtain ⟨its2, rv2, p2, _⟩ := I1.list qy
    obtain ⟨o1, ho1, _⟩ := id p1
    refine zm_call (show s1.heap.IsTuple a its.toArray from p1) p2.isList fun h' Z hk => wpAny_pyIter_zip Z.z ?_
    have I2 : Inv X pins σ H1 { s1 with heap := h' } := I1.kept (t' := s1.toks) hk
    refine ⟨s1.heap.objs.size + 4, [s1.heap.objs.size + 4, s1.heap.objs.size + 2, s1.heap.objs.size + 3, s1.heap.objs.size, s1.heap.objs.size + 1], _, _, H1, rfl, I2, turn_M (PySem.W.ktu_apart s1.heap.objs.size a b (Heap.lt_size ho1) p2.lt), ⟨_, _, Z⟩, fun c hcm => ?_, q⟩
    have le : s1.heap.objs.size ≤ c := by rcases five hcm with u | u | u | u | u <;> rw [u] <;> omega
    exact I1.fpOk le (I1.hok.fresh le)
end PD

set_option Elab.async false
set_option linter.all false
set_option maxRecDepth 100000
set_option maxHeartbeats 2000000
/-! PD, part tr: a tuple some times; repr of a truth, of None. -/
namespace PD
open PySem PySem.Spec PyProof.Rows L2
theorem tuple_mul1 (l : Addr) (items : Array Value) (n : Nat) (dd : Option Addr) (sl : Array (Option Value)) (x : Int) (u : Tok) (c0 : (decide (x < -(2 ^ 63)) || decide (x ≥ 2 ^ 63)) = false) (c1 : (items.isEmpty || x == 1) = true) :
    Meets (Builtin.«tuple.__mul__» ⟨[.ref l, .int x u], []⟩) (fun _ R s => s.heap.get? l = some { cls := .type "tuple", dict := dd, data := .seq items n, slots := sl } ∧
      R (.ok (.ret (Value.ref l))) s) :=
  .of_wp fun prog w A R s h => by
    obtain ⟨hp, g, d, tk, os⟩ := s
    obtain ⟨hl, h⟩ := h
    have f1 := AutoSeq1.idx_int
    wp_walk using wpAny_loadPart' hl
    refine wpAny_ite_false (decide_eq_false (by rw [c0]; exact Bool.false_ne_true)) ?_
    wp_walk using wpAny_loadPart' hl
    exact ⟨_, rfl, h⟩
theorem tuple_mul0 (l : Addr) (items : Array Value) (n : Nat) (dd : Option Addr) (sl : Array (Option Value)) (x : Int) (u : Tok) (c0 : (decide (x < -(2 ^ 63)) || decide (x ≥ 2 ^ 63)) = false) (c1 : (items.isEmpty || x == 1) = false) (c2 : (decide (x ≤ 0) || items.isEmpty) = true) :
    Meets (Builtin.«tuple.__mul__» ⟨[.ref l, .int x u], []⟩) (fun _ R s => s.heap.get? l = some { cls := .type "tuple", dict := dd, data := .seq items n, slots := sl } ∧
      R (.ok (.ret (Value.ref s.heap.objs.size))) { s with heap := s.heap.push { cls := Value.type "tuple", data := Data.seq #[] }, toks := s.toks }) :=
  .of_wp fun prog w A R s h => by
    obtain ⟨hp, g, d, tk, os⟩ := s
    obtain ⟨hl, h⟩ := h
    have f1 := AutoSeq1.idx_int
    wp_walk using wpAny_loadPart' hl
    refine wpAny_ite_false (decide_eq_false (by rw [c0]; exact Bool.false_ne_true)) ?_
    wp_walk using wpAny_loadPart' hl
    repeat (first
      | (refine wpAny_ite_false (decide_eq_false (by rw [c1]; exact Bool.false_ne_true)) ?_; wp_walk using wpAny_loadPart' hl)
      | (refine wpAny_ite_true (decide_eq_true (by rw [c2])) ?_; wp_walk using wpAny_loadPart' hl))
    exact ⟨_, rfl, h⟩
/-- a tuple of up to 1000 items, up to 1000 times -/
def rRepT (K : PySem.W.Frag) : R2 := fun x y H Q => ∃ l k xs, x = .ref l ∧ y = .int k ∧ SqT K H l xs ∧ 0 ≤ k ∧ k ≤ 1000 ∧ xs.length ≤ 1000 ∧ ((xs = [] ∨ k = 1) → Q (.ref l) H) ∧ ∀ p, H p = none → Q (.ref p) (upd H p (.tup (List.replicate k.toNat xs).flatten))
section
variable {X : Cx}
theorem op_repT1 : OpR X (binaryOp .Mult) (rRepT X.K) := by
  intro pins s σ H x y v u Q I rx ry h
  obtain ⟨l, k, xs, rfl, rfl, hT, h1, h2, hz, qs, q⟩ := h
  by_cases big : xs ≠ [] ∧ 2 ≤ k
  · exact op_repT pins s σ H _ _ v u Q I rx ry ⟨l, k, xs, rfl, rfl, hT, big.1, big.2, h2, hz, q⟩
  cases rx
  obtain ⟨t, rfl⟩ := ry
  obtain ⟨its, r, ⟨⟨cls, dd, data, sl⟩, ho, hc, n, hd⟩, hs⟩ := I.tuple hT
  simp only at hc hd
  subst hc hd
  have hle : its.length = xs.length := r.length.symm
  have c0 : (decide (k < -(2 ^ 63)) || decide (k ≥ 2 ^ 63)) = false := by
    rw [decide_eq_false (by omega), decide_eq_false (by omega)] <;> rfl
  by_cases hn : xs = [] ∨ k = 1
  · have c1 : (its.toArray.isEmpty || k == 1) = true := by
      rcases hn with hn | hn
      · rw [hn] at hle
        rw [List.eq_nil_of_length_eq_zero hle]; rfl
      · rw [hn]; simp
    refine wpAny_binaryOp_repeat_ref (T := "tuple") (U := "int") (by decide) ⟨_, ho, rfl⟩ (fun s' => typeIs_int s' k t) noFill_tuple_mul F.fills_int_mul F.slot_int_rmul repeat_tuple F.slot_int_index.lookup
      (call_meets F.slot_int_rmul (typeIs_int s k t) F.entry_int_rmul (F.args_int_rmul_2 _ _) (int_rmul_tuple k t l its.toArray n dd sl)
        ⟨ho, rfl, ⟨_, ho, rfl⟩, call_meets F.slot_tuple_mul ⟨_, ho, rfl⟩ F.entry_tuple_mul (F.args_tuple_mul_2 _ _) (tuple_mul1 l its.toArray n dd sl k t c0 c1) ⟨ho, ?_⟩⟩)
    exact ⟨.ref l, _, I, rfl, qs hn⟩
  · have hn1 : xs ≠ [] := fun z => hn (.inl z)
    have hk0 : k = 0 := by
      have a1 : k ≠ 1 := fun z => hn (.inr z)
      have a2 : ¬ 2 ≤ k := fun z => big ⟨hn1, z⟩
      omega
    subst hk0
    have hi : its.toArray.isEmpty = false := by
      cases its with
      | nil => exact absurd (List.eq_nil_of_length_eq_zero hle.symm) hn1
      | cons a b => rfl
    have c1 : (its.toArray.isEmpty || (0 : Int) == 1) = false := by rw [hi]; rfl
    have c2 : (decide ((0 : Int) ≤ 0) || its.toArray.isEmpty) = true := rfl
    refine wpAny_binaryOp_repeat_ref (T := "tuple") (U := "int") (by decide) ⟨_, ho, rfl⟩ (fun s' => typeIs_int s' 0 t) noFill_tuple_mul F.fills_int_mul F.slot_int_rmul repeat_tuple F.slot_int_index.lookup
      (call_meets F.slot_int_rmul (typeIs_int s 0 t) F.entry_int_rmul (F.args_int_rmul_2 _ _) (int_rmul_tuple 0 t l its.toArray n dd sl)
        ⟨ho, rfl, ⟨_, ho, rfl⟩, call_meets F.slot_tuple_mul ⟨_, ho, rfl⟩ F.entry_tuple_mul (F.args_tuple_mul_2 _ _) (tuple_mul0 l its.toArray n dd sl 0 t c0 c1 c2) ⟨ho, ?_⟩⟩)
    refine ⟨.ref s.heap.objs.size, _, I.laid (t' := s.toks) (o := .tup (List.replicate (0 : Int).toNat xs).flatten) (fun b ob q => Heap.get?_push_of_some _ q) (Nat.le_refl _) ?_, rfl, q _ (I.hok.fresh (Nat.le_refl _))⟩
    exact ⟨by show 0 ≤ sizeLine; exact Nat.zero_le _, [], .nil, IsTup.new _ _⟩
theorem gives_repr_bool (b : Bool) : Gives (Builtin.«bool.__repr__» ⟨[.bool b], []⟩) (.str (if b then "True" else "False")) := by cases b <;> exact .of_eq rfl
theorem gives_repr_none : Gives (Builtin.«NoneType.__repr__» ⟨[.none], []⟩) (.str "None") := .of_eq rfl
theorem call_repr_bool : CallR X (.builtin "repr") (fun xs H Q => ∃ b, xs = [.bl b] ∧ Q (.str (if b then "True" else "False")) H) := by
  intro pins s σ H xs us Q I r h
  obtain ⟨b, rfl, q⟩ := h
  cases r with
  | cons r1 r2 =>
    cases r2
    cases r1
    refine call_repr_gives (T := "bool") rfl F.slot_bool_repr F.entry_bool_repr (F.args_bool_repr_1 _) (gives_repr_bool b) ⟨.str _, H, I.tok _, ⟨_, rfl⟩, q⟩ rfl (by cases b <;> decide +kernel)
theorem call_repr_none : CallR X (.builtin "repr") (fun xs H Q => xs = [.non] ∧ Q (.str "None") H) := by
  intro pins s σ H xs us Q I r h
  obtain ⟨rfl, q⟩ := h
  cases r with
  | cons r1 r2 =>
    cases r2
    cases r1
    exact call_repr_gives (T := "NoneType") rfl F.slot_NoneType_repr F.entry_NoneType_repr (F.args_NoneType_repr_1 _) gives_repr_none ⟨.str _, H, I.tok _, ⟨_, rfl⟩, q⟩ rfl (by decide +kernel)
end
end PD

set_option Elab.async false
set_option linter.all false
set_option maxRecDepth 100000
set_option maxHeartbeats 4000000
/-! PD, part b: the small language and what it means. -/
namespace PD
open PySem PySem.Spec PyProof.Rows L2

inductive BO where | add | sub | mul | fdiv | mod | pow
  deriving DecidableEq
inductive CO where | lt | le | gt | ge | eq | ne | isN | notN | isin | notin
  deriving DecidableEq
inductive Bi where
  | len | abs | gcd | min2 | max2 | int1 | str1 | tuple | all | any | sum | divmod | repr | fact
  deriving DecidableEq

mutual
/-- expressions -/
inductive Xp where
  | nm (i : Nat) | gc (j : Nat) | lit (d : D)
  | bin (o : BO) (a b : Xp) | neg (a : Xp)
  | cmp (o : CO) (a b : Xp) | cmp2 (o o' : CO) (a b c : Xp)
  | and (a b : Xp) | or (a b : Xp) | not (a : Xp) | ife (c a b : Xp)
  | tup (es : Xps) | ix (a b : Xp) | slc (a : Xp) (lo hi : Xo)
  | call (j : Nat) (es ks : Xps) | bi (b : Bi) (es : Xps) | bic (b : Bi) (es : Xps) | isi (a : Xp) (t : String)
  | fr (f : Fx) | rev (a : Xp) | nwc (f : Fx)
inductive Xps where
  | nil | cons (e : Xp) (es : Xps) | star (e : Xp) (es : Xps)
inductive Xo where
  | none | some (e : Xp)
/-- expressions that make a new list -/
inductive Fx where
  | disp (es : Xps) | comp (elt : Xp) (t : Tg) (w : Wk) (c : Xo) (own : List Nat) | list (e : Xp) | cat (a b : Xp) | rep (f : Fx) (b : Xp) | slc (a : Xp) (lo hi : Xo)
  | comp2 (elt : Xp) (t : Tg) (w : Wk) (c : Xo) (t1 : Tg) (w1 : Wk) (c1 : Xo) (own own1 : List Nat)
/-- what is walked -/
inductive Wk where
  | seq (e : Xp) | bor (i : Nat) | range1 (a : Xp) | range2 (a b : Xp) | range3 (a b c : Xp)
  | enum (e : Xp) | enumB (i : Nat) | zip (a b : Xp) | rvd (e : Xp) | rvr (a : Xp)
/-- targets -/
inductive Tg where
  | nm (i : Nat) | tup (ts : Tgs) | sub (i : Nat) (b : Xp) | sbx (a b : Xp)
inductive Tgs where
  | nil | cons (t : Tg) (ts : Tgs)
end

mutual
/-- statements -/
inductive Sm where
  | asg (t : Tg) (e : Xp)
  | own (i : Nat) (f : Fx)
  | par (is : List Nat) (es : Xps)
  | aug (i : Nat) (o : BO) (e : Xp)
  | app (i : Nat) (e : Xp)
  | pop (i : Nat)
  | fz (i : Nat)
  | newc (i : Nat) (es : Xps)
  | retc (es : Xps)
  | ex (e : Xp) | ret (e : Xp) | ret0
  | ife (c : Xp) (a b : Sms)
  | for_ (t : Tg) (w : Wk) (b : Sms)
  | forc (t : Tg) (e : Xp) (b : Sms)
  | wh (c : Xp) (b : Sms)
  | brk | cnt | pass | never
inductive Sms where
  | nil | cons (s : Sm) (ss : Sms)
end

/-! ### data -/
mutual
def D.py : D → PyData
  | .non => .none | .bl b => .bool b | .int i => .int i | .str x => .str x | .ty _ => .none | .cell _ => .none
  | .tup xs => .tuple (D.pys xs) | .lst xs => .list (D.pys xs)
def D.pys : List D → List PyData
  | [] => [] | x :: xs => x.py :: D.pys xs
end
mutual
/-- no types, no cells within -/
def D.pure : D → Bool
  | .ty _ => false | .cell _ => false
  | .tup xs => D.pures xs | .lst xs => D.pures xs
  | _ => true
def D.pures : List D → Bool
  | [] => true | x :: xs => x.pure && D.pures xs
end
def Va.dat : Va → D
  | .d x => x | .b xs => .lst xs
def asL : Va → Option (List D)
  | .d (.lst xs) => some xs | .b xs => some xs | _ => none
def asT : Va → Option (List D)
  | .d (.tup xs) => some xs | _ => none

/-- may be compared, shown -/
def eqOk (d : D) : Bool := d.pure && SeqAt.shaped d.py
def shOk (d : D) : Bool := d.pure && d.py.showable && decide (d.py.depth ≤ 64) && decide (d.py.shown.length ≤ 16777216)
def eqD (a b : D) : Bool := PyData.eqv a.py b.py

abbrev line : Nat := 16777216
/-- sizes -/
def okMul (i j : Int) : Bool := decide (i.natAbs.log2 + j.natAbs.log2 < 4000000)
def okDiv (j : Int) : Bool := decide (j ≠ 0) && decide (j.natAbs.log2 < 9000)
def okPow (i j : Int) : Bool := decide (0 ≤ j) && decide (j ≤ 1000000) && decide (i.natAbs < 2 ^ 64)

def binV (o : BO) (x y : Va) : Option D :=
  match o, x, y with
  | .add, .d (.int i), .d (.int j) => some (.int (i + j))
  | .add, .d (.str x), .d (.str y) => if x.length + y.length ≤ line then some (.str (x ++ y)) else none
  | .add, .d (.tup x), .d (.tup y) => if x.length + y.length ≤ line then some (.tup (x ++ y)) else none
  | .sub, .d (.int i), .d (.int j) => some (.int (i - j))
  | .sub, .d (.bl i), .d (.bl j) => some (.int ((if i then 1 else 0) - (if j then 1 else 0)))
  | .mul, .d (.int i), .d (.int j) => if okMul i j then some (.int (i * j)) else none
  | .mul, .d (.tup x), .d (.int k) => if 0 ≤ k ∧ k ≤ 1000 ∧ x.length ≤ 1000 then some (.tup (List.replicate k.toNat x).flatten) else none
  | .fdiv, .d (.int i), .d (.int j) => if okDiv j then some (.int (i.fdiv j)) else none
  | .mod, .d (.int i), .d (.int j) => if j ≠ 0 then some (.int (i.fmod j)) else none
  | .pow, .d (.int i), .d (.int j) => if okPow i j then some (.int (i ^ j.toNat)) else none
  | _, _, _ => none

def cmpV (o : CO) (x y : Va) : Option Bool :=
  match o, x, y with
  | .lt, .d (.int i), .d (.int j) => some (decide (i < j))
  | .le, .d (.int i), .d (.int j) => some (decide (i ≤ j))
  | .gt, .d (.int i), .d (.int j) => some (decide (j < i))
  | .ge, .d (.int i), .d (.int j) => some (decide (j ≤ i))
  | .eq, .d (.str x), .d (.str y) => some (decide (x = y))
  | .ne, .d (.str x), .d (.str y) => some (!decide (x = y))
  | .eq, x, y => if eqOk x.dat && eqOk y.dat then some (eqD x.dat y.dat) else none
  | .ne, x, y => if eqOk x.dat && eqOk y.dat then some (!eqD x.dat y.dat) else none
  | .isN, .d .non, .d .non => some true
  | .isN, .d (.int _), .d .non => some false
  | .isN, .d (.bl _), .d .non => some false
  | .isN, .d (.str _), .d .non => some false
  | .isN, .d (.tup _), .d .non => some false
  | .isN, .d (.lst _), .d .non => some false
  | .isN, .d (.bl a), .d (.bl b) => some (decide (a = b))
  | .notN, .d .non, .d .non => some false
  | .notN, .d (.int _), .d .non => some true
  | .notN, .d (.bl _), .d .non => some true
  | .notN, .d (.str _), .d .non => some true
  | .notN, .d (.tup _), .d .non => some true
  | .notN, .d (.lst _), .d .non => some true
  | .notN, .d (.bl a), .d (.bl b) => some (!decide (a = b))
  | .isin, x, y => match asL y with
    | some ds => if eqOk x.dat && eqOk (.lst ds) then some (ds.any fun z => eqD z x.dat) else none
    | none => match asT y with
      | some ds => if eqOk x.dat && eqOk (.tup ds) then some (ds.any fun z => eqD z x.dat) else none
      | none => none
  | .notin, x, y => match asL y with
    | some ds => if eqOk x.dat && eqOk (.lst ds) then some (!ds.any fun z => eqD z x.dat) else none
    | none => match asT y with
      | some ds => if eqOk x.dat && eqOk (.tup ds) then some (!ds.any fun z => eqD z x.dat) else none
      | none => none
  | _, _, _ => none

def negV : Va → Option D
  | .d (.int i) => some (.int (-i)) | _ => none

/-- an item -/
def ixV (x y : Va) (S : Store) : Option D :=
  match y with
  | .d (.int i) => match x with
    | .d (.tup xs) => atI xs i
    | .d (.lst xs) => atI xs i
    | .b xs => atI xs i
    | .d (.cell n) => match S[n]? with | some xs => atI xs i | none => none
    | _ => none
  | _ => none

def cutD (xs : List D) (lo hi : Option Int) : List D :=
  (xs.drop (HT.sIx xs.length 0 lo)).take (HT.sIx xs.length xs.length hi - HT.sIx xs.length 0 lo)
def optI : Option Va → Option (Option Int)
  | none => some none | some (.d (.int i)) => some (some i) | _ => none
def slcT (x : Va) (lo hi : Option Int) : Option D :=
  match x with
  | .d (.tup xs) => some (.tup (cutD xs lo hi))
  | .d (.lst xs) => some (.lst (cutD xs lo hi))
  | .b xs => some (.lst (cutD xs lo hi))
  | _ => none
def slcT0 (x : Va) (lo hi : Option Int) : Option D :=
  match x with
  | .d (.tup xs) => some (.tup (cutD xs lo hi))
  | _ => none
def slcL (x : Va) (lo hi : Option Int) : Option (List D) := (asL x).map fun xs => cutD xs lo hi

def revV : Va → Option D
  | .d (.tup xs) => some (.tup xs.reverse) | .d (.lst xs) => some (.lst xs.reverse) | .b xs => some (.lst xs.reverse) | _ => none
def intsOf : List D → Option (List Int)
  | [] => some []
  | .int i :: r => match intsOf r with | some l => some (i :: l) | none => none
  | _ :: _ => none
def boolsOf : List D → Option (List Bool)
  | [] => some []
  | .bl i :: r => match boolsOf r with | some l => some (i :: l) | none => none
  | _ :: _ => none

def biV (b : Bi) (xs : List Va) : Option D :=
  match b, xs with
  | .len, [.d (.tup xs)] => some (.int xs.length)
  | .len, [.d (.lst xs)] => some (.int xs.length)
  | .len, [.b xs] => some (.int xs.length)
  | .abs, [.d (.int i)] => some (.int (if i < 0 then -i else i))
  | .gcd, [.d (.int i), .d (.int j)] => some (.int ((Nat.gcd i.natAbs j.natAbs : Nat) : Int))
  | .min2, [.d (.int i), .d (.int j)] => some (.int (if j < i then j else i))
  | .max2, [.d (.int i), .d (.int j)] => some (.int (if j > i then j else i))
  | .int1, [.d (.int i)] => some (.int i)
  | .int1, [.d (.bl k)] => some (.int (if k then 1 else 0))
  | .str1, [.d (.int i)] => if i.natAbs.log2 < 1920 then some (.str (toString i)) else none
  | .tuple, [.d (.tup xs)] => some (.tup xs)
  | .tuple, [.d (.lst xs)] => some (.tup xs)
  | .tuple, [.b xs] => some (.tup xs)
  | .all, [x] => match asL x with | some ds => (boolsOf ds).map fun l => .bl (l.all id) | none => none
  | .any, [x] => match asL x with | some ds => (boolsOf ds).map fun l => .bl (l.any id) | none => none
  | .sum, [x] => match asL x with | some ds => (intsOf ds).map fun l => .int l.sum | none => none
  | .fact, [.d (.int i)] => if 0 ≤ i ∧ i ≤ 100 then some (.int ((Builtin.Math.factorialNat i.toNat : Nat) : Int)) else none
  | .divmod, [.d (.int i), .d (.int j)] => if 0 < j ∧ j < 1073741824 then some (.tup [.int (i / j), .int (i % j)]) else none
  | .repr, [.d (.tup xs)] => if shOk (.tup xs) then some (.str (D.tup xs).py.shown) else none
  | .repr, [.d (.lst xs)] => if shOk (.lst xs) then some (.str (D.lst xs).py.shown) else none
  | .repr, [.b xs] => if shOk (.lst xs) then some (.str (D.lst xs).py.shown) else none
  | .repr, [.d (.int i)] => if i.natAbs.log2 < 1920 then some (.str (toString i)) else none
  | .repr, [.d (.bl b)] => some (.str (if b then "True" else "False"))
  | .repr, [.d .non] => some (.str "None")
  | _, _ => none

/-- of a list that may be changed, as it is now -/
def bicV (b : Bi) (xs : List Va) (S : Store) : Option D :=
  match b, xs with
  | .len, [.d (.cell n)] => (S[n]?).map fun ds => .int ds.length
  | .tuple, [.d (.cell n)] => (S[n]?).map .tup
  | _, _ => none
def tyN : Va → Option String
  | .d .non => some "NoneType" | .d (.bl _) => some "bool" | .d (.int _) => some "int" | .d (.str _) => some "str"
  | .d (.tup _) => some "tuple" | .d (.lst _) => some "list" | .b _ => some "list" | _ => none
def isiV (x : Va) (t : String) : Option Bool := match tyN x with | some n => kitB n t | none => none

/-- strict data -/
def unV : Va → Option D
  | .d x => some x | .b _ => none
def unVs : List Va → Option (List D)
  | [] => some []
  | x :: r => match unV x with
    | some d => match unVs r with | some l => some (d :: l) | none => none
    | none => none

/-! ### the run -/
structure Ent where
  name : Str
  n : Nat
  ks : List Str
  sem : List D → Store → Option (D × Store)
structure Gam where
  ents : List Ent
  cons : List (Str × D)
  fre : List Str
  bfs : List (Str × String)

def bnd {α β : Type} (m : Option (α × Store)) (f : α → Store → Option (β × Store)) : Option (β × Store) :=
  match m with
  | some (a, S) => f a S
  | none => none
@[simp] theorem bnd_some {α β : Type} (a : α) (S : Store) (f : α → Store → Option (β × Store)) : bnd (some (a, S)) f = f a S := rfl
@[simp] theorem bnd_none {α β : Type} (f : α → Store → Option (β × Store)) : bnd none f = none := rfl
def lft {α : Type} (o : Option α) (S : Store) : Option (α × Store) :=
  match o with
  | some a => some (a, S)
  | none => none
@[simp] theorem lft_some {α : Type} (a : α) (S : Store) : lft (some a) S = some (a, S) := rfl
@[simp] theorem lft_none {α : Type} (S : Store) : lft (none : Option α) S = none := rfl
theorem of_bnd {α β : Type} {m : Option (α × Store)} {f : α → Store → Option (β × Store)} {r : β × Store} (h : bnd m f = some r) : ∃ a S, m = some (a, S) ∧ f a S = some r := by
  match m, h with
  | some (a, S), h => exact ⟨a, S, rfl, h⟩
theorem of_lft {α : Type} {o : Option α} {S S' : Store} {a : α} (h : lft o S = some (a, S')) : o = some a ∧ S' = S := by
  match o, h with
  | some b, h => cases h; exact ⟨rfl, rfl⟩

/-- the items of a list or a tuple -/
def seqV (x : Va) : Option (List D) := match asL x with | some l => some l | none => asT x
/-- the pairs of enumerate, of zip -/
def enumD (ds : List D) : List D := ds.mapIdx fun i d => .tup [.int (i : Nat), d]
def zipD (ds es : List D) : List D := List.zipWith (fun d e => .tup [d, e]) ds es
/-- a comprehension's turns, two fors -/
def compN (turn : D → Store → Option (List D × Store)) : List D → Store → Option (List D × Store)
  | [], S => some ([], S)
  | d :: ds, S => bnd (turn d S) fun r S1 => bnd (compN turn ds S1) fun rs S2 => some (r ++ rs, S2)
/-- a comprehension's turns -/
def compL (turn : D → Store → Option (Option D × Store)) : List D → Store → Option (List D × Store)
  | [], S => some ([], S)
  | d :: ds, S => bnd (turn d S) fun r S1 => bnd (compL turn ds S1) fun rs S2 => some ((match r with | some x => x :: rs | none => rs), S2)

def wipeL (L : Loc) : List Nat → Loc
  | [] => L
  | v :: vs => (wipeL L vs).set v .un

def asB (x : Va) : Option Bool := match x with | .d (.bl b) => some b | _ => none

def Wk.isB : Wk → Bool
  | .bor _ => true | .enumB _ => true | _ => false
/-- pairs, to be taken apart by the target -/
def Wk.pair : Wk → Bool
  | .enum _ => true | .enumB _ => true | .zip _ _ => true | _ => false

variable (G : Gam)
mutual
def evX : Xp → Loc → Store → Option (Va × Store)
  | .nm i, L, S => match L[i]? with
    | some (.dat d) => some (.d d, S)
    | some (.own xs) => some (.b xs, S)
    | _ => none
  | .gc j, _, S => match G.cons[j]? with | some p => some (.d p.2, S) | none => none
  | .lit d, _, S => some (.d d, S)
  | .bin o a b, L, S => bnd (evX a L S) fun x S1 => bnd (evX b L S1) fun y S2 => lft ((binV o x y).map .d) S2
  | .neg a, L, S => bnd (evX a L S) fun x S1 => lft ((negV x).map .d) S1
  | .cmp o a b, L, S => bnd (evX a L S) fun x S1 => bnd (evX b L S1) fun y S2 => lft ((cmpV o x y).map fun c => .d (.bl c)) S2
  | .cmp2 o o' a b c, L, S => bnd (evX a L S) fun x S1 => bnd (evX b L S1) fun y S2 => bnd (lft (cmpV o x y) S2) fun k S2 =>
      if k = true then bnd (evX c L S2) fun z S3 => lft ((cmpV o' y z).map fun c => .d (.bl c)) S3 else some (.d (.bl false), S2)
  | .and a b, L, S => bnd (evX a L S) fun x S1 => bnd (lft (asB x) S1) fun c S1 => if c = true then evX b L S1 else some (.d (.bl false), S1)
  | .or a b, L, S => bnd (evX a L S) fun x S1 => bnd (lft (asB x) S1) fun c S1 => if c = true then some (.d (.bl true), S1) else evX b L S1
  | .not a, L, S => bnd (evX a L S) fun x S1 => lft ((asB x).map fun c => .d (.bl (!c))) S1
  | .ife c a b, L, S => bnd (evX c L S) fun x S1 => bnd (lft (asB x) S1) fun c S1 => if c = true then evX a L S1 else evX b L S1
  | .tup es, L, S => bnd (evXs es L S) fun xs S1 => lft ((unVs xs).map fun ds => .d (.tup ds)) S1
  | .ix a b, L, S => bnd (evX a L S) fun x S1 => bnd (evX b L S1) fun y S2 => lft ((ixV x y S2).map .d) S2
  | .slc a lo hi, L, S => bnd (evX a L S) fun x S1 => bnd (evO lo L S1) fun l S2 => bnd (evO hi L S2) fun h S3 => lft ((slcT x l h).map .d) S3
  | .call j es ks, L, S => match G.ents[j]? with
    | some e => bnd (evXs es L S) fun xs S1 => bnd (evXs ks L S1) fun zs S2 => bnd (lft (unVs (xs ++ zs)) S2) fun ds S2 =>
        if xs.length = e.n ∧ zs.length = e.ks.length then bnd (e.sem ds S2) fun d S3 => some (.d d, S3) else none
    | none => none
  | .bi b es, L, S => bnd (evXs es L S) fun xs S1 => lft ((biV b xs).map .d) S1
  | .bic b es, L, S => bnd (evXs es L S) fun xs S1 => lft ((bicV b xs S1).map .d) S1
  | .isi a t, L, S => bnd (evX a L S) fun x S1 => lft ((isiV x t).map fun c => .d (.bl c)) S1
  | .fr f, L, S => bnd (evF f L S) fun xs S1 => some (.d (.lst xs), S1)
  | .rev a, L, S => bnd (evX a L S) fun x S1 => lft ((revV x).map .d) S1
  | .nwc f, L, S => bnd (evF f L S) fun xs S1 => some (.d (.cell S1.length), S1 ++ [xs])
def evXs : Xps → Loc → Store → Option (List Va × Store)
  | .nil, _, S => some ([], S)
  | .cons e es, L, S => bnd (evX e L S) fun x S1 => bnd (evXs es L S1) fun xs S2 => some (x :: xs, S2)
  | .star e es, L, S => bnd (evX e L S) fun x S1 => bnd (lft (seqV x) S1) fun l S1 => bnd (evXs es L S1) fun xs S2 => if l.length ≤ 100000 then some (l.map .d ++ xs, S2) else none
def evO : Xo → Loc → Store → Option (Option Int × Store)
  | .none, _, S => some (none, S)
  | .some e, L, S => bnd (evX e L S) fun x S1 => lft (optI (some x)) S1
def evF : Fx → Loc → Store → Option (List D × Store)
  | .disp es, L, S => bnd (evXs es L S) fun xs S1 => lft (unVs xs) S1
  | .comp elt t w c own, L, S => bnd (evW w L S) fun ds S1 => if ds.length < line then
      compL (fun d S => bnd (evG t d (wipeL L own) S) fun L2 S => bnd (evC c L2 S) fun k S => if k = true then bnd (evX elt L2 S) fun x S => bnd (lft (unV x) S) fun y S => some (some y, S) else some (none, S)) ds S1
      else none
  | .list e, L, S => bnd (evX e L S) fun x S1 => lft (match asL x with | some l => some l | none => asT x) S1
  | .cat a b, L, S => bnd (evX a L S) fun x S1 => bnd (evX b L S1) fun y S2 => lft (match asL x, asL y with
      | some l, some m => if l.length + m.length ≤ line then some (l ++ m) else none
      | _, _ => none) S2
  | .rep f b, L, S => bnd (evF f L S) fun l S1 => bnd (evX b L S1) fun y S2 => lft (match y with
      | .d (.int k) => if 0 ≤ k ∧ k < 2 ^ 63 ∧ l.length * k.toNat ≤ line then some (List.replicate k.toNat l).flatten else none
      | _ => none) S2
  | .slc a lo hi, L, S => bnd (evX a L S) fun x S1 => bnd (evO lo L S1) fun l S2 => bnd (evO hi L S2) fun h S3 => lft (slcL x l h) S3
  | .comp2 elt t w c t1 w1 c1 own own1, L, S => bnd (evW w L S) fun ds S1 => bnd (compN (fun d S => bnd (evG t d (wipeL L own) S) fun L2 S => bnd (evC c L2 S) fun k S => if k = true then
        bnd (evW w1 L2 S) fun es S => compL (fun d S => bnd (evG t1 d (wipeL L2 own1) S) fun L3 S => bnd (evC c1 L3 S) fun k S => if k = true then bnd (evX elt L3 S) fun x S => bnd (lft (unV x) S) fun y S => some (some y, S) else some (none, S)) es S
      else some ([], S)) ds S1) fun xs S2 => if xs.length ≤ line then some (xs, S2) else none
/-- a test of a comprehension -/
def evC : Xo → Loc → Store → Option (Bool × Store)
  | .none, _, S => some (true, S)
  | .some e, L, S => bnd (evX e L S) fun x S1 => lft (asB x) S1
/-- the items that are walked -/
def evW : Wk → Loc → Store → Option (List D × Store)
  | .seq e, L, S => bnd (evX e L S) fun x S1 => lft (match x with | .d (.lst l) => some l | .d (.tup l) => some l | _ => none) S1
  | .bor i, L, S => match L[i]? with
    | some (.own xs) => some (xs, S)
    | _ => none
  | .range1 a, L, S => bnd (evX a L S) fun x S1 => lft (match x with
      | .d (.int n) => if n < 2 ^ 62 ∧ -(2 ^ 62) ≤ n then some ((List.range n.toNat).map fun i => .int (i : Nat)) else none
      | _ => none) S1
  | .range2 a b, L, S => bnd (evX a L S) fun x S1 => bnd (evX b L S1) fun y S2 => lft (match x, y with
      | .d (.int m), .d (.int n) => if n < 2 ^ 62 ∧ -(2 ^ 62) ≤ n ∧ m < 2 ^ 62 ∧ -(2 ^ 62) ≤ m then some ((List.range (n - m).toNat).map fun i => .int (m + (i : Nat))) else none
      | _, _ => none) S2
  | .range3 a b c, L, S => bnd (evX a L S) fun x S1 => bnd (evX b L S1) fun y S2 => bnd (evX c L S2) fun z S3 => lft (match x, y, z with
      | .d (.int m), .d (.int n), .d (.int k) => if k = -1 ∧ n < 2 ^ 62 ∧ -(2 ^ 62) ≤ n ∧ m < 2 ^ 62 ∧ -(2 ^ 62) ≤ m then some ((List.range (m - n).toNat).map fun i => .int (m + (i : Nat) * (-1))) else none
      | _, _, _ => none) S3
  | .enum e, L, S => bnd (evX e L S) fun x S1 => lft ((match x with | .d (.lst l) => some l | .d (.tup l) => some l | _ => none).map enumD) S1
  | .enumB i, L, S => match L[i]? with
    | some (.own xs) => some (enumD xs, S)
    | _ => none
  | .zip a b, L, S => bnd (evX a L S) fun x S1 => bnd (evX b L S1) fun y S2 => lft (match x, y with
      | .d (.lst l), .d (.lst m) => some (zipD l m)
      | .d (.tup l), .d (.tup m) => some (zipD l m)
      | .d (.tup l), .d (.lst m) => some (zipD l m)
      | _, _ => none) S2
  | .rvd e, L, S => bnd (evX e L S) fun x S1 => lft (match x with | .d (.lst l) => some l.reverse | .d (.tup l) => some l.reverse | _ => none) S1
  | .rvr e, L, S => bnd (evX e L S) fun x S1 => lft (match x with
      | .d (.int n) => if n < 2 ^ 62 ∧ -(2 ^ 62) ≤ n then some ((List.range n.toNat).map fun i => .int (n - 1 - (i : Nat))) else none
      | _ => none) S1
/-- a datum is given to a target -/
def evG : Tg → D → Loc → Store → Option (Loc × Store)
  | .nm i, d, L, S => some (L.set i (.dat d), S)
  | .tup ts, d, L, S => match d with
    | .tup ds => evGs ts ds L S
    | .lst ds => evGs ts ds L S
    | _ => none
  | .sub i b, d, L, S => bnd (evX b L S) fun y S1 => match y with
    | .d (.int k) => match L[i]? with
      | some (.own xs) => match ixN xs.length k with | some j => some (L.set i (.own (xs.set j d)), S1) | none => none
      | some (.dat (.cell n)) => match S1[n]? with
        | some xs => match ixN xs.length k with | some j => some (L, S1.set n (xs.set j d)) | none => none
        | none => none
      | _ => none
    | _ => none
  | .sbx a b, d, L, S => bnd (evX a L S) fun x S1 => bnd (evX b L S1) fun y S2 => match x, y with
    | .d (.cell n), .d (.int k) => match S2[n]? with
      | some xs => match ixN xs.length k with | some j => some (L, S2.set n (xs.set j d)) | none => none
      | none => none
    | _, _ => none
def evGs : Tgs → List D → Loc → Store → Option (Loc × Store)
  | .nil, [], L, S => some (L, S)
  | .cons t ts, d :: ds, L, S => bnd (evG t d L S) fun L1 S1 => evGs ts ds L1 S1
  | _, _, _, _ => none
end
end PD

set_option Elab.async false
set_option linter.all false
set_option maxRecDepth 100000
set_option maxHeartbeats 4000000
/-! PD, part c: statements. -/
namespace PD
open PySem PySem.Spec PyProof.Rows L2

inductive Fl where | nx | brk | cnt | ret (d : D)

/-- a list that may be changed is as it was -/
noncomputable def sameC (S : Store) (n : Nat) (ds : List D) : Bool := @decide (S[n]? = some ds) (Classical.propDecidable _)
theorem sameC_of {S : Store} {n : Nat} {ds : List D} (h : S[n]? = some ds) : sameC S n ds = true := by unfold sameC; exact @decide_eq_true _ (Classical.propDecidable _) h
theorem of_sameC {S : Store} {n : Nat} {ds : List D} (h : sameC S n ds = true) : S[n]? = some ds := by unfold sameC at h; exact @of_decide_eq_true _ (Classical.propDecidable _) h
def cellOf (x : Va) (S : Store) : Option (Nat × List D) := match x with
  | .d (.cell n) => (S[n]?).map fun ds => (n, ds)
  | _ => none
/-- a for loop over items -/
def forL (step : D → Loc → Store → Option ((Fl × Loc) × Store)) : List D → Loc → Store → Option ((Fl × Loc) × Store)
  | [], L, S => some ((.nx, L), S)
  | d :: ds, L, S => bnd (step d L S) fun r S1 => match r.1 with
    | .nx => forL step ds r.2 S1
    | .cnt => forL step ds r.2 S1
    | .brk => some ((.nx, r.2), S1)
    | .ret x => some ((.ret x, r.2), S1)
/-- a while loop, n turns at most -/
def whN (c : Loc → Store → Option (Bool × Store)) (body : Loc → Store → Option ((Fl × Loc) × Store)) : Nat → Loc → Store → Option ((Fl × Loc) × Store)
  | 0, _, _ => none
  | n + 1, L, S => bnd (c L S) fun k S1 => if k = true then bnd (body L S1) fun r S2 => match r.1 with
      | .nx => whN c body n r.2 S2
      | .cnt => whN c body n r.2 S2
      | .brk => some ((.nx, r.2), S2)
      | .ret x => some ((.ret x, r.2), S2)
    else some ((.nx, L), S1)
theorem whN_more {c : Loc → Store → Option (Bool × Store)} {body : Loc → Store → Option ((Fl × Loc) × Store)} : ∀ {n : Nat} {L : Loc} {S : Store} {r : (Fl × Loc) × Store}, whN c body n L S = some r → whN c body (n + 1) L S = some r
  | 0, _, _, _, h => by cases h
  | n + 1, L, S, r, h => by
    unfold whN at h ⊢
    obtain ⟨k, S1, h1, h2⟩ := of_bnd h
    rw [h1, bnd_some]
    cases k with
    | false => exact h2
    | true =>
      simp only [if_true] at h2 ⊢
      obtain ⟨⟨f, L2⟩, S2, h3, h4⟩ := of_bnd h2
      rw [h3, bnd_some]
      cases f with
      | nx => exact whN_more h4
      | cnt => exact whN_more h4
      | brk => exact h4
      | ret x => exact h4
theorem whN_le {c : Loc → Store → Option (Bool × Store)} {body : Loc → Store → Option ((Fl × Loc) × Store)} {n m : Nat} {L : Loc} {S : Store} {r : (Fl × Loc) × Store} (h : whN c body n L S = some r) (le : n ≤ m) : whN c body m L S = some r := by
  induction le with
  | refl => exact h
  | step _ ih => exact whN_more ih
open Classical in
/-- a while loop -/
noncomputable def whL (c : Loc → Store → Option (Bool × Store)) (body : Loc → Store → Option ((Fl × Loc) × Store)) (L : Loc) (S : Store) : Option ((Fl × Loc) × Store) :=
  if h : ∃ r n, whN c body n L S = some r then some h.choose else none
theorem of_whL {c : Loc → Store → Option (Bool × Store)} {body : Loc → Store → Option ((Fl × Loc) × Store)} {L : Loc} {S : Store} {r : (Fl × Loc) × Store} (h : whL c body L S = some r) : ∃ n, whN c body n L S = some r := by
  unfold whL at h
  split at h
  · rename_i hx
    cases h
    exact hx.choose_spec
  · cases h
theorem whL_of {c : Loc → Store → Option (Bool × Store)} {body : Loc → Store → Option ((Fl × Loc) × Store)} {L : Loc} {S : Store} {r : (Fl × Loc) × Store} {n : Nat} (h : whN c body n L S = some r) : whL c body L S = some r := by
  have hx : ∃ r n, whN c body n L S = some r := ⟨r, n, h⟩
  unfold whL
  rw [dif_pos hx]
  obtain ⟨m, hm⟩ := hx.choose_spec
  have h1 := whN_le h (Nat.le_max_left n m)
  have h2 := whN_le hm (Nat.le_max_right n m)
  rw [h1] at h2
  exact h2.symm
/-- one turn -/
theorem whL_eq (c : Loc → Store → Option (Bool × Store)) (body : Loc → Store → Option ((Fl × Loc) × Store)) (L : Loc) (S : Store) : whL c body L S = bnd (c L S) fun k S1 => if k = true then bnd (body L S1) fun r S2 => (match r.1 with
      | .nx => whL c body r.2 S2
      | .cnt => whL c body r.2 S2
      | .brk => some ((.nx, r.2), S2)
      | .ret x => some ((.ret x, r.2), S2) : Option ((Fl × Loc) × Store))
    else some ((.nx, L), S1) := by
  have go : ∀ r, whL c body L S = some r ↔ (bnd (c L S) fun k S1 => if k = true then bnd (body L S1) fun r S2 => (match r.1 with
      | .nx => whL c body r.2 S2
      | .cnt => whL c body r.2 S2
      | .brk => some ((.nx, r.2), S2)
      | .ret x => some ((.ret x, r.2), S2) : Option ((Fl × Loc) × Store))
    else some ((.nx, L), S1)) = some r := by
    intro r
    constructor
    · intro h
      obtain ⟨n, hn⟩ := of_whL h
      cases n with
      | zero => cases hn
      | succ n =>
        unfold whN at hn
        obtain ⟨k, S1, h1, h2⟩ := of_bnd hn
        rw [h1, bnd_some]
        cases k with
        | false => exact h2
        | true =>
          simp only [if_true] at h2 ⊢
          obtain ⟨⟨f, L2⟩, S2, h3, h4⟩ := of_bnd h2
          rw [h3, bnd_some]
          cases f with
          | nx => exact whL_of h4
          | cnt => exact whL_of h4
          | brk => exact h4
          | ret x => exact h4
    · intro h
      obtain ⟨k, S1, h1, h2⟩ := of_bnd h
      cases k with
      | false => exact whL_of (n := 1) (by unfold whN; rw [h1, bnd_some]; exact h2)
      | true =>
        simp only [if_true] at h2
        obtain ⟨⟨f, L2⟩, S2, h3, h4⟩ := of_bnd h2
        cases f with
        | nx =>
          obtain ⟨n, hn⟩ := of_whL (show whL c body L2 S2 = some r from h4)
          exact whL_of (n := n + 1) (by unfold whN; rw [h1, bnd_some, if_pos rfl, h3, bnd_some]; exact hn)
        | cnt =>
          obtain ⟨n, hn⟩ := of_whL (show whL c body L2 S2 = some r from h4)
          exact whL_of (n := n + 1) (by unfold whN; rw [h1, bnd_some, if_pos rfl, h3, bnd_some]; exact hn)
        | brk => exact whL_of (n := 1) (by unfold whN; rw [h1, bnd_some, if_pos rfl, h3, bnd_some]; exact h4)
        | ret x => exact whL_of (n := 1) (by unfold whN; rw [h1, bnd_some, if_pos rfl, h3, bnd_some]; exact h4)
  cases e : whL c body L S with
  | some r => exact ((go r).mp e).symm
  | none =>
    cases e2 : (bnd (c L S) fun k S1 => if k = true then bnd (body L S1) fun r S2 => (match r.1 with
      | .nx => whL c body r.2 S2
      | .cnt => whL c body r.2 S2
      | .brk => some ((.nx, r.2), S2)
      | .ret x => some ((.ret x, r.2), S2) : Option ((Fl × Loc) × Store))
    else some ((.nx, L), S1)) with
    | none => rfl
    | some r =>
      have := (go r).mpr e2
      rw [e] at this
      cases this

/-- several slots stored -/
def setAll : List Nat → List D → Loc → Loc
  | i :: is, d :: ds, L => setAll is ds (L.set i (.dat d))
  | _, _, L => L

def augV (o : BO) (x : D) (y : Va) : Option D :=
  match o, x, y with
  | .add, .int i, .d (.int j) => some (.int (i + j))
  | .sub, .int i, .d (.int j) => some (.int (i - j))
  | _, _, _ => none

variable (G : Gam)
mutual
noncomputable def evS : Sm → Loc → Store → Option ((Fl × Loc) × Store)
  | .asg t e, L, S => bnd (evX G e L S) fun x S1 => bnd (lft (unV x) S1) fun d S1 => bnd (evG G t d L S1) fun L2 S2 => some ((.nx, L2), S2)
  | .own i f, L, S => bnd (evF G f L S) fun xs S1 => some ((.nx, L.set i (.own xs)), S1)
  | .par is es, L, S => bnd (evXs G es L S) fun xs S1 => bnd (lft (unVs xs) S1) fun ds S1 => if ds.length = is.length then some ((.nx, setAll is.reverse ds.reverse L), S1) else none
  | .aug i o e, L, S => match L[i]? with
    | some (.dat d) => bnd (evX G e L S) fun y S1 => bnd (lft (augV o d y) S1) fun z S1 => some ((.nx, L.set i (.dat z)), S1)
    | _ => none
  | .app i e, L, S => bnd (evX G e L S) fun x S1 => bnd (lft (unV x) S1) fun d S1 => match L[i]? with
    | some (.own xs) => if xs.length < line then some ((.nx, L.set i (.own (xs ++ [d]))), S1) else none
    | some (.dat (.cell n)) => match S1[n]? with
      | some xs => if xs.length < line then some ((.nx, L), S1.set n (xs ++ [d])) else none
      | none => none
    | _ => none
  | .pop i, L, S => match L[i]? with
    | some (.own xs) => if xs.length = 0 then none else some ((.nx, L.set i (.own xs.dropLast)), S)
    | _ => none
  | .fz i, L, S => match L[i]? with
    | some (.own xs) => some ((.nx, L.set i (.dat (.lst xs))), S)
    | _ => some ((.nx, L), S)
  | .newc i es, L, S => bnd (evXs G es L S) fun xs S1 => bnd (lft (unVs xs) S1) fun ds S1 => some ((.nx, L.set i (.dat (.cell S1.length))), S1 ++ [ds])
  | .retc es, L, S => bnd (evXs G es L S) fun xs S1 => bnd (lft (unVs xs) S1) fun ds S1 => some ((.ret (.cell S1.length), L), S1 ++ [ds])
  | .ex e, L, S => bnd (evX G e L S) fun _ S1 => some ((.nx, L), S1)
  | .ret e, L, S => bnd (evX G e L S) fun x S1 => bnd (lft (unV x) S1) fun d S1 => some ((.ret d, L), S1)
  | .ret0, L, S => some ((.ret .non, L), S)
  | .ife c a b, L, S => bnd (evX G c L S) fun x S1 => bnd (lft (asB x) S1) fun k S1 => if k = true then evSs a L S1 else evSs b L S1
  | .for_ t w b, L, S => if w.isB then none else bnd (evW G w L S) fun ds S1 => forL (fun d L S => bnd (evG G t d L S) fun L2 S2 => evSs b L2 S2) ds L S1
  | .forc t e b, L, S => bnd (evX G e L S) fun x S1 => bnd (lft (cellOf x S1) S1) fun p S1 => bnd (forL (fun d L S => if sameC S p.1 p.2 = true then bnd (evG G t d L S) fun L2 S2 => evSs b L2 S2 else none) p.2 L S1) fun r S2 => if sameC S2 p.1 p.2 = true then some (r, S2) else none
  | .wh c b, L, S => whL (fun L S => bnd (evX G c L S) fun x S1 => lft (asB x) S1) (fun L S => evSs b L S) L S
  | .brk, L, S => some ((.brk, L), S)
  | .cnt, L, S => some ((.cnt, L), S)
  | .pass, L, S => some ((.nx, L), S)
  | .never, _, _ => none
noncomputable def evSs : Sms → Loc → Store → Option ((Fl × Loc) × Store)
  | .nil, L, S => some ((.nx, L), S)
  | .cons s ss, L, S => bnd (evS s L S) fun r S1 => match r.1 with
    | .nx => evSs ss r.2 S1
    | f => some ((f, r.2), S1)
end

/-- a def's run: n names, the parameters first -/
noncomputable def runF (n : Nat) (b : Sms) (ds : List D) (S : Store) : Option (D × Store) :=
  bnd (evSs G b (ds.map .dat ++ List.replicate (n - ds.length) .un) S) fun r S1 => match r.1 with
    | .ret d => some (d, S1)
    | .nx => some (.non, S1)
    | _ => none
end PD

set_option Elab.async false
set_option linter.all false
set_option maxRecDepth 100000
set_option maxHeartbeats 4000000
/-! PD, part d: each form of an expression keeps its meaning. -/
namespace PD
open PySem PySem.Spec PyProof.Rows L2
abbrev Ms (α : Type) := Loc → Store → Option (α × Store)

def tD (K : PySem.W.Frag) (m : Ms Va) : TE := fun σ H Q => ∃ g H0 L S x S', Cr K g H0 σ H L S ∧ m L S = some (x, S') ∧
  ∀ v g' H', Ext g H g' H' → Gs K g' H' S' → RpV K g' H' v x → Q v H'
def tDT (K : PySem.W.Frag) (m : Ms Bool) : TT := fun σ H Q => ∃ g H0 L S x S', Cr K g H0 σ H L S ∧ m L S = some (x, S') ∧
  ∀ g' H', Ext g H g' H' → Gs K g' H' S' → Q x H'
inductive RpVs (K : PySem.W.Frag) (g : Gh) (H : Hp) : List V → List Va → Prop
  | nil : RpVs K g H [] []
  | cons {v : V} {vs : List V} {d : Va} {ds : List Va} : RpV K g H v d → RpVs K g H vs ds → RpVs K g H (v :: vs) (d :: ds)
def tDA (K : PySem.W.Frag) (m : Ms (List Va)) : TA := fun σ H Q => ∃ g H0 L S xs S', Cr K g H0 σ H L S ∧ m L S = some (xs, S') ∧
  ∀ vs g' H', Ext g H g' H' → Gs K g' H' S' → RpVs K g' H' vs xs → Q vs H'
/-- a new list -/
def tDF (K : PySem.W.Frag) (m : Ms (List D)) : TE := fun σ H Q => ∃ g H0 L S xs S', Cr K g H0 σ H L S ∧ m L S = some (xs, S') ∧
  ∀ p vs g' H', Ext g H g' H' → Gs K g' H' S' → H' p = some (.lst vs) → Rps K g' H' vs xs → g'.W p → p ∉ g'.ca → H p = none → Q (.ref p) H'
/-- an end of a slice -/
def tDO (K : PySem.W.Frag) (m : Ms (Option Int)) : TO := fun σ H Q => ∃ g H0 L S x S', Cr K g H0 σ H L S ∧ m L S = some (x, S') ∧
  ∀ g' H', Ext g H g' H' → Gs K g' H' S' → Q x H'

section
variable {K : PySem.W.Frag} {g g' : Gh} {H H' : Hp}
theorem RpVs.ext (e : Ext g H g' H') (hc : ∀ c ∈ g.ca, g.W c) : ∀ {vs : List V} {ds : List Va}, RpVs K g H vs ds → RpVs K g' H' vs ds
  | _, _, .nil => .nil
  | _, _, .cons h r => .cons (h.ext e hc) (RpVs.ext e hc r)
theorem RpVs.strict : ∀ {vs : List V} {xs : List Va} {ds : List D}, RpVs K g H vs xs → unVs xs = some ds → Rps K g H vs ds
  | _, _, _, .nil, e => by cases e; exact .nil
  | _, _, _, .cons (d := x) h r, e => by
    unfold unVs at e
    cases x with
    | b xs => cases e
    | d x =>
      simp only [unV] at e
      split at e
      · rename_i l hl
        cases e
        exact .cons h (r.strict hl)
      · cases e
theorem RpV.seqL {v : V} {x : Va} {ds : List D} (h : RpV K g H v x) (e : asL x = some ds) : ∃ a xs, v = .ref a ∧ SqL K H a xs ∧ Rps K g H xs ds := by
  cases x with
  | b ys =>
    cases e
    obtain ⟨a, xs, rfl, ha, r, _⟩ := h
    exact ⟨a, xs, rfl, SqL.of ha, r⟩
  | d y =>
    cases y with
    | lst ys =>
      cases e
      have h' : Rp K g H v (.lst ds) := h
      cases h' with
      | lst l r => exact ⟨_, _, rfl, l.sq, r⟩
    | _ => cases e
theorem RpV.seqT {v : V} {x : Va} {ds : List D} (h : RpV K g H v x) (e : asT x = some ds) : ∃ a xs, v = .ref a ∧ TupAt K g H a xs ∧ Rps K g H xs ds := by
  cases x with
  | b ys => cases e
  | d y =>
    cases y with
    | tup ys =>
      cases e
      have h' : Rp K g H v (.tup ds) := h
      cases h' with
      | tup l r => exact ⟨_, _, rfl, l, r⟩
    | _ => cases e
theorem RpV.intV {v : V} {i : Int} (h : RpV K g H v (.d (.int i))) : v = .int i := by
  have h' : Rp K g H v (.int i) := h
  cases h'; rfl
theorem RpV.blV {v : V} {i : Bool} (h : RpV K g H v (.d (.bl i))) : v = .bl i := by
  have h' : Rp K g H v (.bl i) := h
  cases h'; rfl
theorem RpV.strV {v : V} {i : Str} (h : RpV K g H v (.d (.str i))) : v = .str i := by
  have h' : Rp K g H v (.str i) := h
  cases h'; rfl
theorem RpV.nonV {v : V} (h : RpV K g H v (.d .non)) : v = .non := by
  have h' : Rp K g H v .non := h
  cases h'; rfl
mutual
theorem Rp.dp : ∀ {v : V} {d : D}, Rp K g H v d → d.pure = true → Dp K H v d.py
  | _, _, .non, _ => .non
  | _, _, .bl b, _ => .bl b
  | _, _, .int i, _ => .int i
  | _, _, .str x, _ => .str x
  | _, _, .ty n, h => by simp [D.pure] at h
  | _, _, .tup l r, h => .tup l.sq (Rps.dp r (by simpa [D.pure] using h))
  | _, _, .lst l r, h => .lst l.sq (Rps.dp r (by simpa [D.pure] using h))
  | _, _, .cell _, h => by simp [D.pure] at h
theorem Rps.dp : ∀ {vs : List V} {ds : List D}, Rps K g H vs ds → D.pures ds = true → DpAll K H vs (D.pys ds)
  | _, _, .nil, _ => .nil
  | _, _, .cons h r, e => by
    simp only [D.pures, Bool.and_eq_true] at e
    exact .cons (h.dp e.1) (r.dp e.2)
end
theorem RpV.dp {v : V} {x : Va} (h : RpV K g H v x) (e : x.dat.pure = true) : Dp K H v x.dat.py := by
  cases x with
  | d y => exact Rp.dp h e
  | b ys =>
    obtain ⟨a, xs, rfl, ha, r, _⟩ := h
    exact .lst (SqL.of ha) (r.dp (by simpa [Va.dat, D.pure] using e))
end

/-! ### by weaker readings -/
theorem _root_.L2.PE.wk {X : Cx} {e : Expr} {t t' : TE} (h : PE X e t) (w : ∀ σ H Q, t' σ H Q → t σ H Q) : PE X e t' := ⟨fun pins s σ H Q I q => h.run pins s σ H Q I (w σ H Q q)⟩
theorem _root_.L2.PT.wk {X : Cx} {e : Expr} {t t' : TT} (h : PT X e t) (w : ∀ σ H Q, t' σ H Q → t σ H Q) : PT X e t' := ⟨fun pins s σ H Q I q => h.run pins s σ H Q I (w σ H Q q)⟩
theorem _root_.L2.PA.wk {X : Cx} {e : List Expr} {t t' : TA} (h : PA X e t) (w : ∀ σ H Q, t' σ H Q → t σ H Q) : PA X e t' := ⟨fun pos pins s σ H Q I q => h.run pos pins s σ H Q I (w σ H Q q)⟩
theorem _root_.L2.PO.wk {X : Cx} {e : Option Expr} {t t' : TO} (h : PO X e t) (w : ∀ σ H Q, t' σ H Q → t σ H Q) : PO X e t' := ⟨fun pins s σ H Q I q => h.run pins s σ H Q I (w σ H Q q)⟩

section
variable {X : Cx} {a b c : Expr} {es : List Expr} {ma mb mc : Ms Va} {pos : Pos}

/-- two expressions, then an operation on their values -/
theorem tD_two {f : Va → Va → Store → Option (Va × Store)} {r : R2} {K : PySem.W.Frag}
    (hr : ∀ g H S S' x y dx dy d (Q : VK), Gs K g H S → RpV K g H x dx → RpV K g H y dy → f dx dy S = some (d, S') →
      (∀ v g' H', Ext g H g' H' → Gs K g' H' S' → RpV K g' H' v d → Q v H') → r x y H Q) (σ : L2.St) (H : Hp) (Q : VK)
    (h : tD K (fun L S => bnd (ma L S) fun x S1 => bnd (mb L S1) fun y S2 => f x y S2) σ H Q) : tOp r (tD K ma) (tD K mb) σ H Q := by
  obtain ⟨g, H0, L, S, x, S', cr, e, q⟩ := h
  obtain ⟨dx, S1, e1, e⟩ := of_bnd e
  obtain ⟨dy, S2, e2, e⟩ := of_bnd e
  refine ⟨g, H0, L, S, dx, S1, cr, e1, fun v g1 H1 x1 s1 r1 => ⟨g1, H0, L, S1, dy, S2, cr.ext x1 s1, e2, fun u g2 H2 x2 s2 r2 => ?_⟩⟩
  exact hr g2 H2 S2 S' v u dx dy x Q s2 (r1.ext x2 s1.cw) r2 e fun w g3 H3 x3 s3 r3 => q w g3 H3 (x1.trans (x2.trans x3)) s3 r3
/-- one -/
theorem tD_one {f : Va → Store → Option (Va × Store)} {r : V → Hp → VK → Prop} {K : PySem.W.Frag}
    (hr : ∀ g H S S' x dx d (Q : VK), Gs K g H S → RpV K g H x dx → f dx S = some (d, S') →
      (∀ v g' H', Ext g H g' H' → Gs K g' H' S' → RpV K g' H' v d → Q v H') → r x H Q) (σ : L2.St) (H : Hp) (Q : VK)
    (h : tD K (fun L S => bnd (ma L S) fun x S1 => f x S1) σ H Q) : tUn r (tD K ma) σ H Q := by
  obtain ⟨g, H0, L, S, x, S', cr, e, q⟩ := h
  obtain ⟨dx, S1, e1, e⟩ := of_bnd e
  exact ⟨g, H0, L, S, dx, S1, cr, e1, fun v g1 H1 x1 s1 r1 => hr g1 H1 S1 S' v dx x Q s1 r1 e fun w g3 H3 x3 s3 r3 => q w g3 H3 (x1.trans x3) s3 r3⟩

/-! ### operators -/
theorem of_mapd {o : Option D} {S S' : Store} {x : Va} (h : lft (o.map Va.d) S = some (x, S')) : ∃ d, o = some d ∧ x = .d d ∧ S' = S := by
  match o, h with
  | some d, h => cases h; exact ⟨d, rfl, rfl, rfl⟩
theorem of_mapb {o : Option Bool} {S S' : Store} {x : Va} (h : lft (o.map fun c => Va.d (.bl c)) S = some (x, S')) : ∃ d, o = some d ∧ x = .d (.bl d) ∧ S' = S := by
  match o, h with
  | some d, h => cases h; exact ⟨d, rfl, rfl, rfl⟩
theorem op_sub_bb : OpR X (binaryOp .Sub) (fun x y H Q => ∃ i k, x = .bl i ∧ y = .bl k ∧ Q (.int ((if i then 1 else 0) - (if k then 1 else 0))) H) := by
  intro pins s σ H x y v u Q I rx ry h
  obtain ⟨i, k, rfl, rfl, q⟩ := h
  cases rx
  cases ry
  refine binaryOp_gives (op := .Sub) (T := "bool") (m := .int ((if i then 1 else 0) - (if k then 1 else 0))) rfl rfl PySem.F.fills_bool_sub PySem.F.slot_bool_sub PySem.F.entry_int_sub (PySem.F.args_int_sub_2 _ _) ?_ trivial ⟨.int _, H, I.tok _, ⟨_, rfl⟩, q⟩
  exact .of_wp fun M A E s Q h => by obtain ⟨hp, g, d, tk, os⟩ := s; wp_walk; exact ⟨_, rfl, h⟩
/-- * of two factors of together less than four million bits -/
def CMulX (i j : Int) : Prop := i.natAbs.log2 + j.natAbs.log2 < 4000000
theorem CMulX.ok {i j : Int} (h : CMulX i j) : IntMulOk i j := by
  have b : ∀ x : Int, Builtin.Int.intBits x ≤ x.natAbs.log2 + 1 := fun x => by
    unfold Builtin.Int.intBits
    split <;> omega
  have h1 := b i
  have h2 := b j
  have h3 : i.natAbs.log2 + j.natAbs.log2 < 4000000 := h
  have e : bitsLine = 134217728 := by decide
  unfold IntMulOk
  intro z
  rw [Bool.and_eq_true] at z
  have z2 := z.2
  unfold Builtin.Int.intTooBig at z2
  have z3 := of_decide_eq_true z2
  rw [e] at z3
  omega
theorem op_mulX : OpR X (binaryOp .Mult) (rI CMulX fun i j => .int (i * j)) := opI fun _ _ _ _ _ _ _ hc q => mul_int q hc.ok
theorem op_fdivA : OpR X (binaryOp .FloorDiv) (rI (fun _ j => j ≠ 0 ∧ j.natAbs.log2 < 9000) fun i j => .int (i.fdiv j)) :=
  opI fun i j _ _ _ _ _ hc q => floordiv_int hc.1 q (.inl (PyProof.noPylong_of_log2 hc.2))
/-- the operator of the text -/
def BO.op : BO → Operator
  | .add => .Add | .sub => .Sub | .mul => .Mult | .fdiv => .FloorDiv | .mod => .Mod | .pow => .Pow
def rB (K : PySem.W.Frag) : BO → R2
  | .add => fun x y H Q => rI0 (fun i j => .int (i + j)) x y H Q ∨ (∃ i j, x = .str i ∧ y = .str j ∧ i.length + j.length ≤ sizeLine ∧ Q (.str (i ++ j)) H) ∨ rCatA K x y H Q
  | .sub => fun x y H Q => rI0 (fun i j => .int (i - j)) x y H Q ∨ (∃ i k, x = .bl i ∧ y = .bl k ∧ Q (.int ((if i then 1 else 0) - (if k then 1 else 0))) H)
  | .mul => fun x y H Q => rI CMulX (fun i j => .int (i * j)) x y H Q ∨ rRepT K x y H Q
  | .fdiv => rI (fun _ j => j ≠ 0 ∧ j.natAbs.log2 < 9000) fun i j => .int (i.fdiv j)
  | .mod => rI (fun _ j => j ≠ 0) fun i j => .int (i.fmod j)
  | .pow => rI CPow fun i j => .int (i ^ j.toNat)
theorem op_B (o : BO) : OpR X (binaryOp o.op) (rB X.K o) := by
  cases o with
  | add => exact op_add.or (op_add_str.or op_catA)
  | sub => exact op_sub.or op_sub_bb
  | mul => exact op_mulX.or op_repT1
  | fdiv => exact op_fdivA
  | mod => exact op_modN
  | pow => exact op_pow
theorem rps_rep {K : PySem.W.Frag} {g : Gh} {H : Hp} {vs : List V} {ds : List D} (r : Rps K g H vs ds) : ∀ k : Nat, Rps K g H (List.replicate k vs).flatten (List.replicate k ds).flatten
  | 0 => .nil
  | k + 1 => by
    rw [List.replicate_succ, List.replicate_succ, List.flatten_cons, List.flatten_cons]
    exact r.append (rps_rep r k)
theorem line_eq : (sizeLine : Nat) = line := sizeLine_eq
theorem rB_ok {K : PySem.W.Frag} (o : BO) (g : Gh) (H : Hp) (S S' : Store) (x y : V) (dx dy : Va) (d : Va) (Q : VK) (s : Gs K g H S) (rx : RpV K g H x dx) (ry : RpV K g H y dy) (e : lft ((binV o dx dy).map Va.d) S = some (d, S'))
    (q : ∀ v g' H', Ext g H g' H' → Gs K g' H' S' → RpV K g' H' v d → Q v H') : rB K o x y H Q := by
  obtain ⟨d, e, rfl, rfl⟩ := of_mapd e
  unfold binV at e
  split at e
  · cases e
    rw [rx.intV, ry.intV]
    exact .inl ⟨_, _, rfl, rfl, q _ _ _ Ext.refl s (.int _)⟩
  · split at e
    · cases e
      rename_i h
      rw [rx.strV, ry.strV]
      exact .inr (.inl ⟨_, _, rfl, rfl, by rw [line_eq]; exact h, q _ _ _ Ext.refl s (.str _)⟩)
    · cases e
  · split at e
    · cases e
      rename_i h
      obtain ⟨a, xs, rfl, ta, ra⟩ := rx.seqT (ds := _) rfl
      obtain ⟨b, ys, rfl, tb, rb⟩ := ry.seqT (ds := _) rfl
      have l1 := ra.length
      have l2 := rb.length
      refine .inr (.inr ⟨a, b, xs, ys, rfl, rfl, ta.sq, tb.sq, by rw [line_eq, l1, l2]; exact h, fun z => ?_, fun _ z => ?_, fun _ _ p hp => ?_⟩)
      · have z2 := l1.symm
        rw [z] at z2
        rw [List.eq_nil_of_length_eq_zero z2] at q
        exact q _ _ _ Ext.refl s (.tup tb rb)
      · have z2 := l2.symm
        rw [z] at z2
        rw [List.eq_nil_of_length_eq_zero z2, List.append_nil] at q
        exact q _ _ _ Ext.refl s (.tup ta ra)
      · obtain ⟨x1, s1, r1⟩ := new_tup s hp (ra.append rb)
        exact q _ _ _ x1 s1 r1
    · cases e
  · cases e
    rw [rx.intV, ry.intV]
    exact .inl ⟨_, _, rfl, rfl, q _ _ _ Ext.refl s (.int _)⟩
  · cases e
    rw [rx.blV, ry.blV]
    exact .inr ⟨_, _, rfl, rfl, q _ _ _ Ext.refl s (.int _)⟩
  · split at e
    · cases e
      rename_i h
      rw [rx.intV, ry.intV]
      exact .inl ⟨_, _, rfl, rfl, (show CMulX _ _ from of_decide_eq_true (p := _ < _) h), q _ _ _ Ext.refl s (.int _)⟩
    · cases e
  · split at e
    · cases e
      rename_i h
      obtain ⟨a, xs, rfl, ta, ra⟩ := rx.seqT (ds := _) rfl
      rw [ry.intV]
      refine .inr ⟨a, _, xs, rfl, rfl, ta.sq, h.1, h.2.1, by rw [ra.length]; exact h.2.2, fun z => ?_, fun p hp => ?_⟩
      · rcases z with z | z
        · have l1 := ra.length
          rw [z] at l1
          rw [List.eq_nil_of_length_eq_zero l1.symm, List.flatten_replicate_nil] at q
          refine q _ _ _ Ext.refl s (show Rp K g H _ _ from ?_)
          rw [z, List.eq_nil_of_length_eq_zero l1.symm] at ra
          rw [z] at ta
          exact .tup ta ra
        · rw [z] at q
          simp at q
          exact q _ _ _ Ext.refl s (show Rp K g H _ _ from .tup ta ra)
      · obtain ⟨x1, s1, r1⟩ := new_tup s hp (rps_rep ra _)
        exact q _ _ _ x1 s1 r1
    · cases e
  · split at e
    · cases e
      rename_i h
      rw [rx.intV, ry.intV]
      simp only [okDiv, Bool.and_eq_true, decide_eq_true_eq] at h
      exact ⟨_, _, rfl, rfl, h, q _ _ _ Ext.refl s (.int _)⟩
    · cases e
  · split at e
    · cases e
      rename_i h
      rw [rx.intV, ry.intV]
      exact ⟨_, _, rfl, rfl, h, q _ _ _ Ext.refl s (.int _)⟩
    · cases e
  · split at e
    · cases e
      rename_i h
      rw [rx.intV, ry.intV]
      simp only [okPow, Bool.and_eq_true, decide_eq_true_eq] at h
      exact ⟨_, _, rfl, rfl, ⟨h.1.1, h.1.2, h.2⟩, q _ _ _ Ext.refl s (.int _)⟩
    · cases e
  · cases e
theorem pd_bin (o : BO) (ha : PE X a (tD X.K ma)) (hb : PE X b (tD X.K mb)) :
    PE X (.BinOp a o.op b pos) (tD X.K fun L S => bnd (ma L S) fun x S1 => bnd (mb L S1) fun y S2 => lft ((binV o x y).map .d) S2) :=
  (pe_op (op_B o) ha hb).wk (tD_two (rB_ok o))
theorem pd_neg (ha : PE X a (tD X.K ma)) : PE X (.UnaryOp .USub a pos) (tD X.K fun L S => bnd (ma L S) fun x S1 => lft ((negV x).map .d) S1) := by
  refine (pe_un un_neg ha).wk (tD_one fun g H S S' x dx d Q s rx e q => ?_)
  obtain ⟨d, e, rfl, rfl⟩ := of_mapd e
  unfold negV at e
  split at e
  · cases e
    rw [rx.intV]
    exact ⟨_, rfl, q _ _ _ Ext.refl s (.int _)⟩
  · cases e

/-! ### comparisons -/
theorem eqOk_of {d : D} (h : eqOk d = true) : d.pure = true ∧ SeqAt.shaped d.py = true := by
  simpa [eqOk, Bool.and_eq_true] using h
/-- in, of lists and tuples of data -/
def rInT (K : PySem.W.Frag) (neg : Bool) : R2 := fun x y H Q => ∃ d ds, Dp K H x d ∧ (Dp K H y (.list ds) ∨ Dp K H y (.tuple ds)) ∧ SeqAt.shaped d = true ∧ SeqAt.shaped (.list ds) = true ∧
  Q (.bl (if neg then !ds.any fun z => PyData.eqv z d else ds.any fun z => PyData.eqv z d)) H
theorem room_in {A : Around} {n : Nat} {d : PyData} (sd : SeqAt.shaped d = true) (hu : A.units + 65 < cLine) : A.units + 1 + min n d.depth < cLine := by
  have h1 := SeqAt.depth_of_shaped sd
  have h2 : min n d.depth ≤ d.depth := Nat.min_le_right _ _
  omega
theorem op_inT (hu : X.A.units + 65 < cLine) : OpR X (compareOp .In) (rInT X.K false) := by
  intro pins s σ H x y v u Q I rx ry h
  obtain ⟨d, ds, hd, he, sd, se, q⟩ := h
  obtain ⟨as, r1⟩ := Dp.reads I d x v hd rx
  have hl : PyData.canLayAll0 ds = true := SeqAt.canLay_of_shaped se
  rcases he with he | he
  · obtain ⟨bs, r2⟩ := Dp.reads I (.list ds) y u he ry
    exact SeqAt.in_list_reads r2 r1 hl (SeqAt.canLay_of_shaped sd) (room_in sd hu) ⟨.bl _, H, I, rfl, q⟩
  · obtain ⟨bs, r2⟩ := Dp.reads I (.tuple ds) y u he ry
    exact SeqAt.in_tuple_reads r2 r1 hl (SeqAt.canLay_of_shaped sd) (room_in sd hu) ⟨.bl _, H, I, rfl, q⟩
theorem op_notInT (hu : X.A.units + 65 < cLine) : OpR X (compareOp .NotIn) (rInT X.K true) := by
  intro pins s σ H x y v u Q I rx ry h
  obtain ⟨d, ds, hd, he, sd, se, q⟩ := h
  obtain ⟨as, r1⟩ := Dp.reads I d x v hd rx
  have hl : PyData.canLayAll0 ds = true := SeqAt.canLay_of_shaped se
  rcases he with he | he
  · obtain ⟨bs, r2⟩ := Dp.reads I (.list ds) y u he ry
    exact SeqAt.notIn_list_reads r2 r1 hl (SeqAt.canLay_of_shaped sd) (room_in sd hu) ⟨.bl _, H, I, rfl, q⟩
  · obtain ⟨bs, r2⟩ := Dp.reads I (.tuple ds) y u he ry
    exact SeqAt.notIn_tuple_reads r2 r1 hl (SeqAt.canLay_of_shaped sd) (room_in sd hu) ⟨.bl _, H, I, rfl, q⟩
def CO.op : CO → CmpOp
  | .lt => .Lt | .le => .LtE | .gt => .Gt | .ge => .GtE | .eq => .Eq | .ne => .NotEq | .isN => .Is | .notN => .IsNot | .isin => .In | .notin => .NotIn
def rC (K : PySem.W.Frag) : CO → R2
  | .lt => rI0 fun i j => .bl (decide (i < j))
  | .le => rI0 fun i j => .bl (decide (i ≤ j))
  | .gt => rI0 fun i j => .bl (decide (j < i))
  | .ge => rI0 fun i j => .bl (decide (j ≤ i))
  | .eq => fun x y H Q => rEq x y H Q ∨ rEqD K x y H Q
  | .ne => fun x y H Q => rNe x y H Q ∨ rNeD K x y H Q
  | .isN => fun x y H Q => (y = .non ∧ Q (.bl (decide (x = .non))) H) ∨ (∃ a b, x = .bl a ∧ y = .bl b ∧ Q (.bl (decide (a = b))) H)
  | .notN => fun x y H Q => (y = .non ∧ Q (.bl (!decide (x = .non))) H) ∨ (∃ a b, x = .bl a ∧ y = .bl b ∧ Q (.bl (!decide (a = b))) H)
  | .isin => rInT K false
  | .notin => rInT K true
theorem op_C (o : CO) (hu : X.A.units + 65 < cLine) : OpR X (compareOp o.op) (rC X.K o) := by
  cases o with
  | lt => exact op_lt
  | le => exact op_le
  | gt => exact op_gt
  | ge => exact op_ge
  | eq =>
    rintro pins s σ H x y v u Q I rx ry (h | h)
    · exact op_eq pins s σ H x y v u Q I rx ry h
    · exact op_eqD (by omega) pins s σ H x y v u Q I rx ry h
  | ne =>
    rintro pins s σ H x y v u Q I rx ry (h | h)
    · exact op_ne pins s σ H x y v u Q I rx ry h
    · exact op_neD (by omega) pins s σ H x y v u Q I rx ry h
  | isN => exact op_isN.or op_is_bl
  | notN => exact op_notN.or op_isnot_bl
  | isin => exact op_inT hu
  | notin => exact op_notInT hu
theorem pys_any (d : PyData) : ∀ ds : List D, ((D.pys ds).any fun z => PyData.eqv z d) = ds.any fun z => PyData.eqv z.py d
  | [] => rfl
  | x :: xs => by simp only [D.pys, List.any_cons, pys_any d xs]
theorem shaped_lt {ds : List PyData} (h : SeqAt.shaped (.tuple ds) = true) : SeqAt.shaped (.list ds) = true := by
  simpa [SeqAt.shaped, PyData.canLay0, PyData.depth] using h
theorem dec_strV {i j : Str} : decide (V.str i = V.str j) = decide (i = j) := by
  rw [Bool.eq_iff_iff]
  simp
theorem rC_ok {K : PySem.W.Frag} (o : CO) (g : Gh) (H : Hp) (S : Store) (x y : V) (dx dy : Va) (b : Bool) (Q : VK) (s : Gs K g H S) (rx : RpV K g H x dx) (ry : RpV K g H y dy) (e : cmpV o dx dy = some b)
    (q : Q (.bl b) H) : rC K o x y H Q := by
  unfold cmpV at e
  split at e
  · cases e; rw [rx.intV, ry.intV]; exact ⟨_, _, rfl, rfl, q⟩
  · cases e; rw [rx.intV, ry.intV]; exact ⟨_, _, rfl, rfl, q⟩
  · cases e; rw [rx.intV, ry.intV]; exact ⟨_, _, rfl, rfl, q⟩
  · cases e; rw [rx.intV, ry.intV]; exact ⟨_, _, rfl, rfl, q⟩
  · cases e
    rw [rx.strV, ry.strV]
    exact .inl ⟨rfl, by rw [dec_strV]; exact q⟩
  · cases e
    rw [rx.strV, ry.strV]
    exact .inl ⟨rfl, by rw [dec_strV]; exact q⟩
  · split at e
    · cases e
      rename_i h
      simp only [Bool.and_eq_true] at h
      obtain ⟨p1, h1⟩ := eqOk_of h.1
      obtain ⟨p2, h2⟩ := eqOk_of h.2
      exact .inr ⟨_, _, rx.dp p1, ry.dp p2, h1, h2, q⟩
    · cases e
  · split at e
    · cases e
      rename_i h
      simp only [Bool.and_eq_true] at h
      obtain ⟨p1, h1⟩ := eqOk_of h.1
      obtain ⟨p2, h2⟩ := eqOk_of h.2
      exact .inr ⟨_, _, rx.dp p1, ry.dp p2, h1, h2, q⟩
    · cases e
  · cases e; rw [rx.nonV, ry.nonV]; exact .inl ⟨rfl, q⟩
  · cases e; rw [rx.intV, ry.nonV]; exact .inl ⟨rfl, q⟩
  · cases e; rw [rx.blV, ry.nonV]; exact .inl ⟨rfl, q⟩
  · cases e; rw [rx.strV, ry.nonV]; exact .inl ⟨rfl, q⟩
  · cases e; rw [ry.nonV]; obtain ⟨a, xs, rfl, _⟩ := rx.seqT (ds := _) rfl; exact .inl ⟨rfl, q⟩
  · cases e; rw [ry.nonV]; obtain ⟨a, xs, rfl, _⟩ := rx.seqL (ds := _) rfl; exact .inl ⟨rfl, q⟩
  · cases e; rw [rx.blV, ry.blV]; exact .inr ⟨_, _, rfl, rfl, q⟩
  · cases e; rw [rx.nonV, ry.nonV]; exact .inl ⟨rfl, q⟩
  · cases e; rw [rx.intV, ry.nonV]; exact .inl ⟨rfl, q⟩
  · cases e; rw [rx.blV, ry.nonV]; exact .inl ⟨rfl, q⟩
  · cases e; rw [rx.strV, ry.nonV]; exact .inl ⟨rfl, q⟩
  · cases e; rw [ry.nonV]; obtain ⟨a, xs, rfl, _⟩ := rx.seqT (ds := _) rfl; exact .inl ⟨rfl, q⟩
  · cases e; rw [ry.nonV]; obtain ⟨a, xs, rfl, _⟩ := rx.seqL (ds := _) rfl; exact .inl ⟨rfl, q⟩
  · cases e; rw [rx.blV, ry.blV]; exact .inr ⟨_, _, rfl, rfl, q⟩
  · split at e
    · rename_i ds hds
      split at e
      · cases e
        rename_i h
        simp only [Bool.and_eq_true] at h
        obtain ⟨p1, h1⟩ := eqOk_of h.1
        obtain ⟨p2, h2⟩ := eqOk_of h.2
        obtain ⟨a, xs, rfl, sq, r⟩ := ry.seqL hds
        refine ⟨_, _, rx.dp p1, .inl (.lst sq (r.dp (by simpa [D.pure] using p2))), h1, by simpa [D.py] using h2, ?_⟩
        simp only [Bool.false_eq_true, if_false]
        rw [pys_any]
        exact q
      · cases e
    · split at e
      · rename_i ds hds
        split at e
        · cases e
          rename_i h
          simp only [Bool.and_eq_true] at h
          obtain ⟨p1, h1⟩ := eqOk_of h.1
          obtain ⟨p2, h2⟩ := eqOk_of h.2
          obtain ⟨a, xs, rfl, sq, r⟩ := ry.seqT hds
          refine ⟨_, _, rx.dp p1, .inr (.tup sq.sq (r.dp (by simpa [D.pure] using p2))), h1, shaped_lt (by simpa [D.py] using h2), ?_⟩
          simp only [Bool.false_eq_true, if_false]
          rw [pys_any]
          exact q
        · cases e
      · cases e
  · split at e
    · rename_i ds hds
      split at e
      · cases e
        rename_i h
        simp only [Bool.and_eq_true] at h
        obtain ⟨p1, h1⟩ := eqOk_of h.1
        obtain ⟨p2, h2⟩ := eqOk_of h.2
        obtain ⟨a, xs, rfl, sq, r⟩ := ry.seqL hds
        refine ⟨_, _, rx.dp p1, .inl (.lst sq (r.dp (by simpa [D.pure] using p2))), h1, by simpa [D.py] using h2, ?_⟩
        simp only [if_true]
        rw [pys_any]
        exact q
      · cases e
    · split at e
      · rename_i ds hds
        split at e
        · cases e
          rename_i h
          simp only [Bool.and_eq_true] at h
          obtain ⟨p1, h1⟩ := eqOk_of h.1
          obtain ⟨p2, h2⟩ := eqOk_of h.2
          obtain ⟨a, xs, rfl, sq, r⟩ := ry.seqT hds
          refine ⟨_, _, rx.dp p1, .inr (.tup sq.sq (r.dp (by simpa [D.pure] using p2))), h1, shaped_lt (by simpa [D.py] using h2), ?_⟩
          simp only [if_true]
          rw [pys_any]
          exact q
        · cases e
      · cases e
  · cases e
theorem pd_cmp (o : CO) (hu : X.A.units + 65 < cLine) (hm : behindInMarks o.op b = false) (ha : PE X a (tD X.K ma)) (hb : PE X b (tD X.K mb)) :
    PE X (.Compare a [o.op] [b] pos) (tD X.K fun L S => bnd (ma L S) fun x S1 => bnd (mb L S1) fun y S2 => lft ((cmpV o x y).map fun c => .d (.bl c)) S2) := by
  refine (pe_cmpR (op_C o hu) ha hb hm).wk (tD_two fun g H S S' x y dx dy d Q s rx ry e q => ?_)
  obtain ⟨k, e2, rfl, rfl⟩ := of_mapb e
  exact rC_ok o g H _ x y dx dy k Q s rx ry e2 (q _ _ _ Ext.refl s (.bl k))
/-- a value as a test: what is asked of it is a truth -/
def mT (m : Ms Va) : Ms Bool := fun L S => bnd (m L S) fun x S1 => lft (asB x) S1
theorem mT_val {K : PySem.W.Frag} {m : Ms Va} (σ : L2.St) (H : Hp) (Q : Bool → Hp → Prop) (h : tDT K (mT m) σ H Q) : tTest (tD K m) σ H Q := by
  obtain ⟨g, H0, L, S, x, S', cr, e, q⟩ := h
  obtain ⟨dx, S1, e1, e⟩ := of_bnd e
  obtain ⟨e, rfl⟩ := of_lft e
  refine ⟨g, H0, L, S, dx, _, cr, e1, fun v g1 H1 x1 s1 r1 => ⟨x, ?_, q g1 H1 x1 s1⟩⟩
  unfold asB at e
  split at e
  · cases e; exact r1.blV
  · cases e
theorem pt_of (h : PE X a (tD X.K ma)) (he : ∀ whole, isTrue a X.env whole = (do let v ← whole; standAt a.pos; holding [v] (truthy v))) : PT X a (tDT X.K (mT ma)) :=
  (pt_val h he).wk mT_val
theorem pt_cmpD (o : CO) (hu : X.A.units + 65 < cLine) (hm : behindInMarks o.op b = false) (ha : PE X a (tD X.K ma)) (hb : PE X b (tD X.K mb)) :
    PT X (.Compare a [o.op] [b] pos) (tDT X.K (mT fun L S => bnd (ma L S) fun x S1 => bnd (mb L S1) fun y S2 => lft ((cmpV o x y).map fun c => .d (.bl c)) S2)) := by
  refine (pt_cmpR (op_C o hu) ha hb hm).wk fun σ H Q h => ?_
  refine tD_two (K := X.K) (f := fun x y S2 => lft ((cmpV o x y).map fun c => Va.d (.bl c)) S2) (fun g H S S' x y dx dy d Q s rx ry e q => ?_) σ H _ (mT_val σ H Q h)
  obtain ⟨k, e2, rfl, rfl⟩ := of_mapb e
  exact rC_ok o g H _ x y dx dy k Q s rx ry e2 (q _ _ _ Ext.refl s (.bl k))

/-! ### names, constants -/
theorem pd_nm {i : Nat} {x : Str} (hN : X.N[i]? = some x) (hv : Vis X.env.scope x) (hd : (x == ("__debug__" : Str)) = false) (hcd : (x == ("__classdict__" : Str)) = false) :
    PE X (.Name x pos) (tD X.K fun L S => match L[i]? with | some (.dat d) => some (.d d, S) | some (.own xs) => some (.b xs, S) | _ => none) := by
  refine (pe_var hN hv hd hcd).wk fun σ H Q h => ?_
  obtain ⟨g, H0, L, S, x, S', cr, e, q⟩ := h
  dsimp only at e
  split at e
  · rename_i d hd
    cases e
    obtain ⟨v, h1, r⟩ := cr.l.dat i d hd
    exact ⟨v, h1, q v g H Ext.refl cr.s r⟩
  · rename_i ds hd
    cases e
    obtain ⟨a, xs, h1, h2, r, w, n, _⟩ := cr.l.own i ds hd
    exact ⟨_, h1, q _ g H Ext.refl cr.s ⟨a, xs, rfl, h2, r, w, n⟩⟩
  · cases e
theorem pd_const {v : V} {d : D} {e : Expr} (h : PE X e (tC v)) (r : ∀ g H, Rp X.K g H v d) : PE X e (tD X.K fun _ S => some (.d d, S)) := by
  refine h.wk fun σ H Q h => ?_
  obtain ⟨g, H0, L, S, x, S', cr, e, q⟩ := h
  cases e
  exact q v g H Ext.refl cr.s (r g H)

/-! ### and, or, not, if -/
variable {rest : List Expr}
theorem mB {x : Va} {S S' : Store} {c : Bool} (h : lft (asB x) S = some (c, S')) : x = .d (.bl c) ∧ S' = S := by
  obtain ⟨e, rfl⟩ := of_lft h
  unfold asB at e
  split at e
  · cases e; exact ⟨rfl, rfl⟩
  · cases e
theorem pd_and (ha : PE X a (tD X.K ma)) (hb : PE X (.BoolOp .And (b :: rest) pos) (tD X.K mb)) :
    PE X (.BoolOp .And (a :: b :: rest) pos) (tD X.K fun L S => bnd (ma L S) fun x S1 => bnd (lft (asB x) S1) fun c S1 => if c = true then mb L S1 else some (.d (.bl false), S1)) := by
  refine (pe_and ha hb).wk fun σ H Q h => ?_
  obtain ⟨g, H0, L, S, x, S', cr, e, q⟩ := h
  obtain ⟨dx, S1, e1, e⟩ := of_bnd e
  obtain ⟨k, S2, e2, e⟩ := of_bnd e
  obtain ⟨rfl, rfl⟩ := mB e2
  refine ⟨g, H0, L, S, _, _, cr, e1, fun v g1 H1 x1 s1 r1 => ⟨k, r1.blV, ?_⟩⟩
  cases k with
  | true => exact ⟨g1, H0, L, _, x, S', cr.ext x1 s1, e, fun u g2 H2 x2 s2 r2 => q u g2 H2 (x1.trans x2) s2 r2⟩
  | false =>
    cases e
    exact q _ g1 H1 x1 s1 (.bl false)
theorem pd_or (ha : PE X a (tD X.K ma)) (hb : PE X (.BoolOp .Or (b :: rest) pos) (tD X.K mb)) :
    PE X (.BoolOp .Or (a :: b :: rest) pos) (tD X.K fun L S => bnd (ma L S) fun x S1 => bnd (lft (asB x) S1) fun c S1 => if c = true then some (.d (.bl true), S1) else mb L S1) := by
  refine (pe_or ha hb).wk fun σ H Q h => ?_
  obtain ⟨g, H0, L, S, x, S', cr, e, q⟩ := h
  obtain ⟨dx, S1, e1, e⟩ := of_bnd e
  obtain ⟨k, S2, e2, e⟩ := of_bnd e
  obtain ⟨rfl, rfl⟩ := mB e2
  refine ⟨g, H0, L, S, _, _, cr, e1, fun v g1 H1 x1 s1 r1 => ⟨k, r1.blV, ?_⟩⟩
  cases k with
  | false => exact ⟨g1, H0, L, _, x, S', cr.ext x1 s1, e, fun u g2 H2 x2 s2 r2 => q u g2 H2 (x1.trans x2) s2 r2⟩
  | true =>
    cases e
    exact q _ g1 H1 x1 s1 (.bl true)
theorem pd_not (ha : PE X a (tD X.K ma)) : PE X (.UnaryOp .Not a pos) (tD X.K fun L S => bnd (ma L S) fun x S1 => lft ((asB x).map fun c => .d (.bl (!c))) S1) := by
  refine (pe_not ha).wk fun σ H Q h => ?_
  obtain ⟨g, H0, L, S, x, S', cr, e, q⟩ := h
  obtain ⟨dx, S1, e1, e⟩ := of_bnd e
  cases k : asB dx with
  | none => rw [k] at e; cases e
  | some c =>
    rw [k] at e
    cases e
    obtain ⟨rfl, _⟩ := mB (x := dx) (S := S) (S' := S) (c := c) (by rw [k]; rfl)
    exact ⟨g, H0, L, S, _, _, cr, e1, fun v g1 H1 x1 s1 r1 => ⟨c, r1.blV, q _ g1 H1 x1 s1 (.bl _)⟩⟩
theorem pt_notD (ha : PT X a (tDT X.K (mT ma))) : PT X (.UnaryOp .Not a pos) (tDT X.K (mT fun L S => bnd (ma L S) fun x S1 => lft ((asB x).map fun c => .d (.bl (!c))) S1)) := by
  refine (pt_not ha).wk fun σ H Q h => ?_
  obtain ⟨g, H0, L, S, x, S', cr, e, q⟩ := h
  obtain ⟨dy, S1, e1, e⟩ := of_bnd e
  obtain ⟨dx, S2, e0, e1⟩ := of_bnd e1
  cases k : asB dx with
  | none => rw [k] at e1; cases e1
  | some c =>
    rw [k] at e1
    cases e1
    cases e
    exact ⟨g, H0, L, S, c, _, cr, by show bnd _ _ = _; rw [e0, bnd_some, k]; rfl, q⟩
theorem pw_andD (ha : PT X a (tDT X.K (mT ma))) (hb : PW X (.BoolOp .And (b :: rest) pos) (tDT X.K (mT mb))) :
    PW X (.BoolOp .And (a :: b :: rest) pos) (tDT X.K (mT fun L S => bnd (ma L S) fun x S1 => bnd (lft (asB x) S1) fun c S1 => if c = true then mb L S1 else some (.d (.bl false), S1))) := by
  refine ⟨fun wh pins s σ H Q I h => (pw_and ha hb).run wh pins s σ H Q I ?_⟩
  obtain ⟨g, H0, L, S, x, S', cr, e, q⟩ := h
  obtain ⟨dy, S1, e1, e⟩ := of_bnd e
  obtain ⟨dx, S2, e0, e1⟩ := of_bnd e1
  obtain ⟨k, S3, e2, e1⟩ := of_bnd e1
  obtain ⟨rfl, rfl⟩ := mB e2
  refine ⟨g, H0, L, S, k, _, cr, by show bnd _ _ = _; rw [e0, bnd_some]; rfl, fun g1 H1 x1 s1 => ?_⟩
  cases k with
  | true => exact ⟨g1, H0, L, _, x, S', cr.ext x1 s1, by show bnd _ _ = _; rw [show mb L _ = _ from e1, bnd_some]; exact e, fun g2 H2 x2 s2 => q g2 H2 (x1.trans x2) s2⟩
  | false =>
    cases e1
    cases e
    exact q g1 H1 x1 s1
theorem pw_orD (ha : PT X a (tDT X.K (mT ma))) (hb : PW X (.BoolOp .Or (b :: rest) pos) (tDT X.K (mT mb))) :
    PW X (.BoolOp .Or (a :: b :: rest) pos) (tDT X.K (mT fun L S => bnd (ma L S) fun x S1 => bnd (lft (asB x) S1) fun c S1 => if c = true then some (.d (.bl true), S1) else mb L S1)) := by
  refine ⟨fun wh pins s σ H Q I h => (pw_or ha hb).run wh pins s σ H Q I ?_⟩
  obtain ⟨g, H0, L, S, x, S', cr, e, q⟩ := h
  obtain ⟨dy, S1, e1, e⟩ := of_bnd e
  obtain ⟨dx, S2, e0, e1⟩ := of_bnd e1
  obtain ⟨k, S3, e2, e1⟩ := of_bnd e1
  obtain ⟨rfl, rfl⟩ := mB e2
  refine ⟨g, H0, L, S, k, _, cr, by show bnd _ _ = _; rw [e0, bnd_some]; rfl, fun g1 H1 x1 s1 => ?_⟩
  cases k with
  | false => exact ⟨g1, H0, L, _, x, S', cr.ext x1 s1, by show bnd _ _ = _; rw [show mb L _ = _ from e1, bnd_some]; exact e, fun g2 H2 x2 s2 => q g2 H2 (x1.trans x2) s2⟩
  | true =>
    cases e1
    cases e
    exact q g1 H1 x1 s1
theorem pd_ife (hc : PT X c (tDT X.K (mT mc))) (ha : PE X a (tD X.K ma)) (hb : PE X b (tD X.K mb)) :
    PE X (.IfExp c a b pos) (tD X.K fun L S => bnd (mc L S) fun x S1 => bnd (lft (asB x) S1) fun c S1 => if c = true then ma L S1 else mb L S1) := by
  refine (pe_ifExp hc ha hb).wk fun σ H Q h => ?_
  obtain ⟨g, H0, L, S, x, S', cr, e, q⟩ := h
  obtain ⟨dx, S1, e0, e⟩ := of_bnd e
  obtain ⟨k, S3, e2, e⟩ := of_bnd e
  obtain ⟨rfl, rfl⟩ := mB e2
  refine ⟨g, H0, L, S, k, _, cr, by show bnd _ _ = _; rw [e0, bnd_some]; rfl, fun g1 H1 x1 s1 => ?_⟩
  cases k with
  | true => exact ⟨g1, H0, L, _, x, S', cr.ext x1 s1, e, fun u g2 H2 x2 s2 r2 => q u g2 H2 (x1.trans x2) s2 r2⟩
  | false => exact ⟨g1, H0, L, _, x, S', cr.ext x1 s1, e, fun u g2 H2 x2 s2 r2 => q u g2 H2 (x1.trans x2) s2 r2⟩
end
end PD

set_option Elab.async false
set_option linter.all false
set_option maxRecDepth 100000
set_option maxHeartbeats 4000000
/-! PD, part e: displays, items, slices, built-in calls. -/
namespace PD
open PySem PySem.Spec PyProof.Rows L2

mutual
theorem py_noDict : ∀ d : D, d.py.hasDict = false
  | .non => by simp [D.py, PyData.hasDict]
  | .bl _ => by simp [D.py, PyData.hasDict]
  | .int _ => by simp [D.py, PyData.hasDict]
  | .str _ => by simp [D.py, PyData.hasDict]
  | .ty _ => by simp [D.py, PyData.hasDict]
  | .cell _ => by simp [D.py, PyData.hasDict]
  | .tup xs => by simp [D.py, PyData.hasDict, pys_noDict xs]
  | .lst xs => by simp [D.py, PyData.hasDict, pys_noDict xs]
theorem pys_noDict : ∀ ds : List D, PyData.hasDictAll (D.pys ds) = false
  | [] => by simp [D.pys, PyData.hasDictAll]
  | x :: xs => by simp [D.pys, PyData.hasDictAll, py_noDict x, pys_noDict xs]
end

section
variable {X : Cx} {e a b c : Expr} {es : List Expr} {ma mb mc : Ms Va} {mes : Ms (List Va)} {pos : Pos}
theorem pda_nil : PA X [] (tDA X.K fun _ S => some ([], S)) := by
  refine pa_nil.wk fun σ H Q h => ?_
  obtain ⟨g, H0, L, S, x, S', cr, e, q⟩ := h
  cases e
  exact q [] g H Ext.refl cr.s .nil
theorem pda_cons (ha : PE X e (tD X.K ma)) (hr : PA X es (tDA X.K mes)) (hs : starEach (e :: es) X.env = (false, eval e X.env) :: starEach es X.env) :
    PA X (e :: es) (tDA X.K fun L S => bnd (ma L S) fun x S1 => bnd (mes L S1) fun xs S2 => some (x :: xs, S2)) := by
  refine (pa_cons ha hr hs).wk fun σ H Q h => ?_
  obtain ⟨g, H0, L, S, x, S', cr, e, q⟩ := h
  obtain ⟨dx, S1, e1, e⟩ := of_bnd e
  obtain ⟨dxs, S2, e2, e⟩ := of_bnd e
  cases e
  exact ⟨g, H0, L, S, dx, S1, cr, e1, fun v g1 H1 x1 s1 r1 => ⟨g1, H0, L, S1, dxs, _, cr.ext x1 s1, e2, fun vs g2 H2 x2 s2 r2 => q (v :: vs) g2 H2 (x1.trans x2) s2 (.cons (r1.ext x2 s1.cw) r2)⟩⟩
theorem RpVs.of {K : PySem.W.Frag} {g : Gh} {H : Hp} : ∀ {vs : List V} {ds : List D}, Rps K g H vs ds → RpVs K g H vs (ds.map .d)
  | _, _, .nil => .nil
  | _, _, .cons h r => .cons h (RpVs.of r)
theorem RpVs.app {K : PySem.W.Frag} {g : Gh} {H : Hp} : ∀ {vs ws : List V} {xs ys : List Va}, RpVs K g H vs xs → RpVs K g H ws ys → RpVs K g H (vs ++ ws) (xs ++ ys)
  | _, _, _, _, .nil, s => s
  | _, _, _, _, .cons h r, s => .cons h (RpVs.app r s)
/-- *e, .. -/
theorem pda_star (ha : PE X e (tD X.K ma)) (hr : PA X es (tDA X.K mes)) (hs : starEach (.Starred e p :: es) X.env = (true, eval e X.env) :: starEach es X.env) :
    PA X (.Starred e p :: es) (tDA X.K fun L S => bnd (ma L S) fun x S1 => bnd (lft (seqV x) S1) fun l S1 => bnd (mes L S1) fun xs S2 => if l.length ≤ 100000 then some (l.map .d ++ xs, S2) else none) := by
  refine (StX.pa_star ha hr hs).wk fun σ H Q h => ?_
  obtain ⟨g, H0, L, S, x, S', cr, e, q⟩ := h
  obtain ⟨dx, S1, e1, e⟩ := of_bnd e
  obtain ⟨l, S1', e3, e4⟩ := of_bnd e
  obtain ⟨k, eS⟩ := of_lft e3
  subst eS
  obtain ⟨dxs, S2, e2, e5⟩ := of_bnd e4
  clear e4 e
  have e := e5
  clear e5
  split at e
  · cases e
    refine ⟨g, H0, L, S, dx, _, cr, e1, fun v g1 H1 x1 s1 r1 => ?_⟩
    unfold seqV at k
    have fin : ∀ xs : List V, Rps X.K g1 H1 xs l → tDA X.K mes σ H1 fun ys H2 => Q (xs ++ ys) H2 := fun xs r => ⟨g1, H0, L, _, dxs, _, cr.ext x1 s1, e2, fun vs g2 H2 x2 s2 r2 =>
      q (xs ++ vs) g2 H2 (x1.trans x2) s2 ((RpVs.of (Rps.ext x2 s1.cw r)).app r2)⟩
    split at k
    · rename_i l' hl
      cases k
      obtain ⟨a, xs, rfl, t, r⟩ := r1.seqL hl
      exact ⟨a, xs, rfl, .inr t, fin xs r⟩
    · obtain ⟨a, xs, rfl, t, r⟩ := r1.seqT k
      exact ⟨a, xs, rfl, .inl t.sq, fin xs r⟩
  · cases e
theorem RpVs.length {K : PySem.W.Frag} {g : Gh} {H : Hp} : ∀ {vs : List V} {xs : List Va}, RpVs K g H vs xs → vs.length = xs.length
  | _, _, .nil => rfl
  | _, _, .cons _ r => by simp [RpVs.length r]
theorem unVs_len : ∀ {xs : List Va} {ds : List D}, unVs xs = some ds → ds.length = xs.length
  | [], _, e => by cases e; rfl
  | x :: r, ds, e => by
    unfold unVs at e
    split at e
    · split at e
      · cases e
        rename_i l hl
        simp [unVs_len hl]
      · cases e
    · cases e
/-- es written, n of them -/
theorem pd_tup {x1} (hl : ∀ L S xs S', mes L S = some (xs, S') → xs.length ≤ line) (h : PA X es (tDA X.K mes)) :
    PE X (.Tuple es x1 pos) (tD X.K fun L S => bnd (mes L S) fun xs S1 => lft ((unVs xs).map fun ds => .d (.tup ds)) S1) := by
  refine (pe_tup h).wk fun σ H Q h => ?_
  obtain ⟨g, H0, L, S, x, S', cr, e, q⟩ := h
  obtain ⟨xs, S1, e1, e⟩ := of_bnd e
  cases k : unVs xs with
  | none => rw [k] at e; cases e
  | some ds =>
    rw [k] at e
    cases e
    refine ⟨g, H0, L, S, xs, _, cr, e1, fun vs g1 H1 x1 s1 r1 => ⟨by rw [r1.length, line_eq]; exact hl _ _ _ _ e1, fun p hp => ?_⟩⟩
    obtain ⟨x2, s2, r2⟩ := new_tup s1 hp (r1.strict k)
    exact q _ g1 _ (x1.trans x2) s2 r2
theorem pf_disp (hl : ∀ L S xs S', mes L S = some (xs, S') → xs.length ≤ line) (h : PA X es (tDA X.K mes)) :
    PE X (.List es pos) (tDF X.K fun L S => bnd (mes L S) fun xs S1 => lft (unVs xs) S1) := by
  refine (pe_lst h).wk fun σ H Q h => ?_
  obtain ⟨g, H0, L, S, x, S', cr, e, q⟩ := h
  obtain ⟨xs, S1, e1, e⟩ := of_bnd e
  obtain ⟨k, rfl⟩ := of_lft e
  refine ⟨g, H0, L, S, xs, _, cr, e1, fun vs g1 H1 x1 s1 r1 => ⟨by rw [r1.length, line_eq]; exact hl _ _ _ _ e1, fun p hp => ?_⟩⟩
  obtain ⟨x2, s2⟩ := new_own (xs := vs) s1 hp
  refine q p vs _ _ (x1.trans x2) s2 upd_same (Rps.ext x2 s1.cw (r1.strict k)) (.inr rfl) (fun z => s1.nw hp (s1.cw p z)) ?_
  cases z : H p with
  | none => rfl
  | some o =>
    obtain ⟨o', z'⟩ := x1.there p o z
    rw [hp] at z'; cases z'
/-- a new list as a datum -/
theorem pd_fr {mf : Ms (List D)} (h : PE X e (tDF X.K mf)) : PE X e (tD X.K fun L S => bnd (mf L S) fun xs S1 => some (.d (.lst xs), S1)) := by
  refine h.wk fun σ H Q h => ?_
  obtain ⟨g, H0, L, S, x, S', cr, e, q⟩ := h
  obtain ⟨xs, S1, e1, e⟩ := of_bnd e
  cases e
  refine ⟨g, H0, L, S, xs, _, cr, e1, fun p vs g1 H1 x1 s1 hp r w n z => ?_⟩
  exact q _ (g1.minus p) H1 (x1.minus z) (s1.minus n) (Rp.lst (.inl ⟨.inl hp, fun w => w.2 rfl⟩) r.minus)

/-- a list of one's own is a cell from now on -/
theorem own_cell {K : PySem.W.Frag} {g : Gh} {H : Hp} {S : Store} {p : Addr} {vs : List V} {ds : List D} (s : Gs K g H S) (hp : H p = some (.lst vs)) (r : Rps K g H vs ds) (w : g.W p) (n : p ∉ g.ca) :
    Gs K ⟨g.ca ++ [p], g.W⟩ H (S ++ [ds]) ∧ Rp K ⟨g.ca ++ [p], g.W⟩ H (.ref p) (.cell S.length) := by
  have xw : ExtW g H ⟨g.ca ++ [p], g.W⟩ H := ⟨fun _ _ h w => ⟨h, w⟩, ⟨[p], rfl⟩⟩
  have sl := s.len
  refine ⟨⟨s.wi, fun a h => ?_, ?_, by simp [s.len], fun m a es h1 h2 => ?_⟩, .cell (by show (g.ca ++ [p])[S.length]? = some p; rw [← s.len, List.getElem?_append_right (Nat.le_refl _)]; simp)⟩
  · rcases List.mem_append.mp h with h | h
    · exact s.cw a h
    · rw [List.mem_singleton.mp h]; exact w
  · show (g.ca ++ [p]).Nodup
    rw [List.nodup_append]
    exact ⟨s.nd, by simp, fun a ha b hb z => by rw [List.mem_singleton.mp hb] at z; exact n (z ▸ ha)⟩
  · have h1 : (g.ca ++ [p])[m]? = some a := h1
    by_cases z : m < g.ca.length
    · rw [List.getElem?_append_left z] at h1
      rw [List.getElem?_append_left (by rw [← s.len]; exact z)] at h2
      obtain ⟨ys, h, r'⟩ := s.st m a es h1 h2
      exact ⟨ys, h, Rps.extW xw r'⟩
    · rw [List.getElem?_append_right (by omega)] at h1
      rw [List.getElem?_append_right (by omega)] at h2
      have z0 : m - g.ca.length = 0 := by
        have := (List.getElem?_eq_some_iff.mp h1).1
        simp at this
        omega
      rw [z0] at h1
      rw [show m - S.length = 0 by rw [← s.len]; exact z0] at h2
      cases h1; cases h2
      exact ⟨vs, hp, Rps.extW xw r⟩
/-- a new list as a new cell -/
theorem pd_nwc {mf : Ms (List D)} (h : PE X e (tDF X.K mf)) : PE X e (tD X.K fun L S => bnd (mf L S) fun xs S1 => some (.d (.cell S1.length), S1 ++ [xs])) := by
  refine h.wk fun σ H Q h => ?_
  obtain ⟨g, H0, L, S, x, S', cr, e, q⟩ := h
  obtain ⟨xs, S1, e1, e⟩ := of_bnd e
  cases e
  refine ⟨g, H0, L, S, xs, _, cr, e1, fun p vs g1 H1 x1 s1 hp r w n z => ?_⟩
  obtain ⟨s2, r2⟩ := own_cell s1 hp r w n
  obtain ⟨m, em⟩ := x1.ca
  refine q _ ⟨g1.ca ++ [p], g1.W⟩ H1 ⟨x1.keep, x1.there, x1.wk, ⟨m ++ [p], by show g1.ca ++ [p] = _; rw [em, List.append_assoc]⟩, fun c hc => ?_⟩ s2 r2
  rcases List.mem_append.mp (show c ∈ g1.ca ++ [p] from hc) with hc | hc
  · exact x1.new c hc
  · exact .inr (by rw [List.mem_singleton.mp hc]; exact z)

/-! ### items, slices -/
theorem atI_at {α : Type} {xs : List α} {i : Int} {x : α} (h : atI xs i = some x) : ∃ j, ixN xs.length i = some j ∧ xs[j]? = some x := by
  unfold atI at h
  cases e : ixN xs.length i with
  | none => rw [e] at h; cases h
  | some j => rw [e] at h; exact ⟨j, rfl, h⟩
theorem Rps.atI {K : PySem.W.Frag} {g : Gh} {H : Hp} {vs : List V} {ds : List D} {i : Int} {d : D} (r : Rps K g H vs ds) (h : L2.atI ds i = some d) : ∃ v, L2.atI vs i = some v ∧ Rp K g H v d := by
  obtain ⟨j, h1, h2⟩ := atI_at h
  obtain ⟨v, h3, h4⟩ := r.get h2
  refine ⟨v, ?_, h4⟩
  unfold L2.atI
  rw [r.length, h1]
  exact h3
theorem pd_ix (ha : PE X a (tD X.K ma)) (hb : PE X b (tD X.K mb)) (hs : PlainIx b) :
    PE X (.Subscript a b pos) (tD X.K fun L S => bnd (ma L S) fun x S1 => bnd (mb L S1) fun y S2 => lft ((ixV x y S2).map .d) S2) := by
  refine (pe_ix ix_seq ha hb hs).wk (tD_two fun g H S S' x y dx dy d Q s rx ry e q => ?_)
  obtain ⟨d, e2, rfl, rfl⟩ := of_mapd e
  unfold ixV at e2
  split at e2
  · rename_i i
    rw [ry.intV]
    split at e2
    · obtain ⟨p, xs, rfl, t, r⟩ := rx.seqT (ds := _) rfl
      obtain ⟨v, h1, h2⟩ := r.atI e2
      exact .inr (.inl ⟨p, xs, i, v, rfl, rfl, t.sq, h1, q _ _ _ Ext.refl s h2⟩)
    · obtain ⟨p, xs, rfl, t, r⟩ := rx.seqL (ds := _) rfl
      obtain ⟨v, h1, h2⟩ := r.atI e2
      exact .inl ⟨p, xs, i, v, rfl, rfl, t, h1, q _ _ _ Ext.refl s h2⟩
    · obtain ⟨p, xs, rfl, t, r⟩ := rx.seqL (ds := _) rfl
      obtain ⟨v, h1, h2⟩ := r.atI e2
      exact .inl ⟨p, xs, i, v, rfl, rfl, t, h1, q _ _ _ Ext.refl s h2⟩
    · rename_i n
      split at e2
      · rename_i ds hds
        have h' : Rp X.K g H x (.cell n) := rx
        cases h' with
        | @cell p _ hc =>
          obtain ⟨xs, h0, r⟩ := s.st n p ds hc hds
          obtain ⟨v, h1, h2⟩ := r.atI e2
          exact .inl ⟨p, xs, i, v, rfl, rfl, SqL.of h0, h1, q _ _ _ Ext.refl s h2⟩
      · cases e2
    · cases e2
  · cases e2
theorem po_noneD : PO X none (tDO X.K fun _ S => some (none, S)) := by
  refine po_none.wk fun σ H Q h => ?_
  obtain ⟨g, H0, L, S, x, S', cr, e, q⟩ := h
  cases e
  exact q g H Ext.refl cr.s
theorem po_someD (ha : PE X a (tD X.K ma)) : PO X (some a) (tDO X.K fun L S => bnd (ma L S) fun x S1 => lft (optI (some x)) S1) := by
  refine (po_some ha).wk fun σ H Q h => ?_
  obtain ⟨g, H0, L, S, x, S', cr, e, q⟩ := h
  obtain ⟨dx, S1, e1, e⟩ := of_bnd e
  obtain ⟨e2, rfl⟩ := of_lft e
  unfold optI at e2
  split at e2
  · rename_i z; cases z
  · rename_i i z
    cases z
    cases e2
    exact ⟨g, H0, L, S, _, _, cr, e1, fun v g1 H1 x1 s1 r1 => ⟨i, r1.intV, q g1 H1 x1 s1⟩⟩
  · cases e2
variable {lo hi : Option Expr} {ml mh : Ms (Option Int)}
theorem Rps.cut {K : PySem.W.Frag} {g : Gh} {H : Hp} {vs : List V} {ds : List D} (r : Rps K g H vs ds) (l h : Option Int) : Rps K g H (cutV vs l h) (cutD ds l h) := by
  unfold cutV cutD
  rw [r.length]
  exact (r.drop _).take _
theorem sIx_whole {α : Type} (xs : List α) (l h : Option Int) (z : HT.sIx xs.length 0 l = 0 ∧ HT.sIx xs.length xs.length h = xs.length) : (xs.drop (HT.sIx xs.length 0 l)).take (HT.sIx xs.length xs.length h - HT.sIx xs.length 0 l) = xs := by
  rw [z.1, z.2]
  simp
theorem pd_slc0 {p2} (ha : PE X a (tD X.K ma)) (hl : PO X lo (tDO X.K ml)) (hh : PO X hi (tDO X.K mh)) :
    PE X (.Subscript a (.Slice lo hi none p2) pos) (tD X.K fun L S => bnd (ma L S) fun x S1 => bnd (ml L S1) fun l S2 => bnd (mh L S2) fun h S3 => lft ((slcT0 x l h).map .d) S3) := by
  refine (pe_slice sl_tupA ha hl hh).wk fun σ H Q h => ?_
  obtain ⟨g, H0, L, S, x, S', cr, e, q⟩ := h
  obtain ⟨dx, S1, e1, e⟩ := of_bnd e
  obtain ⟨l, S2, e2, e⟩ := of_bnd e
  obtain ⟨u, S3, e3, e⟩ := of_bnd e
  obtain ⟨d, e4, rfl, rfl⟩ := of_mapd e
  refine ⟨g, H0, L, S, dx, S1, cr, e1, fun v g1 H1 x1 s1 r1 => ⟨g1, H0, L, S1, l, S2, cr.ext x1 s1, e2, fun g2 H2 x2 s2 => ⟨g2, H0, L, S2, u, _, (cr.ext x1 s1).ext x2 s2, e3, fun g3 H3 x3 s3 => ?_⟩⟩⟩
  have r3 := (r1.ext x2 s1.cw).ext x3 s2.cw
  have x13 := x1.trans (x2.trans x3)
  unfold slcT0 at e4
  split at e4
  · cases e4
    obtain ⟨p, xs, rfl, t, r⟩ := r3.seqT (ds := _) rfl
    refine ⟨p, xs, rfl, t.sq, fun z => ?_, fun _ p' hp => ?_⟩
    · refine q _ g3 H3 x13 s3 (.tup t ?_)
      have z2 := sIx_whole xs l u z
      have r4 := r.cut l u
      unfold cutV at r4
      rw [z2] at r4
      exact r4
    · obtain ⟨x4, s4, r4⟩ := new_tup s3 hp (r.cut l u)
      exact q _ g3 _ (x13.trans x4) s4 r4
  · cases e4
theorem pf_slc {p2} (ha : PE X a (tD X.K ma)) (hl : PO X lo (tDO X.K ml)) (hh : PO X hi (tDO X.K mh)) :
    PE X (.Subscript a (.Slice lo hi none p2) pos) (tDF X.K fun L S => bnd (ma L S) fun x S1 => bnd (ml L S1) fun l S2 => bnd (mh L S2) fun h S3 => lft (slcL x l h) S3) := by
  refine (pe_slice sl_list ha hl hh).wk fun σ H Q h => ?_
  obtain ⟨g, H0, L, S, x, S', cr, e, q⟩ := h
  obtain ⟨dx, S1, e1, e⟩ := of_bnd e
  obtain ⟨l, S2, e2, e⟩ := of_bnd e
  obtain ⟨u, S3, e3, e⟩ := of_bnd e
  obtain ⟨e4, rfl⟩ := of_lft e
  refine ⟨g, H0, L, S, dx, S1, cr, e1, fun v g1 H1 x1 s1 r1 => ⟨g1, H0, L, S1, l, S2, cr.ext x1 s1, e2, fun g2 H2 x2 s2 => ⟨g2, H0, L, S2, u, _, (cr.ext x1 s1).ext x2 s2, e3, fun g3 H3 x3 s3 => ?_⟩⟩⟩
  have r3 := (r1.ext x2 s1.cw).ext x3 s2.cw
  have x13 := x1.trans (x2.trans x3)
  unfold slcL at e4
  cases k : asL dx with
  | none => rw [k] at e4; cases e4
  | some ds =>
    rw [k] at e4
    cases e4
    obtain ⟨p, xs, rfl, t, r⟩ := r3.seqL k
    refine ⟨p, xs, rfl, t, fun p' hp => ?_⟩
    obtain ⟨x4, s4⟩ := new_own (xs := cutV xs l u) s3 hp
    refine q p' _ _ _ (x13.trans x4) s4 upd_same (Rps.ext x4 s3.cw (r.cut l u)) (.inr rfl) (fun z => s3.nw hp (s3.cw p' z)) ?_
    cases z : H p' with
    | none => rfl
    | some o =>
      obtain ⟨o', z'⟩ := x13.there p' o z
      rw [hp] at z'; cases z'
theorem _root_.L2.PE.or {X : Cx} {e : Expr} {t t' : TE} (h : PE X e t) (h' : PE X e t') : PE X e (fun σ H Q => t σ H Q ∨ t' σ H Q) :=
  ⟨fun pins s σ H Q I q => q.elim (h.run pins s σ H Q I) (h'.run pins s σ H Q I)⟩
theorem pd_slc {p2} (ha : PE X a (tD X.K ma)) (hl : PO X lo (tDO X.K ml)) (hh : PO X hi (tDO X.K mh)) :
    PE X (.Subscript a (.Slice lo hi none p2) pos) (tD X.K fun L S => bnd (ma L S) fun x S1 => bnd (ml L S1) fun l S2 => bnd (mh L S2) fun h S3 => lft ((slcT x l h).map .d) S3) := by
  refine (PE.or (pd_slc0 ha hl hh) (pd_fr (pf_slc ha hl hh))).wk fun σ H Q h => ?_
  obtain ⟨g, H0, L, S, x, S', cr, e, q⟩ := h
  obtain ⟨dx, S1, e1, e'⟩ := of_bnd e
  clear e
  obtain ⟨l, S2, e2, e''⟩ := of_bnd e'
  clear e'
  obtain ⟨u, S3, e3, e⟩ := of_bnd e''
  clear e''
  obtain ⟨d, e4, rfl, rfl⟩ := of_mapd e
  clear e
  unfold slcT at e4
  split at e4
  · cases e4
    refine .inl ⟨g, H0, L, S, _, _, cr, ?_, q⟩
    dsimp only
    rw [e1, bnd_some, e2, bnd_some, e3, bnd_some]; rfl
  · cases e4
    refine .inr ⟨g, H0, L, S, _, _, cr, ?_, q⟩
    dsimp only
    rw [e1, bnd_some, e2, bnd_some, e3, bnd_some]; rfl
  · cases e4
    refine .inr ⟨g, H0, L, S, _, _, cr, ?_, q⟩
    dsimp only
    rw [e1, bnd_some, e2, bnd_some, e3, bnd_some]; rfl
  · cases e4

/-! ### built-in functions -/
theorem intsOf_eq : ∀ {ds : List D} {l : List Int}, intsOf ds = some l → ds = l.map D.int
  | [], _, h => by cases h; rfl
  | d :: r, l, h => by
    cases d with
    | int i =>
      unfold intsOf at h
      split at h
      · rename_i m hm
        cases h
        rw [intsOf_eq hm]; rfl
      · cases h
    | _ => cases h
theorem boolsOf_eq : ∀ {ds : List D} {l : List Bool}, boolsOf ds = some l → ds = l.map D.bl
  | [], _, h => by cases h; rfl
  | d :: r, l, h => by
    cases d with
    | bl i =>
      unfold boolsOf at h
      split at h
      · rename_i m hm
        cases h
        rw [boolsOf_eq hm]; rfl
      · cases h
    | _ => cases h
theorem Rps.bools {K : PySem.W.Frag} {g : Gh} {H : Hp} : ∀ {vs : List V} {ns : List Bool}, Rps K g H vs (ns.map D.bl) → vs = ns.map V.bl
  | _, [], .nil => rfl
  | _, _ :: _, .cons (.bl _) r => by rw [Rps.bools r]; rfl
/-- repr of what may be shown -/
def rRepr (K : PySem.W.Frag) : List V → Hp → VK → Prop := fun xs H Q => ∃ a d, xs = [.ref a] ∧ Dp K H (.ref a) d ∧ d.showable = true ∧ d.hasDict = false ∧ d.depth ≤ 64 ∧ d.shown.length ≤ sizeLine ∧ Q (.str d.shown) H
theorem call_reprD (hg : X.A.guards = some []) (hu : X.A.units + 66 < cLine) : CallR X (.builtin "repr") (rRepr X.K) := by
  intro pins s σ H vs us Q I r h
  obtain ⟨a, d, rfl, hd, hs, hn, hp, hz, q⟩ := h
  cases r with
  | cons r1 r2 =>
    cases r2
    cases r1
    obtain ⟨as, rd⟩ := Dp.reads I d (.ref a) (.ref a) hd rfl
    refine repr_of_reads' rd hs (fun z => by rw [hn] at z; cases z) hg (by omega) (fun _ _ z => z) (fun h' u tk hk => ?_) hz
    exact ⟨.str d.shown, H, I.kept (h' := h') (t' := tk) hk, ⟨u, rfl⟩, q⟩
def rFact : List V → Hp → VK → Prop := fun vs H Q => ∃ a : Int, vs = [.int a] ∧ 0 ≤ a ∧ a ≤ 100 ∧ Q (.int ((Builtin.Math.factorialNat a.toNat : Nat) : Int)) H
theorem fact_small : ∀ n : Nat, n ≤ 100 → (Builtin.Math.factorialNat n).log2 < bitsLine := by decide +kernel
theorem cr_fact : CallR X (.builtin "math.factorial") rFact := by
  intro pins s σ H vs us Q I r h
  obtain ⟨a, rfl, h0, h1, q⟩ := h
  cases r with
  | cons r1 r2 =>
  cases r2
  obtain ⟨t, rfl⟩ := r1
  have k1 : (100 : Int) ≤ Builtin.Math.maxSsize := by decide +kernel
  have k2 : (100 : Int) ≤ Builtin.Math.manyFactors := by decide +kernel
  exact PySem.W.mg_factorial (by omega) (by omega) (by omega) (by rw [Int.natAbs_natCast]; exact fact_small _ (by omega)) ⟨.int _, H, I.tok _, ⟨_, rfl⟩, q⟩
/-- the names of the built-in functions -/
def Bi.id : Bi → String
  | .len => "len" | .abs => "abs" | .gcd => "math.gcd" | .min2 => "min" | .max2 => "max" | .int1 => "int" | .str1 => "str" | .tuple => "tuple" | .all => "all" | .any => "any" | .sum => "sum" | .divmod => "divmod" | .repr => "repr" | .fact => "math.factorial"
def Bi.val : Bi → Value
  | .int1 => .type "int" | .str1 => .type "str" | .tuple => .type "tuple" | b => .builtin b.id
def rBi (K : PySem.W.Frag) : Bi → List V → Hp → VK → Prop
  | .len => fun xs H Q => ∃ p ys, xs = [.ref p] ∧ (SqL K H p ys ∨ SqT K H p ys) ∧ Q (.int ys.length) H
  | .abs => fun xs H Q => ∃ i, xs = [.int i] ∧ Q (.int (if i < 0 then -i else i)) H
  | .gcd => rGcd
  | .min2 => fun xs H Q => ∃ i j, xs = [.int i, .int j] ∧ Q (.int (if j < i then j else i)) H
  | .max2 => fun xs H Q => ∃ i j, xs = [.int i, .int j] ∧ Q (.int (if j > i then j else i)) H
  | .int1 => fun xs H Q => (∃ i, xs = [.int i] ∧ Q (.int i) H) ∨ ∃ k, xs = [.bl k] ∧ Q (.int (if k then 1 else 0)) H
  | .str1 => fun xs H Q => ∃ i, xs = [.int i] ∧ i.natAbs.log2 < 1920 ∧ Q (.str (toString i)) H
  | .tuple => fun xs H Q => ∃ p ys, xs = [.ref p] ∧ ((SqL K H p ys ∧ ∀ l, H l = none → Q (.ref l) (upd H l (.tup ys))) ∨ (SqT K H p ys ∧ Q (.ref p) H))
  | .all => rAll K
  | .any => rAny K
  | .sum => rSum K
  | .fact => rFact
  | .divmod => fun xs H Q => ∃ i j, xs = [.int i, .int j] ∧ CDiv i j ∧ ∀ p, H p = none → Q (.ref p) (upd H p (.tup [.int (i / j), .int (i % j)]))
  | .repr => fun xs H Q => rRepr K xs H Q ∨ (∃ i, xs = [.int i] ∧ i.natAbs.log2 < 1920 ∧ Q (.str (toString i)) H) ∨ (∃ b, xs = [.bl b] ∧ Q (.str (if b then "True" else "False")) H) ∨ (xs = [.non] ∧ Q (.str "None") H)
theorem call_bi (b : Bi) (hc : X.calm = true) (hg : X.A.guards = some []) (hu : X.A.units + 66 < cLine) : CallR X b.val (rBi X.K b) := by
  cases b with
  | len => exact call_len_seq
  | abs => exact call_abs
  | gcd => exact cr_gcd
  | min2 => exact call_min2 hc
  | max2 => exact call_max2 hc
  | int1 => exact call_int1
  | str1 => exact call_str_int
  | tuple => exact call_tuple_of
  | all => exact cr_all hc
  | any => exact cr_any hc
  | sum => exact cr_sum hc
  | divmod => exact call_divmod
  | fact => exact cr_fact
  | repr => exact (call_reprD hg hu).or (SkE.call_repr_int.or (call_repr_bool.or call_repr_none))
theorem RpVs.one {K : PySem.W.Frag} {g : Gh} {H : Hp} {vs : List V} {x : Va} (h : RpVs K g H vs [x]) : ∃ v, vs = [v] ∧ RpV K g H v x := by
  cases h with
  | cons r t => cases t; exact ⟨_, rfl, r⟩
theorem RpVs.two {K : PySem.W.Frag} {g : Gh} {H : Hp} {vs : List V} {x y : Va} (h : RpVs K g H vs [x, y]) : ∃ v u, vs = [v, u] ∧ RpV K g H v x ∧ RpV K g H u y := by
  cases h with
  | cons r t => cases t with
    | cons r' t => cases t; exact ⟨_, _, rfl, r, r'⟩
theorem shOk_of {d : D} (h : shOk d = true) : d.pure = true ∧ d.py.showable = true ∧ d.py.depth ≤ 64 ∧ d.py.shown.length ≤ sizeLine := by
  simp only [shOk, Bool.and_eq_true, decide_eq_true_eq] at h
  exact ⟨h.1.1.1, h.1.1.2, h.1.2, by rw [line_eq]; exact h.2⟩
theorem rBi_ok {K : PySem.W.Frag} (b : Bi) (g : Gh) (H : Hp) (S : Store) (vs : List V) (xs : List Va) (d : D) (Q : VK) (s : Gs K g H S) (r : RpVs K g H vs xs) (e : biV b xs = some d)
    (q : ∀ v g' H', Ext g H g' H' → Gs K g' H' S → Rp K g' H' v d → Q v H') : rBi K b vs H Q := by
  unfold biV at e
  split at e
  · cases e
    obtain ⟨v, rfl, rv⟩ := r.one
    obtain ⟨p, ys, rfl, t, rs⟩ := rv.seqT (ds := _) rfl
    exact ⟨p, ys, rfl, .inr t.sq, by rw [rs.length]; exact q _ _ _ Ext.refl s (.int _)⟩
  · cases e
    obtain ⟨v, rfl, rv⟩ := r.one
    obtain ⟨p, ys, rfl, t, rs⟩ := rv.seqL (ds := _) rfl
    exact ⟨p, ys, rfl, .inl t, by rw [rs.length]; exact q _ _ _ Ext.refl s (.int _)⟩
  · cases e
    obtain ⟨v, rfl, rv⟩ := r.one
    obtain ⟨p, ys, rfl, t, rs⟩ := rv.seqL (ds := _) rfl
    exact ⟨p, ys, rfl, .inl t, by rw [rs.length]; exact q _ _ _ Ext.refl s (.int _)⟩
  · cases e
    obtain ⟨v, rfl, rv⟩ := r.one
    rw [rv.intV]
    exact ⟨_, rfl, q _ _ _ Ext.refl s (.int _)⟩
  · cases e
    obtain ⟨v, u, rfl, rv, ru⟩ := r.two
    rw [rv.intV, ru.intV]
    exact ⟨_, _, rfl, q _ _ _ Ext.refl s (.int _)⟩
  · cases e
    obtain ⟨v, u, rfl, rv, ru⟩ := r.two
    rw [rv.intV, ru.intV]
    exact ⟨_, _, rfl, q _ _ _ Ext.refl s (.int _)⟩
  · cases e
    obtain ⟨v, u, rfl, rv, ru⟩ := r.two
    rw [rv.intV, ru.intV]
    exact ⟨_, _, rfl, q _ _ _ Ext.refl s (.int _)⟩
  · cases e
    obtain ⟨v, rfl, rv⟩ := r.one
    rw [rv.intV]
    exact .inl ⟨_, rfl, q _ _ _ Ext.refl s (.int _)⟩
  · cases e
    obtain ⟨v, rfl, rv⟩ := r.one
    rw [rv.blV]
    exact .inr ⟨_, rfl, q _ _ _ Ext.refl s (.int _)⟩
  · split at e
    · cases e
      rename_i h
      obtain ⟨v, rfl, rv⟩ := r.one
      rw [rv.intV]
      exact ⟨_, rfl, h, q _ _ _ Ext.refl s (.str _)⟩
    · cases e
  · cases e
    obtain ⟨v, rfl, rv⟩ := r.one
    obtain ⟨p, ys, rfl, t, rs⟩ := rv.seqT (ds := _) rfl
    exact ⟨p, ys, rfl, .inr ⟨t.sq, q _ _ _ Ext.refl s (.tup t rs)⟩⟩
  · cases e
    obtain ⟨v, rfl, rv⟩ := r.one
    obtain ⟨p, ys, rfl, t, rs⟩ := rv.seqL (ds := _) rfl
    refine ⟨p, ys, rfl, .inl ⟨t, fun l hl => ?_⟩⟩
    obtain ⟨x2, s2, r2⟩ := new_tup s hl rs
    exact q _ _ _ x2 s2 r2
  · cases e
    obtain ⟨v, rfl, rv⟩ := r.one
    obtain ⟨p, ys, rfl, t, rs⟩ := rv.seqL (ds := _) rfl
    refine ⟨p, ys, rfl, .inl ⟨t, fun l hl => ?_⟩⟩
    obtain ⟨x2, s2, r2⟩ := new_tup s hl rs
    exact q _ _ _ x2 s2 r2
  · split at e
    · rename_i ds hds
      cases k : boolsOf ds with
      | none => rw [k] at e; cases e
      | some l =>
        rw [k] at e
        cases e
        obtain ⟨v, rfl, rv⟩ := r.one
        obtain ⟨p, ys, rfl, t, rs⟩ := rv.seqL hds
        rw [boolsOf_eq k] at rs
        rw [rs.bools] at t
        exact ⟨p, l, rfl, t, q _ _ _ Ext.refl s (.bl _)⟩
    · cases e
  · split at e
    · rename_i ds hds
      cases k : boolsOf ds with
      | none => rw [k] at e; cases e
      | some l =>
        rw [k] at e
        cases e
        obtain ⟨v, rfl, rv⟩ := r.one
        obtain ⟨p, ys, rfl, t, rs⟩ := rv.seqL hds
        rw [boolsOf_eq k] at rs
        rw [rs.bools] at t
        exact ⟨p, l, rfl, t, q _ _ _ Ext.refl s (.bl _)⟩
    · cases e
  · split at e
    · rename_i ds hds
      cases k : intsOf ds with
      | none => rw [k] at e; cases e
      | some l =>
        rw [k] at e
        cases e
        obtain ⟨v, rfl, rv⟩ := r.one
        obtain ⟨p, ys, rfl, t, rs⟩ := rv.seqL hds
        rw [intsOf_eq k] at rs
        rw [rs.ints] at t
        exact ⟨p, l, rfl, t, q _ _ _ Ext.refl s (.int _)⟩
    · cases e
  · split at e
    · cases e
      rename_i h
      obtain ⟨v, rfl, rv⟩ := r.one
      rw [rv.intV]
      exact ⟨_, rfl, h.1, h.2, q _ _ _ Ext.refl s (.int _)⟩
    · cases e
  · split at e
    · cases e
      rename_i h
      obtain ⟨v, u, rfl, rv, ru⟩ := r.two
      rw [rv.intV, ru.intV]
      refine ⟨_, _, rfl, h, fun p hp => ?_⟩
      obtain ⟨x2, s2, r2⟩ := new_tup s hp (Rps.cons (.int _) (.cons (.int _) .nil))
      exact q _ _ _ x2 s2 r2
    · cases e
  · split at e
    · cases e
      rename_i h
      obtain ⟨p1, p2, p3, p4⟩ := shOk_of h
      obtain ⟨v, rfl, rv⟩ := r.one
      obtain ⟨p, ys, rfl, t, rs⟩ := rv.seqT (ds := _) rfl
      exact .inl ⟨p, _, rfl, rv.dp p1, p2, py_noDict _, p3, p4, q _ _ _ Ext.refl s (.str _)⟩
    · cases e
  · split at e
    · cases e
      rename_i h
      obtain ⟨p1, p2, p3, p4⟩ := shOk_of h
      obtain ⟨v, rfl, rv⟩ := r.one
      obtain ⟨p, ys, rfl, t, rs⟩ := rv.seqL (ds := _) rfl
      exact .inl ⟨p, _, rfl, rv.dp p1, p2, py_noDict _, p3, p4, q _ _ _ Ext.refl s (.str _)⟩
    · cases e
  · split at e
    · cases e
      rename_i h
      obtain ⟨p1, p2, p3, p4⟩ := shOk_of h
      obtain ⟨v, rfl, rv⟩ := r.one
      obtain ⟨p, ys, rfl, t, rs⟩ := rv.seqL (ds := _) rfl
      exact .inl ⟨p, _, rfl, rv.dp p1, p2, py_noDict _, p3, p4, q _ _ _ Ext.refl s (.str _)⟩
    · cases e
  · split at e
    · cases e
      rename_i h
      obtain ⟨v, rfl, rv⟩ := r.one
      rw [rv.intV]
      exact .inr (.inl ⟨_, rfl, h, q _ _ _ Ext.refl s (.str _)⟩)
    · cases e
  · cases e
    obtain ⟨v, rfl, rv⟩ := r.one
    rw [rv.blV]
    exact .inr (.inr (.inl ⟨_, rfl, q _ _ _ Ext.refl s (.str _)⟩))
  · cases e
    obtain ⟨v, rfl, rv⟩ := r.one
    rw [rv.nonV]
    exact .inr (.inr (.inr ⟨rfl, q _ _ _ Ext.refl s (.str _)⟩))
  · cases e
end
end PD

set_option Elab.async false
set_option linter.all false
set_option maxRecDepth 100000
set_option maxHeartbeats 1000000
/-! PD, part et: enumerate of a tuple. -/
namespace PD
open PySem PySem.Spec PyProof.Rows L2
section
variable {prog : Program} {w : World} {A : Around} {E : Value → Shared → Prop} {s : Shared}
theorem tupIter_ne {h : Heap} {it t : Addr} {i : Nat} {items : Array Value} (h1 : h.IsTupleIter it t i) (h2 : h.IsTuple t items) : t ≠ it := by
  rintro rfl
  obtain ⟨o, e, c, d⟩ := h1
  obtain ⟨o', e', c', _⟩ := h2
  rw [e] at e'
  cases e'
  rw [c] at c'
  exact absurd c' (by decide)
theorem draws_tup (hh : A.handled = none) (it t : Addr) (items : Array Value) : Draws prog w A it [it, t] items.size (fun i x => items[i]? = some x) (fun i h => h.IsTupleIter it t i ∧ h.IsTuple t items) where
  live := fun i h st => let ⟨⟨o, e, _⟩, _⟩ := st; ⟨o, e⟩
  frame := fun i h h' st k => ⟨st.1.at fun o e => k it (by simp) o e, let ⟨o, e, r⟩ := st.2; ⟨o, k t (by simp) o e, r⟩⟩
  item := fun i s Q E hi st hQ => by
    refine RZ.nextOf_tuple_item st.1 st.2 (x := items[i]) (by simp [hi]) fun h' it' sb => ?_
    have ne := tupIter_ne st.1 st.2
    exact hQ _ h' s.toks (by simp [hi]) ⟨it', let ⟨o, e, r⟩ := st.2; ⟨o, (sb.2 t ne).trans e, r⟩⟩ sb
  done := fun s Q E st hE => RZ.nextOf_tuple_end hh st.1 st.2 (by simp) hE

theorem pyNext_enum_endT {e it a : Addr} {i : Nat} {c : Int} {items : Array Value} {old : Value} {Q : Option Value → Shared → Prop} (hh : A.handled = none) (he : IsEnum s.heap e it c old) (hit : s.heap.IsTupleIter it a i) (ht : s.heap.IsTuple a items) (hx : items[i]? = none)
    (hQ : ∀ h', Heap.ExtBut it s.heap h' → Q none { s with heap := h' }) : wpAny (model prog w) A (pyNext (.ref e)) Q E s := by
  have hT : s.TypeIs (.ref e) "enumerate" := ⟨_, he, rfl⟩
  unfold pyNext
  refine wpAny_bind (wpAny_attempt (wpAny_callSpecial?_slot (name := Str.ofString "__next__") hT F.slot_enumerate_next
    (wpAny_call_entry F.slot_enumerate_next hT F.entry_enumerate_next ?_ (F.args_enumerate_next_1 _))))
  show wpAny _ _ (field (.ref e) 2 >>= _) _ _ _
  refine wpAny_bind (wpAny_field he rfl (x := .ref it) rfl ?_)
  refine wpAny_bind (RZ.nextOf_tuple_end hh hit ht hx fun h' x he' hx' => ?_)
  obtain ⟨o, ho, hc⟩ := hx'
  refine wpAny_bind (wpAny_isInstance (T := "StopIteration") (b := true) ⟨o, ho, hc⟩ isSubtype_stop ?_)
  exact wpAny_pure (hQ _ he')
theorem meets_enum_tup (l : Addr) (items : Array Value) :
    Meets (Builtin.«enumerate.__new__» ⟨[.type "enumerate", .ref l], []⟩) (fun _ R s => s.heap.IsTuple l items ∧
      R (.ok (.ret (.ref (s.heap.push { cls := .type "tuple_iterator", data := .fields #[.ref l, .int 0 0] }).objs.size)))
        { s with heap := (s.heap.push { cls := .type "tuple_iterator", data := .fields #[.ref l, .int 0 0] }).push { cls := .type "enumerate", data := .fields #[.none, .bool false, .ref s.heap.objs.size, rawInt 0, .none, .none] } }) :=
  .of_wp fun prog w A R s h => by
    obtain ⟨hp, g, d, tk, os⟩ := s; obtain ⟨hL, h⟩ := h
    have hsub := sub_enumerate
    obtain ⟨⟨c, dct, dt, sl⟩, hl, hc, n, hd⟩ := id hL
    replace hc : c = .type "tuple" := hc
    replace hd : dt = .seq items n := hd
    subst hc hd
    replace hl : Heap.get? hp l = some ⟨.type "tuple", dct, .seq items n, sl⟩ := hl
    wp_walk using AutoSeq1.wpAny_loadPart' hl
    refine wpAny_stack_any fun st => wpAny_pure ?_
    split
    · rename_i c _ _ _ _ _
      cases (c == Value.type "enumerate")
      · wp_walk using AutoSeq1.wpAny_loadPart' hl, wpAny_pyIter_tuple hL
        exact ⟨_, rfl, h⟩
      · wp_walk using AutoSeq1.wpAny_loadPart' hl, wpAny_pyIter_tuple hL
        exact ⟨_, rfl, h⟩
    · wp_walk using AutoSeq1.wpAny_loadPart' hl, wpAny_pyIter_tuple hL
      exact ⟨_, rfl, h⟩
theorem call_enum_tup {l : Addr} {items : Array Value} {Q : Value → Shared → Prop} (hL : s.heap.IsTuple l items)
    (h : ∀ h', IsEnum h' (s.heap.objs.size + 1) s.heap.objs.size 0 .none → h'.IsTupleIter s.heap.objs.size l 0 → h'.objs.size = s.heap.objs.size + 2 →
      (∀ b o, s.heap.get? b = some o → h'.get? b = some o) → Q (.ref (s.heap.objs.size + 1)) { s with heap := h' }) :
    wpAny (model prog w) A (call (.type "enumerate") [.ref l]) Q E s := by
  refine callType_new F.called_enumerate (by decide) (F.typeCall_enumerate_1 _) (F.newCall_enumerate_1 _) (fun obj => F.args_object_init_2 obj _) F.entry_enumerate_new
    (meets_enum_tup l items) ⟨hL, ?_⟩
  have hz : (s.heap.push { cls := .type "tuple_iterator", data := .fields #[.ref l, .int 0 0] }).objs.size = s.heap.objs.size + 1 := Heap.size_push ..
  show _ ∧ _
  rw [hz]
  have he : IsEnum ((s.heap.push { cls := .type "tuple_iterator", data := .fields #[.ref l, .int 0 0] }).push
      { cls := .type "enumerate", data := .fields #[.none, .bool false, .ref s.heap.objs.size, rawInt 0, .none, .none] }) (s.heap.objs.size + 1) s.heap.objs.size 0 .none := by
    have := Heap.get?_push_size (s.heap.push { cls := .type "tuple_iterator", data := .fields #[.ref l, .int 0 0] })
      (o := { cls := .type "enumerate", data := .fields #[.none, .bool false, .ref s.heap.objs.size, rawInt 0, .none, .none] }) rfl
    rw [hz] at this; exact this
  refine ⟨⟨_, he, rfl⟩, h _ he ⟨_, Heap.get?_push_of_some _ (Heap.get?_push_size _ rfl), rfl, rfl⟩ (by rw [Heap.size_push, hz]) fun b o x => Heap.get?_push_of_some _ (Heap.get?_push_of_some _ x)⟩
end
/-- the tuple at a, each item in a new pair -/
def IteT (K : PySem.W.Frag) (a : Addr) : It :=
  ⟨fun i H => ∃ (xs : List V) (x : V), SqT K H a xs ∧ xs[i]? = some x, fun i H v H' => ∃ T x, v = .ref T ∧ H T = none ∧ H' = upd H T (.tup [.int (i : Nat), x]) ∧ ∀ xs, SqT K H a xs → xs[i]? = some x, fun i H => ∃ xs : List V, SqT K H a xs ∧ xs.length ≤ i⟩
theorem turn_enumT {P : Program} {w : World} {K : PySem.W.Frag} {elts : List Expr} {kk : Nat} {tpos : Pos} (a e it : Addr) :
    Turn P w K (.Tuple elts kk tpos) (IteT K a) [e, it] e (fun i h => (∃ old, IsEnum h e it ((i : Nat) : Int) old) ∧ h.IsTupleIter it a i ∧ e ≠ it) where
  mem := by simp
  obj := fun i h st b hb => by
    obtain ⟨⟨old, he⟩, ⟨o, ho, hc, hd⟩, _⟩ := st
    have e' : b = e ∨ b = it := by simpa using hb
    rcases e' with z | z
    · rw [z]; exact ⟨_, he, fun v q => nomatch q⟩
    · rw [z]; exact ⟨o, ho, fun v q => by rw [hd] at q; cases q⟩
  keep := fun i h h' st k => let ⟨⟨old, he⟩, hi, hne⟩ := st; ⟨⟨old, k e (by simp) _ he⟩, hi.at fun o q => k it (by simp) o q, hne⟩
  item := by
    intro X hP hw hK hc i pins s σ H E I hf st hg
    subst hP hw hK
    obtain ⟨⟨old, he⟩, hit, hne⟩ := st
    obtain ⟨xs, x, hq, hx⟩ := hg
    obtain ⟨its, rv, p, hz⟩ := I.tuple hq
    obtain ⟨u, hu, ru⟩ := rv.get hx
    have hel : e < s.heap.objs.size := Heap.lt_size he
    have hil : it < s.heap.objs.size := by obtain ⟨_, q, _⟩ := hit; exact Heap.lt_size q
    have hea : e ≠ a := by
      rintro rfl
      obtain ⟨o', e', c', _⟩ := p
      rw [show s.heap.get? e = _ from he] at e'
      cases e'
      have z : ("enumerate" : String) = "tuple" := by injection c'
      exact absurd z (by decide)
    refine wpAny_pyNext_enum_itemD (draws_tup (A := X.A.in1) (show X.A.in1.handled = none from I.ok.hd hc) it a its.toArray) he ⟨hit, p⟩ (i := i) (by have := (List.getElem?_eq_some_iff.mp hu).1; simpa using this) hne (by simp [hne, hea]) fun x' h' tk px ho hit' hT hsz hk => ?_
    have ex : x' = u := by
      have px : its.toArray[i]? = some x' := px
      rw [List.getElem?_toArray, hu] at px
      cases px; rfl
    subst ex
    refine ⟨_, rfl, wpAny_letOwnedTupleGo_enum (s := { s with heap := h', toks := tk + 1 }) ho fun h'' he' sb => ?_⟩
    have hT2 : h''.get? s.heap.objs.size = some { cls := .type "tuple", data := .seq #[.int i tk, x'] } := (sb.2 _ (Nat.ne_of_gt hel)).trans hT
    have new : ObjOk X.prog X.w (upd H s.heap.objs.size (.tup [.int (i : Nat), x])) h'' s.heap.objs.size (.tup [.int (i : Nat), x]) :=
      ⟨by show 2 ≤ sizeLine; decide, [.int i tk, x'], .cons ⟨_, rfl⟩ (.cons ru .nil), ⟨_, hT2, rfl, _, rfl⟩⟩
    have I1 : Inv X pins σ (upd H s.heap.objs.size (.tup [.int (i : Nat), x])) { s with heap := h'', toks := tk + 1 } :=
      I.turnedNew (ch := [e, it]) (fun b ob hb q => (sb.2 b (fun z => hb (by simp [z]))).trans (hk b ob (fun z => hb (by simp [z])) (fun z => hb (by simp [z])) q)) hf (Nat.le_refl _) new
    refine ⟨.ref s.heap.objs.size, _, I1, rfl, ⟨_, x, rfl, I.hok.fresh (Nat.le_refl _), rfl, fun ys hy => by rw [I.tuple_inj hy hq]; exact hx⟩, ⟨⟨x', ?_⟩, hit'.1.at fun o q => (sb.2 it (Ne.symm hne)).trans q, hne⟩, fun b hb => ?_⟩
    · have e1 : ((i + 1 : Nat) : Int) = (i : Int) + 1 := by omega
      rw [e1]; exact he'
    · have hb' : b < s.heap.objs.size := by
        have e' : b = e ∨ b = it := by simpa using hb
        rcases e' with z | z
        · rw [z]; exact hel
        · rw [z]; exact hil
      rw [upd_ne (Nat.ne_of_lt hb')]
      exact (hf b hb).1
  done := by
    intro X hP hw hK hc i pins s σ H E I hf st hg
    subst hP hw hK
    obtain ⟨⟨old, he⟩, hit, hne⟩ := st
    obtain ⟨xs, hq, hx⟩ := hg
    obtain ⟨its, rv, p, hz⟩ := I.tuple hq
    obtain ⟨f0, f1, f2, f3, f4, f5⟩ := hf it (by simp)
    have hl := rv.length
    refine pyNext_enum_endT (it := it) (a := a) (i := i) (items := its.toArray) (I.ok.hd hc) he hit p (by simp; omega) fun h' eb => ⟨rfl, I.turned (t' := s.toks) (fun b o hb q => eb b o hb q) f0 f1 f3 f4 f5⟩
  self := fun A i s Q E st h => let ⟨⟨_, he⟩, _⟩ := st; wpAny_pyIter_enum he h
def iEnumT (K : PySem.W.Frag) (ta : TA) : TI := fun σ H R => ta σ H fun vs H1 => ∃ a xs, vs = [.ref a] ∧ SqT K H1 a xs ∧ R (IteT K a) H1
theorem pi_enumT {X : Cx} {e : Expr} {ta : TA} {p pos tpos : Pos} {elts : List Expr} {kk : Nat} (hg : Gl X "enumerate") (hm : X.mg "enumerate" = none) (ha : PA X [e] ta) (hs : starEach [e] X.env = [(false, eval e X.env)] := by rfl) :
    PI X (.Tuple elts kk tpos) (.Call (.Name "enumerate" p) [e] [] pos) (iEnumT X.K ta) := by
  refine ⟨fun pins s σ H R I h => ?_⟩
  refine Call_ (ld_blt I hg hm boot_enumerate (PyProof.Rows.callWith_type1 (thn (ha.run pos pins s σ H _ I h) fun us s1 ⟨vs, H1, I1, r1, q1⟩ => ?_) hs rfl))
  obtain ⟨a, xs, ex, hq, q⟩ := q1
  subst ex
  cases r1 with
  | cons r rr =>
    cases rr
    cases r
    obtain ⟨its, rv, p', hz⟩ := I1.tuple hq
    refine call_enum_tup p' fun h' he hit hsz hk => wpAny_pyIter_enum he ?_
    have I2 : Inv X pins σ H1 { s1 with heap := h' } := I1.kept (t' := s1.toks) hk
    refine ⟨s1.heap.objs.size + 1, [s1.heap.objs.size + 1, s1.heap.objs.size], _, _, H1, rfl, I2, turn_enumT a (s1.heap.objs.size + 1) s1.heap.objs.size, ⟨⟨.none, he⟩, hit, Nat.succ_ne_self _⟩, fun b hb => ?_, q⟩
    have e' : b = s1.heap.objs.size + 1 ∨ b = s1.heap.objs.size := by simpa using hb
    have hle : s1.heap.objs.size ≤ b := by
      rcases e' with z | z
      · rw [z]; exact Nat.le_add_right _ _
      · rw [z]; exact Nat.le_refl _
    exact I1.fpOk hle (I1.hok.fresh hle)
end PD

set_option Elab.async false
set_option linter.all false
set_option maxRecDepth 100000
set_option maxHeartbeats 4000000
/-! PD, part f: calls, lists made, what is walked, targets. -/
namespace PD
open PySem PySem.Spec PyProof.Rows L2

section
variable {X : Cx} {e a b c : Expr} {es : List Expr} {ma mb mc : Ms Va} {mes : Ms (List Va)} {mf : Ms (List D)} {pos p : Pos} {x : Str}

/-! ### calls of built-in functions -/
theorem tDA_bi {K : PySem.W.Frag} {f : List Va → Option D} {r : List V → Hp → VK → Prop}
    (hr : ∀ g H S vs xs d (Q : VK), Gs K g H S → RpVs K g H vs xs → f xs = some d → (∀ v g' H', Ext g H g' H' → Gs K g' H' S → Rp K g' H' v d → Q v H') → r vs H Q)
    (σ : L2.St) (H : Hp) (Q : VK) (h : tD K (fun L S => bnd (mes L S) fun xs S1 => lft ((f xs).map .d) S1) σ H Q) : tCB r (tDA K mes) σ H Q := by
  obtain ⟨g, H0, L, S, x, S', cr, e, q⟩ := h
  obtain ⟨xs, S1, e1, e⟩ := of_bnd e
  obtain ⟨d, e2, rfl, rfl⟩ := of_mapd e
  exact ⟨g, H0, L, S, xs, _, cr, e1, fun vs g1 H1 x1 s1 r1 => hr g1 H1 _ vs xs d Q s1 r1 e2 fun w g3 H3 x3 s3 r3 => q w g3 H3 (x1.trans x3) s3 r3⟩
theorem pd_bi (bi : Bi) (hc : X.calm = true) (hg : X.A.guards = some []) (hu : X.A.units + 66 < cLine) (hgl : Gl X x)
    (hm : (X.mg x = none ∧ bootBuiltins x = some bi.val ∧ x ≠ "__name__") ∨ (X.mg x = some (.builtin bi.id) ∧ bi.val = .builtin bi.id)) (ha : PA X (e :: es) (tDA X.K mes)) (hdb : (x == ("__debug__" : Str)) = false)
    (he : starEach (e :: es) X.env = (false, eval e X.env) :: starEach es X.env) (hpl : (backTo pos (starEach es X.env)).any (·.1) = false) :
    PE X (.Call (.Name x p) (e :: es) [] pos) (tD X.K fun L S => bnd (mes L S) fun xs S1 => lft ((biV bi xs).map .d) S1) := by
  have hcall := call_bi (X := X) bi hc hg hu
  have w := tDA_bi (mes := mes) (K := X.K) (f := biV bi) (r := rBi X.K bi) (fun g H S vs xs d Q s r e q => rBi_ok bi g H S vs xs d Q s r e q)
  rcases hm with ⟨h1, h2, h3⟩ | ⟨h1, h2⟩
  · cases bi with
    | int1 => exact (pe_callTy hcall hgl h1 h2 ha h3 hdb he hpl).wk w
    | str1 => exact (pe_callTy hcall hgl h1 h2 ha h3 hdb he hpl).wk w
    | tuple => exact (pe_callTy hcall hgl h1 h2 ha h3 hdb he hpl).wk w
    | _ => exact (pe_callB hcall hgl h1 h2 ha h3 hdb he hpl).wk w
  · rw [h2] at hcall
    exact (pe_callBfun hcall hgl h1 ha hdb he hpl).wk w
theorem tDA_bic {K : PySem.W.Frag} {f : List Va → Store → Option D} {r : List V → Hp → VK → Prop}
    (hr : ∀ g H S vs xs d (Q : VK), Gs K g H S → RpVs K g H vs xs → f xs S = some d → (∀ v g' H', Ext g H g' H' → Gs K g' H' S → Rp K g' H' v d → Q v H') → r vs H Q)
    (σ : L2.St) (H : Hp) (Q : VK) (h : tD K (fun L S => bnd (mes L S) fun xs S1 => lft ((f xs S1).map .d) S1) σ H Q) : tCB r (tDA K mes) σ H Q := by
  obtain ⟨g, H0, L, S, x, S', cr, e, q⟩ := h
  obtain ⟨xs, S1, e1, e⟩ := of_bnd e
  obtain ⟨d, e2, rfl, rfl⟩ := of_mapd e
  exact ⟨g, H0, L, S, xs, _, cr, e1, fun vs g1 H1 x1 s1 r1 => hr g1 H1 _ vs xs d Q s1 r1 e2 fun w g3 H3 x3 s3 r3 => q w g3 H3 (x1.trans x3) s3 r3⟩
theorem rBic_ok {K : PySem.W.Frag} (b : Bi) (g : Gh) (H : Hp) (S : Store) (vs : List V) (xs : List Va) (d : D) (Q : VK) (s : Gs K g H S) (r : RpVs K g H vs xs) (e : bicV b xs S = some d)
    (q : ∀ v g' H', Ext g H g' H' → Gs K g' H' S → Rp K g' H' v d → Q v H') : rBi K b vs H Q := by
  unfold bicV at e
  split at e
  · rename_i n
    cases k : S[n]? with
    | none => rw [k] at e; cases e
    | some ds =>
      rw [k] at e
      cases e
      obtain ⟨v, rfl, rv⟩ := r.one
      have rv : Rp K g H v (.cell n) := rv
      cases rv with
      | @cell a _ hc =>
        obtain ⟨ys, h2, rs⟩ := s.st n a ds hc k
        exact ⟨a, ys, rfl, .inl (SqL.of h2), by rw [rs.length]; exact q _ _ _ Ext.refl s (.int _)⟩
  · rename_i n
    cases k : S[n]? with
    | none => rw [k] at e; cases e
    | some ds =>
      rw [k] at e
      cases e
      obtain ⟨v, rfl, rv⟩ := r.one
      have rv : Rp K g H v (.cell n) := rv
      cases rv with
      | @cell a _ hc =>
        obtain ⟨ys, h2, rs⟩ := s.st n a ds hc k
        refine ⟨a, ys, rfl, .inl ⟨SqL.of h2, fun l hl => ?_⟩⟩
        obtain ⟨x2, s2, r2⟩ := new_tup s hl rs
        exact q _ _ _ x2 s2 r2
  · cases e
theorem pd_bic (bi : Bi) (hc : X.calm = true) (hg : X.A.guards = some []) (hu : X.A.units + 66 < cLine) (hgl : Gl X x)
    (hm : (X.mg x = none ∧ bootBuiltins x = some bi.val ∧ x ≠ "__name__") ∨ (X.mg x = some (.builtin bi.id) ∧ bi.val = .builtin bi.id)) (ha : PA X (e :: es) (tDA X.K mes)) (hdb : (x == ("__debug__" : Str)) = false)
    (he : starEach (e :: es) X.env = (false, eval e X.env) :: starEach es X.env) (hpl : (backTo pos (starEach es X.env)).any (·.1) = false) :
    PE X (.Call (.Name x p) (e :: es) [] pos) (tD X.K fun L S => bnd (mes L S) fun xs S1 => lft ((bicV bi xs S1).map .d) S1) := by
  have hcall := call_bi (X := X) bi hc hg hu
  have w := tDA_bic (mes := mes) (K := X.K) (f := bicV bi) (r := rBi X.K bi) (fun g H S vs xs d Q s r e q => rBic_ok bi g H S vs xs d Q s r e q)
  rcases hm with ⟨h1, h2, h3⟩ | ⟨h1, h2⟩
  · cases bi with
    | int1 => exact (pe_callTy hcall hgl h1 h2 ha h3 hdb he hpl).wk w
    | str1 => exact (pe_callTy hcall hgl h1 h2 ha h3 hdb he hpl).wk w
    | tuple => exact (pe_callTy hcall hgl h1 h2 ha h3 hdb he hpl).wk w
    | _ => exact (pe_callB hcall hgl h1 h2 ha h3 hdb he hpl).wk w
  · rw [h2] at hcall
    exact (pe_callBfun hcall hgl h1 ha hdb he hpl).wk w
theorem tyX_of {K : PySem.W.Frag} {g : Gh} {H : Hp} {v : V} {x : Va} {n : String} (r : RpV K g H v x) (h : tyN x = some n) : TyX K H v (.type n) := by
  cases x with
  | b xs =>
    cases h
    obtain ⟨a, ys, rfl, ha, _⟩ := r
    exact .base (.lst ha)
  | d y =>
    cases y with
    | non => cases h; rw [r.nonV]; exact .base .non
    | bl k => cases h; rw [r.blV]; exact .base (.bl k)
    | int k => cases h; rw [r.intV]; exact .base (.int k)
    | str k => cases h; rw [r.strV]; exact .base (.str k)
    | ty k => cases h
    | cell k => cases h
    | tup xs =>
      cases h
      obtain ⟨a, ys, rfl, t, _⟩ := r.seqT (ds := xs) rfl
      rcases t with ⟨t | ⟨o, t⟩, _⟩ | ⟨o, its, n, h1, h2, _⟩
      · exact .base (.tup t)
      · exact .fTuple t
      · exact .kTuple h1 h2
    | lst xs =>
      cases h
      have r' : Rp K g H v (.lst xs) := r
      cases r' with
      | lst t _ =>
        rcases t with ⟨t | ⟨o, t⟩, _⟩ | ⟨its, n, h1, _⟩
        · exact .base (.lst t)
        · exact .base (.frz t)
        · exact .kList h1 rfl
theorem pd_isi {t : String} {y : Str} {p2 : Pos} (hgl : Gl X x) (hm : X.mg x = none) (hb : bootBuiltins x = some (.builtin "isinstance")) (hx : x ≠ "__name__") (hgy : Gl X y) (hmy : X.mg y = none) (hby : bootBuiltins y = some (.type t)) (hy : y ≠ "__name__")
    (hdb : (x == ("__debug__" : Str)) = false) (hdy : (y == ("__debug__" : Str)) = false) (ha : PE X a (tD X.K ma))
    (he : starEach (a :: [.Name y p2]) X.env = (false, eval a X.env) :: starEach [.Name y p2] X.env) :
    PE X (.Call (.Name x p) (a :: [.Name y p2]) [] pos) (tD X.K fun L S => bnd (ma L S) fun x S1 => lft ((isiV x t).map fun c => .d (.bl c)) S1) := by
  refine (pe_callB call_isi hgl hm hb (pa_cons ha (pa_cons (pe_bltn (v := .ty t) hgy hmy hby rfl hy hdy) pa_nil rfl) he) hx hdb he rfl).wk fun σ H Q h => ?_
  obtain ⟨g, H0, L, S, x, S', cr, e, q⟩ := h
  obtain ⟨dx, S1, e1, e⟩ := of_bnd e
  obtain ⟨k, e2, rfl, rfl⟩ := of_mapb e
  refine ⟨g, H0, L, S, dx, _, cr, e1, fun v g1 H1 x1 s1 r1 => ?_⟩
  unfold isiV at e2
  split at e2
  · rename_i n hn
    exact ⟨v, .ty t, .type n, .type t, k, rfl, .ty t, tyX_of r1 hn, kit_ty e2, q _ g1 H1 x1 s1 (.bl k)⟩
  · cases e2

/-! ### lists made -/
theorem new_fresh {K : PySem.W.Frag} {g g1 : Gh} {H H1 : Hp} {S1 : Store} {xs : List V} {ds : List D} {Q : VK} (x1 : Ext g H g1 H1) (s1 : Gs K g1 H1 S1) (r : Rps K g1 H1 xs ds) {p : Addr} (hp : H1 p = none)
    (q : ∀ p vs g' H', Ext g H g' H' → Gs K g' H' S1 → H' p = some (.lst vs) → Rps K g' H' vs ds → g'.W p → p ∉ g'.ca → H p = none → Q (.ref p) H') : Q (.ref p) (upd H1 p (.lst xs)) := by
  obtain ⟨x2, s2⟩ := new_own (xs := xs) s1 hp
  refine q p xs _ _ (x1.trans x2) s2 upd_same (Rps.ext x2 s1.cw r) (.inr rfl) (fun z => s1.nw hp (s1.cw p z)) ?_
  cases z : H p with
  | none => rfl
  | some o =>
    obtain ⟨o', z'⟩ := x1.there p o z
    rw [hp] at z'; cases z'
theorem pf_list (hgl : Gl X "list") (hm : X.mg "list" = none) (ha : PE X a (tD X.K ma)) (he : starEach (a :: []) X.env = (false, eval a X.env) :: starEach [] X.env) :
    PE X (.Call (.Name "list" p) [a] [] pos) (tDF X.K fun L S => bnd (ma L S) fun x S1 => lft (match asL x with | some l => some l | none => asT x) S1) := by
  refine (pe_callTy call_list_of hgl hm (by decide +kernel) (pa_cons ha pa_nil he) (by decide) (by decide) he rfl).wk fun σ H Q h => ?_
  obtain ⟨g, H0, L, S, x, S', cr, e, q⟩ := h
  obtain ⟨dx, S1, e1, e⟩ := of_bnd e
  obtain ⟨e2, rfl⟩ := of_lft e
  refine ⟨g, H0, L, S, dx, _, cr, e1, fun v g1 H1 x1 s1 r1 => ?_⟩
  split at e2
  · rename_i l hl
    cases e2
    obtain ⟨p, xs, rfl, t, r⟩ := r1.seqL hl
    exact ⟨p, xs, rfl, .inl t, fun l hl => new_fresh x1 s1 r hl q⟩
  · obtain ⟨p, xs, rfl, t, r⟩ := r1.seqT e2
    exact ⟨p, xs, rfl, .inr t.sq, fun l hl => new_fresh x1 s1 r hl q⟩
theorem RpV.lx {K : PySem.W.Frag} {g : Gh} {H : Hp} {v : V} {x : Va} {ds : List D} (h : RpV K g H v x) (e : asL x = some ds) : ∃ a xs, v = .ref a ∧ LX K H a xs ∧ Rps K g H xs ds := by
  cases x with
  | b ys =>
    cases e
    obtain ⟨a, xs, rfl, ha, r, _⟩ := h
    exact ⟨a, xs, rfl, .inl (.inl ha), r⟩
  | d y =>
    cases y with
    | lst ys =>
      cases e
      have h' : Rp K g H v (.lst ds) := h
      cases h' with
      | lst l r => exact ⟨_, _, rfl, l.elim (fun z => .inl z.1) .inr, r⟩
    | _ => cases e
def rCatX (K : PySem.W.Frag) : R2 := fun x y H Q => ∃ l b xs zs, x = .ref l ∧ y = .ref b ∧ LX K H l xs ∧ LX K H b zs ∧ xs.length + zs.length ≤ sizeLine ∧ ∀ p, H p = none → Q (.ref p) (upd H p (.lst (xs ++ zs)))
theorem op_catX : OpR X (binaryOp .Add) (rCatX X.K) := by
  intro pins s σ H x y v u Q I rx ry h
  obtain ⟨l, b, xs, zs, rfl, rfl, h1, h2, hz, q⟩ := h
  cases rx
  cases ry
  obtain ⟨z1, ts, n, r1, e1⟩ := h1.obj I
  obtain ⟨z2, us, m, r2, e2⟩ := h2.obj I
  have l1 := r1.length
  have l2 := r2.length
  refine PySem.P.add_list e1 e2 ?_ (by simp only [List.size_toArray]; omega)
  rw [show ts.toArray ++ us.toArray = (ts ++ us).toArray by simp]
  exact ⟨.ref _, _, I.lnew (t' := s.toks) (r1.append r2) (by simp only [List.length_append]; omega), rfl, q _ I.fresh⟩
theorem pf_cat (ha : PE X a (tD X.K ma)) (hb : PE X b (tD X.K mb)) :
    PE X (.BinOp a .Add b pos) (tDF X.K fun L S => bnd (ma L S) fun x S1 => bnd (mb L S1) fun y S2 => lft (match asL x, asL y with
      | some l, some m => if l.length + m.length ≤ line then some (l ++ m) else none
      | _, _ => none) S2) := by
  refine (pe_op op_catX ha hb).wk fun σ H Q h => ?_
  obtain ⟨g, H0, L, S, x, S', cr, e, q⟩ := h
  obtain ⟨dx, S1, e1, e⟩ := of_bnd e
  obtain ⟨dy, S2, e2, e⟩ := of_bnd e
  obtain ⟨e3, rfl⟩ := of_lft e
  refine ⟨g, H0, L, S, dx, S1, cr, e1, fun v g1 H1 x1 s1 r1 => ⟨g1, H0, L, S1, dy, _, cr.ext x1 s1, e2, fun u g2 H2 x2 s2 r2 => ?_⟩⟩
  have r1' := r1.ext x2 s1.cw
  split at e3
  · rename_i l m hl hm
    split at e3
    · rename_i hz
      cases e3
      obtain ⟨p1, xs, rfl, t1, q1⟩ := r1'.lx hl
      obtain ⟨p2, ys, rfl, t2, q2⟩ := r2.lx hm
      exact ⟨p1, p2, xs, ys, rfl, rfl, t1, t2, by rw [q1.length, q2.length, line_eq]; exact hz, fun p hp => new_fresh (x1.trans x2) s2 (q1.append q2) hp q⟩
    · cases e3
  · cases e3
theorem Rps.rep {K : PySem.W.Frag} {g : Gh} {H : Hp} {vs : List V} {ds : List D} (r : Rps K g H vs ds) : ∀ k : Nat, Rps K g H (List.replicate k vs).flatten (List.replicate k ds).flatten
  | 0 => .nil
  | k + 1 => by
    rw [List.replicate_succ, List.replicate_succ, List.flatten_cons, List.flatten_cons]
    exact r.append (Rps.rep r k)
theorem pf_rep (ha : PE X a (tDF X.K mf)) (hb : PE X b (tD X.K mb)) :
    PE X (.BinOp a .Mult b pos) (tDF X.K fun L S => bnd (mf L S) fun l S1 => bnd (mb L S1) fun y S2 => lft (match y with
      | .d (.int k) => if 0 ≤ k ∧ k < 2 ^ 63 ∧ l.length * k.toNat ≤ line then some (List.replicate k.toNat l).flatten else none
      | _ => none) S2) := by
  refine (pe_op op_rep ha hb).wk fun σ H Q h => ?_
  obtain ⟨g, H0, L, S, x, S', cr, e, q⟩ := h
  obtain ⟨ds, S1, e1, e⟩ := of_bnd e
  obtain ⟨dy, S2, e2, e⟩ := of_bnd e
  obtain ⟨e3, rfl⟩ := of_lft e
  refine ⟨g, H0, L, S, ds, S1, cr, e1, fun p vs g1 H1 x1 s1 hp r1 w n z => ⟨g1, H0, L, S1, dy, _, cr.ext x1 s1, e2, fun u g2 H2 x2 s2 r2 => ?_⟩⟩
  split at e3
  · rename_i k
    split at e3
    · rename_i hz
      cases e3
      rw [r2.intV]
      have r1' := Rps.ext x2 s1.cw r1
      exact ⟨p, k, vs, rfl, rfl, x2.keep _ _ hp n, by omega, hz.2.1, by rw [r1.length, line_eq]; exact hz.2.2, fun p hp => new_fresh (x1.trans x2) s2 (r1'.rep _) hp q⟩
    · cases e3
  · cases e3

/-! ### what is walked -/
/-- the iterator goes through ds, as long as what is told stands (B: and nothing but cells is written) -/
def JSeq (K : PySem.W.Frag) (B : Bool) (g : Gh) (H : Hp) (J : L2.It) (ds : List D) : Prop :=
  ∀ g' H' S', (if B = true then Ext g H g' H' else ExtW g H g' H') → Gs K g' H' S' →
    (∀ (i : Nat) d, ds[i]? = some d → J.go i H' ∧ ∀ x H'', J.yld i H' x H'' → Ext g' H' g' H'' ∧ Gs K g' H'' S' ∧ Rp K g' H'' x d) ∧ J.stop ds.length H'
def tDI (K : PySem.W.Frag) (B : Bool) (m : Ms (List D)) : TI := fun σ H R => ∃ g H0 L S ds S', Cr K g H0 σ H L S ∧ m L S = some (ds, S') ∧
  ∀ J g' H', Ext g H g' H' → Gs K g' H' S' → JSeq K B g' H' J ds → R J H'
theorem PI.or {tg : Expr} {t t' : TI} (h : PI X tg e t) (h' : PI X tg e t') : PI X tg e (fun σ H R => t σ H R ∨ t' σ H R) :=
  ⟨fun pins s σ H R I q => q.elim (h.run pins s σ H R I) (h'.run pins s σ H R I)⟩
theorem PI.wk {tg : Expr} {t t' : TI} (h : PI X tg e t) (w : ∀ σ H R, t' σ H R → t σ H R) : PI X tg e t' := ⟨fun pins s σ H R I q => h.run pins s σ H R I (w σ H R q)⟩
theorem jseq_list {K : PySem.W.Frag} {g : Gh} {H : Hp} {a : Addr} {xs : List V} {ds : List D} (t : LstAt K g H a xs) (r : Rps K g H xs ds) : JSeq K false g H (Itl K a) ds := by
  intro g' H' S' w s
  have w : ExtW g H g' H' := by simpa using w
  have t' : SqL K H' a xs := (show LstAt K g' H' a xs from t.elim (fun z => .inl (Rd.extW w z.1 z.2)) .inr).sq
  have r' := Rps.extW w r
  refine ⟨fun i d hd => ?_, ⟨xs, t', by rw [r.length]; exact Nat.le_refl _⟩⟩
  obtain ⟨v, h1, h2⟩ := r'.get hd
  exact ⟨⟨xs, v, t', h1⟩, fun x H'' y => by
    obtain ⟨rfl, y⟩ := y
    have := y xs t'
    rw [h1] at this
    cases this
    exact ⟨Ext.refl, s, h2⟩⟩
theorem jseq_tup {K : PySem.W.Frag} {g : Gh} {H : Hp} {a : Addr} {xs : List V} {ds : List D} (t : TupAt K g H a xs) (r : Rps K g H xs ds) : JSeq K false g H (Itt K a) ds := by
  intro g' H' S' w s
  have w : ExtW g H g' H' := by simpa using w
  have t' : SqT K H' a xs := (show TupAt K g' H' a xs from t.elim (fun z => .inl (Rd.extW w z.1 z.2)) .inr).sq
  have r' := Rps.extW w r
  refine ⟨fun i d hd => ?_, ⟨xs, t', by rw [r.length]; exact Nat.le_refl _⟩⟩
  obtain ⟨v, h1, h2⟩ := r'.get hd
  exact ⟨⟨xs, v, t', h1⟩, fun x H'' y => by
    obtain ⟨rfl, y⟩ := y
    have := y xs t'
    rw [h1] at this
    cases this
    exact ⟨Ext.refl, s, h2⟩⟩
theorem jseq_own {K : PySem.W.Frag} {g : Gh} {H : Hp} {a : Addr} {xs : List V} {ds : List D} {S : Store} (s0 : Gs K g H S) (t : H a = some (.lst xs)) (n : a ∉ g.ca) (r : Rps K g H xs ds) : JSeq K true g H (Itl K a) ds := by
  intro g' H' S' w s
  have w : Ext g H g' H' := by simpa using w
  have t' : SqL K H' a xs := SqL.of (w.keep _ _ t n)
  have r' := Rps.ext w s0.cw r
  refine ⟨fun i d hd => ?_, ⟨xs, t', by rw [r.length]; exact Nat.le_refl _⟩⟩
  obtain ⟨v, h1, h2⟩ := r'.get hd
  exact ⟨⟨xs, v, t', h1⟩, fun x H'' y => by
    obtain ⟨rfl, y⟩ := y
    have := y xs t'
    rw [h1] at this
    cases this
    exact ⟨Ext.refl, s, h2⟩⟩
theorem jseq_range {K : PySem.W.Frag} {g : Gh} {H : Hp} (lo : Int) (n : Nat) (B : Bool) : JSeq K B g H (Itr lo n) ((List.range n).map fun i => D.int (lo + (i : Nat))) := by
  intro g' H' S' w s
  refine ⟨fun i d hd => ?_, by show n ≤ _; simp⟩
  rw [List.getElem?_map] at hd
  have hi : i < n := by
    cases q : (List.range n)[i]? with
    | none => rw [q] at hd; cases hd
    | some j => simpa using (List.getElem?_eq_some_iff.mp q).1
  rw [List.getElem?_range hi] at hd
  cases hd
  exact ⟨hi, fun x H'' y => by
    obtain ⟨rfl, rfl⟩ := y
    exact ⟨Ext.refl, s, .int _⟩⟩
theorem JSeq.weak {K : PySem.W.Frag} {g : Gh} {H : Hp} {J : L2.It} {ds : List D} {S : Store} (s0 : Gs K g H S) (j : JSeq K false g H J ds) : JSeq K true g H J ds := by
  intro g' H' S' w s
  have w : Ext g H g' H' := by simpa using w
  exact j g' H' S' (by simpa using w.w s0.cw) s
theorem tDI_weak {K : PySem.W.Frag} {m : Ms (List D)} (σ : L2.St) (H : Hp) (R : L2.It → Hp → Prop) (h : tDI K true m σ H R) : tDI K false m σ H R := by
  obtain ⟨g, H0, L, S, ds, S', cr, e, q⟩ := h
  exact ⟨g, H0, L, S, ds, S', cr, e, fun J g' H' x s j => q J g' H' x s (j.weak s)⟩
variable {tg : Expr}
theorem pi_seq (ha : PE X a (tD X.K ma)) :
    PI X tg a (tDI X.K false fun L S => bnd (ma L S) fun x S1 => lft (match x with | .d (.lst l) => some l | .d (.tup l) => some l | _ => none) S1) := by
  refine PI.wk (PI.or (pi_list ha) (pi_tup ha)) fun σ H R h => ?_
  obtain ⟨g, H0, L, S, ds, S', cr, e, q⟩ := h
  obtain ⟨dx, S1, e1, e⟩ := of_bnd e
  obtain ⟨e2, rfl⟩ := of_lft e
  split at e2
  · cases e2
    refine .inl ⟨g, H0, L, S, _, _, cr, e1, fun v g1 H1 x1 s1 r1 => ?_⟩
    have r' : Rp X.K g1 H1 v (.lst ds) := r1
    cases r' with
    | lst t r => exact ⟨_, rfl, ⟨_, t.sq⟩, q _ g1 H1 x1 s1 (jseq_list t r)⟩
  · cases e2
    refine .inr ⟨g, H0, L, S, _, _, cr, e1, fun v g1 H1 x1 s1 r1 => ?_⟩
    have r' : Rp X.K g1 H1 v (.tup ds) := r1
    cases r' with
    | tup t r => exact ⟨_, rfl, ⟨_, t.sq⟩, q _ g1 H1 x1 s1 (jseq_tup t r)⟩
  · cases e2
theorem pi_bor {i : Nat} {x : Str} (hN : X.N[i]? = some x) (hv : Vis X.env.scope x) (hd : (x == ("__debug__" : Str)) = false) (hcd : (x == ("__classdict__" : Str)) = false) :
    PI X tg (.Name x pos) (tDI X.K true fun L S => match L[i]? with | some (.own xs) => some (xs, S) | _ => none) := by
  refine PI.wk (pi_list (pe_var hN hv hd hcd)) fun σ H R h => ?_
  obtain ⟨g, H0, L, S, ds, S', cr, e, q⟩ := h
  dsimp only at e
  split at e
  · rename_i ds hd
    cases e
    obtain ⟨a, xs, h1, h2, r, w, n, _⟩ := cr.l.own i ds hd
    exact ⟨_, h1, a, rfl, ⟨xs, SqL.of h2⟩, q _ g H Ext.refl cr.s (jseq_own cr.s h2 n r)⟩
  · cases e
theorem pi_rng1 (hg : Gl X "range") (hm : X.mg "range" = none) (ha : PE X a (tD X.K ma)) (he : starEach [a] X.env = (false, eval a X.env) :: starEach [] X.env) :
    PI X tg (.Call (.Name "range" p) [a] [] pos) (tDI X.K false fun L S => bnd (ma L S) fun x S1 => lft (match x with
      | .d (.int n) => if n < 2 ^ 62 ∧ -(2 ^ 62) ≤ n then some ((List.range n.toNat).map fun i => .int (i : Nat)) else none
      | _ => none) S1) := by
  refine PI.wk (pi_range1 hg hm (pa_cons ha pa_nil he) he) fun σ H R h => ?_
  obtain ⟨g, H0, L, S, ds, S', cr, e, q⟩ := h
  obtain ⟨dx, S1, e1, e⟩ := of_bnd e
  obtain ⟨e2, rfl⟩ := of_lft e
  refine ⟨g, H0, L, S, dx, _, cr, e1, fun v g1 H1 x1 s1 r1 => ?_⟩
  split at e2
  · rename_i n
    split at e2
    · rename_i hz
      cases e2
      have j := jseq_range (K := X.K) (g := g1) (H := H1) 0 n.toNat false
      simp only [Int.zero_add] at j
      exact ⟨n, by rw [r1.intV], hz.2, hz.1, q _ g1 H1 x1 s1 j⟩
    · cases e2
  · cases e2
theorem pi_rng2 (hg : Gl X "range") (hm : X.mg "range" = none) (ha : PE X a (tD X.K ma)) (hb : PE X b (tD X.K mb)) (he : starEach [a, b] X.env = (false, eval a X.env) :: starEach [b] X.env) (he2 : starEach [b] X.env = (false, eval b X.env) :: starEach [] X.env) :
    PI X tg (.Call (.Name "range" p) [a, b] [] pos) (tDI X.K false fun L S => bnd (ma L S) fun x S1 => bnd (mb L S1) fun y S2 => lft (match x, y with
      | .d (.int m), .d (.int n) => if n < 2 ^ 62 ∧ -(2 ^ 62) ≤ n ∧ m < 2 ^ 62 ∧ -(2 ^ 62) ≤ m then some ((List.range (n - m).toNat).map fun i => .int (m + (i : Nat))) else none
      | _, _ => none) S2) := by
  refine PI.wk (pi_range2 hg hm (pa_cons ha (pa_cons hb pa_nil he2) he) (by rw [he, he2]; rfl) he2) fun σ H R h => ?_
  obtain ⟨g, H0, L, S, ds, S', cr, e, q⟩ := h
  obtain ⟨dx, S1, e1, e⟩ := of_bnd e
  obtain ⟨dy, S2, e2, e⟩ := of_bnd e
  obtain ⟨e3, rfl⟩ := of_lft e
  refine ⟨g, H0, L, S, dx, S1, cr, e1, fun v g1 H1 x1 s1 r1 => ⟨g1, H0, L, S1, dy, _, cr.ext x1 s1, e2, fun u g2 H2 x2 s2 r2 => ?_⟩⟩
  split at e3
  · split at e3
    · rename_i hz
      cases e3
      exact ⟨_, _, by rw [(r1.ext x2 s1.cw).intV, r2.intV], ⟨hz.2.2.2, hz.2.2.1, hz.2.1, hz.1⟩, q _ g2 H2 (x1.trans x2) s2 (jseq_range _ _ false)⟩
    · cases e3
  · cases e3
theorem jseq_rangeC {K : PySem.W.Frag} {g : Gh} {H : Hp} (lo c : Int) (n : Nat) (B : Bool) : JSeq K B g H (Itc lo c n) ((List.range n).map fun i => D.int (lo + (i : Nat) * c)) := by
  intro g' H' S' w s
  refine ⟨fun i d hd => ?_, by show n ≤ _; simp⟩
  rw [List.getElem?_map] at hd
  have hi : i < n := by
    cases q : (List.range n)[i]? with
    | none => rw [q] at hd; cases hd
    | some j => simpa using (List.getElem?_eq_some_iff.mp q).1
  rw [List.getElem?_range hi] at hd
  cases hd
  exact ⟨hi, fun x H'' y => by
    obtain ⟨rfl, rfl⟩ := y
    exact ⟨Ext.refl, s, .int _⟩⟩
theorem pi_rng3 (hg : Gl X "range") (hm : X.mg "range" = none) (ha : PE X a (tD X.K ma)) (hb : PE X b (tD X.K mb)) (hc : PE X c (tD X.K mc)) (he : starEach [a, b, c] X.env = (false, eval a X.env) :: starEach [b, c] X.env) (he2 : starEach [b, c] X.env = (false, eval b X.env) :: starEach [c] X.env) (he3 : starEach [c] X.env = (false, eval c X.env) :: starEach [] X.env) :
    PI X tg (.Call (.Name "range" p) [a, b, c] [] pos) (tDI X.K false fun L S => bnd (ma L S) fun x S1 => bnd (mb L S1) fun y S2 => bnd (mc L S2) fun z S3 => lft (match x, y, z with
      | .d (.int m), .d (.int n), .d (.int k) => if k = -1 ∧ n < 2 ^ 62 ∧ -(2 ^ 62) ≤ n ∧ m < 2 ^ 62 ∧ -(2 ^ 62) ≤ m then some ((List.range (m - n).toNat).map fun i => .int (m + (i : Nat) * (-1))) else none
      | _, _, _ => none) S3) := by
  refine PI.wk (pi_range3 hg hm (pa_cons ha (pa_cons hb (pa_cons hc pa_nil he3) he2) he) he (by rw [he2, he3]; rfl)) fun σ H R h => ?_
  obtain ⟨g, H0, L, S, ds, S', cr, e, q⟩ := h
  obtain ⟨dx, S1, e1, e⟩ := of_bnd e
  obtain ⟨dy, S2, e2, e⟩ := of_bnd e
  obtain ⟨dz, S3, e3, e⟩ := of_bnd e
  obtain ⟨e4, rfl⟩ := of_lft e
  refine ⟨g, H0, L, S, dx, S1, cr, e1, fun v g1 H1 x1 s1 r1 => ⟨g1, H0, L, S1, dy, S2, cr.ext x1 s1, e2, fun u g2 H2 x2 s2 r2 => ⟨g2, H0, L, S2, dz, _, (cr.ext x1 s1).ext x2 s2, e3, fun w g3 H3 x3 s3 r3 => ?_⟩⟩⟩
  split at e4
  · split at e4
    · rename_i hz
      obtain ⟨rfl, z1, z2, z3, z4⟩ := hz
      cases e4
      exact ⟨_, _, _, _, by rw [((r1.ext x2 s1.cw).ext x3 s2.cw).intV, (r2.ext x3 s2.cw).intV, r3.intV], RgC.neg z4 z3 z2 z1, q _ g3 H3 (x1.trans (x2.trans x3)) s3 (jseq_rangeC _ _ _ false)⟩
    · cases e4
  · cases e4

/-! ### enumerate, zip, reversed -/
theorem mapIdx_get {ds : List D} {i : Nat} {d : D} (h : (enumD ds)[i]? = some d) : ∃ x, ds[i]? = some x ∧ d = .tup [.int (i : Nat), x] := by
  unfold enumD at h
  rw [List.getElem?_mapIdx] at h
  cases q : ds[i]? with
  | none => rw [q] at h; cases h
  | some x => rw [q] at h; cases h; exact ⟨x, rfl, rfl⟩
theorem enumD_len (ds : List D) : (enumD ds).length = ds.length := by simp [enumD]
theorem zip_get {ds es : List D} {i : Nat} {d : D} (h : (zipD ds es)[i]? = some d) : ∃ x y, ds[i]? = some x ∧ es[i]? = some y ∧ d = .tup [x, y] := by
  unfold zipD at h
  rw [List.getElem?_zipWith] at h
  cases q : ds[i]? with
  | none => rw [q] at h; cases h
  | some x =>
    cases q2 : es[i]? with
    | none => rw [q, q2] at h; cases h
    | some y => rw [q, q2] at h; cases h; exact ⟨x, y, rfl, rfl, rfl⟩
theorem pair_laid {K : PySem.W.Frag} {g : Gh} {H : Hp} {S : Store} {p : Addr} {v u : V} {d e : D} (s : Gs K g H S) (hp : H p = none) (r : Rp K g H v d) (r' : Rp K g H u e) :
    Ext g H g (upd H p (.tup [v, u])) ∧ Gs K g (upd H p (.tup [v, u])) S ∧ Rp K g (upd H p (.tup [v, u])) (.ref p) (.tup [d, e]) := new_tup s hp (.cons r (.cons r' .nil))
/-- the core: at each later moment the list at a has items that are ds -/
theorem jseq_enum {K : PySem.W.Frag} {g : Gh} {H : Hp} {a : Addr} {ds : List D} {B : Bool}
    (st : ∀ g' H' S', (if B = true then Ext g H g' H' else ExtW g H g' H') → Gs K g' H' S' → ∃ xs, SqL K H' a xs ∧ Rps K g' H' xs ds) : JSeq K B g H (Ite K a) (enumD ds) := by
  intro g' H' S' w s
  obtain ⟨xs, t', r'⟩ := st g' H' S' w s
  refine ⟨fun i d hd => ?_, ⟨xs, t', by rw [r'.length, enumD_len]; exact Nat.le_refl _⟩⟩
  obtain ⟨x0, h0, rfl⟩ := mapIdx_get hd
  obtain ⟨v, h1, h2⟩ := r'.get h0
  refine ⟨⟨xs, v, t', h1⟩, fun x H'' y => ?_⟩
  obtain ⟨T, z, rfl, hT, rfl, y⟩ := y
  have := y xs t'
  rw [h1] at this
  cases this
  exact pair_laid s hT (.int _) h2
theorem jseq_enumT {K : PySem.W.Frag} {g : Gh} {H : Hp} {a : Addr} {xs : List V} {ds : List D} (t : TupAt K g H a xs) (r : Rps K g H xs ds) : JSeq K false g H (IteT K a) (enumD ds) := by
  intro g' H' S' w s
  have w : ExtW g H g' H' := by simpa using w
  have t' : SqT K H' a xs := (show TupAt K g' H' a xs from t.elim (fun z => .inl (Rd.extW w z.1 z.2)) .inr).sq
  have r' := Rps.extW w r
  refine ⟨fun i d hd => ?_, ⟨xs, t', by rw [r'.length, enumD_len]; exact Nat.le_refl _⟩⟩
  obtain ⟨x0, h0, rfl⟩ := mapIdx_get hd
  obtain ⟨v, h1, h2⟩ := r'.get h0
  refine ⟨⟨xs, v, t', h1⟩, fun x H'' y => ?_⟩
  obtain ⟨T, z, rfl, hT, rfl, y⟩ := y
  have := y xs t'
  rw [h1] at this
  cases this
  exact pair_laid s hT (.int _) h2
variable {elts : List Expr} {kk : Nat} {tpos : Pos}
theorem pi_enumD (hg : Gl X "enumerate") (hm : X.mg "enumerate" = none) (ha : PE X a (tD X.K ma)) (he : starEach [a] X.env = (false, eval a X.env) :: starEach [] X.env) :
    PI X (.Tuple elts kk tpos) (.Call (.Name "enumerate" p) [a] [] pos) (tDI X.K false fun L S => bnd (ma L S) fun x S1 => lft ((match x with | .d (.lst l) => some l | .d (.tup l) => some l | _ => none).map enumD) S1) := by
  refine PI.wk (PI.or (pi_enum hg hm (pa_cons ha pa_nil he) he) (pi_enumT hg hm (pa_cons ha pa_nil he) he)) fun σ H R h => ?_
  obtain ⟨g, H0, L, S, ds, S', cr, e, q⟩ := h
  obtain ⟨dx, S1, e1, e'⟩ := of_bnd e
  clear e
  obtain ⟨e2, rfl⟩ := of_lft e'
  clear e'
  split at e2
  · cases e2
    refine .inl ⟨g, H0, L, S, _, _, cr, e1, fun v g1 H1 x1 s1 r1 => ?_⟩
    rename_i l
    have r' : Rp X.K g1 H1 v (.lst l) := r1
    cases r' with
    | lst t r => exact ⟨_, _, rfl, t.sq, q _ g1 H1 x1 s1 (jseq_enum (B := false) fun g' H' S' w s => by
        have w : ExtW g1 H1 g' H' := by simpa using w
        exact ⟨_, (show LstAt X.K g' H' _ _ from t.elim (fun z => .inl (Rd.extW w z.1 z.2)) .inr).sq, Rps.extW w r⟩)⟩
  · cases e2
    refine .inr ⟨g, H0, L, S, _, _, cr, e1, fun v g1 H1 x1 s1 r1 => ?_⟩
    rename_i l
    have r' : Rp X.K g1 H1 v (.tup l) := r1
    cases r' with
    | tup t r => exact ⟨_, _, rfl, t.sq, q _ g1 H1 x1 s1 (jseq_enumT t r)⟩
  · cases e2
theorem pi_enumB {i : Nat} {x : Str} (hg : Gl X "enumerate") (hm : X.mg "enumerate" = none) (hN : X.N[i]? = some x) (hv : Vis X.env.scope x) (hd : (x == ("__debug__" : Str)) = false) (hcd : (x == ("__classdict__" : Str)) = false)
    (he : starEach [.Name x p'] X.env = (false, eval (.Name x p') X.env) :: starEach [] X.env) :
    PI X (.Tuple elts kk tpos) (.Call (.Name "enumerate" p) [.Name x p'] [] pos) (tDI X.K true fun L S => match L[i]? with | some (.own xs) => some (enumD xs, S) | _ => none) := by
  refine PI.wk (pi_enum hg hm (pa_cons (pe_var hN hv hd hcd) pa_nil he) he) fun σ H R h => ?_
  obtain ⟨g, H0, L, S, ds, S', cr, e, q⟩ := h
  dsimp only at e
  split at e
  · rename_i ds hd
    cases e
    obtain ⟨a, xs, h1, h2, r, w, n, _⟩ := cr.l.own i ds hd
    exact ⟨_, h1, a, xs, rfl, SqL.of h2, q _ g H Ext.refl cr.s (jseq_enum (B := true) fun g' H' S' w s => by
      have w : Ext g H g' H' := by simpa using w
      exact ⟨xs, SqL.of (w.keep _ _ h2 n), Rps.ext w cr.s.cw r⟩)⟩
  · cases e
theorem zipD_end {ds es : List D} : ds.length ≤ (zipD ds es).length ∨ es.length ≤ (zipD ds es).length := by
  unfold zipD
  rw [List.length_zipWith]
  omega
theorem pi_zipD (hg : Gl X "zip") (hm : X.mg "zip" = none) (ha : PE X a (tD X.K ma)) (hb : PE X b (tD X.K mb)) (he : starEach [a, b] X.env = (false, eval a X.env) :: starEach [b] X.env) (he2 : starEach [b] X.env = (false, eval b X.env) :: starEach [] X.env) :
    PI X (.Tuple elts kk tpos) (.Call (.Name "zip" p) [a, b] [] pos) (tDI X.K false fun L S => bnd (ma L S) fun x S1 => bnd (mb L S1) fun y S2 => lft (match x, y with
      | .d (.lst l), .d (.lst m) => some (zipD l m)
      | .d (.tup l), .d (.tup m) => some (zipD l m)
      | .d (.tup l), .d (.lst m) => some (zipD l m)
      | _, _ => none) S2) := by
  refine PI.wk (PI.or (RZ.pi_zipA hg hm (pa_cons ha (pa_cons hb pa_nil he2) he) he (by rw [he2]; rfl)) (pi_zipM hg hm (pa_cons ha (pa_cons hb pa_nil he2) he) he (by rw [he2]; rfl))) fun σ H R h => ?_
  obtain ⟨g, H0, L, S, ds, S', cr, e, q⟩ := h
  obtain ⟨dx, S1, e1, e'⟩ := of_bnd e
  clear e
  obtain ⟨dy, S2, e2, e''⟩ := of_bnd e'
  clear e'
  obtain ⟨e3, rfl⟩ := of_lft e''
  clear e''
  split at e3
  · rename_i l m
    cases e3
    refine .inl ⟨g, H0, L, S, _, S1, cr, e1, fun v g1 H1 x1 s1 r1 => ⟨g1, H0, L, S1, _, _, cr.ext x1 s1, e2, fun u g2 H2 x2 s2 r2 => ?_⟩⟩
    have r1' := r1.ext x2 s1.cw
    have q1 : Rp X.K g2 H2 v (.lst l) := r1'
    have q2 : Rp X.K g2 H2 u (.lst m) := r2
    cases q1 with
    | lst t r => cases q2 with
      | lst t' r' =>
        refine ⟨_, _, _, _, rfl, .inl ⟨t.sq, t'.sq, q _ g2 H2 (x1.trans x2) s2 ?_⟩⟩
        intro g' H' S' w s
        have w : ExtW g2 H2 g' H' := by simpa using w
        have y1 := (show LstAt X.K g' H' _ _ from t.elim (fun z => .inl (Rd.extW w z.1 z.2)) .inr).sq
        have y2 := (show LstAt X.K g' H' _ _ from t'.elim (fun z => .inl (Rd.extW w z.1 z.2)) .inr).sq
        have z1 := Rps.extW w r
        have z2 := Rps.extW w r'
        refine ⟨fun i d hd => ?_, ⟨_, _, y1, y2, by rw [z1.length, z2.length]; exact zipD_end⟩⟩
        obtain ⟨x0, y0, h0, h0', rfl⟩ := zip_get hd
        obtain ⟨v, h1, h2⟩ := z1.get h0
        obtain ⟨v', h1', h2'⟩ := z2.get h0'
        refine ⟨⟨_, _, v, v', y1, y2, h1, h1'⟩, fun x H'' y => ?_⟩
        obtain ⟨T, z, z', rfl, hT, rfl, ya, yb⟩ := y
        have ya := ya _ y1
        have yb := yb _ y2
        rw [h1] at ya
        rw [h1'] at yb
        cases ya; cases yb
        exact pair_laid s hT h2 h2'
  · rename_i l m
    cases e3
    refine .inl ⟨g, H0, L, S, _, S1, cr, e1, fun v g1 H1 x1 s1 r1 => ⟨g1, H0, L, S1, _, _, cr.ext x1 s1, e2, fun u g2 H2 x2 s2 r2 => ?_⟩⟩
    have r1' := r1.ext x2 s1.cw
    have q1 : Rp X.K g2 H2 v (.tup l) := r1'
    have q2 : Rp X.K g2 H2 u (.tup m) := r2
    cases q1 with
    | tup t r => cases q2 with
      | tup t' r' =>
        refine ⟨_, _, _, _, rfl, .inr ⟨t.sq, t'.sq, q _ g2 H2 (x1.trans x2) s2 ?_⟩⟩
        intro g' H' S' w s
        have w : ExtW g2 H2 g' H' := by simpa using w
        have y1 := (show TupAt X.K g' H' _ _ from t.elim (fun z => .inl (Rd.extW w z.1 z.2)) .inr).sq
        have y2 := (show TupAt X.K g' H' _ _ from t'.elim (fun z => .inl (Rd.extW w z.1 z.2)) .inr).sq
        have z1 := Rps.extW w r
        have z2 := Rps.extW w r'
        refine ⟨fun i d hd => ?_, ⟨_, _, y1, y2, by rw [z1.length, z2.length]; exact zipD_end⟩⟩
        obtain ⟨x0, y0, h0, h0', rfl⟩ := zip_get hd
        obtain ⟨v, h1, h2⟩ := z1.get h0
        obtain ⟨v', h1', h2'⟩ := z2.get h0'
        refine ⟨⟨_, _, v, v', y1, y2, h1, h1'⟩, fun x H'' y => ?_⟩
        obtain ⟨T, z, z', rfl, hT, rfl, ya, yb⟩ := y
        have ya := ya _ y1
        have yb := yb _ y2
        rw [h1] at ya
        rw [h1'] at yb
        cases ya; cases yb
        exact pair_laid s hT h2 h2'
  · rename_i l m
    cases e3
    refine .inr ⟨g, H0, L, S, _, S1, cr, e1, fun v g1 H1 x1 s1 r1 => ⟨g1, H0, L, S1, _, _, cr.ext x1 s1, e2, fun u g2 H2 x2 s2 r2 => ?_⟩⟩
    have r1' := r1.ext x2 s1.cw
    have q1 : Rp X.K g2 H2 v (.tup l) := r1'
    have q2 : Rp X.K g2 H2 u (.lst m) := r2
    cases q1 with
    | tup t r => cases q2 with
      | lst t' r' =>
        refine ⟨_, _, _, _, rfl, t.sq, t'.sq, q _ g2 H2 (x1.trans x2) s2 ?_⟩
        intro g' H' S' w s
        have w : ExtW g2 H2 g' H' := by simpa using w
        have y1 := (show TupAt X.K g' H' _ _ from t.elim (fun z => .inl (Rd.extW w z.1 z.2)) .inr).sq
        have y2 := (show LstAt X.K g' H' _ _ from t'.elim (fun z => .inl (Rd.extW w z.1 z.2)) .inr).sq
        have z1 := Rps.extW w r
        have z2 := Rps.extW w r'
        refine ⟨fun i d hd => ?_, ⟨_, _, y1, y2, by rw [z1.length, z2.length]; exact zipD_end⟩⟩
        obtain ⟨x0, y0, h0, h0', rfl⟩ := zip_get hd
        obtain ⟨v, h1, h2⟩ := z1.get h0
        obtain ⟨v', h1', h2'⟩ := z2.get h0'
        refine ⟨⟨_, _, v, v', y1, y2, h1, h1'⟩, fun x H'' y => ?_⟩
        obtain ⟨T, z, z', rfl, hT, rfl, ya, yb⟩ := y
        have ya := ya _ y1
        have yb := yb _ y2
        rw [h1] at ya
        rw [h1'] at yb
        cases ya; cases yb
        exact pair_laid s hT h2 h2'
  · cases e3
theorem rev_get {ds : List D} {i : Nat} {d : D} (h : ds.reverse[i]? = some d) : i < ds.length ∧ ds[ds.length - 1 - i]? = some d := by
  have hi : i < ds.length := by
    have := (List.getElem?_eq_some_iff.mp h).1
    simpa using this
  rw [List.getElem?_reverse hi] at h
  exact ⟨hi, h⟩
theorem pi_rvd (hg : Gl X "reversed") (hm : X.mg "reversed" = none) (ha : PE X a (tD X.K ma)) (he : starEach [a] X.env = (false, eval a X.env) :: starEach [] X.env) :
    PI X tg (.Call (.Name "reversed" p) [a] [] pos) (tDI X.K false fun L S => bnd (ma L S) fun x S1 => lft (match x with | .d (.lst l) => some l.reverse | .d (.tup l) => some l.reverse | _ => none) S1) := by
  refine PI.wk (RT.pi_revA hg hm ha he) fun σ H R h => ?_
  obtain ⟨g, H0, L, S, ds, S', cr, e, q⟩ := h
  obtain ⟨dx, S1, e1, e'⟩ := of_bnd e
  clear e
  obtain ⟨e2, rfl⟩ := of_lft e'
  clear e'
  refine ⟨g, H0, L, S, _, _, cr, e1, fun v g1 H1 x1 s1 r1 => ?_⟩
  split at e2
  · cases e2
    rename_i l
    have r' : Rp X.K g1 H1 v (.lst l) := r1
    cases r' with
    | @lst a xs ds t r =>
      refine ⟨a, xs, rfl, .inl ⟨t.sq, q _ g1 H1 x1 s1 ?_⟩⟩
      intro g' H' S' w s
      have w : ExtW g1 H1 g' H' := by simpa using w
      have t' := (show LstAt X.K g' H' _ _ from t.elim (fun z => .inl (Rd.extW w z.1 z.2)) .inr).sq
      have r' := Rps.extW w r
      refine ⟨fun i d hd => ?_, ?_⟩
      · obtain ⟨hi, hd⟩ := rev_get hd
        obtain ⟨v, h1, h2⟩ := r'.get hd
        rw [← r.length] at h1 hi
        exact ⟨⟨hi, xs, v, t', h1⟩, fun x H'' y => by
          obtain ⟨rfl, y⟩ := y
          have := y xs t'
          rw [h1] at this
          cases this
          exact ⟨Ext.refl, s, h2⟩⟩
      · show xs.length ≤ l.reverse.length
        rw [r.length, List.length_reverse]; exact Nat.le_refl _
  · cases e2
    rename_i l
    have r' : Rp X.K g1 H1 v (.tup l) := r1
    cases r' with
    | @tup a xs ds t r =>
      refine ⟨a, xs, rfl, .inr ⟨t.sq, q _ g1 H1 x1 s1 ?_⟩⟩
      intro g' H' S' w s
      have w : ExtW g1 H1 g' H' := by simpa using w
      have t' := (show TupAt X.K g' H' _ _ from t.elim (fun z => .inl (Rd.extW w z.1 z.2)) .inr).sq
      have r' := Rps.extW w r
      refine ⟨fun i d hd => ?_, ?_⟩
      · obtain ⟨hi, hd⟩ := rev_get hd
        obtain ⟨v, h1, h2⟩ := r'.get hd
        rw [← r.length] at h1 hi
        exact ⟨⟨hi, xs, v, t', h1⟩, fun x H'' y => by
          obtain ⟨rfl, y⟩ := y
          have := y xs t'
          rw [h1] at this
          cases this
          exact ⟨Ext.refl, s, h2⟩⟩
      · show xs.length ≤ l.reverse.length
        rw [r.length, List.length_reverse]; exact Nat.le_refl _
  · cases e2
end
end PD

set_option Elab.async false
set_option linter.all false
set_option maxRecDepth 100000
set_option maxHeartbeats 1000000
namespace PD
open PySem PySem.Spec PyProof.Rows L2 HT
section
variable {prog : Program} {w : World} {A : Around} {E : Value → Shared → Prop} {s : Shared}
theorem rev_places (n : Nat) : Builtin.Slice.slicePlaces ((n : Int) - 1) (-1) (-1) = n := by
  unfold Builtin.Slice.slicePlaces
  rw [if_neg (by decide)]
  split
  · simp
  · omega
theorem sliceApplied_rev {sl : Addr} {vl vu vs : Value} {n : Nat} {Q : Int × Int × Nat → Shared → Prop} (hs : s.heap.IsSliceOf sl vl vu vs) (pl : IsPart vl none) (pu : IsPart vu none) (ps : IsPart vs (some (-1)))
    (h : Q ((n : Int) - 1, -1, n) s) : wpAny (model prog w) A (Builtin.Slice.sliceApplied (.ref sl) (pure (n : Int))) Q E s := by
  obtain ⟨os, hos, hcs, hds⟩ := id hs
  unfold Builtin.Slice.sliceApplied Builtin.Slice.sliceFields
  refine wpAny_bind (wpAny_bind (wpAny_field hos hds (x := vl) rfl (wpAny_bind (wpAny_field hos hds (x := vu) rfl (wpAny_bind (wpAny_field hos hds (x := vs) rfl (wpAny_pure ?_)))))))
  refine wpAny_bind (slicePart_ ps ?_)
  show wpAny _ _ (if ((-1 : Int) == 0) = true then _ else _) _ _ s
  rw [if_neg (by decide)]
  refine wpAny_bind (slicePart_ pl (wpAny_bind (slicePart_ pu (wpAny_bind (wpAny_pure ?_)))))
  show wpAny _ _ (pure ((n : Int) - 1, (-1 : Int), Builtin.Slice.slicePlaces ((n : Int) - 1) (-1) (-1))) _ _ s
  rw [rev_places]
  exact wpAny_pure h
theorem rev_range (n : Nat) : (List.range n).reverse = (List.range n).map fun k => n - 1 - k := by
  refine List.ext_getElem (by simp) fun i h1 h2 => ?_
  simp [List.getElem_reverse]
theorem all_items (xs : Array Value) : (List.range xs.size).filterMap (fun i => xs[i]?) = xs.toList := by
  have e : (List.range xs.size).filterMap (fun i => xs[i]?) = (List.range xs.size).filterMap (fun i => xs.toList[i]?) := by simp
  rw [e]
  have : ∀ (l : List Value), (List.range l.length).filterMap (fun i => l[i]?) = l := by
    intro l
    induction l with
    | nil => rfl
    | cons a l ih =>
      rw [List.length_cons, List.range_succ_eq_map, List.filterMap_cons]
      simp only [List.getElem?_cons_zero]
      rw [List.filterMap_map]
      show a :: List.filterMap (fun i => (a :: l)[i + 1]?) (List.range l.length) = _
      simp only [List.getElem?_cons_succ]
      rw [ih]
  have q := this xs.toList
  rw [Array.length_toList] at q
  exact q
theorem fm_congr {α β : Type} {f g : α → Option β} : ∀ l : List α, (∀ x ∈ l, f x = g x) → l.filterMap f = l.filterMap g
  | [], _ => rfl
  | a :: l, h => by
    rw [List.filterMap_cons, List.filterMap_cons, h a List.mem_cons_self, fm_congr l fun x hx => h x (List.mem_cons_of_mem _ hx)]
theorem rev_pick (xs : Array Value) : ((List.range xs.size).filterMap fun (k : Nat) => xs[((xs.size : Int) - 1 + (k : Int) * (-1)).toNat]?).toArray = xs.toList.reverse.toArray := by
  rw [← all_items xs, ← List.filterMap_reverse, rev_range, List.filterMap_map]
  congr 1
  refine fm_congr _ fun k hk => ?_
  have := List.mem_range.mp hk
  have e : ((xs.size : Int) - 1 + (k : Int) * (-1)).toNat = xs.size - 1 - k := by omega
  rw [e]
  rfl
theorem getItem_tuple_rev {t sl : Addr} {items : Array Value} {vl vu vs : Value} {Q : Value → Shared → Prop} (ht : IsTup s.heap t items) (hs : s.heap.IsSliceOf sl vl vu vs) (pl : IsPart vl none) (pu : IsPart vu none) (ps : IsPart vs (some (-1)))
    (h : Q (.ref s.heap.objs.size) { s with heap := s.heap.push { cls := .type "tuple", data := .seq items.toList.reverse.toArray } }) (hsz : items.size ≤ sizeLine) : wpAny (model prog w) A (getItem (.ref t) (.ref sl)) Q E s := by
  have hok : sizeOk (.seq items.toList.reverse.toArray) := by
    show items.toList.reverse.toArray.size ≤ sizeLine
    rw [List.size_toArray, List.length_reverse, Array.length_toList]
    exact hsz
  obtain ⟨os, hos, hcs, hds⟩ := id hs
  have hTs : s.TypeIs (.ref sl) "slice" := ⟨os, hos, hcs⟩
  unfold getItem
  try with_reducible refine wpAny_holding ?_
  first | refine wpAny_bind (wpAny_pure ?_) | skip
  refine wpAny_bind (wpAny_sequenceKey ht.typeIs (by decide) ?_)
  refine wpAny_bind (wpAny_callSpecial?_slot (name := Str.ofString "__getitem__") ht.typeIs PyProof.Rows.slot_tuple_getitem
    (wpAny_call_entry PyProof.Rows.slot_tuple_getitem ht.typeIs entry_tuple_getitem ?_ (args_tuple_getitem _ _)))
  show wpAny _ _ (Builtin.Tuple.tupleItemsOf (.ref t) >>= _) _ _ s
  refine wpAny_bind (tupleItemsOf_ ht ?_)
  refine wpAny_bind (wpAny_typeOf hTs ?_)
  rw [if_pos (by decide)]
  refine wpAny_bind (sliceApplied_rev hs pl pu ps ?_)
  have hno : ¬ ((((items.size : Int) - 1) == 0 && (-1 : Int) == 1 && items.size == items.size) = true) := by
    intro q
    rw [Bool.and_eq_true, Bool.and_eq_true] at q
    exact absurd q.1.2 (by decide)
  show wpAny _ _ (if (((items.size : Int) - 1) == 0 && (-1 : Int) == 1 && items.size == items.size) = true then _ else _) _ _ s
  rw [if_neg hno, rev_pick]
  first
    | exact wpAny_bind (m := Builtin.Tuple.tupleExact _) (wpAny_newObj_type (wpAny_pure ⟨_, rfl, wpAny_pure h⟩) hok)
    | exact wpAny_bind (m := Builtin.Tuple.tupleExact _) (wpAny_newObj_type (wpAny_bind (wpAny_pure (wpAny_pure ⟨_, rfl, wpAny_pure h⟩))) hok)
    | exact wpAny_bind (wpAny_bind (m := Builtin.Tuple.tupleExact _) (wpAny_newObj_type (wpAny_pure (wpAny_pure ⟨_, rfl, wpAny_pure h⟩)) hok))
    | exact wpAny_bind (wpAny_bind (m := Builtin.Tuple.tupleExact _) (wpAny_newObj_type (wpAny_pure ⟨_, rfl, wpAny_pure h⟩) hok))
end
end PD
namespace PD
open PySem PySem.Spec PyProof.Rows L2 HT
section
variable {X : Cx}
def tRevT (K : PySem.W.Frag) (te : TE) : TE := fun σ H Q => te σ H fun x H1 => ∃ a xs, x = .ref a ∧ SqT K H1 a xs ∧ ∀ p, H1 p = none → Q (.ref p) (upd H1 p (.tup xs.reverse))
theorem pe_revT {e : Expr} {te : TE} {k : Nat} {p1 p2 p3 pos : Pos} (he : PE X e te) : PE X (.Subscript e (.Slice none none (some (.UnaryOp .USub (.Constant (.int 1) k p1) p2)) p3) pos) (tRevT X.K te) := by
  refine ⟨fun pins s σ H Q I h => ?_⟩
  refine Subscript_ (thn (he.run pins s σ H _ I h) fun v s1 ⟨x, H1, I1, r1, q1⟩ => ?_)
  obtain ⟨a, xs, rfl, hx, q⟩ := q1
  cases r1
  have hst : PO X (some (.UnaryOp .USub (.Constant (.int 1) k p1) p2)) (tPart (tUn (rU fun i => .int (-i)) (tC (.int 1)))) := po_some (pe_un un_neg pe_int)
  refine wpAny_Slice (thn (po_none.run pins s1 σ H1 (fun o H2 => o = none ∧ H2 = H1) I1 ⟨rfl, rfl⟩) fun vl s2 ⟨l, H2, I2, pl, el, e2⟩ => ?_)
  subst el e2
  refine thn (po_none.run pins s2 σ H2 (fun o H3 => o = none ∧ H3 = H2) I2 ⟨rfl, rfl⟩) fun vu s3 ⟨u, H3, I3, pu, eu, e3⟩ => ?_
  subst eu e3
  refine thn (hst.run pins s3 σ H3 (fun o H4 => o = some (-1) ∧ H4 = H3) I3 ⟨1, rfl, -1, rfl, rfl, rfl⟩) fun vs s4 ⟨o, H4, I4, ps, eo, e4⟩ => ?_
  subst eo e4
  have I5 : Inv X pins σ H4 { s4 with heap := s4.heap.push { cls := .type "slice", data := .fields #[vl, vu, vs] } } := I4.kept (t' := s4.toks) fun b ob q => Heap.get?_push_of_some _ q
  obtain ⟨its, r, ht, hz⟩ := I5.tuple hx
  have hlen := r.length
  show wpAny (model X.prog X.w) X.A (subscriptTail e (.Slice none none (some (.UnaryOp .USub (.Constant (.int 1) k p1) p2)) p3) (.ref a) (.ref s4.heap.objs.size)) (EP X pins σ Q) X.xe { s4 with heap := s4.heap.push { cls := .type "slice", data := .fields #[vl, vu, vs] } }
  refine tail_any (ops := [.ref a, .ref s4.heap.objs.size]) ht.typeIs (PyProof.Rows.slot_tuple_getitem.lookup) ?_ (by with_unfolding_all rfl)
  refine getItem_tuple_rev ht (Heap.IsSliceOf.new _ vl vu vs) pl pu ps ?_ (by rw [List.size_toArray]; omega)
  refine ⟨.ref _, _, I5.laid (t' := s4.toks) (o := .tup xs.reverse) (fun b ob q => Heap.get?_push_of_some _ q) (Nat.le_refl _) ?_, rfl, q _ (I5.hok.fresh (Nat.le_refl _))⟩
  exact ⟨by rw [List.length_reverse]; exact hz, _, r.reverse, IsTup.new _ _⟩
end
end PD
namespace PD
open PySem PySem.Spec PyProof.Rows L2
theorem pe_or {X : Cx} {e : Expr} {t t' : TE} (h : PE X e t) (h' : PE X e t') : PE X e (fun σ H Q => t σ H Q ∨ t' σ H Q) :=
  ⟨fun pins s σ H Q I q => q.elim (h.run pins s σ H Q I) (h'.run pins s σ H Q I)⟩
section
variable {X : Cx} {a : Expr} {ma : Ms Va}
/-- a[::-1] -/
theorem pd_rev {k : Nat} {p1 p2 p3 pos : Pos} (ha : PE X a (tD X.K ma)) : PE X (.Subscript a (.Slice none none (some (.UnaryOp .USub (.Constant (.int 1) k p1) p2)) p3) pos) (tD X.K fun L S => bnd (ma L S) fun x S1 => lft ((revV x).map .d) S1) := by
  refine (pe_or (pe_revL ha) (pe_revT ha)).wk fun σ H Q h => ?_
  obtain ⟨g, H0, L, S, x, S', cr, e, q⟩ := h
  obtain ⟨dx, S1, e1, e⟩ := of_bnd e
  obtain ⟨d, e4, rfl, rfl⟩ := of_mapd e
  unfold revV at e4
  split at e4
  · rename_i xs
    cases e4
    refine .inr ⟨g, H0, L, S, _, _, cr, e1, fun v g1 H1 x1 s1 r1 => ?_⟩
    obtain ⟨p, ys, rfl, t, r⟩ := r1.seqT (ds := xs) rfl
    refine ⟨p, ys, rfl, t.sq, fun p' hp => ?_⟩
    obtain ⟨x4, s4, r4⟩ := new_tup s1 hp r.reverse
    exact q _ g1 _ (x1.trans x4) s4 r4
  · rename_i xs
    cases e4
    refine .inl ⟨g, H0, L, S, _, _, cr, e1, fun v g1 H1 x1 s1 r1 => ?_⟩
    obtain ⟨p, ys, rfl, t, r⟩ := r1.seqL (ds := xs) rfl
    refine ⟨p, ys, rfl, t, fun p' hp => ?_⟩
    obtain ⟨x4, s4, r4⟩ := new_lst s1 hp r.reverse
    exact q _ g1 _ (x1.trans x4) s4 r4
  · rename_i xs
    cases e4
    refine .inl ⟨g, H0, L, S, _, _, cr, e1, fun v g1 H1 x1 s1 r1 => ?_⟩
    obtain ⟨p, ys, rfl, t, r⟩ := r1.seqL (ds := xs) rfl
    refine ⟨p, ys, rfl, t, fun p' hp => ?_⟩
    obtain ⟨x4, s4, r4⟩ := new_lst s1 hp r.reverse
    exact q _ g1 _ (x1.trans x4) s4 r4
  · cases e4
end
end PD

set_option Elab.async false
set_option linter.all false
set_option maxRecDepth 100000
set_option maxHeartbeats 4000000
/-! PD, part g: targets, comprehensions, calls. -/
namespace PD
open PySem PySem.Spec PyProof.Rows L2

/-! ### targets -/
def tDG (K : PySem.W.Frag) (sl : List Nat) (pu : Bool) (m : D → Ms Loc) : TG := fun v σ H Q => ∃ g H0 L S d L' S', Cr K g H0 σ H L S ∧ Rp K g H v d ∧ m d L S = some (L', S') ∧
  ∀ σ' g' H', (∀ g0, Ext g0 H0 g H → Ext g0 H0 g' H') → ExtW g H g' H' → Cr K g' H0 σ' H' L' S' → σ'.length = σ.length → (∀ j, j ∉ sl → σ'[j]? = σ[j]?) → (pu = true → H' = H ∧ g' = g ∧ S' = S) → Q σ' H'
def tDGs (K : PySem.W.Frag) (sl : List Nat) (pu : Bool) (m : List D → Ms Loc) : TGs := fun vs σ H Q => ∃ g H0 L S ds L' S', Cr K g H0 σ H L S ∧ Rps K g H vs ds ∧ m ds L S = some (L', S') ∧
  ∀ σ' g' H', (∀ g0, Ext g0 H0 g H → Ext g0 H0 g' H') → ExtW g H g' H' → Cr K g' H0 σ' H' L' S' → σ'.length = σ.length → (∀ j, j ∉ sl → σ'[j]? = σ[j]?) → (pu = true → H' = H ∧ g' = g ∧ S' = S) → Q σ' H'
theorem _root_.L2.PG.wk {X : Cx} {e : Expr} {t t' : TG} (h : PG X e t) (w : ∀ v σ H Q, t' v σ H Q → t v σ H Q) : PG X e t' := ⟨fun pins s σ H v u Q I r q => h.run pins s σ H v u Q I r (w v σ H Q q)⟩
theorem _root_.L2.PGs.wk {X : Cx} {e : List Expr} {t t' : TGs} (h : PGs X e t) (w : ∀ v σ H Q, t' v σ H Q → t v σ H Q) : PGs X e t' := ⟨fun pins s σ H v u Q I r q => h.run pins s σ H v u Q I r (w v σ H Q q)⟩

section
variable {K : PySem.W.Frag} {g : Gh} {H0 H : Hp} {σ : L2.St} {L : Loc}
/-- a datum in a slot -/
theorem LR.set {i : Nat} {v : V} {d : D} (l : LR K g H0 σ H L) (r : Rp K g H v d) : LR K g H0 (σ.set i (some v)) H (L.set i (.dat d)) := by
  refine ⟨by rw [List.length_set, List.length_set]; exact l.len, l.old, fun j e h => ?_, fun j ds h => ?_, fun j k ds es a h1 h2 h3 h4 => ?_⟩
  · by_cases z : i = j
    · subst z
      by_cases hi : i < L.length
      · rw [List.getElem?_set_self hi] at h
        cases h
        exact ⟨v, List.getElem?_set_self (Nat.lt_of_lt_of_le hi l.len), r⟩
      · rw [List.getElem?_eq_none (by rw [List.length_set]; omega)] at h; cases h
    · rw [List.getElem?_set_ne z] at h
      obtain ⟨u, h1, h2⟩ := l.dat j e h
      exact ⟨u, by rw [List.getElem?_set_ne z]; exact h1, h2⟩
  · by_cases z : i = j
    · subst z
      by_cases hi : i < L.length
      · rw [List.getElem?_set_self hi] at h; cases h
      · rw [List.getElem?_eq_none (by rw [List.length_set]; omega)] at h; cases h
    · rw [List.getElem?_set_ne z] at h ⊢
      exact l.own j ds h
  · have ne : ∀ {m : Nat} {xs : List D}, (L.set i (.dat d))[m]? = some (.own xs) → i ≠ m := fun {m xs} h z => by
      subst z
      by_cases hi : i < L.length
      · rw [List.getElem?_set_self hi] at h; cases h
      · rw [List.getElem?_eq_none (by rw [List.length_set]; omega)] at h; cases h
    have z1 := ne h1
    have z2 := ne h2
    rw [List.getElem?_set_ne z1] at h1 h3
    rw [List.getElem?_set_ne z2] at h2 h4
    exact l.inj j k ds es a h1 h2 h3 h4
theorem Cr.set {S : Store} {i : Nat} {v : V} {d : D} (c : Cr K g H0 σ H L S) (r : Rp K g H v d) : Cr K g H0 (σ.set i (some v)) H (L.set i (.dat d)) S := ⟨c.s, c.l.set r⟩
/-- a list of one's own in a slot: p stands in no other slot -/
theorem LR.setOwn {i : Nat} {p : Addr} {xs : List V} {ds : List D} (l : LR K g H0 σ H L) (hp : H p = some (.lst xs)) (r : Rps K g H xs ds) (w : g.W p) (n : p ∉ g.ca) (z0 : H0 p = none)
    (ne : ∀ (j : Nat) es, L[j]? = some (.own es) → j ≠ i → σ[j]? ≠ some (some (.ref p))) : LR K g H0 (σ.set i (some (.ref p))) H (L.set i (.own ds)) := by
  have at_i : ∀ {m : Nat} {x : Lv}, (L.set i (.own ds))[m]? = some x → i = m → m < L.length ∧ x = .own ds := fun {m x} h z => by
    subst z
    by_cases hi : i < L.length
    · rw [List.getElem?_set_self hi] at h; cases h; exact ⟨hi, rfl⟩
    · rw [List.getElem?_eq_none (by rw [List.length_set]; omega)] at h; cases h
  refine ⟨by rw [List.length_set, List.length_set]; exact l.len, l.old, fun j e h => ?_, fun j es h => ?_, fun j k es fs a h1 h2 h3 h4 => ?_⟩
  · by_cases z : i = j
    · obtain ⟨_, e⟩ := at_i h z; cases e
    · rw [List.getElem?_set_ne z] at h ⊢
      exact l.dat j e h
  · by_cases z : i = j
    · obtain ⟨hi, e⟩ := at_i h z
      cases e
      subst z
      exact ⟨p, xs, List.getElem?_set_self (Nat.lt_of_lt_of_le hi l.len), hp, r, w, n, z0⟩
    · rw [List.getElem?_set_ne z] at h ⊢
      exact l.own j es h
  · by_cases z1 : i = j
    · by_cases z2 : i = k
      · rw [← z1, ← z2]
      · exfalso
        obtain ⟨hi, _⟩ := at_i h1 z1
        subst z1
        rw [List.getElem?_set_self (Nat.lt_of_lt_of_le hi l.len)] at h3
        cases h3
        rw [List.getElem?_set_ne z2] at h2 h4
        exact ne k fs h2 (Ne.symm z2) h4
    · by_cases z2 : i = k
      · exfalso
        obtain ⟨hi, _⟩ := at_i h2 z2
        subst z2
        rw [List.getElem?_set_self (Nat.lt_of_lt_of_le hi l.len)] at h4
        cases h4
        rw [List.getElem?_set_ne z1] at h1 h3
        exact ne j es h1 (Ne.symm z1) h3
      · rw [List.getElem?_set_ne z1] at h1 h3
        rw [List.getElem?_set_ne z2] at h2 h4
        exact l.inj j k es fs a h1 h2 h3 h4
/-- the list in slot i is written -/
theorem LR.upOwn {i : Nat} {p : Addr} {xs : List V} {ds es : List D} (l : LR K g H0 σ H L) (hi : L[i]? = some (.own es)) (hs : σ[i]? = some (some (.ref p))) (r : Rps K g H xs ds) :
    LR K g H0 σ (upd H p (.lst xs)) (L.set i (.own ds)) := by
  obtain ⟨a, ys, h1, h2, _, w, n, z0⟩ := l.own i es hi
  rw [hs] at h1; cases h1
  have hl : i < L.length := (List.getElem?_eq_some_iff.mp hi).1
  refine ⟨by rw [List.length_set]; exact l.len, old_upd l.old, fun j e h => ?_, fun j fs h => ?_, fun j k fs gs a h1 h2 h3 h4 => ?_⟩
  · by_cases z : i = j
    · subst z; rw [List.getElem?_set_self hl] at h; cases h
    · rw [List.getElem?_set_ne z] at h
      obtain ⟨u, q1, q2⟩ := l.dat j e h
      exact ⟨u, q1, Rp.wrote w q2⟩
  · by_cases z : i = j
    · subst z
      rw [List.getElem?_set_self hl] at h
      cases h
      exact ⟨p, xs, hs, upd_same, Rps.wrote w r, w, n, z0⟩
    · rw [List.getElem?_set_ne z] at h
      obtain ⟨b, zs, q1, q2, q3, q4, q5, q6⟩ := l.own j fs h
      have ne : b ≠ p := fun q => z (l.inj i j es fs p hi h hs (by rw [← q]; exact q1))
      exact ⟨b, zs, q1, by rw [upd_ne ne]; exact q2, Rps.wrote w q3, q4, q5, q6⟩
  · have back : ∀ {m : Nat} {us : List D}, (L.set i (.own ds))[m]? = some (.own us) → ∃ us', L[m]? = some (.own us') := fun {m us} h => by
      by_cases z : i = m
      · subst z; exact ⟨es, hi⟩
      · rw [List.getElem?_set_ne z] at h; exact ⟨us, h⟩
    obtain ⟨_, q1⟩ := back h1
    obtain ⟨_, q2⟩ := back h2
    exact l.inj j k _ _ a q1 q2 h3 h4
/-- a cell is written -/
theorem LR.cell {p : Addr} {o : HO} (l : LR K g H0 σ H L) (w : g.W p) (hc : p ∈ g.ca) : LR K g H0 σ (upd H p o) L := by
  refine ⟨l.len, old_upd l.old, fun j e h => ?_, fun j fs h => ?_, l.inj⟩
  · obtain ⟨u, q1, q2⟩ := l.dat j e h
    exact ⟨u, q1, Rp.wrote w q2⟩
  · obtain ⟨b, zs, q1, q2, q3, q4, q5, q6⟩ := l.own j fs h
    have ne : b ≠ p := fun q => q5 (by rw [q]; exact hc)
    exact ⟨b, zs, q1, by rw [upd_ne ne]; exact q2, Rps.wrote w q3, q4, q5, q6⟩
/-- the list in slot i is left as it is -/
theorem LR.freeze {i : Nat} {p : Addr} {es : List D} (l : LR K g H0 σ H L) (hi : L[i]? = some (.own es)) (hs : σ[i]? = some (some (.ref p))) : LR K (g.minus p) H0 σ H (L.set i (.dat (.lst es))) := by
  obtain ⟨a, ys, h1, h2, r, w, n, z0⟩ := l.own i es hi
  rw [hs] at h1; cases h1
  have hl : i < L.length := (List.getElem?_eq_some_iff.mp hi).1
  refine ⟨by rw [List.length_set]; exact l.len, l.old, fun j e h => ?_, fun j fs h => ?_, fun j k fs gs a h1 h2 h3 h4 => ?_⟩
  · by_cases z : i = j
    · subst z
      rw [List.getElem?_set_self hl] at h
      cases h
      exact ⟨_, hs, .lst (.inl ⟨.inl h2, fun q => q.2 rfl⟩) r.minus⟩
    · rw [List.getElem?_set_ne z] at h
      obtain ⟨u, q1, q2⟩ := l.dat j e h
      exact ⟨u, q1, q2.minus⟩
  · by_cases z : i = j
    · subst z; rw [List.getElem?_set_self hl] at h; cases h
    · rw [List.getElem?_set_ne z] at h
      obtain ⟨b, zs, q1, q2, q3, q4, q5, q6⟩ := l.own j fs h
      have ne : b ≠ p := fun q => z (l.inj i j es fs p hi h hs (by rw [← q]; exact q1))
      exact ⟨b, zs, q1, q2, q3.minus, ⟨q4, ne⟩, q5, q6⟩
  · have back : ∀ {m : Nat} {us : List D}, (L.set i (.dat (.lst es)))[m]? = some (.own us) → L[m]? = some (.own us) := fun {m us} h => by
      by_cases z : i = m
      · subst z; rw [List.getElem?_set_self hl] at h; cases h
      · rw [List.getElem?_set_ne z] at h; exact h
    exact l.inj j k _ _ a (back h1) (back h2) h3 h4
end

section
variable {X : Cx} {e a b c : Expr} {es : List Expr} {ma mb mc : Ms Va} {mes : Ms (List Va)} {mf : Ms (List D)} {pos p : Pos} {x : Str}
theorem pg_nm {i : Nat} (hN : X.N.Nodup) (hi : X.N[i]? = some x) (hx : L2.Loc X.env.scope x) (hf : X.fn x = true ∨ X.env.scope.names.lookup x = some .local) :
    PG X (.Name x pos) (tDG X.K [i] true fun d L S => some (L.set i (.dat d), S)) := by
  refine (pg_name hN hi hx hf).wk fun v σ H Q h => ?_
  obtain ⟨g, H0, L, S, d, L', S', cr, r, e, q⟩ := h
  cases e
  exact q _ g H (fun _ z => z) ExtW.refl (cr.set r) (List.length_set ..) (fun j hj => List.getElem?_set_ne (fun z => hj (by simp [z]))) fun _ => ⟨rfl, rfl, rfl⟩
theorem pgs_nilD : PGs X [] (tDGs X.K [] true fun ds L S => match ds with | [] => some (L, S) | _ => none) := by
  refine pgs_nil.wk fun vs σ H Q h => ?_
  obtain ⟨g, H0, L, S, ds, L', S', cr, r, e, q⟩ := h
  cases r with
  | nil =>
    cases e
    exact ⟨rfl, q σ g H (fun _ z => z) ExtW.refl cr rfl (fun _ _ => rfl) fun _ => ⟨rfl, rfl, rfl⟩⟩
  | cons _ _ => cases e
variable {sl sl' : List Nat} {pu pu' : Bool} {mg : D → Ms Loc} {mgs : List D → Ms Loc}
theorem pgs_consD (h1 : PG X e (tDG X.K sl pu mg)) (h2 : PGs X es (tDGs X.K sl' pu' mgs)) (hs : (assignEach (e :: es) X.env).map (·.2) = assign e X.env :: (assignEach es X.env).map (·.2)) :
    PGs X (e :: es) (tDGs X.K (sl ++ sl') (pu && pu') fun ds L S => match ds with | d :: ds => bnd (mg d L S) fun L1 S1 => mgs ds L1 S1 | _ => none) := by
  refine (pgs_cons h1 h2 hs).wk fun vs σ H Q h => ?_
  obtain ⟨g, H0, L, S, ds, L', S', cr, r, e, q⟩ := h
  cases r with
  | nil => cases e
  | @cons v vs d ds r rs =>
    obtain ⟨L1, S1, e1, e⟩ := of_bnd e
    refine ⟨v, vs, rfl, g, H0, L, S, d, L1, S1, cr, r, e1, fun σ1 g1 H1 x1 w1 c1 l1 o1 p1 => ⟨g1, H0, L1, S1, ds, L', S', c1, Rps.extW w1 rs, e, fun σ2 g2 H2 x2 w2 c2 l2 o2 p2 => ?_⟩⟩
    refine q σ2 g2 H2 (fun g0 z => x2 g0 (x1 g0 z)) (w1.trans w2) c2 (l2.trans l1) (fun j hj => ?_) fun hp => ?_
    · rw [List.mem_append, not_or] at hj
      rw [o2 j hj.2, o1 j hj.1]
    · rw [Bool.and_eq_true] at hp
      obtain ⟨rfl, rfl, rfl⟩ := p1 hp.1
      exact p2 hp.2
theorem pg_or {t t' : TG} (h : PG X e t) (h' : PG X e t') : PG X e (fun v σ H Q => t v σ H Q ∨ t' v σ H Q) :=
  ⟨fun pins s σ H v u Q I r q => q.elim (h.run pins s σ H v u Q I r) (h'.run pins s σ H v u Q I r)⟩
theorem pg_tupD {k n : Nat} (hc : X.calm = true) (hl : ∀ ds L S r, mgs ds L S = some r → ds.length = n) (h : PGs X es (tDGs X.K sl pu mgs)) (hn : (assignEach es X.env).length = n) (hst : (assignEach es X.env).findIdx? (·.1) = none) :
    PG X (.Tuple es k pos) (tDG X.K sl pu fun d L S => match d with | .tup ds => mgs ds L S | .lst ds => mgs ds L S | _ => none) := by
  refine (pg_or (pg_tup hc h hn hst) (pg_lst hc h hn hst)).wk fun v σ H Q h => ?_
  obtain ⟨g, H0, L, S, d, L', S', cr, r, e, q⟩ := h
  cases r with
  | tup t r => exact .inl ⟨_, _, rfl, t.sq, by rw [r.length]; exact hl _ _ _ _ e, g, H0, L, S, _, L', S', cr, r, e, q⟩
  | lst t r => exact .inr ⟨_, _, rfl, t.sq, by rw [r.length]; exact hl _ _ _ _ e, g, H0, L, S, _, L', S', cr, r, e, q⟩
  | _ => cases e
/-- x[i] = .. of a list of one's own, of a cell -/
theorem pg_subD {i : Nat} (hN : X.N[i]? = some x) (hv : Vis X.env.scope x) (hd : (x == ("__debug__" : Str)) = false) (hcd : (x == ("__classdict__" : Str)) = false) (hb : PE X b (tD X.K mb))
    (ha : ∀ v, assign (.Subscript (.Name x p) b pos) X.env v = (do
      let ov ← holding [v] (eval (.Name x p) X.env)
      let iv ← holding [v, ov] (eval b X.env)
      standAt pos
      holding [v, ov, iv] (setItem ov iv v)
      release [v, ov, iv] [])) :
    PG X (.Subscript (.Name x p) b pos) (tDG X.K [] false fun d L S => bnd (mb L S) fun y S1 => match y with
      | .d (.int k) => match L[i]? with
        | some (.own xs) => match ixN xs.length k with | some j => some (L.set i (.own (xs.set j d)), S1) | none => none
        | some (.dat (.cell n)) => match S1[n]? with
          | some xs => match ixN xs.length k with | some j => some (L, S1.set n (xs.set j d)) | none => none
          | none => none
        | _ => none
      | _ => none) := by
  refine (pg_sub (pe_var hN hv hd hcd) hb set_list ha).wk fun v σ H Q h => ?_
  obtain ⟨g, H0, L, S, d, L', S', cr, r, e, q⟩ := h
  obtain ⟨y, S1, e1, e⟩ := of_bnd e
  split at e
  · rename_i k
    split at e
    · rename_i ds hi
      split at e
      · rename_i j hj
        cases e
        obtain ⟨a, xs, h1, h2, r2, w, n, z0⟩ := cr.l.own i ds hi
        refine ⟨_, h1, g, H0, L, S, _, _, cr, e1, fun u g1 H1 x1 s1 r1 => ?_⟩
        have c1 := cr.ext x1 s1
        obtain ⟨a', xs', h1', h2', r2', w', n', z0'⟩ := c1.l.own i ds hi
        rw [h1] at h1'; cases h1'
        have rd := r.ext x1 cr.s.cw
        refine ⟨a, xs', k, j, rfl, r1.intV, h2', by rw [r2'.length]; exact hj, ?_⟩
        exact q σ g1 _ (fun g0 z => ((z.trans x1)).wroteNew z0') ((x1.w cr.s.cw).trans (ExtW.wrote w')) ⟨s1.wrote w' n', c1.l.upOwn hi h1 (r2'.set rd j)⟩ rfl (fun _ _ => rfl) fun z => by cases z
      · cases e
    · rename_i m hi
      split at e
      · rename_i ds hm
        split at e
        · rename_i j hj
          cases e
          obtain ⟨v0, h1, rc⟩ := cr.l.dat i _ hi
          refine ⟨_, h1, g, H0, L, S, _, _, cr, e1, fun u g1 H1 x1 s1 r1 => ?_⟩
          have c1 := cr.ext x1 s1
          have rc1 := rc.ext x1 cr.s.cw
          cases rc1 with
          | @cell a _ hc =>
            obtain ⟨xs, h2, r2⟩ := s1.st m a ds hc hm
            have rd := r.ext x1 cr.s.cw
            have hm' : a ∈ g1.ca := List.mem_of_getElem? hc
            refine ⟨a, xs, k, j, rfl, r1.intV, h2, by rw [r2.length]; exact hj, ?_⟩
            exact q σ g1 _ (fun g0 z => (z.trans x1).trans (Ext.wrote h2 hm')) ((x1.w cr.s.cw).trans (ExtW.wrote (s1.cw a hm'))) ⟨s1.cell hc (r2.set rd j), c1.l.cell (s1.cw a hm') hm'⟩ rfl (fun _ _ => rfl) fun z => by cases z
        · cases e
      · cases e
    · cases e
  · cases e

/-- e[i] = .. of a cell -/
theorem pg_sbxD {o : Expr} (ho : PE X o (tD X.K ma)) (hb : PE X b (tD X.K mb))
    (ha : ∀ v, assign (.Subscript o b pos) X.env v = (do
      let ov ← holding [v] (eval o X.env)
      let iv ← holding [v, ov] (eval b X.env)
      standAt pos
      holding [v, ov, iv] (setItem ov iv v)
      release [v, ov, iv] [])) :
    PG X (.Subscript o b pos) (tDG X.K [] false fun d L S => bnd (ma L S) fun x S1 => bnd (mb L S1) fun y S2 => match x, y with
      | .d (.cell n), .d (.int k) => match S2[n]? with
        | some xs => match ixN xs.length k with | some j => some (L, S2.set n (xs.set j d)) | none => none
        | none => none
      | _, _ => none) := by
  refine (pg_sub ho hb set_list ha).wk fun v σ H Q h => ?_
  obtain ⟨g, H0, L, S, d, L', S', cr, r, e, q⟩ := h
  obtain ⟨x, S1, e1, e⟩ := of_bnd e
  obtain ⟨y, S2, e2, e⟩ := of_bnd e
  split at e
  · rename_i m k _
    split at e
    · rename_i ds hm
      split at e
      · rename_i j hj
        cases e
        refine ⟨g, H0, L, S, _, _, cr, e1, fun u g1 H1 x1 s1 r1 => ⟨g1, H0, L, S1, _, _, cr.ext x1 s1, e2, fun w g2 H2 x2 s2 r2 => ?_⟩⟩
        have c2 := (cr.ext x1 s1).ext x2 s2
        have rc : Rp X.K g2 H2 u (.cell m) := Rp.ext x2 s1.cw r1
        have rd : Rp X.K g2 H2 v d := (r.ext x1 cr.s.cw).ext x2 s1.cw
        cases rc with
        | @cell a _ hc =>
          obtain ⟨xs, h2, r3⟩ := s2.st m a ds hc hm
          have hm' : a ∈ g2.ca := List.mem_of_getElem? hc
          refine ⟨a, xs, k, j, rfl, r2.intV, h2, by rw [r3.length]; exact hj, ?_⟩
          exact q σ g2 _ (fun g0 z => ((z.trans x1).trans x2).trans (Ext.wrote h2 hm')) (((x1.w cr.s.cw).trans (x2.w s1.cw)).trans (ExtW.wrote (s2.cw a hm'))) ⟨s2.cell hc (r3.set rd j), c2.l.cell (s2.cw a hm') hm'⟩ rfl (fun _ _ => rfl) fun z => by cases z
      · cases e
    · cases e
  · cases e

/-! ### comprehensions -/
theorem wipeL_get {L : Loc} {i : Nat} {x : Lv} : ∀ {vs : List Nat}, (wipeL L vs)[i]? = some x → x = .un ∨ (L[i]? = some x ∧ i ∉ vs)
  | [], h => .inr ⟨h, by simp⟩
  | v :: vs, h => by
    unfold wipeL at h
    by_cases hi : v = i
    · subst hi
      by_cases hv : v < (wipeL L vs).length
      · rw [List.getElem?_set_self hv] at h; cases h; exact .inl rfl
      · rw [List.getElem?_eq_none (by rw [List.length_set]; omega)] at h; cases h
    · rw [List.getElem?_set_ne hi] at h
      rcases wipeL_get h with h | ⟨h1, h2⟩
      · exact .inl h
      · exact .inr ⟨h1, by simp only [List.mem_cons, not_or]; exact ⟨fun z => hi z.symm, h2⟩⟩
theorem wipeL_len (L : Loc) : ∀ vs : List Nat, (wipeL L vs).length = L.length
  | [] => rfl
  | v :: vs => by unfold wipeL; rw [List.length_set, wipeL_len L vs]
theorem LR.wipe {K : PySem.W.Frag} {g : Gh} {H0 H : Hp} {σ : L2.St} {L : Loc} (l : LR K g H0 σ H L) (vs : List Nat) : LR K g H0 (L2.wipe σ vs) H (wipeL L vs) := by
  refine ⟨by rw [wipeL_len, wipe_length]; exact l.len, l.old, fun i d h => ?_, fun i ds h => ?_, fun i j ds es a h1 h2 h3 h4 => ?_⟩
  · rcases wipeL_get h with h | ⟨h, n⟩
    · cases h
    · rw [wipe_out n]; exact l.dat i d h
  · rcases wipeL_get h with h | ⟨h, n⟩
    · cases h
    · rw [wipe_out n]; exact l.own i ds h
  · rcases wipeL_get h1 with h1 | ⟨h1, n1⟩
    · cases h1
    · rcases wipeL_get h2 with h2 | ⟨h2, n2⟩
      · cases h2
      · rw [wipe_out n1] at h3
        rw [wipe_out n2] at h4
        exact l.inj i j ds es a h1 h2 h3 h4
theorem wipe_same {σ σ' : L2.St} {vs : List Nat} (hl : σ'.length = σ.length) (h : ∀ j, j ∉ vs → σ'[j]? = σ[j]?) : L2.wipe σ' vs = L2.wipe σ vs := by
  have in_ : ∀ {τ : L2.St} {i : Nat} {vs : List Nat}, i ∈ vs → (L2.wipe τ vs)[i]? = if i < τ.length then some none else none := by
    intro τ i vs
    induction vs with
    | nil => intro h; simp at h
    | cons v vs ih =>
      intro h
      unfold L2.wipe
      by_cases z : v = i
      · subst z
        by_cases hv : v < τ.length
        · rw [List.getElem?_set_self (by rw [wipe_length]; exact hv), if_pos hv]
        · rw [List.getElem?_eq_none (by rw [List.length_set, wipe_length]; omega), if_neg hv]
      · rw [List.getElem?_set_ne z]
        exact ih ((List.mem_cons.mp h).resolve_left fun q => z q.symm)
  refine List.ext_getElem? fun i => ?_
  by_cases hi : i ∈ vs
  · rw [in_ hi, in_ hi, hl]
  · rw [wipe_out hi, wipe_out hi, h i hi]
def mC (t : D → Ms Loc) (c : Ms Bool) (elt : Ms Va) (L : Loc) (d : D) (S : Store) : Option (Option D × Store) :=
  bnd (t d L S) fun Lb S => bnd (c Lb S) fun k S => if k = true then bnd (elt Lb S) fun x S => bnd (lft (unV x) S) fun y S => some (some y, S) else some (none, S)
theorem Ext.wroteD {g g' : Gh} {H H' : Hp} {p : Addr} {o : HO} (e : Ext g H g' H') (h : H p = none) : Ext g H g' (upd H' p o) := e.wroteNew h
theorem comp_wk {own : List (Str × Nat)} {mw : Ms (List D)} {mt : Ms Bool} {me : Ms Va} (hsl : ∀ j ∈ sl, j ∈ own.map (·.2)) (σ : L2.St) (H : Hp) (Q : VK)
    (h : tDF X.K (fun L S => bnd (mw L S) fun ds S1 => if ds.length < line then compL (mC mg mt me (wipeL L (own.map (·.2)))) ds S1 else none) σ H Q) :
    tLc (tDI X.K true mw) (tDG X.K sl true mg) (tDT X.K mt) (tD X.K me) (own.map (·.2)) σ H Q := by
  obtain ⟨g, H0, L, S, xs, S', cr, e, q⟩ := h
  obtain ⟨ds, S1, e1, e⟩ := of_bnd e
  split at e
  · rename_i hz
    refine ⟨g, H0, L, S, ds, S1, cr, e1, fun J g1 H1 x1 s1 j D hD => ?_⟩
    have c1 := cr.ext x1 s1
    refine ⟨fun i m H2 => m = ds.length - i ∧ i ≤ ds.length ∧ ∃ g2 S2 acc done rs, Ext g1 H1 g2 H2 ∧ Gs X.K g2 H2 S2 ∧ H2 D = some (.lst acc) ∧ Rps X.K g2 H2 acc done ∧ done.length ≤ i ∧ g2.W D ∧ D ∉ g2.ca ∧
        compL (mC mg mt me (wipeL L (own.map (·.2)))) (ds.drop i) S2 = some (rs, S') ∧ done ++ rs = xs, ⟨ds.length, by simp, Nat.zero_le _, ?_⟩, ?_⟩
    · obtain ⟨x2, s2⟩ := new_own (xs := []) s1 hD
      exact ⟨g1.plus D, S1, [], [], xs, x2, s2, upd_same, .nil, Nat.le_refl _, .inr rfl, fun z => s1.nw hD (s1.cw D z), by simpa using e, rfl⟩
    · rintro i m H2 ⟨rfl, hi, g2, S2, acc, done, rs, x2, s2, hD2, r2, hl2, w2, n2, e2, e3⟩
      have jj := j g2 H2 S2 (by simpa using x2) s2
      by_cases hlt : i < ds.length
      · right
        obtain ⟨go, yl⟩ := jj.1 i ds[i] (by simp [hlt])
        rw [List.drop_eq_getElem_cons hlt] at e2
        unfold compL at e2
        obtain ⟨r, S3, e4, e2⟩ := of_bnd e2
        obtain ⟨rs', S4, e5, e2⟩ := of_bnd e2
        cases e2
        unfold mC at e4
        obtain ⟨Lb, S5, e6, e4⟩ := of_bnd e4
        obtain ⟨k, S6, e7, e4⟩ := of_bnd e4
        refine ⟨go, fun H' => i + 1 ≤ ds.length ∧ ∃ g2 S2 acc done rs, Ext g1 H1 g2 H' ∧ Gs X.K g2 H' S2 ∧ H' D = some (.lst acc) ∧ Rps X.K g2 H' acc done ∧ done.length ≤ i + 1 ∧ g2.W D ∧ D ∉ g2.ca ∧
          compL (mC mg mt me (wipeL L (own.map (·.2)))) (ds.drop (i + 1)) S2 = some (rs, S') ∧ done ++ rs = xs, fun H' hH => ⟨ds.length - (i + 1), by omega, rfl, hH⟩, fun x H3 y => ?_⟩
        obtain ⟨x3, s3, r3⟩ := yl x H3 y
        have c3 : Cr X.K g2 H0 (L2.wipe σ (own.map (·.2))) H3 (wipeL L (own.map (·.2))) S2 := ⟨s3, ((c1.l.ext x2 s1.cw).ext x3 s2.cw).wipe _⟩
        refine ⟨g2, H0, _, S2, _, Lb, S5, c3, r3, e6, fun σ4 g4 H4 _ w4 c4 l4 o4 p4 => ?_⟩
        obtain ⟨rfl, rfl, rfl⟩ := p4 rfl
        refine ⟨?_, ?_⟩
        · rw [wipe_same l4 fun j hj => o4 j fun z => hj (hsl j z)]
          exact wipe_same (wipe_length _ _) fun j hj => wipe_out hj
        · refine ⟨g4, H0, Lb, S5, k, S6, c4, e7, fun g5 H5 x5 s5 => ?_⟩
          have hD3 : H4 D = some (.lst acc) := x3.keep _ _ hD2 n2
          have n5 : D ∉ g5.ca := fun z => (x5.new D z).elim n2 fun q => by rw [hD3] at q; cases q
          have w5 : g5.W D := (x5.wk _ _ hD3).mpr w2
          have r5 : Rps X.K g5 H5 acc done := Rps.ext x5 s3.cw (Rps.ext x3 s2.cw r2)
          cases k with
          | false =>
            simp only [Bool.false_eq_true, if_false] at e4 ⊢
            cases e4
            exact ⟨by omega, g5, _, acc, done, rs', (x2.trans x3).trans x5, s5, x5.keep _ _ hD3 n2, r5, by omega, w5, n5, e5, e3⟩
          | true =>
            simp only [if_true] at e4 ⊢
            obtain ⟨y0, S7, e8, e4⟩ := of_bnd e4
            obtain ⟨y1, S8, e9, e4⟩ := of_bnd e4
            cases e4
            obtain ⟨e9, rfl⟩ := of_lft e9
            refine ⟨g5, H0, Lb, S6, y0, _, c4.ext x5 s5, e8, fun v g6 H6 x6 s6 r6 => ?_⟩
            have hD5 := x5.keep _ _ hD3 n2
            have hD6 := x6.keep _ _ hD5 n5
            have n6 : D ∉ g6.ca := fun z => (x6.new D z).elim n5 fun q => by rw [hD5] at q; cases q
            have w6 : g6.W D := (x6.wk _ _ hD5).mpr w5
            have rr := Rps.ext x6 s5.cw r5
            have ry : Rp X.K g6 H6 v y1 := by
              cases y0 with
              | d z => cases e9; exact r6
              | b z => cases e9
            refine ⟨acc, hD6, by rw [rr.length, line_eq]; omega, by omega, g6, _, acc ++ [v], done ++ [y1], rs', (((x2.trans x3).trans x5).trans x6).wroteNew hD, s6.wrote w6 n6, upd_same, Rps.wrote w6 (rr.append (.cons ry .nil)), ?_, w6, n6, e5, ?_⟩
            · rw [List.length_append, List.length_singleton]; omega
            · rw [List.append_assoc]; exact e3
      · left
        have ei : i = ds.length := by omega
        subst ei
        refine ⟨jj.2, ?_⟩
        rw [List.drop_length] at e2
        cases e2
        rw [List.append_nil] at e3
        subst e3
        refine q D acc g2 H2 (x1.trans x2) s2 hD2 r2 w2 n2 ?_
        cases z : H D with
        | none => rfl
        | some o =>
          obtain ⟨o', z'⟩ := x1.there D o z
          rw [hD] at z'; cases z'
  · cases e
/-- [elt for t in w if c] -/
theorem pf_comp {elt tg iter : Expr} {ifs : List Expr} {scope : Scope} {own : List (Str × Nat)} {mw : Ms (List D)} {mt : Ms Bool} {me : Ms Va} (hc : X.calm = true) (hN : X.N.Nodup) (hi : PI X tg iter (tDI X.K true mw)) (ok : BlkOk X.N X.env.scope scope own)
    (hsl : ∀ j ∈ sl, j ∈ own.map (·.2))
    (hg : ∀ (s : Shared) (H : Hp) (C : Addr) (cl : List (Str × Addr)) (fp : List Addr), PG (X.blk s H scope (compEnvC scope cl C X.env) fp) tg (tDG X.K sl true mg))
    (ht : ∀ (s : Shared) (H : Hp) (C : Addr) (cl : List (Str × Addr)) (fp : List Addr), PTs (X.blk s H scope (compEnvC scope cl C X.env) fp) ifs (tDT X.K mt))
    (he : ∀ (s : Shared) (H : Hp) (C : Addr) (cl : List (Str × Addr)) (fp : List Addr), PE (X.blk s H scope (compEnvC scope cl C X.env) fp) elt (tD X.K me)) (hs : ∀ x, foldedSetIterable iter X.env x = pure x) :
    PE X (.ListComp elt [⟨tg, iter, ifs, 0⟩] scope pos) (tDF X.K fun L S => bnd (mw L S) fun ds S1 => if ds.length < line then compL (mC mg mt me (wipeL L (own.map (·.2)))) ds S1 else none) :=
  (pe_lc hc hN hi ok hg ht he hs).wk (comp_wk hsl)
end
end PD

set_option Elab.async false
set_option linter.all false
set_option maxRecDepth 100000
set_option maxHeartbeats 4000000
/-! PD, part g2: comprehensions with two fors. -/
namespace PD
open PySem PySem.Spec PyProof.Rows L2
theorem LR.wroteOld {K : PySem.W.Frag} {g : Gh} {H0 H : Hp} {σ : L2.St} {L : Loc} {p : Addr} {o u : HO} (l : LR K g H0 σ H L) (w : g.W p) (z : H0 p = some u) : LR K g H0 σ (upd H p o) L := by
  refine ⟨l.len, old_upd l.old, fun j e h => ?_, fun j fs h => ?_, l.inj⟩
  · obtain ⟨v, q1, q2⟩ := l.dat j e h
    exact ⟨v, q1, Rp.wrote w q2⟩
  · obtain ⟨b, zs, q1, q2, q3, q4, q5, q6⟩ := l.own j fs h
    have ne : b ≠ p := fun q => by rw [q, z] at q6; cases q6
    exact ⟨b, zs, q1, by rw [upd_ne ne]; exact q2, Rps.wrote w q3, q4, q5, q6⟩
theorem LR.fresh {K : PySem.W.Frag} {g g' : Gh} {H0 H H' : Hp} {σ : L2.St} {L : Loc} {p : Addr} {o u : HO} (l : LR K g H0 σ H L) (e : Ext g H g' H') (hc : ∀ c ∈ g.ca, g.W c) (hp : H p = none) (hp' : H' p = some o) : LR K g' (upd H0 p u) σ H' L := by
  have l' := l.ext e hc
  refine ⟨l'.len, fun b x h => ?_, l'.dat, fun j fs h => ?_, l'.inj⟩
  · by_cases z : b = p
    · exact ⟨o, by rw [z]; exact hp'⟩
    · rw [upd_ne z] at h; exact l'.old b x h
  · obtain ⟨b, zs, q1, q2, q3, q4, q5, q6⟩ := l'.own j fs h
    obtain ⟨b', zs', k1, k2, _⟩ := l.own j fs h
    rw [q1] at k1
    cases k1
    have ne : b ≠ p := fun q => by rw [q, hp] at k2; cases k2
    exact ⟨b, zs, q1, q2, q3, q4, q5, by rw [upd_ne ne]; exact q6⟩
section
variable {X : Cx} {e a b c : Expr} {es : List Expr} {pos p : Pos} {sl sl1 : List Nat} {mg mg1 : D → Ms Loc}
def mC2 (t : D → Ms Loc) (c : Ms Bool) (w1 : Ms (List D)) (t1 : D → Ms Loc) (c1 : Ms Bool) (elt : Ms Va) (own1 : List Nat) (L : Loc) (d : D) (S : Store) : Option (List D × Store) :=
  bnd (t d L S) fun Lb S => bnd (c Lb S) fun k S => if k = true then bnd (w1 Lb S) fun es S => compL (mC t1 c1 elt (wipeL Lb own1)) es S else some ([], S)
theorem comp2_wk {own : List (Str × Nat)} {own1 : List Nat} {mw mw1 : Ms (List D)} {mt mt1 : Ms Bool} {me : Ms Va} (hsl : ∀ j ∈ sl, j ∈ own.map (·.2)) (hsl1 : ∀ j ∈ sl1, j ∈ own1) (σ : L2.St) (H : Hp) (Q : VK)
    (h : tDF X.K (fun L S => bnd (mw L S) fun ds S1 => bnd (compN (mC2 mg mt mw1 mg1 mt1 me own1 (wipeL L (own.map (·.2)))) ds S1) fun xs S2 => if xs.length ≤ line then some (xs, S2) else none) σ H Q) :
    tLc2 (tDI X.K true mw) (tDG X.K sl true mg) (tDT X.K mt) (tDI X.K false mw1) (tDG X.K sl1 true mg1) (tDT X.K mt1) (tD X.K me) (own.map (·.2)) own1 σ H Q := by
  obtain ⟨g, H0, L, S, xs, S', cr, e, q⟩ := h
  obtain ⟨ds, S1, e1, e'⟩ := of_bnd e
  clear e
  obtain ⟨xs', S2', e2, e''⟩ := of_bnd e'
  clear e'
  split at e''
  · rename_i hz
    cases e''
    refine ⟨g, H0, L, S, ds, S1, cr, e1, fun J g1 H1 x1 s1 j D hD => ?_⟩
    have c1 := cr.ext x1 s1
    refine ⟨fun i m H2 => m = ds.length - i ∧ i ≤ ds.length ∧ ∃ g2 S2 acc done rs, Ext g1 H1 g2 H2 ∧ Gs X.K g2 H2 S2 ∧ H2 D = some (.lst acc) ∧ Rps X.K g2 H2 acc done ∧ g2.W D ∧ D ∉ g2.ca ∧
        compN (mC2 mg mt mw1 mg1 mt1 me own1 (wipeL L (own.map (·.2)))) (ds.drop i) S2 = some (rs, S') ∧ done ++ rs = xs, ⟨ds.length, by simp, Nat.zero_le _, ?_⟩, ?_⟩
    · obtain ⟨x2, s2⟩ := new_own (xs := []) s1 hD
      exact ⟨g1.plus D, S1, [], [], xs, x2, s2, upd_same, .nil, .inr rfl, fun z => s1.nw hD (s1.cw D z), by simpa using e2, rfl⟩
    · rintro i m H2 ⟨rfl, hi, g2, S2, acc, done, rs, x2, s2, hD2, r2, w2, n2, e2, e3⟩
      have jj := j g2 H2 S2 (by simpa using x2) s2
      by_cases hlt : i < ds.length
      · right
        obtain ⟨go, yl⟩ := jj.1 i ds[i] (by simp [hlt])
        rw [List.drop_eq_getElem_cons hlt] at e2
        unfold compN at e2
        obtain ⟨r, S3, e4, e2⟩ := of_bnd e2
        obtain ⟨rs', S4, e5, e2⟩ := of_bnd e2
        cases e2
        unfold mC2 at e4
        obtain ⟨Lb, S5, e6, e4⟩ := of_bnd e4
        obtain ⟨k, S6, e7, e4⟩ := of_bnd e4
        refine ⟨go, fun H' => i + 1 ≤ ds.length ∧ ∃ g2 S2 acc done rs, Ext g1 H1 g2 H' ∧ Gs X.K g2 H' S2 ∧ H' D = some (.lst acc) ∧ Rps X.K g2 H' acc done ∧ g2.W D ∧ D ∉ g2.ca ∧
          compN (mC2 mg mt mw1 mg1 mt1 me own1 (wipeL L (own.map (·.2)))) (ds.drop (i + 1)) S2 = some (rs, S') ∧ done ++ rs = xs, fun H' hH => ⟨ds.length - (i + 1), by omega, rfl, hH⟩, fun x H3 y => ?_⟩
        obtain ⟨x3, s3, r3⟩ := yl x H3 y
        have c3 : Cr X.K g2 (upd H0 D (.lst [])) (L2.wipe σ (own.map (·.2))) H3 (wipeL L (own.map (·.2))) S2 := ⟨s3, ((c1.l.fresh x2 s1.cw hD hD2).ext x3 s2.cw).wipe _⟩
        refine ⟨g2, upd H0 D (.lst []), _, S2, _, Lb, S5, c3, r3, e6, fun σ4 g4 H4 _ w4 c4 l4 o4 p4 => ?_⟩
        obtain ⟨rfl, rfl, rfl⟩ := p4 rfl
        refine ⟨?_, ?_⟩
        · rw [wipe_same l4 fun j hj => o4 j fun z => hj (hsl j z)]
          exact wipe_same (wipe_length _ _) fun j hj => wipe_out hj
        · refine ⟨g4, upd H0 D (.lst []), Lb, S5, k, S6, c4, e7, fun g5 H5 x5 s5 => ?_⟩
          have hD3 : H4 D = some (.lst acc) := x3.keep _ _ hD2 n2
          have n5 : D ∉ g5.ca := fun z => (x5.new D z).elim n2 fun q => by rw [hD3] at q; cases q
          have w5 : g5.W D := (x5.wk _ _ hD3).mpr w2
          have r5 : Rps X.K g5 H5 acc done := Rps.ext x5 s3.cw (Rps.ext x3 s2.cw r2)
          have hD5 := x5.keep _ _ hD3 n2
          have x25 := (x2.trans x3).trans x5
          cases k with
          | false =>
            simp only [Bool.false_eq_true, if_false] at e4 ⊢
            cases e4
            exact ⟨by omega, g5, _, acc, done, rs', x25, s5, hD5, r5, w5, n5, e5, e3⟩
          | true =>
            simp only [if_true] at e4 ⊢
            obtain ⟨es1, S7, e8, e9⟩ := of_bnd e4
            clear e4
            have c5 := c4.ext x5 s5
            refine ⟨g5, upd H0 D (.lst []), Lb, _, es1, S7, c5, e8, fun J1 g6 H6 x6 s6 j1 => ?_⟩
            have hD6 := x6.keep _ _ hD5 n5
            have n6 : D ∉ g6.ca := fun z => (x6.new D z).elim n5 fun q => by rw [hD5] at q; cases q
            have w6 : g6.W D := (x6.wk _ _ hD5).mpr w5
            have r6 := Rps.ext x6 s5.cw r5
            have c6 := c5.ext x6 s6
            refine ⟨fun jx m H7 => m = es1.length - jx ∧ jx ≤ es1.length ∧ ∃ g7 S8 acc done rs1, ExtW g6 H6 g7 H7 ∧ LR X.K g7 (upd H0 D (.lst [])) σ4 H7 Lb ∧ Ext g1 H1 g7 H7 ∧ Gs X.K g7 H7 S8 ∧ H7 D = some (.lst acc) ∧ Rps X.K g7 H7 acc done ∧ g7.W D ∧ D ∉ g7.ca ∧
                compL (mC mg1 mt1 me (wipeL Lb own1)) (es1.drop jx) S8 = some (rs1, S3) ∧ done ++ (rs1 ++ rs') = xs, ⟨es1.length, by simp, Nat.zero_le _, g6, S7, acc, done, r, ExtW.refl, c6.l, x25.trans x6, s6, hD6, r6, w6, n6, by simpa using e9, e3⟩, ?_⟩
            rintro jx m H7 ⟨rfl, hjx, g7, S8, acc7, done7, rs1, x7, l7, x17, s7, hD7, r7, w7, n7, e10, e11⟩
            have jj1 := j1 g7 H7 S8 (by simpa using x7) s7
            by_cases hlt1 : jx < es1.length
            · right
              obtain ⟨go1, yl1⟩ := jj1.1 jx es1[jx] (by simp [hlt1])
              rw [List.drop_eq_getElem_cons hlt1] at e10
              unfold compL at e10
              obtain ⟨r8, S9, e12, e10⟩ := of_bnd e10
              obtain ⟨rs2, S10, e13, e10⟩ := of_bnd e10
              cases e10
              unfold mC at e12
              obtain ⟨Lc, S11, e14, e12⟩ := of_bnd e12
              obtain ⟨k1, S12, e15, e12⟩ := of_bnd e12
              refine ⟨go1, fun H' => jx + 1 ≤ es1.length ∧ ∃ g7 S8 acc done rs1, ExtW g6 H6 g7 H' ∧ LR X.K g7 (upd H0 D (.lst [])) σ4 H' Lb ∧ Ext g1 H1 g7 H' ∧ Gs X.K g7 H' S8 ∧ H' D = some (.lst acc) ∧ Rps X.K g7 H' acc done ∧ g7.W D ∧ D ∉ g7.ca ∧
                compL (mC mg1 mt1 me (wipeL Lb own1)) (es1.drop (jx + 1)) S8 = some (rs1, _) ∧ done ++ (rs1 ++ rs') = xs, fun H' hH => ⟨es1.length - (jx + 1), by omega, rfl, hH⟩, fun x H8 y => ?_⟩
              obtain ⟨x8, s8, r8'⟩ := yl1 x H8 y
              have l8 := l7.ext x8 s7.cw
              have c8 : Cr X.K g7 (upd H0 D (.lst [])) (L2.wipe σ4 own1) H8 (wipeL Lb own1) S8 := ⟨s8, l8.wipe _⟩
              refine ⟨g7, upd H0 D (.lst []), _, S8, _, Lc, S11, c8, r8', e14, fun σ9 g9 H9 _ w9 c9 l9 o9 p9 => ?_⟩
              obtain ⟨rfl, rfl, rfl⟩ := p9 rfl
              refine ⟨?_, ?_⟩
              · rw [wipe_same l9 fun j hj => o9 j fun z => hj (hsl1 j z)]
                exact wipe_same (wipe_length _ _) fun j hj => wipe_out hj
              · refine ⟨g9, upd H0 D (.lst []), Lc, S11, k1, S12, c9, e15, fun g10 H10 x10 s10 => ?_⟩
                have hD8 : H9 D = some (.lst acc7) := x8.keep _ _ hD7 n7
                have n10 : D ∉ g10.ca := fun z => (x10.new D z).elim n7 fun q => by rw [hD8] at q; cases q
                have w10 : g10.W D := (x10.wk _ _ hD8).mpr w7
                have r10 : Rps X.K g10 H10 acc7 done7 := Rps.ext x10 s8.cw (Rps.ext x8 s7.cw r7)
                cases k1 with
                | false =>
                  simp only [Bool.false_eq_true, if_false] at e12 ⊢
                  cases e12
                  exact ⟨by omega, g10, _, acc7, done7, rs2, (x7.trans (x8.w s7.cw)).trans (x10.w s8.cw), l8.ext x10 s8.cw, (x17.trans x8).trans x10, s10, x10.keep _ _ hD8 n7, r10, w10, n10, e13, e11⟩
                | true =>
                  simp only [if_true] at e12 ⊢
                  obtain ⟨y0, S13, e16, e12⟩ := of_bnd e12
                  obtain ⟨y1, S14, e17, e12⟩ := of_bnd e12
                  cases e12
                  obtain ⟨e17, rfl⟩ := of_lft e17
                  refine ⟨g10, upd H0 D (.lst []), Lc, S12, y0, _, c9.ext x10 s10, e16, fun v g11 H11 x11 s11 r11 => ?_⟩
                  have hD10 := x10.keep _ _ hD8 n7
                  have hD11 := x11.keep _ _ hD10 n10
                  have n11 : D ∉ g11.ca := fun z => (x11.new D z).elim n10 fun q => by rw [hD10] at q; cases q
                  have w11 : g11.W D := (x11.wk _ _ hD10).mpr w10
                  have rr := Rps.ext x11 s10.cw r10
                  have ry : Rp X.K g11 H11 v y1 := by
                    cases y0 with
                    | d z => cases e17; exact r11
                    | b z => cases e17
                  refine ⟨acc7, hD11, ?_, by omega, g11, _, acc7 ++ [v], done7 ++ [y1], rs2, (((x7.trans (x8.w s7.cw)).trans (x10.w s8.cw)).trans (x11.w s10.cw)).trans (ExtW.wrote w11), LR.wroteOld ((l8.ext x10 s8.cw).ext x11 s10.cw) w11 upd_same, (((x17.trans x8).trans x10).trans x11).wroteNew hD, s11.wrote w11 n11, upd_same, Rps.wrote w11 (rr.append (.cons ry .nil)), w11, n11, e13, ?_⟩
                  · rw [rr.length, line_eq]
                    have := congrArg List.length e11
                    simp only [List.length_append, List.length_cons] at this
                    omega
                  · rw [← e11]
                    simp
            · left
              have ei : jx = es1.length := by omega
              subst ei
              refine ⟨jj1.2, ?_⟩
              rw [List.drop_length] at e10
              cases e10
              exact ⟨by omega, g7, _, acc7, done7, rs', x17, s7, hD7, r7, w7, n7, e5, e11⟩
      · left
        have ei : i = ds.length := by omega
        subst ei
        refine ⟨jj.2, ?_⟩
        rw [List.drop_length] at e2
        cases e2
        rw [List.append_nil] at e3
        subst e3
        refine q D acc g2 H2 (x1.trans x2) s2 hD2 r2 w2 n2 ?_
        cases z : H D with
        | none => rfl
        | some o =>
          obtain ⟨o', z'⟩ := x1.there D o z
          rw [hD] at z'; cases z'
  · cases e''
/-- [elt for t in w if c for t1 in w1 if c1] -/
theorem pf_comp2 {elt tg iter tg1 iter1 : Expr} {ifs ifs1 : List Expr} {scope : Scope} {own : List (Str × Nat)} {own1 : List Nat} {mw mw1 : Ms (List D)} {mt mt1 : Ms Bool} {me : Ms Va} (hc : X.calm = true) (hN : X.N.Nodup) (hi : PI X tg iter (tDI X.K true mw)) (ok : BlkOk X.N X.env.scope scope own)
    (hsl : ∀ j ∈ sl, j ∈ own.map (·.2)) (hsl1 : ∀ j ∈ sl1, j ∈ own1) (hv : ∀ i ∈ own1, i ∈ own.map (·.2))
    (hg : ∀ (s : Shared) (H : Hp) (C : Addr) (cl : List (Str × Addr)) (fp : List Addr), PG (X.blk s H scope (compEnvC scope cl C X.env) fp) tg (tDG X.K sl true mg))
    (ht : ∀ (s : Shared) (H : Hp) (C : Addr) (cl : List (Str × Addr)) (fp : List Addr), PTs (X.blk s H scope (compEnvC scope cl C X.env) fp) ifs (tDT X.K mt))
    (hi1 : ∀ (s : Shared) (H : Hp) (C : Addr) (cl : List (Str × Addr)) (fp : List Addr), PI (X.blk s H scope (compEnvC scope cl C X.env) fp) tg1 iter1 (tDI X.K false mw1))
    (hg1 : ∀ (s : Shared) (H : Hp) (C : Addr) (cl : List (Str × Addr)) (fp : List Addr), PG (X.blk s H scope (compEnvC scope cl C X.env) fp) tg1 (tDG X.K sl1 true mg1))
    (ht1 : ∀ (s : Shared) (H : Hp) (C : Addr) (cl : List (Str × Addr)) (fp : List Addr), PTs (X.blk s H scope (compEnvC scope cl C X.env) fp) ifs1 (tDT X.K mt1))
    (he : ∀ (s : Shared) (H : Hp) (C : Addr) (cl : List (Str × Addr)) (fp : List Addr), PE (X.blk s H scope (compEnvC scope cl C X.env) fp) elt (tD X.K me)) (hs : ∀ x, foldedSetIterable iter X.env x = pure x) (hs1 : ∀ env x, foldedSetIterable iter1 env x = pure x) :
    PE X (.ListComp elt [⟨tg, iter, ifs, 0⟩, ⟨tg1, iter1, ifs1, 0⟩] scope pos) (tDF X.K fun L S => bnd (mw L S) fun ds S1 => bnd (compN (mC2 mg mt mw1 mg1 mt1 me own1 (wipeL L (own.map (·.2)))) ds S1) fun xs S2 => if xs.length ≤ line then some (xs, S2) else none) :=
  (pe_lc2 hc hN hi ok hv hg ht hi1 hg1 ht1 he hs hs1).wk (comp2_wk hsl hsl1)
end
end PD

set_option Elab.async false
set_option linter.all false
set_option maxRecDepth 100000
set_option maxHeartbeats 4000000
/-! PD, part h: calls of defs, statements. -/
namespace PD
open PySem PySem.Spec PyProof.Rows L2

/-! ### what a def promises, where the guards are known -/
structure FnG (P : Program) (w : World) (K : PySem.W.Frag) (mg : Str → Option Value) (base : Heap) (k : Nat) (f : Addr) (fd : FuncData) (ps : List Str) (sp : Sp) : Prop where
  len : ∀ vs H Q E, sp vs H Q E → vs.length = ps.length
  run : ∀ (A : Around) (outer : List PySem.Env) (s : Shared) (H : Hp) (args : Args) (us : List Value) (vs : List V) (Q : VK) (E : XK), Room k A → A.guards = some [] →
    Env0 P w K mg base A outer s H → BindsTo s fd args (ps.zip us) → Vals vs us → sp vs H Q E →
    codeAny (model P w) A (.call (.ref f) args) (CR CX0 outer P w H s Q E) s
theorem FnG.mono {P : Program} {w : World} {K : PySem.W.Frag} {mg : Str → Option Value} {base : Heap} {j k : Nat} {f : Addr} {fd : FuncData} {ps : List Str} {sp : Sp} (F : FnG P w K mg base j f fd ps sp) (h : j ≤ k) : FnG P w K mg base k f fd ps sp :=
  ⟨F.len, fun A outer s H args us vs Q E hr => F.run A outer s H args us vs Q E (hr.mono h)⟩

/-- one way of calling a def -/
def EntOk (P : Program) (w : World) (K : PySem.W.Frag) (mg : Str → Option Value) (base : Heap) (k : Nat) (e : Ent) : Prop :=
  ∃ (f : Addr) (fd : FuncData) (ps : List Str) (sp : Sp) (gs : List Value → List Value → List Value) (gv : List V → List V → List V),
    mg e.name = some (.ref f) ∧ PySem.W.keepIn K (.ref f) = true ∧ FnG P w K mg base k f fd ps sp ∧ KBn K fd ps e.n e.ks gs gv ∧
    ∀ g H S vs zs ds d S' (Q : VK), Gs K g H S → Rps K g H (vs ++ zs) ds → vs.length = e.n → zs.length = e.ks.length → e.sem ds S = some (d, S') →
      (∀ v g' H', Ext g H g' H' → Gs K g' H' S' → Rp K g' H' v d → Q v H') → sp (gv vs zs) H Q E0

section
variable {X : Cx} {e a b c : Expr} {es : List Expr} {kws : List Keyword} {ma mb mc : Ms Va} {mes mks : Ms (List Va)} {mf : Ms (List D)} {pos p : Pos} {x : Str} {k : Nat}
theorem _root_.L2.PK.wk {t t' : TA} (h : PK X kws t) (w : ∀ σ H Q, t' σ H Q → t σ H Q) : PK X kws t' := ⟨fun pos pins s σ H Q I q => h.run pos pins s σ H Q I (w σ H Q q)⟩
theorem pk_nilD : PK X [] (tDA X.K fun _ S => some ([], S)) := by
  refine pk_nil.wk fun σ H Q h => ?_
  obtain ⟨g, H0, L, S, x, S', cr, e, q⟩ := h
  cases e
  exact q [] g H Ext.refl cr.s .nil
theorem pk_consD {nm : Option Str} {kpos : Pos} (ha : PE X e (tD X.K ma)) (hr : PK X kws (tDA X.K mes)) :
    PK X (⟨nm, e, kpos⟩ :: kws) (tDA X.K fun L S => bnd (ma L S) fun x S1 => bnd (mes L S1) fun xs S2 => some (x :: xs, S2)) := by
  refine (pk_cons ha hr).wk fun σ H Q h => ?_
  obtain ⟨g, H0, L, S, x, S', cr, e, q⟩ := h
  obtain ⟨dx, S1, e1, e⟩ := of_bnd e
  obtain ⟨dxs, S2, e2, e⟩ := of_bnd e
  cases e
  exact ⟨g, H0, L, S, dx, S1, cr, e1, fun v g1 H1 x1 s1 r1 => ⟨g1, H0, L, S1, dxs, _, cr.ext x1 s1, e2, fun vs g2 H2 x2 s2 r2 => q (v :: vs) g2 H2 (x1.trans x2) s2 (.cons (r1.ext x2 s1.cw) r2)⟩⟩
theorem RpVs.append {K : PySem.W.Frag} {g : Gh} {H : Hp} : ∀ {vs us : List V} {xs ys : List Va}, RpVs K g H vs xs → RpVs K g H us ys → RpVs K g H (vs ++ us) (xs ++ ys)
  | _, _, _, _, .nil, r => r
  | _, _, _, _, .cons h t, r => .cons h (RpVs.append t r)
theorem run_fnG {pins : List (Addr × Obj)} {σ : L2.St} {H : Hp} {s : Shared} {Q : VK} {us ws : List Value} {vs zs : List V} {n : Nat} {ks ps : List Str} {f : Addr} {fd : FuncData} {sp : Sp} {gs : List Value → List Value → List Value} {gv : List V → List V → List V}
    (F : FnG X.prog X.w X.K X.mg X.base k f fd ps sp) (hr : Room k X.A) (hg : X.A.guards = some []) (hb : KBn X.K fd ps n ks gs gv)
    (I : Inv X pins σ H s) (r : Vals vs us) (rz : Vals zs ws) (l1 : vs.length = n) (l2 : zs.length = ks.length) (h : sp (gv vs zs) H Q E0) : wpAny (model X.prog X.w) X.A (call (.ref f) us (ks.zip ws)) (EP X pins σ Q) X.xe s := by
  have bt := hb.to s us ws I.kIn (r.length.symm.trans l1) (rz.length.symm.trans l2)
  refine wpAny_call (codeAny_mono (F.run X.A X.stack s H _ _ _ Q E0 hr hg I.env0 bt (hb.rel r rz) h) ?_)
  rintro (e | fl) s' hq
  · exact hq.elim
  · cases fl with
    | ret u => exact I.after hq
    | next => exact hq.elim
    | brk => exact hq.elim
    | cont => exact hq.elim
theorem pd_call {ent : Ent} (hE : EntOk X.prog X.w X.K X.mg X.base k ent) (hr : Room k X.A) (hg : X.A.guards = some []) (hgl : Gl X ent.name) (ha : PA X es (tDA X.K mes)) (hk : PK X kws (tDA X.K mks)) (hdb : (ent.name == ("__debug__" : Str)) = false)
    (hall : (backToKw pos (keywordEach kws X.env)).all (·.1.isSome) = true) (hks : (backToKw pos (keywordEach kws X.env)).filterMap (·.1) = ent.ks)
    (hnil : es = [] → mes = fun _ S => some ([], S)) (hst : ∀ y r, es = y :: r → starEach (y :: r) X.env = (false, eval y X.env) :: starEach r X.env)
    (hpl : ((backTo pos (starEach es X.env)).any (·.1) || (backToKw pos (keywordEach kws X.env)).any (·.1.isNone)) = false) :
    PE X (.Call (.Name ent.name p) es kws pos) (tD X.K fun L S => bnd (mes L S) fun xs S1 => bnd (mks L S1) fun zs S2 => bnd (lft (unVs (xs ++ zs)) S2) fun ds S2 =>
      if xs.length = ent.n ∧ zs.length = ent.ks.length then bnd (ent.sem ds S2) fun d S3 => some (.d d, S3) else none) := by
  obtain ⟨f, fd, ps, sp, gs, gv, hm, hkp, F, hb, hsp⟩ := hE
  refine ⟨fun pins s σ H Q I h => ?_⟩
  refine wpAny_Call_Name_kw (ld_glob I hgl hm ?_ hdb)
  obtain ⟨g, H0, L, S, x, S', cr, e, q⟩ := h
  obtain ⟨xs, S1, e1, e5⟩ := of_bnd e
  obtain ⟨zs, S2, e2, e6⟩ := of_bnd e5
  obtain ⟨ds, S3, e7, e8⟩ := of_bnd e6
  obtain ⟨e3, eS⟩ := of_lft e7
  subst eS
  clear e e5 e6 e7
  by_cases hn : xs.length = ent.n ∧ zs.length = ent.ks.length
  · rw [if_pos hn] at e8
    obtain ⟨d, S4, e4, e9⟩ := of_bnd e8
    cases e9
    -- the arguments
    have hargs : wpAny (model X.prog X.w) X.A (spliced (backTo pos (starEach es X.env))) (AP X pins σ fun vs H1 => ∃ g1, Ext g H g1 H1 ∧ Gs X.K g1 H1 S1 ∧ RpVs X.K g1 H1 vs xs) X.xe s :=
      ha.run pos pins s σ H _ I ⟨g, H0, L, S, xs, S1, cr, e1, fun vs g1 H1 x1 s1 r1 => ⟨g1, x1, s1, r1⟩⟩
    have fin : ∀ us s1, AP X pins σ (fun vs H1 => ∃ g1, Ext g H g1 H1 ∧ Gs X.K g1 H1 S1 ∧ RpVs X.K g1 H1 vs xs) us s1 →
        wpAny (model X.prog X.w) X.A (evalAll ((backToKw pos (keywordEach kws X.env)).map (·.2))) (fun ws s2 => X.K.In s2.heap ∧ wpAny (model X.prog X.w) X.A (call (.ref f) us (((backToKw pos (keywordEach kws X.env)).filterMap (·.1)).zip ws)) (EP X pins σ Q) X.xe s2) X.xe s1 := by
      rintro us s1 ⟨vs, H1, I1, r1, g1, x1, t1, v1⟩
      refine thn (hk.run pos pins s1 σ H1 (fun us H2 => ∃ g2, Ext g1 H1 g2 H2 ∧ Gs X.K g2 H2 S3 ∧ RpVs X.K g2 H2 us zs) I1 ⟨g1, H0, L, S1, zs, S3, cr.ext x1 t1, e2, fun us g2 H2 x2 s2 r2 => ⟨g2, x2, s2, r2⟩⟩) ?_
      rintro ws s2 ⟨vz, H2, I2, r2, g2, x2, t2, v2⟩
      refine ⟨I2.kIn, ?_⟩
      rw [hks]
      have va := (v1.ext x2 t1.cw).append v2
      have rp := va.strict e3
      refine run_fnG F hr hg hb I2 r1 r2 (by rw [v1.length]; exact hn.1) (by rw [v2.length]; exact hn.2) ?_
      exact hsp g2 H2 S3 vs vz ds d _ Q t2 rp (by rw [v1.length]; exact hn.1) (by rw [v2.length]; exact hn.2) e4 fun v g3 H3 x3 s3 r3 => q v g3 H3 (x1.trans (x2.trans x3)) s3 r3
    cases es with
    | nil =>
      have e1' := e1
      rw [hnil rfl] at e1'
      cases e1'
      exact PySem.W.callWith_KW0 (h₀ := X.base) I.ok.mod.kin hkp hall (fin [] s ⟨[], H, I, .nil, g, Ext.refl, cr.s, .nil⟩) hpl
    | cons y r => exact PySem.W.callWith_KW (h₀ := X.base) I.ok.mod.kin hkp hall (thn hargs fun us s1 z => fin us s1 z) hpl (hst y r rfl)
  · rw [if_neg hn] at e8
    cases e8
end
end PD

set_option Elab.async false
set_option linter.all false
set_option maxRecDepth 100000
set_option maxHeartbeats 4000000
/-! PD, part i: statements keep their meaning. -/
namespace PD
open PySem PySem.Spec PyProof.Rows L2

/-- what is wanted behind a statement that ends in f -/
def aft (K : PySem.W.Frag) (g : Gh) (H0 H : Hp) (D : Ends) (f : Fl) (La : Loc) (S : Store) : Prop :=
  match f with
  | .nx => ∀ σ g' H', (∀ g0, Ext g0 H0 g H → Ext g0 H0 g' H') → ExtW g H g' H' → Cr K g' H0 σ H' La S → D.nx σ H'
  | .brk => ∀ σ g' H', (∀ g0, Ext g0 H0 g H → Ext g0 H0 g' H') → ExtW g H g' H' → Cr K g' H0 σ H' La S → D.bk σ H'
  | .cnt => ∀ σ g' H', (∀ g0, Ext g0 H0 g H → Ext g0 H0 g' H') → ExtW g H g' H' → Cr K g' H0 σ H' La S → D.ct σ H'
  | .ret d => ∀ v g' H', (∀ g0, Ext g0 H0 g H → Ext g0 H0 g' H') → Gs K g' H' S → Rp K g' H' v d → D.rt v H'
/-- from a moment further on -/
theorem aft.on {K : PySem.W.Frag} {g g1 : Gh} {H0 H H1 : Hp} {D : Ends} {f : Fl} {La : Loc} {S : Store} (x : ∀ g0, Ext g0 H0 g H → Ext g0 H0 g1 H1) (w : ExtW g H g1 H1) (h : aft K g H0 H D f La S) : aft K g1 H0 H1 D f La S := by
  cases f with
  | nx => exact fun σ g' H' x' w' c => h σ g' H' (fun g0 z => x' g0 (x g0 z)) (w.trans w') c
  | brk => exact fun σ g' H' x' w' c => h σ g' H' (fun g0 z => x' g0 (x g0 z)) (w.trans w') c
  | cnt => exact fun σ g' H' x' w' c => h σ g' H' (fun g0 z => x' g0 (x g0 z)) (w.trans w') c
  | ret d => exact fun v g' H' x' s r => h v g' H' (fun g0 z => x' g0 (x g0 z)) s r
def tDS (K : PySem.W.Frag) (m : Ms (Fl × Loc)) : TS := fun D σ H => ∃ g H0 L S f La S', Cr K g H0 σ H L S ∧ m L S = some ((f, La), S') ∧ aft K g H0 H D f La S'
theorem _root_.L2.PS.wk {X : Cx} {e : Stmt} {t t' : TS} (h : PS X e t) (w : ∀ D σ H, t' D σ H → t D σ H) : PS X e t' := ⟨fun pins s σ H D I q => h.run pins s σ H D I (w D σ H q)⟩
theorem _root_.L2.PSs.wk {X : Cx} {e : List Stmt} {t t' : TS} (h : PSs X e t) (w : ∀ D σ H, t' D σ H → t D σ H) : PSs X e t' := ⟨fun pins s σ H D I q => h.run pins s σ H D I (w D σ H q)⟩

section
variable {X : Cx} {e a b c : Expr} {es : List Expr} {ma mb mc : Ms Va} {mes : Ms (List Va)} {mf : Ms (List D)} {pos p p' : Pos} {x y : Str} {st : Stmt} {sts sts' : List Stmt} {ms ms' : Ms (Fl × Loc)}
theorem pss_nilD : PSs X [] (tDS X.K fun L S => some ((.nx, L), S)) := by
  refine pss_nil.wk fun D σ H h => ?_
  obtain ⟨g, H0, L, S, f, La, S', cr, e, q⟩ := h
  cases e
  exact q σ g H (fun _ z => z) ExtW.refl cr
theorem pss_consD (h1 : PS X st (tDS X.K ms)) (h2 : PSs X sts (tDS X.K ms')) : PSs X (st :: sts) (tDS X.K fun L S => bnd (ms L S) fun r S1 => match r.1 with
    | .nx => ms' r.2 S1
    | f => some ((f, r.2), S1)) := by
  refine (pss_cons h1 h2).wk fun D σ H h => ?_
  obtain ⟨g, H0, L, S, f, La, S', cr, e, q⟩ := h
  obtain ⟨⟨f1, L1⟩, S1, e1, e2⟩ := of_bnd e
  refine ⟨g, H0, L, S, f1, L1, S1, cr, e1, ?_⟩
  cases f1 with
  | nx => exact fun σ' g' H' x w c => ⟨g', H0, L1, S1, f, La, S', c, e2, q.on x w⟩
  | brk => cases e2; exact q
  | cnt => cases e2; exact q
  | ret d => cases e2; exact q
theorem ps_neverD : PS X st (tDS X.K fun _ _ => none) := ps_never.wk fun D σ H h => by
  obtain ⟨g, H0, L, S, f, La, S', cr, e, q⟩ := h
  cases e
theorem ps_passD : PS X (.Pass pos) (tDS X.K fun L S => some ((.nx, L), S)) := ps_pass.wk fun D σ H h => by
  obtain ⟨g, H0, L, S, f, La, S', cr, e, q⟩ := h
  cases e
  exact q σ g H (fun _ z => z) ExtW.refl cr
theorem ps_brkD : PS X (.Break pos) (tDS X.K fun L S => some ((.brk, L), S)) := ps_break.wk fun D σ H h => by
  obtain ⟨g, H0, L, S, f, La, S', cr, e, q⟩ := h
  cases e
  exact q σ g H (fun _ z => z) ExtW.refl cr
theorem ps_cntD : PS X (.Continue pos) (tDS X.K fun L S => some ((.cnt, L), S)) := ps_continue.wk fun D σ H h => by
  obtain ⟨g, H0, L, S, f, La, S', cr, e, q⟩ := h
  cases e
  exact q σ g H (fun _ z => z) ExtW.refl cr
theorem ps_exD (he : PE X e (tD X.K ma)) (hs : swapsWith e none pos.line X.env = pure false) : PS X (.Expr e pos) (tDS X.K fun L S => bnd (ma L S) fun _ S1 => some ((.nx, L), S1)) := by
  refine (ps_expr he hs).wk fun D σ H h => ?_
  obtain ⟨g, H0, L, S, f, La, S', cr, e, q⟩ := h
  obtain ⟨dx, S1, e1, e2⟩ := of_bnd e
  cases e2
  exact ⟨g, H0, L, S, dx, _, cr, e1, fun v g1 H1 x1 s1 r1 => q σ g1 H1 (fun g0 z => z.trans x1) (x1.w cr.s.cw) (cr.ext x1 s1)⟩
theorem ps_retD (he : PE X e (tD X.K ma)) : PS X (.Return (some e) pos) (tDS X.K fun L S => bnd (ma L S) fun x S1 => bnd (lft (unV x) S1) fun d S1 => some ((.ret d, L), S1)) := by
  refine (ps_ret he).wk fun D σ H h => ?_
  obtain ⟨g, H0, L, S, f, La, S', cr, e, q⟩ := h
  obtain ⟨dx, S1, e1, e2⟩ := of_bnd e
  obtain ⟨d, S2, e3, e4⟩ := of_bnd e2
  obtain ⟨e5, eS⟩ := of_lft e3
  subst eS
  cases e4
  refine ⟨g, H0, L, S, dx, _, cr, e1, fun v g1 H1 x1 s1 r1 => ?_⟩
  cases dx with
  | d x => cases e5; exact q v g1 H1 (fun g0 z => z.trans x1) s1 r1
  | b xs => cases e5
theorem ps_ret0D : PS X (.Return none pos) (tDS X.K fun L S => some ((.ret .non, L), S)) := ps_retN.wk fun D σ H h => by
  obtain ⟨g, H0, L, S, f, La, S', cr, e, q⟩ := h
  cases e
  exact q .non g H (fun _ z => z) cr.s .non
theorem ps_ifD {tb fb : List Stmt} (hc : PT X c (tDT X.K (mT mc))) (ha : PSs X tb (tDS X.K ms)) (hb : PSs X fb (tDS X.K ms')) :
    PS X (.If c tb fb pos) (tDS X.K fun L S => bnd (mc L S) fun x S1 => bnd (lft (asB x) S1) fun k S1 => if k = true then ms L S1 else ms' L S1) := by
  refine (ps_if hc ha hb).wk fun D σ H h => ?_
  obtain ⟨g, H0, L, S, f, La, S', cr, e, q⟩ := h
  obtain ⟨dx, S1, e1, e2⟩ := of_bnd e
  obtain ⟨k, S2, e3, e4⟩ := of_bnd e2
  obtain ⟨rfl, rfl⟩ := mB e3
  refine ⟨g, H0, L, S, k, _, cr, by show bnd _ _ = _; rw [e1, bnd_some]; rfl, fun g1 H1 x1 s1 => ?_⟩
  cases k with
  | true => exact ⟨g1, H0, L, _, f, La, S', cr.ext x1 s1, e4, q.on (fun g0 z => z.trans x1) (x1.w cr.s.cw)⟩
  | false => exact ⟨g1, H0, L, _, f, La, S', cr.ext x1 s1, e4, q.on (fun g0 z => z.trans x1) (x1.w cr.s.cw)⟩
variable {sl : List Nat} {pu : Bool} {mg : D → Ms Loc} {tg : Expr}
theorem asg_wk {g0 : TG} (σ : L2.St) (H : Hp) (D : Ends) (hg : ∀ v σ H Q, tDG X.K sl pu mg v σ H Q → g0 v σ H Q)
    (h : tDS X.K (fun L S => bnd (ma L S) fun x S1 => bnd (lft (unV x) S1) fun d S1 => bnd (mg d L S1) fun Lb S2 => some ((.nx, Lb), S2)) D σ H) : tAsg (tD X.K ma) g0 D σ H := by
  obtain ⟨g, H0, L, S, f, La, S', cr, e, q⟩ := h
  obtain ⟨dx, S1, e1, e2⟩ := of_bnd e
  obtain ⟨d, S2, e3, e4⟩ := of_bnd e2
  obtain ⟨e5, eS⟩ := of_lft e3
  subst eS
  obtain ⟨Lb, S3, e6, e7⟩ := of_bnd e4
  cases e7
  refine ⟨g, H0, L, S, dx, _, cr, e1, fun v g1 H1 x1 s1 r1 => ?_⟩
  cases dx with
  | b xs => cases e5
  | d x =>
    cases e5
    exact hg v σ H1 _ ⟨g1, H0, L, _, d, La, S', cr.ext x1 s1, r1, e6, fun σ' g' H' x2 w2 c2 _ _ _ => q σ' g' H' (fun g0 z => x2 g0 (z.trans x1)) ((x1.w cr.s.cw).trans w2) c2⟩
theorem ps_asgD (he : PE X e (tD X.K ma)) (hg : PG X tg (tDG X.K sl pu mg)) (hs : swapsWithSole [tg] e pos.line X.env = pure false) (hw : swappedStores [tg] e X.env = pure none) (h1 : (assignEach [tg] X.env).map (·.2) = [assign tg X.env]) :
    PS X (.Assign [tg] e pos) (tDS X.K fun L S => bnd (ma L S) fun x S1 => bnd (lft (unV x) S1) fun d S1 => bnd (mg d L S1) fun Lb S2 => some ((.nx, Lb), S2)) :=
  (ps_asg he hg hs hw h1).wk fun D σ H h => asg_wk σ H D (fun _ _ _ _ z => z) h

/-- name = a new list, the name's own -/
theorem own_wk {i : Nat} (σ : L2.St) (H : Hp) (D : Ends) (h : tDS X.K (fun L S => bnd (mf L S) fun xs S1 => some ((.nx, L.set i (.own xs)), S1)) D σ H) : tAsg (tDF X.K mf) (gName i) D σ H := by
  obtain ⟨g, H0, L, S, f, La, S', cr, e, q⟩ := h
  obtain ⟨ds, S1, e1, e2⟩ := of_bnd e
  cases e2
  refine ⟨g, H0, L, S, ds, _, cr, e1, fun p vs g1 H1 x1 s1 hp r w n z => ?_⟩
  have c1 := cr.ext x1 s1
  have z0 : H0 p = none := by
    cases k : H0 p with
    | none => rfl
    | some o =>
      obtain ⟨o', h'⟩ := cr.l.old p o k
      rw [z] at h'; cases h'
  refine q (σ.set i (some (.ref p))) g1 H1 (fun g0 z => z.trans x1) (x1.w cr.s.cw) ⟨s1, c1.l.setOwn hp r w n z0 fun j es hj _ hs => ?_⟩
  obtain ⟨a, xs, h1, h2, _⟩ := cr.l.own j es hj
  rw [hs] at h1
  cases h1
  rw [z] at h2; cases h2
theorem ps_ownD {i : Nat} (hN : X.N.Nodup) (hi : X.N[i]? = some x) (hx : L2.Loc X.env.scope x) (he : PE X e (tDF X.K mf)) (hs : swapsWith e (some (.Name x p')) pos.line X.env = pure false) (hf : X.fn x = true ∨ X.env.scope.names.lookup x = some .local) :
    PS X (.Assign [.Name x p'] e pos) (tDS X.K fun L S => bnd (mf L S) fun xs S1 => some ((.nx, L.set i (.own xs)), S1)) := (ps_set hN hi hx he hs hf).wk fun D σ H h => own_wk σ H D h
/-- a new cell -/
theorem ps_newcD {i : Nat} (hN : X.N.Nodup) (hi : X.N[i]? = some x) (hx : L2.Loc X.env.scope x) (hl : ∀ L S xs S', mes L S = some (xs, S') → xs.length ≤ line) (he : PA X es (tDA X.K mes)) (hf : X.fn x = true ∨ X.env.scope.names.lookup x = some .local) :
    PS X (.Assign [.Name x p'] (.List es p) pos) (tDS X.K fun L S => bnd (mes L S) fun xs S1 => bnd (lft (unVs xs) S1) fun ds S1 => some ((.nx, L.set i (.dat (.cell S1.length))), S1 ++ [ds])) := by
  refine (ps_set hN hi hx (pe_lst he) rfl hf).wk fun D σ H h => ?_
  obtain ⟨g, H0, L, S, f, La, S', cr, e, q⟩ := h
  obtain ⟨xs, S1, e1, e2⟩ := of_bnd e
  obtain ⟨ds, S2, e3, e4⟩ := of_bnd e2
  obtain ⟨e5, eS⟩ := of_lft e3
  subst eS
  cases e4
  refine ⟨g, H0, L, S, xs, _, cr, e1, fun vs g1 H1 x1 s1 r1 => ⟨by rw [r1.length, line_eq]; exact hl _ _ _ _ e1, fun p hp => ?_⟩⟩
  obtain ⟨x2, s2, r2⟩ := new_cell s1 hp (r1.strict e5)
  have c2 := (cr.ext x1 s1).ext x2 s2
  exact q _ _ _ (fun g0 z => (z.trans x1).trans x2) ((x1.w cr.s.cw).trans (x2.w s1.cw)) (c2.set r2)
theorem ps_retcD (hl : ∀ L S xs S', mes L S = some (xs, S') → xs.length ≤ line) (he : PA X es (tDA X.K mes)) :
    PS X (.Return (some (.List es p)) pos) (tDS X.K fun L S => bnd (mes L S) fun xs S1 => bnd (lft (unVs xs) S1) fun ds S1 => some ((.ret (.cell S1.length), L), S1 ++ [ds])) := by
  refine (ps_ret (pe_lst he)).wk fun D σ H h => ?_
  obtain ⟨g, H0, L, S, f, La, S', cr, e, q⟩ := h
  obtain ⟨xs, S1, e1, e2⟩ := of_bnd e
  obtain ⟨ds, S2, e3, e4⟩ := of_bnd e2
  obtain ⟨e5, eS⟩ := of_lft e3
  subst eS
  cases e4
  refine ⟨g, H0, L, S, xs, _, cr, e1, fun vs g1 H1 x1 s1 r1 => ⟨by rw [r1.length, line_eq]; exact hl _ _ _ _ e1, fun p hp => ?_⟩⟩
  obtain ⟨x2, s2, r2⟩ := new_cell s1 hp (r1.strict e5)
  exact q _ _ _ (fun g0 z => (z.trans x1).trans x2) s2 r2
/-- a list of one's own is left as it is: nothing in the text -/
theorem pss_fzD {i : Nat} (h2 : PSs X sts (tDS X.K ms')) : PSs X sts (tDS X.K fun L S => bnd (match L[i]? with
    | some (.own xs) => some ((Fl.nx, L.set i (.dat (.lst xs))), S)
    | _ => some ((Fl.nx, L), S)) fun r S1 => match r.1 with
    | .nx => ms' r.2 S1
    | f => some ((f, r.2), S1)) := by
  refine h2.wk fun D σ H h => ?_
  obtain ⟨g, H0, L, S, f, La, S', cr, e, q⟩ := h
  obtain ⟨⟨f1, L1⟩, S1, e1, e2⟩ := of_bnd e
  split at e1
  · rename_i ds hi
    cases e1
    obtain ⟨a, xs, k1, k2, r, w, n, z0⟩ := cr.l.own i ds hi
    exact ⟨g.minus a, H0, _, _, f, La, S', ⟨cr.s.minus n, cr.l.freeze hi k1⟩, e2, q.on (fun g0 z => z.minus z0) ExtW.minus⟩
  · cases e1
    exact ⟨g, H0, _, _, f, La, S', cr, e2, q⟩
/-- x.append(e) -/
theorem ps_appD {i : Nat} (hN : X.N[i]? = some x) (hv : Vis X.env.scope x) (hd : (x == ("__debug__" : Str)) = false) (hcd : (x == ("__classdict__" : Str)) = false) (he : PE X e (tD X.K ma)) {ap : Pos}
    (hs : starEach (e :: []) X.env = (false, eval e X.env) :: starEach [] X.env) (hline : (ap.endLine == p'.line) = true)
    (hfew : ((backTo p' (starEach (e :: []) X.env)).all (fun x => !x.1) && (backToKw p' (keywordEach [] X.env)).all (fun x => x.1.isSome)
      && decide ((e :: ([] : List Expr)).length + ([] : List Keyword).length + (if ([] : List Keyword).isEmpty then 0 else 1) < 30)) = true) :
    PS X (.Expr (.Call (.Attribute (.Name x p) "append" ap) [e] [] p') pos) (tDS X.K fun L S => bnd (ma L S) fun x S1 => bnd (lft (unV x) S1) fun d S1 => match L[i]? with
    | some (.own xs) => if xs.length < line then some ((.nx, L.set i (.own (xs ++ [d]))), S1) else none
    | some (.dat (.cell n)) => match S1[n]? with
      | some xs => if xs.length < line then some ((.nx, L), S1.set n (xs ++ [d])) else none
      | none => none
    | _ => none) := by
  refine (ps_expr (pe_bm PySem.F.plainAttrs_list PySem.F.slot_list_append PySem.F.type_list_append mt_append (pe_var hN hv hd hcd) (pa_cons he pa_nil hs) rfl hfew hline hs rfl) rfl).wk fun D σ H h => ?_
  obtain ⟨g, H0, L, S, f, La, S', cr, e, q⟩ := h
  obtain ⟨dx, S1, e1, e2⟩ := of_bnd e
  obtain ⟨d, S2, e3, e4⟩ := of_bnd e2
  obtain ⟨e5, eS⟩ := of_lft e3
  subst eS
  split at e4
  · rename_i ds hi
    split at e4
    · rename_i hz
      cases e4
      obtain ⟨a, xs, k1, k2, r, w, n, z0⟩ := cr.l.own i ds hi
      refine ⟨_, k1, Or.inl ⟨rfl, _, Or.inl (Or.inl k2)⟩, g, H0, L, S, dx, _, cr, e1, fun v g1 H1 x1 s1 r1 => ?_⟩
      have c1 := cr.ext x1 s1
      obtain ⟨a', xs', k1', k2', r', w', n', _⟩ := c1.l.own i ds hi
      rw [k1] at k1'; cases k1'
      have rd : Rp X.K g1 H1 v d := by
        cases dx with
        | d z => cases e5; exact r1
        | b z => cases e5
      refine ⟨a, xs', v, rfl, rfl, k2', by rw [r'.length, line_eq]; exact hz, ?_⟩
      exact q σ g1 _ (fun g0 z => (z.trans x1).wroteNew z0) ((x1.w cr.s.cw).trans (ExtW.wrote w')) ⟨s1.wrote w' n', c1.l.upOwn hi k1 (r'.append (.cons rd .nil))⟩
    · cases e4
  · rename_i m hi
    split at e4
    · rename_i ds hm
      split at e4
      · rename_i hz
        cases e4
        obtain ⟨v0, k1, rc⟩ := cr.l.dat i _ hi
        have xx : ∀ (a : Addr) (l : Hp → Prop), a = a → True := fun _ _ _ => trivial
        cases rc with
        | @cell a _ hc =>
          obtain ⟨ys, hy⟩ := cr.s.wi a (cr.s.cw a (List.mem_of_getElem? hc))
          refine ⟨_, k1, Or.inl ⟨rfl, _, Or.inl (Or.inl hy)⟩, g, H0, L, S, dx, _, cr, e1, fun v g1 H1 x1 s1 r1 => ?_⟩
          have c1 := cr.ext x1 s1
          have rd : Rp X.K g1 H1 v d := by
            cases dx with
            | d z => cases e5; exact r1
            | b z => cases e5
          have rc1 : Rp X.K g1 H1 (.ref a) (.cell m) := Rp.ext x1 cr.s.cw (.cell hc)
          cases rc1 with
          | cell hc1 =>
            obtain ⟨xs, h2, r2⟩ := s1.st m a ds hc1 hm
            have hm' : a ∈ g1.ca := List.mem_of_getElem? hc1
            refine ⟨a, xs, v, rfl, rfl, h2, by rw [r2.length, line_eq]; exact hz, ?_⟩
            exact q σ g1 _ (fun g0 z => (z.trans x1).trans (Ext.wrote h2 hm')) ((x1.w cr.s.cw).trans (ExtW.wrote (s1.cw a hm'))) ⟨s1.cell hc1 (r2.append (.cons rd .nil)), c1.l.cell (s1.cw a hm') hm'⟩
      · cases e4
    · cases e4
  · cases e4
theorem Rps.dropLast {K : PySem.W.Frag} {g : Gh} {H : Hp} {vs : List V} {ds : List D} (r : Rps K g H vs ds) : Rps K g H vs.dropLast ds.dropLast := by
  rw [List.dropLast_eq_take, List.dropLast_eq_take, r.length]
  exact r.take _
/-- x.pop() -/
theorem ps_popD {i : Nat} (hN : X.N[i]? = some x) (hv : Vis X.env.scope x) (hd : (x == ("__debug__" : Str)) = false) (hcd : (x == ("__classdict__" : Str)) = false) {ap : Pos} (hline : (ap.endLine == p'.line) = true) :
    PS X (.Expr (.Call (.Attribute (.Name x p) "pop" ap) [] [] p') pos) (tDS X.K fun L S => match L[i]? with
    | some (.own xs) => if xs.length = 0 then none else some ((.nx, L.set i (.own xs.dropLast)), S)
    | _ => none) := by
  refine (ps_expr (pe_bm0 PySem.F.plainAttrs_list PySem.F.slot_list_pop PySem.F.type_list_pop mt_pop (pe_var hN hv hd hcd) rfl hline) rfl).wk fun D σ H h => ?_
  obtain ⟨g, H0, L, S, f, La, S', cr, e, q⟩ := h
  dsimp only at e
  split at e
  · rename_i ds hi
    split at e
    · cases e
    · rename_i hz
      cases e
      obtain ⟨a, xs, k1, k2, r, w, n, z0⟩ := cr.l.own i ds hi
      have l1 := r.length
      have hlt : xs.length - 1 < xs.length := by omega
      refine ⟨_, k1, Or.inl ⟨rfl, _, Or.inl (Or.inl k2)⟩, a, xs, xs[xs.length - 1], rfl, rfl, k2, by simp [hlt], ?_⟩
      exact q σ g _ (fun g0 z => z.wroteNew z0) (ExtW.wrote w) ⟨cr.s.wrote w n, cr.l.upOwn hi k1 r.dropLast⟩
  · cases e
/-- x op= e, whole numbers -/
def rA : BO → V → V → Hp → VK → Prop
  | .add => rI0 fun i j => .int (i + j)
  | .sub => rI0 fun i j => .int (i - j)
  | _ => fun _ _ _ _ => False
theorem ip_A (o : BO) : PIp X o.op (rA o) := by
  cases o with
  | add => exact iop_add
  | sub => exact iop_sub
  | _ => exact fun _ _ _ _ _ _ _ _ _ _ _ _ h => h.elim
theorem ps_augD {i : Nat} (o : BO) (hN : X.N.Nodup) (hi : X.N[i]? = some x) (hx : L2.Loc X.env.scope x) (he : PE X e (tD X.K ma)) (hf : X.fn x = true ∨ X.env.scope.names.lookup x = some .local) :
    PS X (.AugAssign (.Name x p) o.op e pos) (tDS X.K fun L S => match L[i]? with
    | some (.dat d) => bnd (ma L S) fun y S1 => bnd (lft (augV o d y) S1) fun z S1 => some ((.nx, L.set i (.dat z)), S1)
    | _ => none) := by
  refine (ps_aug hN hi hx he (ip_A o) hf).wk fun D σ H h => ?_
  obtain ⟨g, H0, L, S, f, La, S', cr, e, q⟩ := h
  dsimp only at e
  split at e
  · rename_i d hd
    obtain ⟨dy, S1, e1, e2⟩ := of_bnd e
    obtain ⟨z, S2, e3, e4⟩ := of_bnd e2
    obtain ⟨e5, eS⟩ := of_lft e3
    subst eS
    cases e4
    obtain ⟨v, h1, r⟩ := cr.l.dat i d hd
    refine ⟨v, h1, g, H0, L, S, dy, _, cr, e1, fun u g1 H1 x1 s1 r1 => ?_⟩
    have fin : ∀ k : Int, z = .int k → D.nx (σ.set i (some (.int k))) H1 := fun k hk => by
      subst hk
      exact q _ g1 H1 (fun g0 z => z.trans x1) (x1.w cr.s.cw) ((cr.ext x1 s1).set (.int k))
    unfold augV at e5
    split at e5
    · cases e5
      cases r
      exact ⟨_, _, rfl, r1.intV, fin _ rfl⟩
    · cases e5
      cases r
      exact ⟨_, _, rfl, r1.intV, fin _ rfl⟩
    · cases e5
  · cases e
end
end PD

set_option Elab.async false
set_option linter.all false
set_option maxRecDepth 100000
set_option maxHeartbeats 4000000
/-! PD, part j: loops, stores in a row, comprehensions stored. -/
namespace PD
open PySem PySem.Spec PyProof.Rows L2

section
variable {X : Cx} {e a b c : Expr} {es : List Expr} {ma mb mc : Ms Va} {mes : Ms (List Va)} {mw mf : Ms (List D)} {pos p p' : Pos} {x y : Str} {st : Stmt} {sts sts' : List Stmt} {ms ms' : Ms (Fl × Loc)}
  {sl : List Nat} {pu : Bool} {mg : D → Ms Loc} {tg iter : Expr}
theorem ps_forD (hp : PassesOwn (model X.prog X.w) X.A X.env X.xe) (hc : X.calm = true) (hi : PI X tg iter (tDI X.K false mw)) (hg : PG X tg (tDG X.K sl pu mg)) (hb : PSs X sts (tDS X.K ms))
    (hs : ∀ x, foldedSetIterable iter X.env x = pure x) :
    PS X (.For tg iter sts [] pos) (tDS X.K fun L S => bnd (mw L S) fun ds S1 => forL (fun d L S => bnd (mg d L S) fun Lb S2 => ms Lb S2) ds L S1) := by
  refine (ps_for hp hc hi hg hb hs).wk fun D σ H h => ?_
  obtain ⟨g, H0, L, S, f, La, S', cr, e, q⟩ := h
  obtain ⟨ds, S1, e1, e2⟩ := of_bnd e
  refine ⟨g, H0, L, S, ds, S1, cr, e1, fun J g1 H1 x1 s1 j => ?_⟩
  have c1 := cr.ext x1 s1
  have q1 := q.on (fun g0 z => z.trans x1) (x1.w cr.s.cw)
  refine ⟨fun i m σ H => m = ds.length - i ∧ i ≤ ds.length ∧ ∃ g2 Lc S2, (∀ g0, Ext g0 H0 g1 H1 → Ext g0 H0 g2 H) ∧ ExtW g1 H1 g2 H ∧ Cr X.K g2 H0 σ H Lc S2 ∧
      forL (fun d L S => bnd (mg d L S) fun Lb S2 => ms Lb S2) (ds.drop i) Lc S2 = some ((f, La), S'),
    ⟨ds.length, by simp, Nat.zero_le _, g1, L, S1, fun _ z => z, ExtW.refl, c1, by simpa using e2⟩, ?_⟩
  rintro i m σ2 H2 ⟨rfl, hi, g2, Lc, S2, x2, w2, c2, e3⟩
  have jj := j g2 H2 S2 (by simpa using w2) c2.s
  by_cases hlt : i < ds.length
  · right
    obtain ⟨go, yl⟩ := jj.1 i ds[i] (by simp [hlt])
    rw [List.drop_eq_getElem_cons hlt] at e3
    unfold forL at e3
    obtain ⟨⟨f1, L1⟩, S3, e4, e5⟩ := of_bnd e3
    obtain ⟨Lb, S4, e6, e7⟩ := of_bnd e4
    refine ⟨go, fun σ H => i + 1 ≤ ds.length ∧ ∃ g2 Lc S2, (∀ g0, Ext g0 H0 g1 H1 → Ext g0 H0 g2 H) ∧ ExtW g1 H1 g2 H ∧ Cr X.K g2 H0 σ H Lc S2 ∧
      forL (fun d L S => bnd (mg d L S) fun Lb S2 => ms Lb S2) (ds.drop (i + 1)) Lc S2 = some ((f, La), S'), fun σ' H' hH => ⟨ds.length - (i + 1), by omega, rfl, hH⟩, fun v H3 y => ?_⟩
    obtain ⟨x3, s3, r3⟩ := yl v H3 y
    refine ⟨g2, H0, Lc, S2, _, Lb, S4, c2.ext x3 s3, r3, e6, fun σ4 g4 H4 x4 w4 c4 _ _ _ => ?_⟩
    have x14 : ∀ g0, Ext g0 H0 g1 H1 → Ext g0 H0 g4 H4 := fun g0 z => x4 g0 ((x2 g0 z).trans x3)
    have w14 : ExtW g1 H1 g4 H4 := w2.trans ((x3.w c2.s.cw).trans w4)
    refine ⟨g4, H0, Lb, S4, f1, L1, S3, c4, e7, ?_⟩
    cases f1 with
    | nx => exact fun σ5 g5 H5 x5 w5 c5 => ⟨hlt, g5, L1, S3, fun g0 z => x5 g0 (x14 g0 z), w14.trans w5, c5, e5⟩
    | cnt => exact fun σ5 g5 H5 x5 w5 c5 => ⟨hlt, g5, L1, S3, fun g0 z => x5 g0 (x14 g0 z), w14.trans w5, c5, e5⟩
    | brk =>
      cases e5
      exact (q1.on x14 w14 : aft X.K g4 H0 H4 D .nx _ _)
    | ret d =>
      cases e5
      exact (q1.on x14 w14 : aft X.K g4 H0 H4 D (.ret d) _ _)
  · left
    have ei : i = ds.length := by omega
    subst ei
    refine ⟨jj.2, ?_⟩
    rw [List.drop_length] at e3
    cases e3
    exact (q1.on x2 w2 : aft X.K g2 H0 H2 D .nx _ _) σ2 g2 H2 (fun _ z => z) ExtW.refl c2
theorem ps_forCD (hp : PassesOwn (model X.prog X.w) X.A X.env X.xe) (hc : X.calm = true) (hi : PE X iter (tD X.K ma)) (hg : PG X tg (tDG X.K sl pu mg)) (hb : PSs X sts (tDS X.K ms))
    (hs : ∀ x, foldedSetIterable iter X.env x = pure x) :
    PS X (.For tg iter sts [] pos) (tDS X.K fun L S => bnd (ma L S) fun x S1 => bnd (lft (cellOf x S1) S1) fun p S1 => bnd (forL (fun d L S => if sameC S p.1 p.2 = true then bnd (mg d L S) fun Lb S2 => ms Lb S2 else none) p.2 L S1) fun r S2 => if sameC S2 p.1 p.2 = true then some (r, S2) else none) := by
  refine (ps_for hp hc (pi_list hi) hg hb hs).wk fun D σ H h => ?_
  obtain ⟨g, H0, L, S, f, La, S', cr, e, q⟩ := h
  obtain ⟨dx, S1, e1, e2⟩ := of_bnd e
  obtain ⟨⟨n, ds⟩, S2, e3, e4⟩ := of_bnd e2
  obtain ⟨e5, eS⟩ := of_lft e3
  subst eS
  obtain ⟨⟨f', La'⟩, S3, e6, e7⟩ := of_bnd e4
  split at e7
  · rename_i hfin
    cases e7
    have hfin := of_sameC hfin
    unfold cellOf at e5
    split at e5
    · rename_i n'
      cases k : S2[n']? with
      | none => rw [k] at e5; cases e5
      | some ds' =>
        rw [k] at e5
        cases e5
        refine ⟨g, H0, L, S, _, S2, cr, e1, fun v g1 H1 x1 s1 r1 => ?_⟩
        have r1 : Rp X.K g1 H1 v (.cell n) := r1
        cases r1 with
        | @cell a _ hca =>
          obtain ⟨ys, hy, _⟩ := s1.st n a ds hca k
          have c1 := cr.ext x1 s1
          have q1 := q.on (fun g0 z => z.trans x1) (x1.w cr.s.cw)
          refine ⟨a, rfl, ⟨ys, SqL.of hy⟩, ?_⟩
          refine ⟨fun i m σ H => m = ds.length - i ∧ i ≤ ds.length ∧ ∃ g2 Lc S2, (∀ g0, Ext g0 H0 g1 H1 → Ext g0 H0 g2 H) ∧ ExtW g1 H1 g2 H ∧ Cr X.K g2 H0 σ H Lc S2 ∧
              forL (fun d L S => if sameC S n ds = true then bnd (mg d L S) fun Lb S2 => ms Lb S2 else none) (ds.drop i) Lc S2 = some ((f, La), S'),
            ⟨ds.length, by simp, Nat.zero_le _, g1, L, S2, fun _ z => z, ExtW.refl, c1, by simpa using e6⟩, ?_⟩
          rintro i m σ2 H2 ⟨rfl, hi, g2, Lc, S4, x2, w2, c2, e8⟩
          have hc2 : g2.ca[n]? = some a := by
            obtain ⟨mm, em⟩ := w2.ca
            rw [em, List.getElem?_append_left (List.getElem?_eq_some_iff.mp hca).1]
            exact hca
          by_cases hlt : i < ds.length
          · right
            rw [List.drop_eq_getElem_cons hlt] at e8
            unfold forL at e8
            obtain ⟨⟨f1, L1⟩, S5, e9, e10⟩ := of_bnd e8
            split at e9
            · rename_i hsame
              have hsame := of_sameC hsame
              obtain ⟨Lb, S6, e11, e12⟩ := of_bnd e9
              obtain ⟨xs, hx, rx⟩ := c2.s.st n a ds hc2 hsame
              obtain ⟨u, hu, ru⟩ := rx.get (i := i) (d := ds[i]) (by simp [hlt])
              refine ⟨⟨xs, u, SqL.of hx, hu⟩, fun σ H => i + 1 ≤ ds.length ∧ ∃ g2 Lc S2, (∀ g0, Ext g0 H0 g1 H1 → Ext g0 H0 g2 H) ∧ ExtW g1 H1 g2 H ∧ Cr X.K g2 H0 σ H Lc S2 ∧
                forL (fun d L S => if sameC S n ds = true then bnd (mg d L S) fun Lb S2 => ms Lb S2 else none) (ds.drop (i + 1)) Lc S2 = some ((f, La), S'), fun σ' H' hH => ⟨ds.length - (i + 1), by omega, rfl, hH⟩, fun v H3 y => ?_⟩
              obtain ⟨rfl, y⟩ := y
              have yy := y xs (SqL.of hx)
              rw [hu] at yy
              cases yy
              refine ⟨g2, H0, Lc, S4, _, Lb, S6, c2, ru, e11, fun σ4 g4 H4 x4 w4 c4 _ _ _ => ?_⟩
              have x14 : ∀ g0, Ext g0 H0 g1 H1 → Ext g0 H0 g4 H4 := fun g0 z => x4 g0 (x2 g0 z)
              have w14 : ExtW g1 H1 g4 H4 := w2.trans w4
              refine ⟨g4, H0, Lb, S6, f1, L1, S5, c4, e12, ?_⟩
              cases f1 with
              | nx => exact fun σ5 g5 H5 x5 w5 c5 => ⟨hlt, g5, L1, S5, fun g0 z => x5 g0 (x14 g0 z), w14.trans w5, c5, e10⟩
              | cnt => exact fun σ5 g5 H5 x5 w5 c5 => ⟨hlt, g5, L1, S5, fun g0 z => x5 g0 (x14 g0 z), w14.trans w5, c5, e10⟩
              | brk =>
                cases e10
                exact (q1.on x14 w14 : aft X.K g4 H0 H4 D .nx _ _)
              | ret d =>
                cases e10
                exact (q1.on x14 w14 : aft X.K g4 H0 H4 D (.ret d) _ _)
            · cases e9
          · left
            have ei : i = ds.length := by omega
            subst ei
            rw [List.drop_length] at e8
            cases e8
            obtain ⟨xs, hx, rx⟩ := c2.s.st n a ds hc2 hfin
            exact ⟨⟨xs, SqL.of hx, by rw [rx.length]; exact Nat.le_refl _⟩, (q1.on x2 w2 : aft X.K g2 H0 H2 D .nx _ _) σ2 g2 H2 (fun _ z => z) ExtW.refl c2⟩
    · cases e5
  · cases e7
theorem ps_whD {mt : Ms Bool} (hp : PassesOwn (model X.prog X.w) X.A X.env X.xe) (hc : PT X c (tDT X.K mt)) (hb : PSs X sts (tDS X.K ms)) :
    PS X (.While c sts [] pos) (tDS X.K fun L S => whL mt ms L S) := by
  refine (ps_while hp hc hb).wk fun D σ H h => ?_
  obtain ⟨g, H0, L, S, f, La, S', cr, e, q⟩ := h
  obtain ⟨n, hn⟩ := of_whL e
  refine ⟨fun m σ H2 => ∃ g2 Lc S2, (∀ g0, Ext g0 H0 g H → Ext g0 H0 g2 H2) ∧ ExtW g H g2 H2 ∧ Cr X.K g2 H0 σ H2 Lc S2 ∧ whN mt ms m Lc S2 = some ((f, La), S'),
    ⟨n, g, L, S, fun _ z => z, ExtW.refl, cr, hn⟩, ?_⟩
  rintro m σ2 H2 ⟨g2, Lc, S2, x2, w2, c2, e3⟩
  cases m with
  | zero => cases e3
  | succ m =>
    unfold whN at e3
    obtain ⟨k, S3, e4, e5⟩ := of_bnd e3
    refine ⟨g2, H0, Lc, S2, k, S3, c2, e4, fun g3 H3 x3 s3 => ?_⟩
    have c3 := c2.ext x3 s3
    have x13 : ∀ g0, Ext g0 H0 g H → Ext g0 H0 g3 H3 := fun g0 z => (x2 g0 z).trans x3
    have w13 : ExtW g H g3 H3 := w2.trans (x3.w c2.s.cw)
    cases k with
    | false =>
      simp only [Bool.false_eq_true, if_false] at e5 ⊢
      cases e5
      exact (q.on x13 w13 : aft X.K g3 H0 H3 D .nx _ _) σ2 g3 H3 (fun _ z => z) ExtW.refl c3
    | true =>
      simp only [if_true] at e5 ⊢
      obtain ⟨⟨f1, L1⟩, S4, e6, e7⟩ := of_bnd e5
      refine ⟨fun σ H2 => ∃ g2 Lc S2, (∀ g0, Ext g0 H0 g H → Ext g0 H0 g2 H2) ∧ ExtW g H g2 H2 ∧ Cr X.K g2 H0 σ H2 Lc S2 ∧ whN mt ms m Lc S2 = some ((f, La), S'), fun σ' H' hH => ⟨m, Nat.lt_succ_self m, hH⟩, g3, H0, Lc, S3, f1, L1, S4, c3, e6, ?_⟩
      cases f1 with
      | nx => exact fun σ5 g5 H5 x5 w5 c5 => ⟨g5, L1, S4, fun g0 z => x5 g0 (x13 g0 z), w13.trans w5, c5, e7⟩
      | cnt => exact fun σ5 g5 H5 x5 w5 c5 => ⟨g5, L1, S4, fun g0 z => x5 g0 (x13 g0 z), w13.trans w5, c5, e7⟩
      | brk =>
        cases e7
        exact (q.on x13 w13 : aft X.K g3 H0 H3 D .nx _ _)
      | ret d =>
        cases e7
        exact (q.on x13 w13 : aft X.K g3 H0 H3 D (.ret d) _ _)

/-! ### comprehensions stored at once -/
variable {elt : Expr} {ifs : List Expr} {scope : Scope} {own : List (Str × Nat)} {mt : Ms Bool} {me : Ms Va}
/-- name = [..], the name's own -/
theorem ps_ownLc {i : Nat} (hc : X.calm = true) (hN : X.N.Nodup) (hy : X.N[i]? = some y) (hyl : X.env.scope.names.lookup y = some .local)
    (hsw : swapsWith (.ListComp elt [⟨tg, iter, ifs, 0⟩] scope p) (some (.Name y p')) pos.line X.env = pure true) (hi : PI X tg iter (tDI X.K true mw)) (ok : BlkOk X.N X.env.scope scope own)
    (hsl : ∀ j ∈ sl, j ∈ own.map (·.2))
    (hg : ∀ (s : Shared) (H : Hp) (C : Addr) (cl : List (Str × Addr)) (fp : List Addr), PG (X.blk s H scope (compEnvC scope cl C X.env) fp) tg (tDG X.K sl true mg))
    (ht : ∀ (s : Shared) (H : Hp) (C : Addr) (cl : List (Str × Addr)) (fp : List Addr), PTs (X.blk s H scope (compEnvC scope cl C X.env) fp) ifs (tDT X.K mt))
    (he : ∀ (s : Shared) (H : Hp) (C : Addr) (cl : List (Str × Addr)) (fp : List Addr), PE (X.blk s H scope (compEnvC scope cl C X.env) fp) elt (tD X.K me)) (hs : ∀ x, foldedSetIterable iter X.env x = pure x) :
    PS X (.Assign [.Name y p'] (.ListComp elt [⟨tg, iter, ifs, 0⟩] scope p) pos) (tDS X.K fun L S => bnd (bnd (mw L S) fun ds S1 => if ds.length < line then compL (mC mg mt me (wipeL L (own.map (·.2)))) ds S1 else none) fun xs S1 => some ((.nx, L.set i (.own xs)), S1)) := by
  refine (ps_setLc hc hN hy hyl hsw hi ok hg ht he hs).wk fun D σ H h => ?_
  have h2 := own_wk σ H D h
  exact comp_wk hsl σ H _ h2
/-- name = [..], a datum -/
theorem ps_asgLc {i : Nat} (hc : X.calm = true) (hN : X.N.Nodup) (hy : X.N[i]? = some y) (hyl : X.env.scope.names.lookup y = some .local)
    (hsw : swapsWith (.ListComp elt [⟨tg, iter, ifs, 0⟩] scope p) (some (.Name y p')) pos.line X.env = pure true) (hi : PI X tg iter (tDI X.K true mw)) (ok : BlkOk X.N X.env.scope scope own)
    (hsl : ∀ j ∈ sl, j ∈ own.map (·.2))
    (hg : ∀ (s : Shared) (H : Hp) (C : Addr) (cl : List (Str × Addr)) (fp : List Addr), PG (X.blk s H scope (compEnvC scope cl C X.env) fp) tg (tDG X.K sl true mg))
    (ht : ∀ (s : Shared) (H : Hp) (C : Addr) (cl : List (Str × Addr)) (fp : List Addr), PTs (X.blk s H scope (compEnvC scope cl C X.env) fp) ifs (tDT X.K mt))
    (he : ∀ (s : Shared) (H : Hp) (C : Addr) (cl : List (Str × Addr)) (fp : List Addr), PE (X.blk s H scope (compEnvC scope cl C X.env) fp) elt (tD X.K me)) (hs : ∀ x, foldedSetIterable iter X.env x = pure x) :
    PS X (.Assign [.Name y p'] (.ListComp elt [⟨tg, iter, ifs, 0⟩] scope p) pos) (tDS X.K fun L S => bnd (bnd (bnd (mw L S) fun ds S1 => if ds.length < line then compL (mC mg mt me (wipeL L (own.map (·.2)))) ds S1 else none) fun xs S1 => some (Va.d (.lst xs), S1)) fun x S1 => bnd (lft (unV x) S1) fun d S1 => bnd (some (L.set i (.dat d), S1)) fun Lb S2 => some ((.nx, Lb), S2)) := by
  refine (ps_setLc hc hN hy hyl hsw hi ok hg ht he hs).wk fun D σ H h => ?_
  refine comp_wk hsl σ H _ ?_
  obtain ⟨g, H0, L, S, f, La, S', cr, e, q⟩ := h
  obtain ⟨x0, S1, e1, e2⟩ := of_bnd e
  obtain ⟨xs, S2, e3, e4⟩ := of_bnd e1
  cases e4
  cases e2
  refine ⟨g, H0, L, S, xs, _, cr, e3, fun p vs g1 H1 x1 s1 hp r w n z => ?_⟩
  have c1 := cr.ext x1 s1
  have z0 : H0 p = none := by
    cases k : H0 p with
    | none => rfl
    | some o =>
      obtain ⟨o', h'⟩ := cr.l.old p o k
      rw [z] at h'; cases h'
  have lz : LR X.K (g1.minus p) H0 σ H1 L := by
    refine ⟨c1.l.len, c1.l.old, fun j d hj => ?_, fun j es hj => ?_, c1.l.inj⟩
    · obtain ⟨v, k1, k2⟩ := c1.l.dat j d hj
      exact ⟨v, k1, k2.minus⟩
    · obtain ⟨a, ys, k1, k2, k3, k4, k5, k6⟩ := c1.l.own j es hj
      obtain ⟨a', ys', k1', k2', _⟩ := cr.l.own j es hj
      rw [k1] at k1'; cases k1'
      exact ⟨a, ys, k1, k2, k3.minus, ⟨k4, fun q => by rw [q, z] at k2'; cases k2'⟩, k5, k6⟩
  exact q _ (g1.minus p) H1 (fun g0 zz => (zz.trans x1).minus z0) ((x1.w cr.s.cw).trans ExtW.minus) ⟨s1.minus n, lz.set (.lst (.inl ⟨.inl hp, fun q => q.2 rfl⟩) r.minus)⟩

/-! ### a, b = x, y: stored from the right -/
def setσ : List Nat → List V → L2.St → L2.St
  | j :: js, v :: vs, σ => setσ js vs (σ.set j (some v))
  | _, _, σ => σ
theorem Cr.setAll {K : PySem.W.Frag} {g : Gh} {H0 H : Hp} {S : Store} : ∀ {js : List Nat} {vs : List V} {ds : List D} {σ : L2.St} {L : Loc}, Cr K g H0 σ H L S → Rps K g H vs ds → Cr K g H0 (setσ js vs σ) H (PD.setAll js ds L) S
  | [], _, _, _, _, c, _ => by unfold setσ PD.setAll; exact c
  | _ :: _, _, _, _, _, c, .nil => by unfold setσ PD.setAll; exact c
  | _ :: js, _, _, _, _, c, .cons h r => Cr.setAll (js := js) (c.set h) r
theorem stores_run {H : Hp} {pins : List (Addr × Obj)} (hN : X.N.Nodup) (Q : Unit → Shared → Prop) : ∀ (js : List Nat) (ns : List Str) (vs : List V) (us : List Value) (σ : L2.St) (s : Shared), L2.Inv X pins σ H s → Vals vs us →
    js.length = ns.length → ns.length = vs.length → (∀ (i : Nat) j n, js[i]? = some j → ns[i]? = some n → X.N[j]? = some n ∧ X.env.scope.names.lookup n = some .local) → (∀ s', L2.Inv X pins (setσ js vs σ) H s' → Q () s') →
    wpAny (model X.prog X.w) X.A (assignInOrder (ns.map fun n v => bindName X.env n v) us) Q X.xe s := by
  intro js
  induction js with
  | nil =>
    intro ns vs us σ s I r l1 l2 h q
    cases ns with
    | cons _ _ => cases l1
    | nil =>
      cases r with
      | cons _ _ => cases l2
      | nil => exact assignInOrder_nil (q s I)
  | cons j js ih =>
    intro ns vs us σ s I r l1 l2 h q
    cases ns with
    | nil => cases l1
    | cons n ns =>
      cases r with
      | nil => cases l2
      | cons r rs =>
        obtain ⟨h1, h2⟩ := h 0 j n rfl rfl
        refine assignInOrder_cons (wpAny_bindName (store_ok I hN h1 (.inl h2) r (fun s2 I2 => ?_) (.inr h2)))
        exact ih ns _ _ _ s2 I2 rs (by simpa using l1) (by simpa using l2) (fun i j n k1 k2 => h (i + 1) j n (by simpa using k1) (by simpa using k2)) q
theorem ps_parD {ts : List Expr} {kt k2 : Nat} {pt pt2 : Pos} {ns : List Str} {is : List Nat} (hc : X.calm = true) (hN : X.N.Nodup)
    (hix : ∀ (i : Nat) j n, is[i]? = some j → ns[i]? = some n → X.N[j]? = some n ∧ X.env.scope.names.lookup n = some .local) (hl : is.length = ns.length) (hz : ns.length ≤ 1000)
    (ha : PA X es (tDA X.K mes)) (hw : swappedStores [.Tuple ts kt pt] (.Tuple es k2 pt2) X.env = pure (some ns)) :
    PS X (.Assign [.Tuple ts kt pt] (.Tuple es k2 pt2) pos) (tDS X.K fun L S => bnd (mes L S) fun xs S1 => bnd (lft (unVs xs) S1) fun ds S1 => if ds.length = is.length then some ((.nx, setAll is.reverse ds.reverse L), S1) else none) := by
  refine ⟨fun pins s σ H D I h => ?_⟩
  obtain ⟨g, H0, L, S, f, La, S', cr, e, q⟩ := h
  obtain ⟨xs, S1, e1, e2⟩ := of_bnd e
  obtain ⟨ds, S2, e3, e4⟩ := of_bnd e2
  obtain ⟨e5, eS⟩ := of_lft e3
  subst eS
  split at e4
  · rename_i hds
    cases e4
    rw [exec_Assign_arm]
    refine wpAny_bind (wpAny_standAt ?_)
    rw [show swapsWithSole [.Tuple ts kt pt] (.Tuple es k2 pt2) pos.line X.env = pure false from rfl]
    refine wpAny_bind (wpAny_pure ?_)
    rw [if_neg Bool.false_ne_true]
    refine wpAny_bind (Tuple_ (thn (ha.run _ pins s σ H (fun vs H1 => ∃ g1, Ext g H g1 H1 ∧ Gs X.K g1 H1 S' ∧ RpVs X.K g1 H1 vs xs) I ⟨g, H0, L, S, xs, S', cr, e1, fun vs g1 H1 x1 s1 r1 => ⟨g1, x1, s1, r1⟩⟩) ?_))
    rintro us s1 ⟨vs, H1, I1, r1, g1, x1, t1, v1⟩
    have lv : vs.length = ns.length := by rw [v1.length, ← unVs_len e5, hds, hl]
    have lu : us.length = ns.length := by rw [← r1.length, lv]
    refine wpAny_newObj_type ?_ (by
      show us.length ≤ sizeLine
      have z1000 : (1000 : Nat) ≤ sizeLine := by decide
      omega)
    have I2 : Inv X pins σ H1 { s1 with heap := s1.heap.push { cls := .type "tuple", data := .seq us.toArray } } := I1.kept (t' := s1.toks) fun b o e => Heap.get?_push_of_some _ e
    rw [hw]
    refine wpAny_bind (wpAny_pure ?_)
    show wpAny (model X.prog X.w) X.A (do rule "assign.swapped-stores"; let items ← unpackItems (.ref s1.heap.objs.size) ns.length none; assignInOrder (ns.reverse.map fun n => bindName X.env n) items.reverse; pure Flow.next) _ _ _
    refine wpAny_bind (wpAny_rule (wpAny_bind ?_))
    rw [show ns.length = us.toArray.size by simp [lu]]
    refine unpackItems_tuple (items := us.toArray) (I.ok.hd hc) (IsTup.new s1.heap _) fun h' hx' => ?_
    have I3 := I2.kept (h' := h') (t' := s1.toks) fun b o e => hx' b o (Nat.ne_of_lt (Heap.lt_size e)) e
    refine wpAny_bind ?_
    refine stores_run hN _ is.reverse ns.reverse vs.reverse us.reverse σ _ I3 r1.reverse (by simp [hl]) (by simp [lv]) (fun i j n k1 k2 => ?_) fun s' I' => ?_
    · have hi : i < is.length := by
        have := (List.getElem?_eq_some_iff.mp k1).1
        simpa using this
      rw [List.getElem?_reverse hi] at k1
      rw [List.getElem?_reverse (by omega)] at k2
      exact hix _ j n k1 (by rw [hl]; exact k2)
    · refine wpAny_pure ?_
      have rp := v1.strict e5
      have c1 := cr.ext x1 t1
      exact ⟨_, H1, I', q _ g1 H1 (fun g0 z => z.trans x1) (x1.w cr.s.cw) (c1.setAll (js := is.reverse) rp.reverse)⟩
  · cases e4
end
end PD

set_option Elab.async false
set_option linter.all false
set_option maxRecDepth 100000
set_option maxHeartbeats 4000000
/-! PD, part k: the text against the small language; the one theorem. -/
namespace PD
open PySem PySem.Spec PyProof.Rows L2

structure Ck where
  N : List Str
  sn : List (Str × NameKind)
  fc : Str → Bool

def okN (x : Str) : Bool := !(x == ("__debug__" : Str)) && !(x == ("__classdict__" : Str))
def Ck.vis (C : Ck) (x : Str) : Bool := match C.sn.lookup x with
  | some .local => true | some .cell => true | some .free => true | _ => false
def Ck.loc (C : Ck) (x : Str) : Bool := match C.sn.lookup x with
  | some .local => true | some .cell => C.fc x | _ => false
def Ck.gl (C : Ck) (x : Str) : Bool := match C.sn.lookup x with
  | some .globalImplicit => okN x | _ => false
def Ck.nm (C : Ck) (i : Nat) (x : Str) : Bool := decide (C.N[i]? = some x) && C.vis x && okN x
def Ck.tg (C : Ck) (i : Nat) (x : Str) : Bool := decide (C.N[i]? = some x) && C.loc x
def isStar : Expr → Bool
  | .Starred _ _ => true | _ => false
def isComp : Expr → Bool
  | .ListComp .. => true | .SetComp .. => true | .DictComp .. => true | _ => false
def isSetE : Expr → Bool
  | .Set .. => true | _ => false
def isTupE : Expr → Bool
  | .Tuple .. => true | _ => false
def isSlc : Expr → Bool
  | .Slice .. => true | _ => false
def plainTest : Expr → Bool
  | .UnaryOp .. => false | .BoolOp .. => false | .IfExp .. => false | .Compare .. => false | _ => true
def boE (op : BoolOp) (l : List Expr) (pos : Pos) : Expr := match l with
  | [y] => y
  | l => .BoolOp op l pos
def relN (names sn : List (Str × NameKind)) : List (Str × NameKind) :=
  names.map fun (n, k) => if (k == NameKind.free && true && sn.lookup n == some .cell) then (n, NameKind.cell) else (n, k)
def scOf (sn : List (Str × NameKind)) : Scope := { kind := .function, names := sn, isGenerator := false, isCoroutine := false }
def Ck.blk (C : Ck) (scope : Scope) : Ck := ⟨C.N, relN scope.names C.sn, fun x => scope.names.lookup x == some .cell⟩
def ownP (N : List Str) (own : List Nat) : List (Str × Nat) := own.map fun i => (N.getD i ("" : Str), i)
mutual
def Tg.slots : Tg → List Nat
  | .nm i => [i] | .tup ts => Tgs.slots ts | .sub _ _ => [] | .sbx _ _ => []
def Tgs.slots : Tgs → List Nat
  | .nil => [] | .cons t ts => t.slots ++ Tgs.slots ts
end
mutual
def Tg.pu : Tg → Bool
  | .nm _ => true | .tup ts => Tgs.pu ts | .sub _ _ => false | .sbx _ _ => false
def Tgs.pu : Tgs → Bool
  | .nil => true | .cons t ts => t.pu && Tgs.pu ts
end
def Xps.len : Xps → Nat
  | .nil => 0 | .cons _ es => es.len + 1 | .star _ es => es.len + 100000
def Tgs.len : Tgs → Nat
  | .nil => 0 | .cons _ es => es.len + 1
def litB : D → Const → Bool
  | .int i, .int j => decide (i = j) | .bl i, .bool j => i == j | .non, .none => true | .str x, .str y => decide (x = y) | _, _ => false
def biB (G : Gam) (x : Str) (b : Bi) : Bool :=
  (decide (x ∈ G.fre) && decide (bootBuiltins x = some b.val) && !decide (x = ("__name__" : Str))) || (G.bfs.any (fun p => decide (p.1 = x) && decide (p.2 = b.id)) && decide (b.val = .builtin b.id))

def isBo : Expr → Bool
  | .BoolOp .. => true | _ => false

variable (G : Gam)
mutual
/-- md: as a test -/
def chX (C : Ck) : Bool → Xp → Expr → Bool
  | _, .nm i, ex => match ex with | .Name x _ => C.nm i x | _ => false
  | _, .gc j, ex => match ex with | .Name x _ => C.gl x && (match G.cons[j]? with | some p => decide (p.1 = x) | none => false) | _ => false
  | _, .lit d, ex => match ex with | .Constant c _ _ => litB d c | _ => false
  | _, .bin o a b, ex => match ex with | .BinOp x op y _ => decide (op = o.op) && chX C false a x && chX C false b y | _ => false
  | md, .neg a, ex => match ex with | .UnaryOp .USub x _ => !md && chX C false a x | _ => false
  | _, .cmp o a b, ex => match ex with | .Compare x [op] [y] _ => decide (op = o.op) && !behindInMarks o.op y && chX C false a x && chX C false b y | _ => false
  | _, .cmp2 o o' a b c, ex => match ex with | .Compare x [op, op'] [y, z] _ => decide (op = o.op) && decide (op' = o'.op) && !behindInMarks o'.op z && chX C false a x && chX C false b y && chX C false c z | _ => false
  | md, .and a b, ex => match ex with | .BoolOp .And (x :: y :: r) pos => chX C md a x && chX C md b (boE .And (y :: r) pos) | _ => false
  | md, .or a b, ex => match ex with | .BoolOp .Or (x :: y :: r) pos => chX C md a x && chX C md b (boE .Or (y :: r) pos) | _ => false
  | md, .not a, ex => match ex with | .UnaryOp .Not x _ => chX C md a x | _ => false
  | md, .ife c a b, ex => match ex with | .IfExp t x y _ => !md && chX C true c t && chX C false a x && chX C false b y | _ => false
  | _, .tup es, ex => match ex with | .Tuple xs _ _ => chXz C es xs && decide (es.len ≤ 10000000) | _ => false
  | _, .ix a b, ex => match ex with | .Subscript x y _ => !isSlc y && chX C false a x && chX C false b y | _ => false
  | _, .slc a lo hi, ex => match ex with | .Subscript x (.Slice l h none _) _ => chX C false a x && chO C lo l && chO C hi h | _ => false
  | _, .call j es ks, ex => match ex with
    | .Call (.Name x _) xs kws _ => C.gl x && (match G.ents[j]? with | some e => decide (e.name = x) && decide (kws.map (·.arg) = e.ks.map some) | none => false) && chXs C es xs && chKs C ks kws
    | _ => false
  | _, .bi b es, ex => match ex with | .Call (.Name x _) (y :: ys) [] _ => C.gl x && biB G x b && chXs C es (y :: ys) | _ => false
  | _, .bic b es, ex => match ex with | .Call (.Name x _) (y :: ys) [] _ => C.gl x && biB G x b && chXs C es (y :: ys) | _ => false
  | _, .isi a t, ex => match ex with
    | .Call (.Name x _) [y, .Name z _] [] _ => C.gl x && C.gl z && decide (x = ("isinstance" : Str)) && decide (x ∈ G.fre) && decide (z ∈ G.fre) && decide (bootBuiltins z = some (.type t)) && !decide (z = ("__name__" : Str)) && !isStar y && chX C false a y
    | _ => false
  | md, .fr f, ex => !md && chF C f ex
  | md, .nwc f, ex => !md && chF C f ex
  | _, .rev a, ex => match ex with | .Subscript x (.Slice none none (some (.UnaryOp .USub (.Constant (.int 1) _ _) _)) _) _ => chX C false a x | _ => false
def chXs (C : Ck) : Xps → List Expr → Bool
  | .nil, l => match l with | [] => true | _ => false
  | .cons e es, l => match l with | x :: xs => !isStar x && chX C false e x && chXs C es xs | _ => false
  | .star _ _, _ => false
/-- as elements of a display: *e may stand there -/
def chXz (C : Ck) : Xps → List Expr → Bool
  | .nil, l => match l with | [] => true | _ => false
  | .cons e es, l => match l with | x :: xs => !isStar x && chX C false e x && chXz C es xs | _ => false
  | .star e es, l => match l with | (.Starred x _) :: xs => chX C false e x && chXz C es xs | _ => false
def chKs (C : Ck) : Xps → List Keyword → Bool
  | .nil, l => match l with | [] => true | _ => false
  | .cons e es, l => match l with | k :: ks => chX C false e k.value && chKs C es ks | _ => false
  | .star _ _, _ => false
def chO (C : Ck) : Xo → Option Expr → Bool
  | .none, o => match o with | none => true | _ => false
  | .some e, o => match o with | some x => chX C false e x | _ => false
def chF (C : Ck) : Fx → Expr → Bool
  | .disp es, ex => match ex with | .List xs _ => chXz C es xs && decide (es.len ≤ 10000000) | _ => false
  | .comp elt t w c own, ex => match ex with
    | .ListComp x [⟨tg, it, ifs, as⟩] scope _ => decide (as = 0) && !isSetE it && (chW C w it && (!w.pair || isTupE tg)) && blkC C.N (scOf C.sn) scope (ownP C.N own) && t.pu && decide (∀ j ∈ t.slots, j ∈ own) &&
        chG (C.blk scope) t tg && chC (C.blk scope) c ifs && chX (C.blk scope) false elt x
    | _ => false
  | .list e, ex => match ex with | .Call (.Name x _) [y] [] _ => C.gl x && decide (x = ("list" : Str)) && decide (x ∈ G.fre) && !isStar y && chX C false e y | _ => false
  | .cat a b, ex => match ex with | .BinOp x .Add y _ => chX C false a x && chX C false b y | _ => false
  | .rep f b, ex => match ex with | .BinOp x .Mult y _ => chF C f x && chX C false b y | _ => false
  | .slc a lo hi, ex => match ex with | .Subscript x (.Slice l h none _) _ => chX C false a x && chO C lo l && chO C hi h | _ => false
  | .comp2 elt t w c t1 w1 c1 own own1, ex => match ex with
    | .ListComp x [⟨tg, it, ifs, as⟩, ⟨tg1, it1, ifs1, as1⟩] scope _ => decide (as = 0 ∧ as1 = 0) && (!isSetE it && !isSetE it1) && (chW C w it && (!w.pair || isTupE tg)) && blkC C.N (scOf C.sn) scope (ownP C.N own) && (t.pu && t1.pu) && (decide (∀ j ∈ t.slots, j ∈ own) && decide (∀ j ∈ t1.slots, j ∈ own1) && decide (∀ j ∈ own1, j ∈ own)) &&
        chG (C.blk scope) t tg && chC (C.blk scope) c ifs && (!w1.isB && chW (C.blk scope) w1 it1 && (!w1.pair || isTupE tg1)) && chG (C.blk scope) t1 tg1 && chC (C.blk scope) c1 ifs1 && chX (C.blk scope) false elt x
    | _ => false
def chC (C : Ck) : Xo → List Expr → Bool
  | .none, l => match l with | [] => true | _ => false
  | .some e, l => match l with | [x] => chX C true e x | _ => false
def chW (C : Ck) : Wk → Expr → Bool
  | .seq e, ex => chX C false e ex
  | .bor i, ex => match ex with | .Name x _ => C.nm i x | _ => false
  | .range1 a, ex => match ex with | .Call (.Name x _) [y] [] _ => C.gl x && decide (x = ("range" : Str)) && decide (x ∈ G.fre) && !isStar y && chX C false a y | _ => false
  | .range2 a b, ex => match ex with | .Call (.Name x _) [y, z] [] _ => C.gl x && decide (x = ("range" : Str)) && decide (x ∈ G.fre) && !isStar y && !isStar z && chX C false a y && chX C false b z | _ => false
  | .range3 a b c, ex => match ex with | .Call (.Name x _) [y, z, w] [] _ => C.gl x && decide (x = ("range" : Str)) && decide (x ∈ G.fre) && !isStar y && !isStar z && !isStar w && chX C false a y && chX C false b z && chX C false c w | _ => false
  | .enum e, ex => match ex with | .Call (.Name x _) [y] [] _ => C.gl x && decide (x = ("enumerate" : Str)) && decide (x ∈ G.fre) && !isStar y && chX C false e y | _ => false
  | .enumB i, ex => match ex with | .Call (.Name x _) [.Name y _] [] _ => C.gl x && decide (x = ("enumerate" : Str)) && decide (x ∈ G.fre) && C.nm i y | _ => false
  | .zip a b, ex => match ex with | .Call (.Name x _) [y, z] [] _ => C.gl x && decide (x = ("zip" : Str)) && decide (x ∈ G.fre) && !isStar y && !isStar z && chX C false a y && chX C false b z | _ => false
  | .rvd e, ex => match ex with | .Call (.Name x _) [y] [] _ => C.gl x && decide (x = ("reversed" : Str)) && decide (x ∈ G.fre) && !isStar y && chX C false e y | _ => false
  | .rvr _, _ => false
def chG (C : Ck) : Tg → Expr → Bool
  | .nm i, ex => match ex with | .Name x _ => C.tg i x | _ => false
  | .tup ts, ex => match ex with | .Tuple xs _ _ => chGs C ts xs | _ => false
  | .sub i b, ex => match ex with | .Subscript (.Name x _) y _ => C.nm i x && !isSlc y && chX C false b y | _ => false
  | .sbx a b, ex => match ex with | .Subscript x y _ => !isSlc y && chX C false a x && chX C false b y | _ => false
def chGs (C : Ck) : Tgs → List Expr → Bool
  | .nil, l => match l with | [] => true | _ => false
  | .cons t ts, l => match l with | x :: xs => !isStar x && chG C t x && chGs C ts xs | _ => false
end

/-! ### what the text's forms ask besides -/
theorem star_of {x : Expr} {r : List Expr} {env : PySem.Env} (h : isStar x = false) : starEach (x :: r) env = (false, eval x env) :: starEach r env := by
  cases x <;> first | rfl | cases h
theorem asgn_of {x : Expr} {r : List Expr} {env : PySem.Env} (h : isStar x = false) : assignEach (x :: r) env = (false, assign x env) :: assignEach r env := by
  cases x <;> first | rfl | cases h
theorem ix_of {y : Expr} (h : isSlc y = false) : PlainIx y := by
  cases y <;> first | (exact fun _ _ => rfl) | cases h
theorem fold_of {y : Expr} {env : PySem.Env} (h : isSetE y = false) (x : Value) : foldedSetIterable y env x = pure x := by
  cases y <;> first | rfl | cases h
theorem swaps_of {v : Expr} {t : Option Expr} {l : Nat} {env : PySem.Env} (h : isComp v = false) : swapsWith v t l env = pure false := by
  cases v <;> first | rfl | cases h
theorem test_of {a : Expr} {env : PySem.Env} (h : plainTest a = true) (whole : Sem Value) : isTrue a env whole = (do let v ← whole; standAt a.pos; holding [v] (truthy v)) := by
  cases a <;> first | rfl | cases h
theorem asubx_of {x y : Expr} {pos : Pos} {env : PySem.Env} (h : isSlc y = false) (v : Value) : assign (.Subscript x y pos) env v = (do
      let ov ← holding [v] (eval x env)
      let iv ← holding [v, ov] (eval y env)
      standAt pos
      holding [v, ov, iv] (setItem ov iv v)
      release [v, ov, iv] []) := by
  cases y <;> first | rfl | cases h
theorem asub_of {y : Expr} {x : Str} {p pos : Pos} {env : PySem.Env} (h : isSlc y = false) (v : Value) : assign (.Subscript (.Name x p) y pos) env v = (do
      let ov ← holding [v] (eval (.Name x p) env)
      let iv ← holding [v, ov] (eval y env)
      standAt pos
      holding [v, ov, iv] (setItem ov iv v)
      release [v, ov, iv] []) := by
  cases y <;> first | rfl | cases h
/-- the swapped stores of a, b = x, y -/
def swapB (sn : List (Str × NameKind)) (ts vs : List Expr) : Option (Option (List Str)) :=
  if (!(ts.length == 2 || ts.length == 3) || vs.length != ts.length) = true then some none
  else if vs.any isStar = true then some none
  else
    let names := ts.filterMap fun | .Name id pos => if sn.lookup id == some .local && pos.line == (ts.head?.map (·.pos.line)).getD 0 then some id else none | _ => none
    if (names.length != ts.length || names.eraseDups.length != names.length) = true then some none
    else if vs.all (foldedForSure 8) = true then some none
    else if vs.all (constantsAlone 8) = true then none
    else some (some names)
theorem swap_of {env : PySem.Env} {ts vs : List Expr} {k k2 : Nat} {p p2 : Pos} {r : Option (List Str)} (hk : env.scope.kind = .function) (h : swapB env.scope.names ts vs = some r) :
    swappedStores [.Tuple ts k p] (.Tuple vs k2 p2) env = pure r := by
  have hb : env.blockKind = .function := by unfold PySem.Env.blockKind; rw [hk]; rfl
  unfold swapB at h
  unfold swappedStores
  simp only [hb, bne_self_eq_false, Bool.or_false]
  split at h
  · rename_i c1
    cases h
    exact if_pos c1
  · rename_i c1
    refine (if_neg c1).trans ?_
    split at h
    · rename_i c2
      cases h
      exact if_pos c2
    · rename_i c2
      refine (if_neg c2).trans ?_
      dsimp only at h
      split at h
      · rename_i c3
        cases h
        exact if_pos c3
      · rename_i c3
        refine (if_neg c3).trans ?_
        split at h
        · rename_i c4
          cases h
          exact if_pos c4
        · rename_i c4
          refine (if_neg c4).trans ?_
          split at h
          · cases h
          · rename_i c5
            cases h
            exact if_neg c5
end PD

set_option Elab.async false
set_option linter.all false
set_option maxRecDepth 100000
set_option maxHeartbeats 8000000
/-! PD, part l: the one theorem, expressions. -/
namespace PD
open PySem PySem.Spec PyProof.Rows L2

structure Xok (G : Gam) (X : Cx) (C : Ck) (k : Nat) : Prop where
  calm : X.calm = true
  room : Room k X.A
  grd : X.A.guards = some []
  N : X.N = C.N
  nd : X.N.Nodup
  sn : X.env.scope.names = C.sn
  kind : X.env.scope.kind = .function
  fc : ∀ x, C.fc x = true → X.fn x = true
  fre : ∀ x ∈ G.fre, X.mg x = none
  con : ∀ p ∈ G.cons, ∃ v u, X.mg p.1 = some u ∧ RelV v u ∧ ∀ g H, Rp X.K g H v p.2
  bfs : ∀ p ∈ G.bfs, X.mg p.1 = some (.builtin p.2)
  ent : ∀ e ∈ G.ents, EntOk X.prog X.w X.K X.mg X.base k e

section
variable {G : Gam} {X : Cx} {C : Ck} {k : Nat}
theorem Xok.un (o : Xok G X C k) : X.A.units + 66 < cLine := by have := o.room.un; omega
theorem okN_of {x : Str} (h : okN x = true) : (x == ("__debug__" : Str)) = false ∧ (x == ("__classdict__" : Str)) = false := by
  simpa [okN] using h
theorem Xok.gl (o : Xok G X C k) {x : Str} (h : C.gl x = true) : Gl X x ∧ (x == ("__debug__" : Str)) = false := by
  unfold Ck.gl at h
  split at h
  · rename_i e
    exact ⟨by show X.env.scope.names.lookup x = _; rw [o.sn]; exact e, (okN_of h).1⟩
  · cases h
theorem Xok.vis (o : Xok G X C k) {x : Str} (h : C.vis x = true) : Vis X.env.scope x := by
  unfold Ck.vis at h
  unfold Vis
  rw [o.sn]
  split at h
  · rename_i e; exact .inl e
  · rename_i e; exact .inr (.inl e)
  · rename_i e; exact .inr (.inr e)
  · cases h
theorem Xok.loc (o : Xok G X C k) {x : Str} (h : C.loc x = true) : L2.Loc X.env.scope x ∧ (X.fn x = true ∨ X.env.scope.names.lookup x = some .local) := by
  unfold Ck.loc at h
  unfold L2.Loc
  rw [o.sn]
  split at h
  · rename_i e; exact ⟨.inl e, .inr e⟩
  · rename_i e; exact ⟨.inr e, .inl (o.fc x h)⟩
  · cases h
theorem Xok.nm (o : Xok G X C k) {i : Nat} {x : Str} (h : C.nm i x = true) : X.N[i]? = some x ∧ Vis X.env.scope x ∧ (x == ("__debug__" : Str)) = false ∧ (x == ("__classdict__" : Str)) = false := by
  simp only [Ck.nm, Bool.and_eq_true, decide_eq_true_eq] at h
  exact ⟨by rw [o.N]; exact h.1.1, o.vis h.1.2, okN_of h.2⟩
theorem Xok.tg (o : Xok G X C k) {i : Nat} {x : Str} (h : C.tg i x = true) : X.N[i]? = some x ∧ L2.Loc X.env.scope x ∧ (X.fn x = true ∨ X.env.scope.names.lookup x = some .local) := by
  simp only [Ck.tg, Bool.and_eq_true, decide_eq_true_eq] at h
  exact ⟨by rw [o.N]; exact h.1, o.loc h.2⟩
theorem blk_ok {scope : Scope} {own : List (Str × Nat)} (o : Xok G X C k) (h : blkC C.N (scOf C.sn) scope own = true) : BlkOk X.N X.env.scope scope own := by
  have b := blkOk_by h
  refine ⟨b.kind, b.uniq, by rw [o.N]; exact b.ix, fun y hy e => ?_, by rw [o.N]; exact b.own⟩
  have q := b.free y hy e
  rw [o.sn]
  exact q
theorem Xok.blk {scope : Scope} (o : Xok G X C k) (hk : scope.kind = .function) (s : Shared) (H : Hp) (A : Addr) (cl : List (Str × Addr)) (fp : List Addr) : Xok G (X.blk s H scope (compEnvC scope cl A X.env) fp) (C.blk scope) k := by
  refine ⟨o.calm, o.room, o.grd, o.N, o.nd, ?_, hk, fun x h => h, o.fre, o.con, o.bfs, o.ent⟩
  show (scope.names.map fun (n, k) => if (k == NameKind.free && X.env.scope.kind == .function && X.env.kindOf n == some .cell) then (n, NameKind.cell) else (n, k)) = relN scope.names C.sn
  unfold relN
  rw [o.kind, ← o.sn]
  rfl
theorem ownP_snd (N : List Str) (own : List Nat) : (ownP N own).map (·.2) = own := by
  unfold ownP
  rw [List.map_map]
  exact List.map_id _
theorem evXs_len : ∀ (es : Xps) (L : Loc) (S : Store) (xs : List Va) (S' : Store), evXs G es L S = some (xs, S') → xs.length ≤ es.len
  | .nil, L, S, xs, S', h => by cases h; exact Nat.le_refl _
  | .cons e es, L, S, xs, S', h => by
    have h : bnd (evX G e L S) (fun x S1 => bnd (evXs G es L S1) fun xs S2 => some (x :: xs, S2)) = some (xs, S') := h
    obtain ⟨x, S1, _, h2⟩ := of_bnd h
    obtain ⟨ys, S2, h3, h4⟩ := of_bnd h2
    cases h4
    rw [List.length_cons]
    exact Nat.succ_le_succ (evXs_len es L S1 ys _ h3)
  | .star e es, L, S, xs, S', h => by
    have h : bnd (evX G e L S) (fun x S1 => bnd (lft (seqV x) S1) fun l S1 => bnd (evXs G es L S1) fun xs S2 => if l.length ≤ 100000 then some (l.map .d ++ xs, S2) else none) = some (xs, S') := h
    obtain ⟨x, S1, _, h2⟩ := of_bnd h
    obtain ⟨l, S2, _, h3⟩ := of_bnd h2
    obtain ⟨ys, S3, h4, h5⟩ := of_bnd h3
    split at h5
    · rename_i q
      cases h5
      have := evXs_len es L S2 ys _ h4
      rw [List.length_append, List.length_map]
      show _ ≤ es.len + 100000
      omega
    · cases h5
theorem evGs_len : ∀ (ts : Tgs) (ds : List D) (L : Loc) (S : Store) (r : Loc × Store), evGs G ts ds L S = some r → ds.length = ts.len
  | .nil, [], L, S, r, h => rfl
  | .nil, _ :: _, L, S, r, h => by cases h
  | .cons t ts, [], L, S, r, h => by cases h
  | .cons t ts, d :: ds, L, S, r, h => by
    have h : bnd (evG G t d L S) (fun L1 S1 => evGs G ts ds L1 S1) = some r := h
    obtain ⟨L1, S1, _, h2⟩ := of_bnd h
    rw [List.length_cons, evGs_len ts ds L1 S1 r h2]
    rfl
end

/-- a < b < c -/
theorem tD_chain {K : PySem.W.Frag} {ma mb mc : Ms Va} (o o' : CO) (σ : L2.St) (H : Hp) (Q : VK)
    (h : tD K (fun L S => bnd (ma L S) fun x S1 => bnd (mb L S1) fun y S2 => bnd (lft (cmpV o x y) S2) fun k S2 => if k = true then bnd (mc L S2) fun z S3 => lft ((cmpV o' y z).map fun c => .d (.bl c)) S3 else some (.d (.bl false), S2)) σ H Q) :
    tChain (rC K o) (rC K o') (tD K ma) (tD K mb) (tD K mc) σ H Q := by
  obtain ⟨g, H0, L, S, x, S', cr, e, q⟩ := h
  obtain ⟨dx, S1, e1, e2⟩ := of_bnd e
  obtain ⟨dy, S2, e3, e4⟩ := of_bnd e2
  obtain ⟨b, S3, e5, e6⟩ := of_bnd e4
  obtain ⟨e7, eS⟩ := of_lft e5
  subst eS
  refine ⟨g, H0, L, S, dx, S1, cr, e1, fun v g1 H1 x1 s1 r1 => ⟨g1, H0, L, S1, dy, _, cr.ext x1 s1, e3, fun u g2 H2 x2 s2 r2 => ?_⟩⟩
  have r1' := r1.ext x2 s1.cw
  refine rC_ok o g2 H2 _ v u dx dy b _ s2 r1' r2 e7 ⟨b, rfl, ?_⟩
  cases b with
  | true =>
    simp only [if_true] at e6 ⊢
    obtain ⟨dz, S4, e8, e9⟩ := of_bnd e6
    obtain ⟨c, e10, rfl, rfl⟩ := of_mapb e9
    refine ⟨g2, H0, L, _, dz, _, (cr.ext x1 s1).ext x2 s2, e8, fun w g3 H3 x3 s3 r3 => ?_⟩
    exact rC_ok o' g3 H3 _ u w dy dz c Q s3 (r2.ext x3 s2.cw) r3 e10 (q _ g3 H3 (x1.trans (x2.trans x3)) s3 (.bl c))
  | false =>
    simp only [Bool.false_eq_true, if_false] at e6 ⊢
    cases e6
    exact q _ g2 H2 (x1.trans x2) s2 (.bl false)
end PD

set_option Elab.async false
set_option linter.all false
set_option maxRecDepth 100000
set_option maxHeartbeats 8000000
/-! PD, part m: the one theorem, expressions (II). -/
namespace PD
open PySem PySem.Spec PyProof.Rows L2

/-- what is shown of an expression: as a value, as a test -/
def SX (X : Cx) (md : Bool) (ex : Expr) (m : Ms Va) : Prop :=
  (md = false → PE X ex (tD X.K m)) ∧ (md = true → PT X ex (tDT X.K (mT m)) ∧ (isBo ex = true → PW X ex (tDT X.K (mT m))))
theorem SX.e {X : Cx} {ex : Expr} {m : Ms Va} (h : SX X false ex m) : PE X ex (tD X.K m) := h.1 rfl
theorem SX.t {X : Cx} {ex : Expr} {m : Ms Va} (h : SX X true ex m) : PT X ex (tDT X.K (mT m)) := (h.2 rfl).1
theorem SX.of {X : Cx} {md : Bool} {ex : Expr} {m : Ms Va} (h : PE X ex (tD X.K m)) (hp : plainTest ex = true) : SX X md ex m :=
  ⟨fun _ => h, fun _ => ⟨pt_of h (test_of hp), fun z => by cases ex <;> cases z <;> cases hp⟩⟩
theorem SX.val {X : Cx} {md : Bool} {ex : Expr} {m : Ms Va} (h : PE X ex (tD X.K m)) (hm : md = false) : SX X md ex m :=
  ⟨fun _ => h, fun z => by rw [hm] at z; cases z⟩
theorem bo_pe {X : Cx} {op : BoolOp} {y : Expr} {r : List Expr} {pos : Pos} {t : TE} (h : PE X (boE op (y :: r) pos) t) : PE X (.BoolOp op (y :: r) pos) t := by
  cases r with
  | nil => exact pe_one h
  | cons z r => exact h
theorem bo_pw {X : Cx} {md : Bool} {y : Expr} {r : List Expr} {pos : Pos} {m : Ms Va} (h : SX X true (boE .And (y :: r) pos) m) : PW X (.BoolOp .And (y :: r) pos) (tDT X.K (mT m)) := by
  cases r with
  | nil => exact pw_and1 h.t
  | cons z r => exact (h.2 rfl).2 rfl
theorem bo_pwO {X : Cx} {md : Bool} {y : Expr} {r : List Expr} {pos : Pos} {m : Ms Va} (h : SX X true (boE .Or (y :: r) pos) m) : PW X (.BoolOp .Or (y :: r) pos) (tDT X.K (mT m)) := by
  cases r with
  | nil => exact pw_or1 h.t
  | cons z r => exact (h.2 rfl).2 rfl
theorem all_some {kws : List Keyword} {pos : Pos} {env : PySem.Env} {ks : List Str} (h : kws.map (·.arg) = ks.map some) :
    (backToKw pos (keywordEach kws env)).all (·.1.isSome) = true ∧ (backToKw pos (keywordEach kws env)).filterMap (·.1) = ks ∧ (backToKw pos (keywordEach kws env)).any (·.1.isNone) = false := by
  induction kws generalizing ks with
  | nil =>
    cases ks with
    | nil => exact ⟨rfl, rfl, rfl⟩
    | cons _ _ => cases h
  | cons k kws ih =>
    cases ks with
    | nil => cases h
    | cons n ks =>
      simp only [List.map_cons, List.cons.injEq] at h
      obtain ⟨h1, h2⟩ := h
      obtain ⟨i1, i2, i3⟩ := ih h2
      obtain ⟨arg, val, kp⟩ := k
      have h1 : arg = some n := h1
      subst h1
      refine ⟨?_, ?_, ?_⟩
      · show (true && (backToKw pos (keywordEach kws env)).all (·.1.isSome)) = true
        rw [i1]; rfl
      · show n :: (backToKw pos (keywordEach kws env)).filterMap (·.1) = n :: ks
        rw [i2]
      · show (false || (backToKw pos (keywordEach kws env)).any (·.1.isNone)) = false
        rw [i3]; rfl
/-- no star among the arguments -/
def noStars : List Expr → Bool
  | [] => true | x :: xs => !isStar x && noStars xs
theorem stars_any {env : PySem.Env} {pos : Pos} : ∀ {xs : List Expr}, noStars xs = true → (backTo pos (starEach xs env)).any (·.1) = false
  | [], _ => rfl
  | x :: xs, h => by
    simp only [noStars, Bool.and_eq_true, Bool.not_eq_true'] at h
    rw [star_of h.1]
    show (false || (backTo pos (starEach xs env)).any (·.1)) = false
    rw [stars_any h.2]; rfl

variable {G : Gam}
theorem chXs_stars {C : Ck} : ∀ {es : Xps} {xs : List Expr}, chXs G C es xs = true → noStars xs = true
  | .nil, xs, h => by
    have h : (match (generalizing := false) xs with | [] => true | _ => false) = true := h
    split at h
    · rfl
    · cases h
  | .cons e es, xs, h => by
    have h : (match (generalizing := false) xs with | x :: xs => !isStar x && chX G C false e x && chXs G C es xs | _ => false) = true := h
    split at h
    · simp only [Bool.and_eq_true] at h
      simp only [noStars, Bool.and_eq_true]
      exact ⟨h.1.1, chXs_stars h.2⟩
    · cases h
  | .star _ _, xs, h => by cases h
theorem bi_of {X : Cx} {C : Ck} {k : Nat} (o : Xok G X C k) {x : Str} {b : Bi} (h : biB G x b = true) :
    (X.mg x = none ∧ bootBuiltins x = some b.val ∧ x ≠ "__name__") ∨ (X.mg x = some (.builtin b.id) ∧ b.val = .builtin b.id) := by
  simp only [biB, Bool.or_eq_true, Bool.and_eq_true, decide_eq_true_eq, Bool.not_eq_true', decide_eq_false_iff_not, List.any_eq_true] at h
  rcases h with h | ⟨⟨p, hp, e1, e2⟩, e3⟩
  · exact .inl ⟨o.fre x h.1.1, h.1.2, h.2⟩
  · refine .inr ⟨?_, e3⟩
    have := o.bfs p hp
    rw [e1, e2] at this
    exact this

theorem pair_of {w : Wk} {tg : Expr} (h : (!w.pair || isTupE tg) = true) (p : w.pair = true) : isTupE tg = true := by
  rw [p] at h
  exact h
theorem tup_of {tg : Expr} (h : isTupE tg = true) : ∃ l kk tp, tg = .Tuple l kk tp := by
  cases tg <;> first | exact ⟨_, _, _, rfl⟩ | cases h
mutual
theorem sX (k : Nat) : ∀ (e : Xp) (md : Bool) (C : Ck) (X : Cx) (ex : Expr), Xok G X C k → chX G C md e ex = true → SX X md ex (evX G e)
  | .nm i, md, C, X, ex, o, h => by
    have h : (match (generalizing := false) ex with | .Name x _ => C.nm i x | _ => false) = true := h
    split at h
    · obtain ⟨h1, h2, h3, h4⟩ := o.nm h
      exact .of (pd_nm h1 h2 h3 h4) rfl
    · cases h
  | .gc j, md, C, X, ex, o, h => by
    have h : (match (generalizing := false) ex with | .Name x _ => C.gl x && (match G.cons[j]? with | some p => decide (p.1 = x) | none => false) | _ => false) = true := h
    split at h
    · rename_i x _ _
      rw [Bool.and_eq_true] at h
      obtain ⟨h1, h2⟩ := o.gl h.1
      cases hj : G.cons[j]? with
      | none => rw [hj] at h; cases h.2
      | some p =>
        rw [hj] at h
        have hx : p.1 = x := of_decide_eq_true h.2
        obtain ⟨v, u, m1, m2, m3⟩ := o.con p (List.mem_of_getElem? hj)
        rw [hx] at m1
        have e : evX G (.gc j) = fun _ S => some (.d p.2, S) := by
          funext L S
          show (match G.cons[j]? with | some p => some (Va.d p.2, S) | none => none) = _
          rw [hj]
        rw [e]
        exact .of (pd_const (pe_glob h1 m1 m2 h2) m3) rfl
    · cases h
  | .lit d, md, C, X, ex, o, h => by
    have h : (match (generalizing := false) ex with | .Constant c _ _ => litB d c | _ => false) = true := h
    split at h
    · rename_i c _ _
      refine .of ?_ rfl
      unfold litB at h
      split at h
      · have e := of_decide_eq_true h; subst e; exact pd_const pe_int fun g H => .int _
      · have e := beq_iff_eq.mp h; subst e; exact pd_const pe_bl fun g H => .bl _
      · exact pd_const pe_non fun g H => .non
      · have e := of_decide_eq_true h; subst e; exact pd_const pe_str fun g H => .str _
      · cases h
    · cases h
  | .bin q a b, md, C, X, ex, o, h => by
    have h : (match (generalizing := false) ex with | .BinOp x op y _ => decide (op = q.op) && chX G C false a x && chX G C false b y | _ => false) = true := h
    split at h
    · simp only [Bool.and_eq_true, decide_eq_true_eq] at h
      obtain ⟨⟨rfl, h1⟩, h2⟩ := h
      exact .of (pd_bin q (sX k a false C X _ o h1).e (sX k b false C X _ o h2).e) rfl
    · cases h
  | .neg a, md, C, X, ex, o, h => by
    have h : (match (generalizing := false) ex with | .UnaryOp .USub x _ => !md && chX G C false a x | _ => false) = true := h
    split at h
    · simp only [Bool.and_eq_true, Bool.not_eq_true'] at h
      exact .val (pd_neg (sX k a false C X _ o h.2).e) h.1
    · cases h
  | .cmp q a b, md, C, X, ex, o, h => by
    have h : (match (generalizing := false) ex with | .Compare x [op] [y] _ => decide (op = q.op) && !behindInMarks q.op y && chX G C false a x && chX G C false b y | _ => false) = true := h
    split at h
    · simp only [Bool.and_eq_true, decide_eq_true_eq, Bool.not_eq_true'] at h
      obtain ⟨⟨⟨rfl, h0⟩, h1⟩, h2⟩ := h
      have ha := (sX k a false C X _ o h1).e
      have hb := (sX k b false C X _ o h2).e
      have hu : X.A.units + 65 < cLine := by have := o.un; omega
      exact ⟨fun _ => pd_cmp q hu h0 ha hb, fun _ => ⟨pt_cmpD q hu h0 ha hb, fun z => by cases z⟩⟩
    · cases h
  | .cmp2 q q' a b c, md, C, X, ex, o, h => by
    have h : (match (generalizing := false) ex with | .Compare x [op, op'] [y, z] _ => decide (op = q.op) && decide (op' = q'.op) && !behindInMarks q'.op z && chX G C false a x && chX G C false b y && chX G C false c z | _ => false) = true := h
    split at h
    · simp only [Bool.and_eq_true, decide_eq_true_eq, Bool.not_eq_true'] at h
      obtain ⟨⟨⟨⟨⟨rfl, rfl⟩, h0⟩, h1⟩, h2⟩, h3⟩ := h
      have ha := (sX k a false C X _ o h1).e
      have hb := (sX k b false C X _ o h2).e
      have hc := (sX k c false C X _ o h3).e
      have hu : X.A.units + 65 < cLine := by have := o.un; omega
      refine ⟨fun _ => (pe_chain (op_C q hu) (op_C q' hu) ha hb hc h0).wk (tD_chain q q'), fun _ => ⟨(pt_chain (op_C q hu) (op_C q' hu) ha hb hc h0).wk fun σ H Q hq => ?_, fun z => by cases z⟩⟩
      exact tD_chain q q' σ H _ (mT_val σ H Q hq)
    · cases h
  | .and a b, md, C, X, ex, o, h => by
    have h : (match (generalizing := false) ex with | .BoolOp .And (x :: y :: r) pos => chX G C md a x && chX G C md b (boE .And (y :: r) pos) | _ => false) = true := h
    split at h
    · simp only [Bool.and_eq_true] at h
      have ha := sX k a md C X _ o h.1
      have hb := sX k b md C X _ o h.2
      cases md with
      | false => exact ⟨fun _ => pd_and ha.e (bo_pe hb.e), fun z => by cases z⟩
      | true =>
        have w := pw_andD ha.t (bo_pw (md := true) hb)
        exact ⟨fun z => by (cases z), fun _ => ⟨w.pt, fun _ => w⟩⟩
    · cases h
  | .or a b, md, C, X, ex, o, h => by
    have h : (match (generalizing := false) ex with | .BoolOp .Or (x :: y :: r) pos => chX G C md a x && chX G C md b (boE .Or (y :: r) pos) | _ => false) = true := h
    split at h
    · simp only [Bool.and_eq_true] at h
      have ha := sX k a md C X _ o h.1
      have hb := sX k b md C X _ o h.2
      cases md with
      | false => exact ⟨fun _ => pd_or ha.e (bo_pe hb.e), fun z => by cases z⟩
      | true =>
        have w := pw_orD ha.t (bo_pwO (md := true) hb)
        exact ⟨fun z => by (cases z), fun _ => ⟨w.pt, fun _ => w⟩⟩
    · cases h
  | .not a, md, C, X, ex, o, h => by
    have h : (match (generalizing := false) ex with | .UnaryOp .Not x _ => chX G C md a x | _ => false) = true := h
    split at h
    · have ha := sX k a md C X _ o h
      cases md with
      | false => exact ⟨fun _ => pd_not ha.e, fun z => by cases z⟩
      | true => exact ⟨fun z => by (cases z), fun _ => ⟨pt_notD ha.t, fun z => by cases z⟩⟩
    · cases h
  | .ife c a b, md, C, X, ex, o, h => by
    have h : (match (generalizing := false) ex with | .IfExp t x y _ => !md && chX G C true c t && chX G C false a x && chX G C false b y | _ => false) = true := h
    split at h
    · simp only [Bool.and_eq_true, Bool.not_eq_true'] at h
      exact .val (pd_ife (sX k c true C X _ o h.1.1.2).t (sX k a false C X _ o h.1.2).e (sX k b false C X _ o h.2).e) h.1.1.1
    · cases h
  | .tup es, md, C, X, ex, o, h => by
    have h : (match (generalizing := false) ex with | .Tuple xs _ _ => chXz G C es xs && decide (es.len ≤ 10000000) | _ => false) = true := h
    split at h
    · simp only [Bool.and_eq_true, decide_eq_true_eq] at h
      refine .of (pd_tup (fun L S xs S' e => ?_) (sXz k es C X _ o h.1)) rfl
      exact Nat.le_trans (evXs_len es L S xs S' e) (Nat.le_trans h.2 (by decide))
    · cases h
  | .ix a b, md, C, X, ex, o, h => by
    have h : (match (generalizing := false) ex with | .Subscript x y _ => !isSlc y && chX G C false a x && chX G C false b y | _ => false) = true := h
    split at h
    · simp only [Bool.and_eq_true, Bool.not_eq_true'] at h
      exact .of (pd_ix (sX k a false C X _ o h.1.2).e (sX k b false C X _ o h.2).e (ix_of h.1.1)) rfl
    · cases h
  | .slc a lo hi, md, C, X, ex, o, h => by
    have h : (match (generalizing := false) ex with | .Subscript x (.Slice l h none _) _ => chX G C false a x && chO G C lo l && chO G C hi h | _ => false) = true := h
    split at h
    · simp only [Bool.and_eq_true] at h
      exact .of (pd_slc (sX k a false C X _ o h.1.1).e (sO k lo C X _ o h.1.2) (sO k hi C X _ o h.2)) rfl
    · cases h
  | .call j es ks, md, C, X, ex, o, h => by
    have h : (match (generalizing := false) ex with
      | .Call (.Name x _) xs kws _ => C.gl x && (match G.ents[j]? with | some e => decide (e.name = x) && decide (kws.map (·.arg) = e.ks.map some) | none => false) && chXs G C es xs && chKs G C ks kws
      | _ => false) = true := h
    split at h
    · rename_i x p xs kws pos _
      simp only [Bool.and_eq_true] at h
      obtain ⟨⟨⟨h1, h2⟩, h3⟩, h4⟩ := h
      obtain ⟨g1, g2⟩ := o.gl h1
      cases hj : G.ents[j]? with
      | none => rw [hj] at h2; cases h2
      | some e =>
        rw [hj] at h2
        simp only [Bool.and_eq_true, decide_eq_true_eq] at h2
        obtain ⟨rfl, hk⟩ := h2
        obtain ⟨a1, a2, a3⟩ := all_some (pos := pos) (env := X.env) hk
        have st := chXs_stars h3
        have ev : evX G (.call j es ks) = fun L S => bnd (evXs G es L S) fun xs S1 => bnd (evXs G ks L S1) fun zs S2 => bnd (lft (unVs (xs ++ zs)) S2) fun ds S2 =>
            if xs.length = e.n ∧ zs.length = e.ks.length then bnd (e.sem ds S2) fun d S3 => some (.d d, S3) else none := by
          funext L S
          show (match G.ents[j]? with
            | some e => bnd (evXs G es L S) fun xs S1 => bnd (evXs G ks L S1) fun zs S2 => bnd (lft (unVs (xs ++ zs)) S2) fun ds S2 =>
                if xs.length = e.n ∧ zs.length = e.ks.length then bnd (e.sem ds S2) fun d S3 => some (Va.d d, S3) else none
            | none => none) = _
          rw [hj]
        rw [ev]
        refine .of (pd_call (o.ent e (List.mem_of_getElem? hj)) o.room o.grd g1 (sXs k es C X _ o h3) (sKs k ks C X _ o h4) g2 a1 a2 (fun z => ?_) (fun y r z => ?_) ?_) rfl
        · subst z
          cases es with
          | nil => rfl
          | cons _ _ => cases h3
          | star _ _ => cases h3
        · subst z
          simp only [noStars, Bool.and_eq_true, Bool.not_eq_true'] at st
          exact star_of st.1
        · rw [stars_any st, a3]; rfl
    · cases h
  | .bi b es, md, C, X, ex, o, h => by
    have h : (match (generalizing := false) ex with | .Call (.Name x _) (y :: ys) [] _ => C.gl x && biB G x b && chXs G C es (y :: ys) | _ => false) = true := h
    split at h
    · simp only [Bool.and_eq_true] at h
      obtain ⟨g1, g2⟩ := o.gl h.1.1
      have st := chXs_stars h.2
      simp only [noStars, Bool.and_eq_true, Bool.not_eq_true'] at st
      exact .of (pd_bi b o.calm o.grd o.un g1 (bi_of o h.1.2) (sXs k es C X _ o h.2) g2 (star_of st.1) (stars_any st.2)) rfl
    · cases h
  | .bic b es, md, C, X, ex, o, h => by
    have h : (match (generalizing := false) ex with | .Call (.Name x _) (y :: ys) [] _ => C.gl x && biB G x b && chXs G C es (y :: ys) | _ => false) = true := h
    split at h
    · simp only [Bool.and_eq_true] at h
      obtain ⟨g1, g2⟩ := o.gl h.1.1
      have st := chXs_stars h.2
      simp only [noStars, Bool.and_eq_true, Bool.not_eq_true'] at st
      exact .of (pd_bic b o.calm o.grd o.un g1 (bi_of o h.1.2) (sXs k es C X _ o h.2) g2 (star_of st.1) (stars_any st.2)) rfl
    · cases h
  | .isi a t, md, C, X, ex, o, h => by
    have h : (match (generalizing := false) ex with
      | .Call (.Name x _) [y, .Name z _] [] _ => C.gl x && C.gl z && decide (x = ("isinstance" : Str)) && decide (x ∈ G.fre) && decide (z ∈ G.fre) && decide (bootBuiltins z = some (.type t)) && !decide (z = ("__name__" : Str)) && !isStar y && chX G C false a y
      | _ => false) = true := h
    split at h
    · simp only [Bool.and_eq_true, decide_eq_true_eq, Bool.not_eq_true', decide_eq_false_iff_not] at h
      obtain ⟨⟨⟨⟨⟨⟨⟨⟨h1, h2⟩, h3⟩, h4⟩, h5⟩, h6⟩, h7⟩, h8⟩, h9⟩ := h
      obtain ⟨g1, g2⟩ := o.gl h1
      obtain ⟨g3, g4⟩ := o.gl h2
      subst h3
      exact .of (pd_isi g1 (o.fre _ h4) (by decide +kernel) (by decide) g3 (o.fre _ h5) h6 h7 g2 g4 (sX k a false C X _ o h9).e (star_of h8)) rfl
    · cases h
  | .fr f, md, C, X, ex, o, h => by
    have h : (!md && chF G C f ex) = true := h
    simp only [Bool.and_eq_true, Bool.not_eq_true'] at h
    exact .val (pd_fr (sF k f C X ex o h.2)) h.1
  | .nwc f, md, C, X, ex, o, h => by
    have h : (!md && chF G C f ex) = true := h
    simp only [Bool.and_eq_true, Bool.not_eq_true'] at h
    exact .val (pd_nwc (sF k f C X ex o h.2)) h.1
  | .rev a, md, C, X, ex, o, h => by
    have h : (match (generalizing := false) ex with | .Subscript x (.Slice none none (some (.UnaryOp .USub (.Constant (.int 1) _ _) _)) _) _ => chX G C false a x | _ => false) = true := h
    split at h
    · exact .of (pd_rev (sX k a false C X _ o h).e) rfl
    · cases h
theorem sXs (k : Nat) : ∀ (es : Xps) (C : Ck) (X : Cx) (xs : List Expr), Xok G X C k → chXs G C es xs = true → PA X xs (tDA X.K (evXs G es))
  | .nil, C, X, xs, o, h => by
    have h : (match (generalizing := false) xs with | [] => true | _ => false) = true := h
    split at h
    · exact pda_nil
    · cases h
  | .cons e es, C, X, xs, o, h => by
    have h : (match (generalizing := false) xs with | x :: xs => !isStar x && chX G C false e x && chXs G C es xs | _ => false) = true := h
    split at h
    · simp only [Bool.and_eq_true, Bool.not_eq_true'] at h
      exact pda_cons (sX k e false C X _ o h.1.2).e (sXs k es C X _ o h.2) (star_of h.1.1)
    · cases h
  | .star e es, C, X, xs, o, h => by cases h
theorem sXz (k : Nat) : ∀ (es : Xps) (C : Ck) (X : Cx) (xs : List Expr), Xok G X C k → chXz G C es xs = true → PA X xs (tDA X.K (evXs G es))
  | .nil, C, X, xs, o, h => by
    have h : (match (generalizing := false) xs with | [] => true | _ => false) = true := h
    split at h
    · exact pda_nil
    · cases h
  | .cons e es, C, X, xs, o, h => by
    have h : (match (generalizing := false) xs with | x :: xs => !isStar x && chX G C false e x && chXz G C es xs | _ => false) = true := h
    split at h
    · simp only [Bool.and_eq_true, Bool.not_eq_true'] at h
      exact pda_cons (sX k e false C X _ o h.1.2).e (sXz k es C X _ o h.2) (star_of h.1.1)
    · cases h
  | .star e es, C, X, xs, o, h => by
    have h : (match (generalizing := false) xs with | (.Starred x _) :: xs => chX G C false e x && chXz G C es xs | _ => false) = true := h
    split at h
    · simp only [Bool.and_eq_true] at h
      exact pda_star (sX k e false C X _ o h.1).e (sXz k es C X _ o h.2) rfl
    · cases h
theorem sKs (k : Nat) : ∀ (es : Xps) (C : Ck) (X : Cx) (xs : List Keyword), Xok G X C k → chKs G C es xs = true → PK X xs (tDA X.K (evXs G es))
  | .nil, C, X, xs, o, h => by
    have h : (match (generalizing := false) xs with | [] => true | _ => false) = true := h
    split at h
    · exact pk_nilD
    · cases h
  | .cons e es, C, X, xs, o, h => by
    have h : (match (generalizing := false) xs with | x :: xs => chX G C false e x.value && chKs G C es xs | _ => false) = true := h
    split at h
    · rename_i x xs _
      simp only [Bool.and_eq_true] at h
      obtain ⟨nm, v, kp⟩ := x
      exact pk_consD (sX k e false C X _ o h.1).e (sKs k es C X _ o h.2)
    · cases h
  | .star e es, C, X, xs, o, h => by cases h
theorem sO (k : Nat) : ∀ (e : Xo) (C : Ck) (X : Cx) (ex : Option Expr), Xok G X C k → chO G C e ex = true → PO X ex (tDO X.K (evO G e))
  | .none, C, X, ex, o, h => by
    have h : (match (generalizing := false) ex with | none => true | _ => false) = true := h
    split at h
    · exact po_noneD
    · cases h
  | .some e, C, X, ex, o, h => by
    have h : (match (generalizing := false) ex with | some x => chX G C false e x | _ => false) = true := h
    split at h
    · exact po_someD (sX k e false C X _ o h).e
    · cases h
theorem sF (k : Nat) : ∀ (f : Fx) (C : Ck) (X : Cx) (ex : Expr), Xok G X C k → chF G C f ex = true → PE X ex (tDF X.K (evF G f))
  | .disp es, C, X, ex, o, h => by
    have h : (match (generalizing := false) ex with | .List xs _ => chXz G C es xs && decide (es.len ≤ 10000000) | _ => false) = true := h
    split at h
    · simp only [Bool.and_eq_true, decide_eq_true_eq] at h
      refine pf_disp (fun L S xs S' e => ?_) (sXz k es C X _ o h.1)
      exact Nat.le_trans (evXs_len es L S xs S' e) (Nat.le_trans h.2 (by decide))
    · cases h
  | .comp elt t w c own, C, X, ex, o, h => by
    have h : (match (generalizing := false) ex with
      | .ListComp x [⟨tg, it, ifs, as⟩] scope _ => decide (as = 0) && !isSetE it && (chW G C w it && (!w.pair || isTupE tg)) && blkC C.N (scOf C.sn) scope (ownP C.N own) && t.pu && decide (∀ j ∈ t.slots, j ∈ own) &&
          chG G (C.blk scope) t tg && chC G (C.blk scope) c ifs && chX G (C.blk scope) false elt x
      | _ => false) = true := h
    split at h
    · rename_i _ x tg it ifs as scope pos _
      rw [Bool.and_eq_true, Bool.and_eq_true, Bool.and_eq_true, Bool.and_eq_true, Bool.and_eq_true, Bool.and_eq_true, Bool.and_eq_true, Bool.and_eq_true] at h
      obtain ⟨⟨⟨⟨⟨⟨⟨⟨h1, h2⟩, h3⟩, h4⟩, h5⟩, h6⟩, h7⟩, h8⟩, h9⟩ := h
      obtain rfl := of_decide_eq_true h1
      simp only [Bool.not_eq_true', decide_eq_true_eq] at h2 h6
      rw [Bool.and_eq_true] at h3
      have bk := blk_ok o h4
      have hw : PI X tg it (tDI X.K true (evW G w)) := by
        have q := sW k w C X tg it o h3.1 (pair_of h3.2)
        cases e : w.isB with
        | true => exact q.2 e
        | false => exact PI.wk (q.1 e) tDI_weak
      have hg := fun s H A cl fp => sG k t (C.blk _) (X.blk s H _ (compEnvC _ cl A X.env) fp) _ (o.blk bk.kind s H A cl fp) h7
      rw [h5] at hg
      have r := pf_comp (X := X) (pos := pos) (own := ownP C.N own) o.calm o.nd hw bk (by rw [ownP_snd]; exact h6) hg (fun s H A cl fp => sC k c (C.blk _) (X.blk s H _ (compEnvC _ cl A X.env) fp) _ (o.blk bk.kind s H A cl fp) h8)
        (fun s H A cl fp => (sX k elt false (C.blk _) (X.blk s H _ (compEnvC _ cl A X.env) fp) _ (o.blk bk.kind s H A cl fp) h9).e) (fun x => fold_of h2 x)
      rw [ownP_snd] at r
      exact r
    · cases h
  | .list e, C, X, ex, o, h => by
    have h : (match (generalizing := false) ex with | .Call (.Name x _) [y] [] _ => C.gl x && decide (x = ("list" : Str)) && decide (x ∈ G.fre) && !isStar y && chX G C false e y | _ => false) = true := h
    split at h
    · simp only [Bool.and_eq_true, decide_eq_true_eq, Bool.not_eq_true'] at h
      obtain ⟨⟨⟨⟨h1, rfl⟩, h3⟩, h4⟩, h5⟩ := h
      exact pf_list (o.gl h1).1 (o.fre _ h3) (sX k e false C X _ o h5).e (star_of h4)
    · cases h
  | .cat a b, C, X, ex, o, h => by
    have h : (match (generalizing := false) ex with | .BinOp x .Add y _ => chX G C false a x && chX G C false b y | _ => false) = true := h
    split at h
    · simp only [Bool.and_eq_true] at h
      exact pf_cat (sX k a false C X _ o h.1).e (sX k b false C X _ o h.2).e
    · cases h
  | .rep f b, C, X, ex, o, h => by
    have h : (match (generalizing := false) ex with | .BinOp x .Mult y _ => chF G C f x && chX G C false b y | _ => false) = true := h
    split at h
    · simp only [Bool.and_eq_true] at h
      exact pf_rep (sF k f C X _ o h.1) (sX k b false C X _ o h.2).e
    · cases h
  | .slc a lo hi, C, X, ex, o, h => by
    have h : (match (generalizing := false) ex with | .Subscript x (.Slice l h none _) _ => chX G C false a x && chO G C lo l && chO G C hi h | _ => false) = true := h
    split at h
    · simp only [Bool.and_eq_true] at h
      exact pf_slc (sX k a false C X _ o h.1.1).e (sO k lo C X _ o h.1.2) (sO k hi C X _ o h.2)
    · cases h
  | .comp2 elt t w c t1 w1 c1 own own1, C, X, ex, o, h => by
    have h : (match (generalizing := false) ex with
      | .ListComp x [⟨tg, it, ifs, as⟩, ⟨tg1, it1, ifs1, as1⟩] scope _ => decide (as = 0 ∧ as1 = 0) && (!isSetE it && !isSetE it1) && (chW G C w it && (!w.pair || isTupE tg)) && blkC C.N (scOf C.sn) scope (ownP C.N own) && (t.pu && t1.pu) && (decide (∀ j ∈ t.slots, j ∈ own) && decide (∀ j ∈ t1.slots, j ∈ own1) && decide (∀ j ∈ own1, j ∈ own)) &&
          chG G (C.blk scope) t tg && chC G (C.blk scope) c ifs && (!w1.isB && chW G (C.blk scope) w1 it1 && (!w1.pair || isTupE tg1)) && chG G (C.blk scope) t1 tg1 && chC G (C.blk scope) c1 ifs1 && chX G (C.blk scope) false elt x
      | _ => false) = true := h
    split at h
    · rename_i _ x tg it ifs as tg1 it1 ifs1 as1 scope pos _
      rw [Bool.and_eq_true, Bool.and_eq_true, Bool.and_eq_true, Bool.and_eq_true, Bool.and_eq_true, Bool.and_eq_true, Bool.and_eq_true, Bool.and_eq_true, Bool.and_eq_true, Bool.and_eq_true, Bool.and_eq_true] at h
      obtain ⟨⟨⟨⟨⟨⟨⟨⟨⟨⟨⟨h1, h2⟩, h3⟩, h4⟩, h5⟩, h6⟩, h7⟩, h8⟩, h9⟩, h10⟩, h11⟩, h12⟩ := h
      obtain ⟨rfl, rfl⟩ := of_decide_eq_true h1
      simp only [Bool.and_eq_true, Bool.not_eq_true', decide_eq_true_eq] at h2 h5 h6
      rw [Bool.and_eq_true] at h3
      rw [Bool.and_eq_true, Bool.and_eq_true] at h9
      have bk := blk_ok o h4
      have hw : PI X tg it (tDI X.K true (evW G w)) := by
        have q := sW k w C X tg it o h3.1 (pair_of h3.2)
        cases e : w.isB with
        | true => exact q.2 e
        | false => exact PI.wk (q.1 e) tDI_weak
      have hg := fun s H A cl fp => sG k t (C.blk _) (X.blk s H _ (compEnvC _ cl A X.env) fp) _ (o.blk bk.kind s H A cl fp) h7
      have hg1 := fun s H A cl fp => sG k t1 (C.blk _) (X.blk s H _ (compEnvC _ cl A X.env) fp) _ (o.blk bk.kind s H A cl fp) h10
      rw [h5.1] at hg
      rw [h5.2] at hg1
      have r := pf_comp2 (X := X) (pos := pos) (own := ownP C.N own) (own1 := own1) o.calm o.nd hw bk (by rw [ownP_snd]; exact h6.1.1) h6.1.2 (by rw [ownP_snd]; exact h6.2) hg
        (fun s H A cl fp => sC k c (C.blk _) (X.blk s H _ (compEnvC _ cl A X.env) fp) _ (o.blk bk.kind s H A cl fp) h8)
        (fun s H A cl fp => (sW k w1 (C.blk _) (X.blk s H _ (compEnvC _ cl A X.env) fp) tg1 it1 (o.blk bk.kind s H A cl fp) h9.1.2 (pair_of h9.2)).1 (by simpa using h9.1.1)) hg1
        (fun s H A cl fp => sC k c1 (C.blk _) (X.blk s H _ (compEnvC _ cl A X.env) fp) _ (o.blk bk.kind s H A cl fp) h11)
        (fun s H A cl fp => (sX k elt false (C.blk _) (X.blk s H _ (compEnvC _ cl A X.env) fp) _ (o.blk bk.kind s H A cl fp) h12).e) (fun x => fold_of h2.1 x) (fun env x => fold_of h2.2 x)
      rw [ownP_snd] at r
      exact r
    · cases h
theorem sC (k : Nat) : ∀ (e : Xo) (C : Ck) (X : Cx) (l : List Expr), Xok G X C k → chC G C e l = true → PTs X l (tDT X.K (evC G e))
  | .none, C, X, l, o, h => by
    have h : (match (generalizing := false) l with | [] => true | _ => false) = true := h
    split at h
    · refine ⟨fun pins s σ H Q I hq => pts_nil.run pins s σ H Q I ?_⟩
      obtain ⟨g, H0, L, S, x, S', cr, e, q⟩ := hq
      cases e
      exact q g H Ext.refl cr.s
    · cases h
  | .some e, C, X, l, o, h => by
    have h : (match (generalizing := false) l with | [x] => chX G C true e x | _ => false) = true := h
    split at h
    · exact pts_one (sX k e true C X _ o h).t
    · cases h
theorem sW (k : Nat) : ∀ (w : Wk) (C : Ck) (X : Cx) (tg ex : Expr), Xok G X C k → chW G C w ex = true → (w.pair = true → isTupE tg = true) → (w.isB = false → PI X tg ex (tDI X.K false (evW G w))) ∧ (w.isB = true → PI X tg ex (tDI X.K true (evW G w)))
  | .seq e, C, X, tg, ex, o, h, hp => ⟨fun _ => pi_seq (sX k e false C X ex o h).e, fun z => by cases z⟩
  | .bor i, C, X, tg, ex, o, h, hp => by
    have h : (match (generalizing := false) ex with | .Name x _ => C.nm i x | _ => false) = true := h
    split at h
    · obtain ⟨h1, h2, h3, h4⟩ := o.nm h
      exact ⟨fun z => by (cases z), fun _ => pi_bor h1 h2 h3 h4⟩
    · cases h
  | .range1 a, C, X, tg, ex, o, h, hp => by
    have h : (match (generalizing := false) ex with | .Call (.Name x _) [y] [] _ => C.gl x && decide (x = ("range" : Str)) && decide (x ∈ G.fre) && !isStar y && chX G C false a y | _ => false) = true := h
    split at h
    · simp only [Bool.and_eq_true, decide_eq_true_eq, Bool.not_eq_true'] at h
      obtain ⟨⟨⟨⟨h1, rfl⟩, h3⟩, h4⟩, h5⟩ := h
      exact ⟨fun _ => pi_rng1 (o.gl h1).1 (o.fre _ h3) (sX k a false C X _ o h5).e (star_of h4), fun z => by cases z⟩
    · cases h
  | .range2 a b, C, X, tg, ex, o, h, hp => by
    have h : (match (generalizing := false) ex with | .Call (.Name x _) [y, z] [] _ => C.gl x && decide (x = ("range" : Str)) && decide (x ∈ G.fre) && !isStar y && !isStar z && chX G C false a y && chX G C false b z | _ => false) = true := h
    split at h
    · simp only [Bool.and_eq_true, decide_eq_true_eq, Bool.not_eq_true'] at h
      obtain ⟨⟨⟨⟨⟨⟨h1, rfl⟩, h3⟩, h4⟩, h5⟩, h6⟩, h7⟩ := h
      exact ⟨fun _ => pi_rng2 (o.gl h1).1 (o.fre _ h3) (sX k a false C X _ o h6).e (sX k b false C X _ o h7).e (star_of h4) (star_of h5), fun z => by cases z⟩
    · cases h
  | .range3 a b c, C, X, tg, ex, o, h, hp => by
    have h : (match (generalizing := false) ex with | .Call (.Name x _) [y, z, w] [] _ => C.gl x && decide (x = ("range" : Str)) && decide (x ∈ G.fre) && !isStar y && !isStar z && !isStar w && chX G C false a y && chX G C false b z && chX G C false c w | _ => false) = true := h
    split at h
    · simp only [Bool.and_eq_true, decide_eq_true_eq, Bool.not_eq_true'] at h
      obtain ⟨⟨⟨⟨⟨⟨⟨⟨h1, rfl⟩, h3⟩, h4⟩, h5⟩, h6⟩, h7⟩, h8⟩, h9⟩ := h
      exact ⟨fun _ => pi_rng3 (o.gl h1).1 (o.fre _ h3) (sX k a false C X _ o h7).e (sX k b false C X _ o h8).e (sX k c false C X _ o h9).e (star_of h4) (star_of h5) (star_of h6), fun z => by cases z⟩
    · cases h
  | .enum e, C, X, tg, ex, o, h, hp => by
    have h : (match (generalizing := false) ex with | .Call (.Name x _) [y] [] _ => C.gl x && decide (x = ("enumerate" : Str)) && decide (x ∈ G.fre) && !isStar y && chX G C false e y | _ => false) = true := h
    split at h
    · simp only [Bool.and_eq_true, decide_eq_true_eq, Bool.not_eq_true'] at h
      obtain ⟨⟨⟨⟨h1, rfl⟩, h3⟩, h4⟩, h5⟩ := h
      obtain ⟨l, kk, tp, rfl⟩ := tup_of (hp rfl)
      exact ⟨fun _ => pi_enumD (o.gl h1).1 (o.fre _ h3) (sX k e false C X _ o h5).e (star_of h4), fun z => by cases z⟩
    · cases h
  | .enumB i, C, X, tg, ex, o, h, hp => by
    have h : (match (generalizing := false) ex with | .Call (.Name x _) [.Name y _] [] _ => C.gl x && decide (x = ("enumerate" : Str)) && decide (x ∈ G.fre) && C.nm i y | _ => false) = true := h
    split at h
    · simp only [Bool.and_eq_true, decide_eq_true_eq] at h
      obtain ⟨⟨⟨h1, rfl⟩, h3⟩, h4⟩ := h
      obtain ⟨q1, q2, q3, q4⟩ := o.nm h4
      obtain ⟨l, kk, tp, rfl⟩ := tup_of (hp rfl)
      exact ⟨fun z => by (cases z), fun _ => pi_enumB (o.gl h1).1 (o.fre _ h3) q1 q2 q3 q4 rfl⟩
    · cases h
  | .zip a b, C, X, tg, ex, o, h, hp => by
    have h : (match (generalizing := false) ex with | .Call (.Name x _) [y, z] [] _ => C.gl x && decide (x = ("zip" : Str)) && decide (x ∈ G.fre) && !isStar y && !isStar z && chX G C false a y && chX G C false b z | _ => false) = true := h
    split at h
    · simp only [Bool.and_eq_true, decide_eq_true_eq, Bool.not_eq_true'] at h
      obtain ⟨⟨⟨⟨⟨⟨h1, rfl⟩, h3⟩, h4⟩, h5⟩, h6⟩, h7⟩ := h
      obtain ⟨l, kk, tp, rfl⟩ := tup_of (hp rfl)
      exact ⟨fun _ => pi_zipD (o.gl h1).1 (o.fre _ h3) (sX k a false C X _ o h6).e (sX k b false C X _ o h7).e (star_of h4) (star_of h5), fun z => by cases z⟩
    · cases h
  | .rvd e, C, X, tg, ex, o, h, hp => by
    have h : (match (generalizing := false) ex with | .Call (.Name x _) [y] [] _ => C.gl x && decide (x = ("reversed" : Str)) && decide (x ∈ G.fre) && !isStar y && chX G C false e y | _ => false) = true := h
    split at h
    · simp only [Bool.and_eq_true, decide_eq_true_eq, Bool.not_eq_true'] at h
      obtain ⟨⟨⟨⟨h1, rfl⟩, h3⟩, h4⟩, h5⟩ := h
      exact ⟨fun _ => pi_rvd (o.gl h1).1 (o.fre _ h3) (sX k e false C X _ o h5).e (star_of h4), fun z => by cases z⟩
    · cases h
  | .rvr e, C, X, tg, ex, o, h, hp => by cases h
theorem sG (k : Nat) : ∀ (t : Tg) (C : Ck) (X : Cx) (ex : Expr), Xok G X C k → chG G C t ex = true → PG X ex (tDG X.K t.slots t.pu (evG G t))
  | .nm i, C, X, ex, o, h => by
    have h : (match (generalizing := false) ex with | .Name x _ => C.tg i x | _ => false) = true := h
    split at h
    · obtain ⟨h1, h2, h3⟩ := o.tg h
      exact pg_nm o.nd h1 h2 h3
    · cases h
  | .tup ts, C, X, ex, o, h => by
    have h : (match (generalizing := false) ex with | .Tuple xs _ _ => chGs G C ts xs | _ => false) = true := h
    split at h
    · obtain ⟨q1, q2, q3⟩ := sGs k ts C X _ o h
      refine PG.wk (pg_tupD (n := ts.len) o.calm (fun ds L S r e => evGs_len ts ds L S r e) q1 q2 q3) fun v σ H Q z => by
        obtain ⟨g, H0, L, S, d, La, S', cr, rp, e, q⟩ := z
        refine ⟨g, H0, L, S, d, La, S', cr, rp, ?_, q⟩
        cases d <;> exact e
    · cases h
  | .sub i b, C, X, ex, o, h => by
    have h : (match (generalizing := false) ex with | .Subscript (.Name x _) y _ => C.nm i x && !isSlc y && chX G C false b y | _ => false) = true := h
    split at h
    · simp only [Bool.and_eq_true, Bool.not_eq_true'] at h
      obtain ⟨h1, h2, h3, h4⟩ := o.nm h.1.1
      exact pg_subD h1 h2 h3 h4 (sX k b false C X _ o h.2).e (fun v => asub_of h.1.2 v)
    · cases h
  | .sbx a b, C, X, ex, o, h => by
    have h : (match (generalizing := false) ex with | .Subscript x y _ => !isSlc y && chX G C false a x && chX G C false b y | _ => false) = true := h
    split at h
    · simp only [Bool.and_eq_true, Bool.not_eq_true'] at h
      exact pg_sbxD (sX k a false C X _ o h.1.2).e (sX k b false C X _ o h.2).e (fun v => asubx_of h.1.1 v)
    · cases h
theorem sGs (k : Nat) : ∀ (ts : Tgs) (C : Ck) (X : Cx) (xs : List Expr), Xok G X C k → chGs G C ts xs = true → PGs X xs (tDGs X.K ts.slots ts.pu (evGs G ts)) ∧ (assignEach xs X.env).length = ts.len ∧ (assignEach xs X.env).findIdx? (·.1) = none
  | .nil, C, X, xs, o, h => by
    have h : (match (generalizing := false) xs with | [] => true | _ => false) = true := h
    split at h
    · refine ⟨pgs_nilD.wk fun v σ H Q z => ?_, rfl, rfl⟩
      obtain ⟨g, H0, L, S, d, La, S', cr, rp, e, q⟩ := z
      refine ⟨g, H0, L, S, d, La, S', cr, rp, ?_, q⟩
      cases d <;> exact e
    · cases h
  | .cons t ts, C, X, xs, o, h => by
    have h : (match (generalizing := false) xs with | x :: xs => !isStar x && chG G C t x && chGs G C ts xs | _ => false) = true := h
    split at h
    · rename_i _ x xs _
      simp only [Bool.and_eq_true, Bool.not_eq_true'] at h
      obtain ⟨q1, q2, q3⟩ := sGs k ts C X _ o h.2
      have q0 := sG k t C X _ o h.1.2
      have ae := asgn_of (env := X.env) (r := xs) h.1.1
      refine ⟨(pgs_consD q0 q1 (by rw [ae]; rfl)).wk fun v σ H Q z => ?_, by rw [ae, List.length_cons, q2]; rfl, by rw [ae, List.findIdx?_cons, q3]; rfl⟩
      obtain ⟨g, H0, L, S, d, La, S', cr, rp, e, q⟩ := z
      refine ⟨g, H0, L, S, d, La, S', cr, rp, ?_, q⟩
      cases d <;> exact e
    · cases h
end
end PD

set_option Elab.async false
set_option linter.all false
set_option maxRecDepth 100000
set_option maxHeartbeats 8000000
/-! PD, part n: the one theorem, statements. -/
namespace PD
open PySem PySem.Spec PyProof.Rows L2

/-- the new name of a list that is stored at once -/
def lcB (C : Ck) (x : Str) (px : Pos) (v : Expr) : Bool := match v with
  | .ListComp _ _ sc p => decide (C.sn.lookup x = some .local) && (px.line == p.line) && !(sc.names.any fun (n, k) => n == x && (k == .local || k == .cell))
  | _ => false
/-- a comprehension stored as all else is -/
def swF (C : Ck) (tg v : Expr) : Bool := match v with
  | .ListComp _ _ sc p => (match tg with
    | .Name x px => !(decide (C.sn.lookup x = some .local) && (px.line == p.line) && !(sc.names.any fun (n, k) => n == x && (k == .local || k == .cell)))
    | _ => true)
  | _ => false
def swSel (sn : List (Str × NameKind)) (tg v : Expr) : Bool := match tg, v with
  | .Tuple ts _ _, .Tuple vs _ _ => decide (swapB sn ts vs = some none)
  | .List _ _, _ => false
  | _, _ => true
theorem swSel_ok {env : PySem.Env} {tg v : Expr} (hk : env.scope.kind = .function) (h : swSel env.scope.names tg v = true) : swappedStores [tg] v env = pure none := by
  unfold swSel at h
  split at h
  · exact swap_of hk (of_decide_eq_true h)
  · cases h
  · rename_i h1 h2
    cases tg <;> first | rfl | (exact (h1 _ _ rfl).elim) | skip
    cases v <;> first | rfl | exact (h2 _ _ _ _ _ _ rfl rfl).elim

def lc3 (C : Ck) (t : Tg) (tg : Expr) (e : Xp) (v : Expr) : Bool := match t, tg, e with
  | .nm _, .Name x px, .fr (.comp ..) => lcB C x px v
  | _, _, _ => false
def lc2 (C : Ck) (f : Fx) (x : Str) (px : Pos) (v : Expr) : Bool := match f with
  | .comp .. => lcB C x px v
  | _ => false
def parC (C : Ck) (is : List Nat) (r : Option (Option (List Str))) : Bool := match r with
  | some (some ns) => decide (is.length = ns.length) && decide (ns.length ≤ 1000) && (is.zip ns).all (fun p => decide (C.N[p.1]? = some p.2) && decide (C.sn.lookup p.2 = some .local))
  | _ => false
variable (G : Gam)
mutual
def chS (C : Ck) : Sm → Stmt → Bool
  | .asg t e, st => match st with
    | .Assign [tg] v _ => chG G C t tg && chX G C false e v && !isStar tg && (if isComp v then lc3 C t tg e v || (swF C tg v && swSel C.sn tg v) else swSel C.sn tg v)
    | _ => false
  | .own i f, st => match st with
    | .Assign [.Name x px] v _ => C.tg i x && chF G C f v && (if isComp v then lc2 C f x px v || swF C (.Name x px) v else true)
    | _ => false
  | .par is es, st => match st with
    | .Assign [.Tuple ts _ _] (.Tuple vs _ _) _ => chXs G C es vs && parC C is (swapB C.sn ts vs)
    | _ => false
  | .aug i o e, st => match st with
    | .AugAssign (.Name x _) op v _ => decide (op = o.op) && C.tg i x && chX G C false e v
    | _ => false
  | .app i e, st => match st with
    | .Expr (.Call (.Attribute (.Name x _) m ap) [v] [] p) _ => decide (m = ("append" : Str)) && C.nm i x && !isStar v && (ap.endLine == p.line) && chX G C false e v
    | _ => false
  | .pop i, st => match st with
    | .Expr (.Call (.Attribute (.Name x _) m ap) [] [] p) _ => decide (m = ("pop" : Str)) && C.nm i x && (ap.endLine == p.line)
    | _ => false
  | .fz _, _ => false
  | .newc i es, st => match st with
    | .Assign [.Name x _] (.List vs _) _ => C.tg i x && chXs G C es vs && decide (es.len ≤ 1000)
    | _ => false
  | .retc es, st => match st with
    | .Return (some (.List vs _)) _ => chXs G C es vs && decide (es.len ≤ 1000)
    | _ => false
  | .ex e, st => match st with
    | .Expr v _ => !isComp v && chX G C false e v
    | _ => false
  | .ret e, st => match st with
    | .Return (some v) _ => chX G C false e v
    | _ => false
  | .ret0, st => match st with
    | .Return none _ => true
    | _ => false
  | .ife c a b, st => match st with
    | .If t x y _ => chX G C true c t && chSs C a x && chSs C b y
    | _ => false
  | .for_ t w b, st => match st with
    | .For tg it body [] _ => !w.isB && !isSetE it && chG G C t tg && (chW G C w it && (!w.pair || isTupE tg)) && chSs C b body
    | _ => false
  | .forc t e b, st => match st with
    | .For tg it body [] _ => !isSetE it && chG G C t tg && chX G C false e it && chSs C b body
    | _ => false
  | .wh c b, st => match st with
    | .While t body [] _ => chX G C true c t && chSs C b body
    | _ => false
  | .brk, st => match st with | .Break _ => true | _ => false
  | .cnt, st => match st with | .Continue _ => true | _ => false
  | .pass, st => match st with | .Pass _ => true | _ => false
  | .never, _ => true
def chSs (C : Ck) : Sms → List Stmt → Bool
  | .nil, l => match l with | [] => true | _ => false
  | .cons s ss, l => match s with
    | .fz _ => chSs C ss l
    | s => match l with
      | x :: l => chS C s x && chSs C ss l
      | [] => false
end
end PD

namespace PD
open PySem PySem.Spec PyProof.Rows L2
variable {G : Gam}
theorem lcB_ok {X : Cx} {C : Ck} {k : Nat} {x : Str} {px pos : Pos} {l : Nat} {elt : Expr} {gs : List Comprehension} {scope : Scope} (o : Xok G X C k) (h : lcB C x px (.ListComp elt gs scope pos) = true) :
    X.env.scope.names.lookup x = some .local ∧ swapsWith (.ListComp elt gs scope pos) (some (.Name x px)) l X.env = pure true := by
  unfold lcB at h
  simp only [Bool.and_eq_true, decide_eq_true_eq, Bool.not_eq_true'] at h
  have hl : X.env.scope.names.lookup x = some .local := by rw [o.sn]; exact h.1.1
  exact ⟨hl, sw_true o.kind hl h.1.2 h.2⟩
theorem swF_ok {X : Cx} {C : Ck} {k : Nat} {tg v : Expr} {l : Nat} (o : Xok G X C k) (h : swF C tg v = true) : swapsWith v (some tg) l X.env = pure false := by
  have hb : X.env.blockKind = .function := by unfold PySem.Env.blockKind; rw [o.kind]; rfl
  unfold swF at h
  split at h
  · rename_i sc p
    unfold swapsWith
    split at h
    · rename_i x px
      rw [← o.sn] at h
      have e : ((X.env.blockKind == .function && X.env.kindOf x == some .local && px.line == p.line && !(sc.names.any fun (n, k) => n == x && (k == .local || k == .cell)))) = false := by
        rw [hb]
        show ((true && (X.env.scope.names.lookup x == some .local)) && px.line == p.line && !(sc.names.any fun (n, k) => n == x && (k == .local || k == .cell))) = false
        rw [Bool.true_and]
        rw [Bool.not_eq_true'] at h
        rw [← h]
        congr 2
        by_cases q : X.env.scope.names.lookup x = some .local
        · rw [q]; rfl
        · rw [decide_eq_false q]
          exact beq_eq_false_iff_ne.mpr q
      show (pure _ : Sem Bool) = pure false
      exact congrArg pure e
    · rename_i hn
      cases tg <;> first | exact (hn _ _ rfl).elim | rfl
  · cases h
/-- what the look at a comprehension tells -/
structure CmpP (G : Gam) (C : Ck) (elt : Xp) (t : Tg) (w : Wk) (c : Xo) (own : List Nat) (x tg it : Expr) (ifs : List Expr) (scope : Scope) : Prop where
  g2 : isSetE it = false
  g3 : chW G C w it = true
  gp : w.pair = true → isTupE tg = true
  g4 : blkC C.N (scOf C.sn) scope (ownP C.N own) = true
  g5 : t.pu = true
  g6 : ∀ j ∈ t.slots, j ∈ own
  g7 : chG G (C.blk scope) t tg = true
  g8 : chC G (C.blk scope) c ifs = true
  g9 : chX G (C.blk scope) false elt x = true
theorem cmp_parts {C : Ck} {elt : Xp} {t : Tg} {w : Wk} {c : Xo} {own : List Nat} {v : Expr} (h : chF G C (.comp elt t w c own) v = true) : ∃ x tg it ifs scope lp, v = .ListComp x [⟨tg, it, ifs, 0⟩] scope lp ∧ CmpP G C elt t w c own x tg it ifs scope := by
  have h : (match (generalizing := false) v with
      | .ListComp x [⟨tg, it, ifs, as⟩] scope _ => decide (as = 0) && !isSetE it && (chW G C w it && (!w.pair || isTupE tg)) && blkC C.N (scOf C.sn) scope (ownP C.N own) && t.pu && decide (∀ j ∈ t.slots, j ∈ own) &&
          chG G (C.blk scope) t tg && chC G (C.blk scope) c ifs && chX G (C.blk scope) false elt x
      | _ => false) = true := h
  split at h
  · rw [Bool.and_eq_true, Bool.and_eq_true, Bool.and_eq_true, Bool.and_eq_true, Bool.and_eq_true, Bool.and_eq_true, Bool.and_eq_true, Bool.and_eq_true] at h
    obtain ⟨⟨⟨⟨⟨⟨⟨⟨h1, h2⟩, h3⟩, h4⟩, h5⟩, h6⟩, h7⟩, h8⟩, h9⟩ := h
    obtain rfl := of_decide_eq_true h1
    simp only [Bool.not_eq_true', decide_eq_true_eq] at h2 h6
    rw [Bool.and_eq_true] at h3
    exact ⟨_, _, _, _, _, _, rfl, h2, h3.1, pair_of h3.2, h4, h5, h6, h7, h8, h9⟩
  · cases h
theorem lc3_ok {C : Ck} {t : Tg} {tg : Expr} {e : Xp} {v : Expr} (h : lc3 C t tg e v = true) : ∃ i x px elt t' w c own, t = .nm i ∧ tg = .Name x px ∧ e = .fr (.comp elt t' w c own) ∧ lcB C x px v = true := by
  unfold lc3 at h
  split at h
  · exact ⟨_, _, _, _, _, _, _, _, rfl, rfl, rfl, h⟩
  · cases h
theorem lc2_ok {C : Ck} {f : Fx} {x : Str} {px : Pos} {v : Expr} (h : lc2 C f x px v = true) : ∃ elt t' w c own, f = .comp elt t' w c own ∧ lcB C x px v = true := by
  unfold lc2 at h
  split at h
  · exact ⟨_, _, _, _, _, rfl, h⟩
  · cases h
theorem few_ok {e : Expr} {p : Pos} {env : PySem.Env} (hs : starEach (e :: []) env = (false, eval e env) :: starEach [] env) : ((backTo p (starEach (e :: []) env)).all (fun x => !x.1) && (backToKw p (keywordEach [] env)).all (fun x => x.1.isSome)
      && decide ((e :: ([] : List Expr)).length + ([] : List Keyword).length + (if ([] : List Keyword).isEmpty then 0 else 1) < 30)) = true := by
  rw [hs]; rfl
/-- what a context of a def's body is -/
structure Xos (G : Gam) (X : Cx) (C : Ck) (k : Nat) : Prop where
  x : Xok G X C k
  nx : X.xe = fun _ _ => False
theorem Xos.own {X : Cx} {C : Ck} {k : Nat} (o : Xos G X C k) : PassesOwn (model X.prog X.w) X.A X.env X.xe := by
  rw [o.nx]; exact PassesOwn.never

theorem chSs_cons {C : Ck} {s : Sm} {ss : Sms} {x : Stmt} {l : List Stmt} (hf : ¬ ∃ i, s = .fz i) : chSs G C (.cons s ss) (x :: l) = (chS G C s x && chSs G C ss l) := by
  cases s <;> first | rfl | exact (hf ⟨_, rfl⟩).elim
mutual
theorem sS (k : Nat) : ∀ (s : Sm) (C : Ck) (X : Cx) (st : Stmt), Xos G X C k → chS G C s st = true → PS X st (tDS X.K (evS G s))
  | .asg t e, C, X, st, o, h => by
    have h : (match (generalizing := false) st with
      | .Assign [tg] v _ => chG G C t tg && chX G C false e v && !isStar tg && (if isComp v then lc3 C t tg e v || (swF C tg v && swSel C.sn tg v) else swSel C.sn tg v)
      | _ => false) = true := h
    split at h
    · rename_i _ tg v pos _
      rw [Bool.and_eq_true, Bool.and_eq_true, Bool.and_eq_true, Bool.not_eq_true'] at h
      obtain ⟨⟨⟨h1, h2⟩, h3⟩, h4⟩ := h
      cases hv : isComp v with
      | false =>
        rw [hv] at h4
        have h4 : swSel C.sn tg v = true := h4
        refine ps_asgD (sX k e false C X v o.x h2).e (sG k t C X tg o.x h1) (swaps_of hv) (swSel_ok o.x.kind (by rw [o.x.sn]; exact h4)) ?_
        rw [asgn_of (r := []) h3]; rfl
      | true =>
        rw [hv, if_pos rfl, Bool.or_eq_true] at h4
        rcases h4 with h4 | h4
        rotate_left
        · obtain ⟨h5, h6⟩ := Bool.and_eq_true_iff.mp h4
          refine ps_asgD (sX k e false C X v o.x h2).e (sG k t C X tg o.x h1) (swF_ok o.x h5) (swSel_ok o.x.kind (by rw [o.x.sn]; exact h6)) ?_
          rw [asgn_of (r := []) h3]; rfl
        obtain ⟨i, x, px, elt, t', w, c, own, rfl, rfl, rfl, h4⟩ := lc3_ok h4
        have hF : chF G C (.comp elt t' w c own) v = true := by
          have q : (!false && chF G C (.comp elt t' w c own) v) = true := h2
          simpa using q
        obtain ⟨n1, _, _⟩ := o.x.tg (show C.tg i x = true from h1)
        obtain ⟨ex, tgc, it, ifs, scope, lp, rfl, q⟩ := cmp_parts hF
        have bk := blk_ok o.x q.g4
        have hw : PI X tgc it (tDI X.K true (evW G w)) := by
          have z := sW k w C X tgc it o.x q.g3 q.gp
          cases e : w.isB with
          | true => exact z.2 e
          | false => exact PI.wk (z.1 e) tDI_weak
        have hg := fun s H A cl fp => sG k t' (C.blk _) (X.blk s H _ (compEnvC _ cl A X.env) fp) _ (o.x.blk bk.kind s H A cl fp) q.g7
        rw [q.g5] at hg
        obtain ⟨l1, l2⟩ := lcB_ok (l := pos.line) o.x h4
        have r := ps_asgLc (pos := pos) (X := X) (own := ownP C.N own) o.x.calm o.x.nd n1 l1 l2 hw bk (by rw [ownP_snd]; exact q.g6) hg (fun s H A cl fp => sC k c (C.blk _) (X.blk s H _ (compEnvC _ cl A X.env) fp) _ (o.x.blk bk.kind s H A cl fp) q.g8)
          (fun s H A cl fp => (sX k elt false (C.blk _) (X.blk s H _ (compEnvC _ cl A X.env) fp) _ (o.x.blk bk.kind s H A cl fp) q.g9).e) (fun x => fold_of q.g2 x)
        rw [ownP_snd] at r
        exact r
    · cases h
  | .own i f, C, X, st, o, h => by
    have h : (match (generalizing := false) st with
      | .Assign [.Name x px] v _ => C.tg i x && chF G C f v && (if isComp v then lc2 C f x px v || swF C (.Name x px) v else true)
      | _ => false) = true := h
    split at h
    · rename_i _ x px v pos _
      rw [Bool.and_eq_true, Bool.and_eq_true] at h
      obtain ⟨⟨h1, h2⟩, h4⟩ := h
      obtain ⟨n1, n2, n3⟩ := o.x.tg h1
      cases hv : isComp v with
      | false => exact ps_ownD o.x.nd n1 n2 (sF k f C X v o.x h2) (swaps_of hv) n3
      | true =>
        rw [hv, if_pos rfl, Bool.or_eq_true] at h4
        rcases h4 with h4 | h4
        rotate_left
        · exact ps_ownD o.x.nd n1 n2 (sF k f C X v o.x h2) (swF_ok o.x h4) n3
        obtain ⟨elt, t', w, c, own, rfl, h4⟩ := lc2_ok h4
        have hF := h2
        obtain ⟨ex, tgc, it, ifs, scope, lp, rfl, q⟩ := cmp_parts hF
        have bk := blk_ok o.x q.g4
        have hw : PI X tgc it (tDI X.K true (evW G w)) := by
          have z := sW k w C X tgc it o.x q.g3 q.gp
          cases e : w.isB with
          | true => exact z.2 e
          | false => exact PI.wk (z.1 e) tDI_weak
        have hg := fun s H A cl fp => sG k t' (C.blk _) (X.blk s H _ (compEnvC _ cl A X.env) fp) _ (o.x.blk bk.kind s H A cl fp) q.g7
        rw [q.g5] at hg
        obtain ⟨l1, l2⟩ := lcB_ok (l := pos.line) o.x h4
        have r := ps_ownLc (pos := pos) (X := X) (own := ownP C.N own) o.x.calm o.x.nd n1 l1 l2 hw bk (by rw [ownP_snd]; exact q.g6) hg (fun s H A cl fp => sC k c (C.blk _) (X.blk s H _ (compEnvC _ cl A X.env) fp) _ (o.x.blk bk.kind s H A cl fp) q.g8)
          (fun s H A cl fp => (sX k elt false (C.blk _) (X.blk s H _ (compEnvC _ cl A X.env) fp) _ (o.x.blk bk.kind s H A cl fp) q.g9).e) (fun x => fold_of q.g2 x)
        rw [ownP_snd] at r
        exact r
    · cases h
  | .par is es, C, X, st, o, h => by
    have h : (match (generalizing := false) st with
      | .Assign [.Tuple ts _ _] (.Tuple vs _ _) _ => chXs G C es vs && parC C is (swapB C.sn ts vs)
      | _ => false) = true := h
    split at h
    · simp only [Bool.and_eq_true] at h
      obtain ⟨h1, h2⟩ := h
      unfold parC at h2
      split at h2
      · rename_i ns hs
        simp only [Bool.and_eq_true, decide_eq_true_eq, List.all_eq_true] at h2
        obtain ⟨⟨h3, h4⟩, h5⟩ := h2
        refine ps_parD o.x.calm o.x.nd (fun i j n k1 k2 => ?_) h3 h4 (sXs k es C X _ o.x h1) (swap_of o.x.kind (by rw [o.x.sn]; exact hs))
        have m : (j, n) ∈ is.zip ns := List.mem_of_getElem? (i := i) (by rw [List.getElem?_zip_eq_some]; exact ⟨k1, k2⟩)
        have q := h5 _ m
        rw [o.x.N, o.x.sn]
        exact q
      · cases h2
    · cases h
  | .aug i op e, C, X, st, o, h => by
    have h : (match (generalizing := false) st with
      | .AugAssign (.Name x _) op' v _ => decide (op' = op.op) && C.tg i x && chX G C false e v
      | _ => false) = true := h
    split at h
    · simp only [Bool.and_eq_true, decide_eq_true_eq] at h
      obtain ⟨⟨rfl, h1⟩, h2⟩ := h
      obtain ⟨n1, n2, n3⟩ := o.x.tg h1
      exact ps_augD op o.x.nd n1 n2 (sX k e false C X _ o.x h2).e n3
    · cases h
  | .app i e, C, X, st, o, h => by
    have h : (match (generalizing := false) st with
      | .Expr (.Call (.Attribute (.Name x _) m ap) [v] [] p) _ => decide (m = ("append" : Str)) && C.nm i x && !isStar v && (ap.endLine == p.line) && chX G C false e v
      | _ => false) = true := h
    split at h
    · simp only [Bool.and_eq_true, decide_eq_true_eq, Bool.not_eq_true'] at h
      obtain ⟨⟨⟨⟨rfl, h1⟩, h2⟩, h3⟩, h4⟩ := h
      obtain ⟨n1, n2, n3, n4⟩ := o.x.nm h1
      have st := star_of (env := X.env) (r := []) h2
      exact ps_appD n1 n2 n3 n4 (sX k e false C X _ o.x h4).e st h3 (few_ok st)
    · cases h
  | .pop i, C, X, st, o, h => by
    have h : (match (generalizing := false) st with
      | .Expr (.Call (.Attribute (.Name x _) m ap) [] [] p) _ => decide (m = ("pop" : Str)) && C.nm i x && (ap.endLine == p.line)
      | _ => false) = true := h
    split at h
    · simp only [Bool.and_eq_true, decide_eq_true_eq] at h
      obtain ⟨⟨rfl, h1⟩, h3⟩ := h
      obtain ⟨n1, n2, n3, n4⟩ := o.x.nm h1
      exact ps_popD n1 n2 n3 n4 h3
    · cases h
  | .fz i, C, X, st, o, h => by cases h
  | .newc i es, C, X, st, o, h => by
    have h : (match (generalizing := false) st with
      | .Assign [.Name x _] (.List vs _) _ => C.tg i x && chXs G C es vs && decide (es.len ≤ 1000)
      | _ => false) = true := h
    split at h
    · simp only [Bool.and_eq_true, decide_eq_true_eq] at h
      obtain ⟨⟨h1, h2⟩, h3⟩ := h
      obtain ⟨n1, n2, n3⟩ := o.x.tg h1
      refine ps_newcD o.x.nd n1 n2 (fun L S xs S' e => ?_) (sXs k es C X _ o.x h2) n3
      exact Nat.le_trans (evXs_len es L S xs S' e) (Nat.le_trans h3 (by decide))
    · cases h
  | .retc es, C, X, st, o, h => by
    have h : (match (generalizing := false) st with
      | .Return (some (.List vs _)) _ => chXs G C es vs && decide (es.len ≤ 1000)
      | _ => false) = true := h
    split at h
    · simp only [Bool.and_eq_true, decide_eq_true_eq] at h
      refine ps_retcD (fun L S xs S' e => ?_) (sXs k es C X _ o.x h.1)
      exact Nat.le_trans (evXs_len es L S xs S' e) (Nat.le_trans h.2 (by decide))
    · cases h
  | .ex e, C, X, st, o, h => by
    have h : (match (generalizing := false) st with
      | .Expr v _ => !isComp v && chX G C false e v
      | _ => false) = true := h
    split at h
    · simp only [Bool.and_eq_true, Bool.not_eq_true'] at h
      exact ps_exD (sX k e false C X _ o.x h.2).e (swaps_of h.1)
    · cases h
  | .ret e, C, X, st, o, h => by
    have h : (match (generalizing := false) st with
      | .Return (some v) _ => chX G C false e v
      | _ => false) = true := h
    split at h
    · exact ps_retD (sX k e false C X _ o.x h).e
    · cases h
  | .ret0, C, X, st, o, h => by
    have h : (match (generalizing := false) st with
      | .Return none _ => true
      | _ => false) = true := h
    split at h
    · exact ps_ret0D
    · cases h
  | .ife c a b, C, X, st, o, h => by
    have h : (match (generalizing := false) st with
      | .If t x y _ => chX G C true c t && chSs G C a x && chSs G C b y
      | _ => false) = true := h
    split at h
    · simp only [Bool.and_eq_true] at h
      exact ps_ifD (sX k c true C X _ o.x h.1.1).t (sSs k a C X _ o h.1.2) (sSs k b C X _ o h.2)
    · cases h
  | .for_ t w b, C, X, st, o, h => by
    have h : (match (generalizing := false) st with
      | .For tg it body [] _ => !w.isB && !isSetE it && chG G C t tg && (chW G C w it && (!w.pair || isTupE tg)) && chSs G C b body
      | _ => false) = true := h
    split at h
    · rename_i _ tg it body pos _
      rw [Bool.and_eq_true, Bool.and_eq_true, Bool.and_eq_true, Bool.and_eq_true, Bool.and_eq_true] at h
      obtain ⟨⟨⟨⟨h1, h2⟩, h3⟩, h4, hp⟩, h5⟩ := h
      rw [Bool.not_eq_true'] at h1 h2
      have e : evS G (.for_ t w b) = fun L S => bnd (evW G w L S) fun ds S1 => forL (fun d L S => bnd (evG G t d L S) fun L2 S2 => evSs G b L2 S2) ds L S1 := by
        funext L S
        show (if w.isB = true then none else _) = _
        rw [h1]; rfl
      rw [e]
      exact ps_forD o.own o.x.calm ((sW k w C X tg it o.x h4 (pair_of hp)).1 h1) (sG k t C X tg o.x h3) (sSs k b C X body o h5) (fun x => fold_of h2 x)
    · cases h
  | .forc t e b, C, X, st, o, h => by
    have h : (match (generalizing := false) st with
      | .For tg it body [] _ => !isSetE it && chG G C t tg && chX G C false e it && chSs G C b body
      | _ => false) = true := h
    split at h
    · rename_i _ tg it body pos _
      rw [Bool.and_eq_true, Bool.and_eq_true, Bool.and_eq_true] at h
      obtain ⟨⟨⟨h2, h3⟩, h4⟩, h5⟩ := h
      rw [Bool.not_eq_true'] at h2
      exact ps_forCD o.own o.x.calm (sX k e false C X it o.x h4).e (sG k t C X tg o.x h3) (sSs k b C X body o h5) (fun x => fold_of h2 x)
    · cases h
  | .wh c b, C, X, st, o, h => by
    have h : (match (generalizing := false) st with
      | .While t body [] _ => chX G C true c t && chSs G C b body
      | _ => false) = true := h
    split at h
    · simp only [Bool.and_eq_true] at h
      exact ps_whD o.own (sX k c true C X _ o.x h.1).t (sSs k b C X _ o h.2)
    · cases h
  | .brk, C, X, st, o, h => by
    have h : (match (generalizing := false) st with | .Break _ => true | _ => false) = true := h
    split at h
    · exact ps_brkD
    · cases h
  | .cnt, C, X, st, o, h => by
    have h : (match (generalizing := false) st with | .Continue _ => true | _ => false) = true := h
    split at h
    · exact ps_cntD
    · cases h
  | .pass, C, X, st, o, h => by
    have h : (match (generalizing := false) st with | .Pass _ => true | _ => false) = true := h
    split at h
    · exact ps_passD
    · cases h
  | .never, C, X, st, o, h => ps_neverD
theorem sSs (k : Nat) : ∀ (ss : Sms) (C : Ck) (X : Cx) (l : List Stmt), Xos G X C k → chSs G C ss l = true → PSs X l (tDS X.K (evSs G ss))
  | .nil, C, X, l, o, h => by
    have h : (match (generalizing := false) l with | [] => true | _ => false) = true := h
    split at h
    · exact pss_nilD
    · cases h
  | .cons s ss, C, X, l, o, h => by
    by_cases hf : ∃ i, s = .fz i
    · obtain ⟨i, rfl⟩ := hf
      exact pss_fzD (sSs k ss C X l o h)
    · cases l with
      | nil => cases s <;> first | (cases h; done) | exact (hf ⟨_, rfl⟩).elim
      | cons x l =>
        rw [chSs_cons hf, Bool.and_eq_true] at h
        exact pss_consD (sS k s C X x o h.1) (sSs k ss C X l o h.2)
end
end PD

set_option Elab.async false
set_option linter.all false
set_option maxRecDepth 100000
set_option maxHeartbeats 8000000
/-! PD, part o: defs, calls, the law's end. -/
namespace PD
open PySem PySem.Spec PyProof.Rows L2

/-- what a def promises: its run -/
def spD (K : PySem.W.Frag) (G : Gam) (n : Nat) (b : Sms) (ps : List Str) : Sp := fun vs H Q _ => vs.length = ps.length ∧
  ∃ g S ds d S', Gs K g H S ∧ Rps K g H vs ds ∧ runF G n b ds S = some (d, S') ∧ ∀ v g' H', Ext g H g' H' → Gs K g' H' S' → Rp K g' H' v d → Q v H'

section
variable {P : Program} {w : World} {K : PySem.W.Frag} {mg : Str → Option Value} {base : Heap} {G : Gam}
/-- what is known of the module, for a def -/
structure Mok (K : PySem.W.Frag) (mg : Str → Option Value) (G : Gam) : Prop where
  fre : ∀ x ∈ G.fre, mg x = none
  con : ∀ p ∈ G.cons, ∃ v u, mg p.1 = some u ∧ RelV v u ∧ ∀ g H, Rp K g H v p.2
  bfs : ∀ p ∈ G.bfs, mg p.1 = some (.builtin p.2)
theorem cr_start {N : List Str} {vs : List V} {ds : List D} {g : Gh} {H : Hp} {S : Store} (s : Gs K g H S) (r : Rps K g H vs ds) (hl : vs.length ≤ N.length) :
    Cr K g H (L2.start N vs) H (ds.map Lv.dat ++ List.replicate (N.length - ds.length) .un) S := by
  have hn : ∀ (i : Nat) (xs : List D), (ds.map Lv.dat ++ List.replicate (N.length - ds.length) Lv.un)[i]? = some (.own xs) → False := fun i xs h => by
    by_cases hi : i < ds.length
    · rw [List.getElem?_append_left (by simpa using hi), List.getElem?_map] at h
      cases e : ds[i]? with
      | none => rw [e] at h; cases h
      | some d => rw [e] at h; cases h
    · rw [List.getElem?_append_right (by simpa using hi), List.getElem?_replicate] at h
      split at h <;> cases h
  refine ⟨s, ⟨?_, fun b o h => ⟨o, h⟩, fun i d h => ?_, fun i xs h => (hn i xs h).elim, fun i j xs ys a h => (hn i xs h).elim⟩⟩
  · unfold L2.start
    simp only [List.length_append, List.length_map, List.length_replicate]
    have := r.length
    omega
  · by_cases hi : i < ds.length
    · rw [List.getElem?_append_left (by simpa using hi), List.getElem?_map] at h
      cases e : ds[i]? with
      | none => rw [e] at h; cases h
      | some d' =>
        rw [e] at h
        cases h
        obtain ⟨v, h1, h2⟩ := r.get e
        refine ⟨v, ?_, h2⟩
        unfold L2.start
        have hv : i < vs.length := by rw [r.length]; exact hi
        rw [List.getElem?_append_left (by simpa using hv), List.getElem?_map, h1]
        rfl
    · rw [List.getElem?_append_right (by simpa using hi), List.getElem?_replicate] at h
      split at h <;> cases h
theorem fnG_of {x qual : Str} {params : Arguments} {body : List Stmt} {scope : Scope} {dvs : List V} {kws : List (Str × V)} {f : Addr} {fd : FuncData} {N ps : List Str} {k : Nat} {b : Sms}
    (F : FunD K x qual params body scope dvs kws f fd) (S : FnScope N ps scope) (hc : chSs G ⟨N, scope.names, fun _ => true⟩ b body = true) (M : Mok K mg G) (he : ∀ e ∈ G.ents, EntOk P w K mg base k e) :
    FnG P w K mg base (k + 1) f fd ps (spD K G N.length b ps) := by
  obtain ⟨oc, od, dV, kV, doc, pm, an, cdv, ct, osl, rfl, lk, hcd, _, _⟩ := F.ex
  refine ⟨fun vs H Q E h => h.1, fun A outer s H args us vs Q E hr hg e0 hb r hsp => ?_⟩
  have hl := hsp.1
  have K0 : K.In s.heap := e0.mod.kin.keeps fun c o e => (e0.bs c o e).1
  have nolim : s.heap.NoLimit := e0.mod.nolimit.keeps fun c o e => (e0.bs c o e).1
  refine codeAny_call_function hr.depth (K0 _ _ lk) rfl S.co S.gen rfl (PySem.W.codeRec_of K0 hcd) (hb _ _ _ _ ?_)
  refine wpAny_newFunctionEnv_cells S.kind (fun ⟨n, v⟩ hy => ?_) fun env hen s1 x => ?_
  · rcases S.par n (List.of_mem_zip hy).1 with q | q
    · exact .inl q
    · exact .inr ⟨q, PySem.W.cellsFrom_some _ _ _ (.inl q)⟩
  subst hen
  refine ⟨nolim.keeps x.toInCall.keep, codeAny_func ?_⟩
  have ok : Xos G (cxOf CX0 P w K mg base N qual scope f cdv A outer s H E).nox ⟨N, scope.names, fun _ => true⟩ k :=
    ⟨⟨rfl, hr.deeper _, hg, rfl, S.nd, rfl, S.kind, fun _ _ => rfl, M.fre, M.con, M.bfs, he⟩, rfl⟩
  have ht := (sSs k b _ _ body ok hc).nox
  have I : Inv (cxOf CX0 P w K mg base N qual scope f cdv A outer s H E) [] (L2.start N vs) H s1 := inv_start S hr.hd e0 hl r x
  obtain ⟨_, g, S0, ds, d, S', s0, rp, run, fin⟩ := hsp
  obtain ⟨⟨fl, La⟩, S1, e1, e2⟩ := of_bnd run
  have hNl : vs.length ≤ N.length := by
    have := congrArg List.length S.pre
    rw [List.length_take] at this
    omega
  have hq : tDS K (evSs G b) { nx := fun _ H' => Q .non H', rt := Q } (L2.start N vs) H := by
    refine ⟨g, H, _, S0, fl, La, S1, cr_start s0 rp hNl, e1, ?_⟩
    cases fl with
    | nx =>
      cases e2
      exact fun σ g' H' x' w' c => fin .non g' H' (x' g Ext.refl) c.s .non
    | brk => cases e2
    | cnt => cases e2
    | ret d' =>
      cases e2
      exact fun v g' H' x' s' r' => fin v g' H' (x' g Ext.refl) s' r'
  refine wpAny_mono (ht.run [] s1 (L2.start N vs) H _ I hq) (fun fl2 s' hs => ?_) fun e s' hs => hs
  cases fl2 with
  | ret u =>
    obtain ⟨v, σ', H', J, rv, q⟩ := hs
    exact ⟨v, H', J.os, J.bare, J.base, J.hok, rv, q⟩
  | next =>
    obtain ⟨σ', H', J, q⟩ := hs
    exact ⟨V.non, H', J.os, J.bare, J.base, J.hok, rfl, q⟩
  | brk =>
    obtain ⟨_, _, _, q⟩ := hs
    exact q.elim
  | cont =>
    obtain ⟨_, _, _, q⟩ := hs
    exact q.elim

/-! ### ways of calling -/
/-- the values at these places -/
def pick {α : Type} (ix : List Nat) (l : List α) : List α := ix.filterMap fun i => l[i]?
theorem pick_vals {us : List Value} {vs : List V} (h : Vals vs us) : ∀ ix : List Nat, Vals (pick ix vs) (pick ix us)
  | [] => .nil
  | i :: ix => by
    unfold pick
    have t := pick_vals h ix
    unfold pick at t
    cases e : vs[i]? with
    | none =>
      have e2 : us[i]? = none := by
        rw [List.getElem?_eq_none_iff] at e ⊢
        rw [← h.length]; exact e
      rw [List.filterMap_cons, List.filterMap_cons, e, e2]
      exact t
    | some v =>
      obtain ⟨u, e2, r⟩ := h.get e
      rw [List.filterMap_cons, List.filterMap_cons, e, e2]
      exact .cons r t
theorem pick_rps {g : Gh} {H : Hp} {vs : List V} {ds : List D} (h : Rps K g H vs ds) : ∀ ix : List Nat, Rps K g H (pick ix vs) (pick ix ds)
  | [] => .nil
  | i :: ix => by
    unfold pick
    have t := pick_rps h ix
    unfold pick at t
    cases e : ds[i]? with
    | none =>
      have e2 : vs[i]? = none := by
        rw [List.getElem?_eq_none_iff] at e ⊢
        rw [h.length]; exact e
      rw [List.filterMap_cons, List.filterMap_cons, e, e2]
      exact t
    | some v =>
      obtain ⟨u, e2, r⟩ := h.get e
      rw [List.filterMap_cons, List.filterMap_cons, e, e2]
      exact .cons r t
/-- the entry of one way of calling: n positional values, keywords ks, defaults dd; ix: each parameter's place among positional values, defaults, keywords' values -/
noncomputable def mkEnt (name : Str) (n : Nat) (ks : List Str) (dd : List D) (ix : List Nat) (G : Gam) (m : Nat) (b : Sms) : Ent :=
  ⟨name, n, ks, fun ds S => runF G m b (pick ix (ds.take n ++ dd ++ ds.drop n)) S⟩
theorem kbn0 {x qual : Str} {params : Arguments} {body : List Stmt} {scope : Scope} {f : Addr} {fd : FuncData} {ps : List Str} (F : FunD K x qual params body scope [] [] f fd) (n : Nat) (ks : List Str) (ix : List Nat)
    (h : ∀ (kV doc pm : Value) (an : Option Addr) (cdv ct : Value) (us ws : List Value), us.length = n → ws.length = ks.length → bindArgs (PySem.W.fnOf x qual params body scope .none kV doc pm an cdv ct) ⟨us, ks.zip ws⟩ = pure (ps.zip (pick ix (us ++ [] ++ ws)))) :
    ∃ its : List Value, KBn K fd ps n ks (fun us ws => pick ix (us ++ its ++ ws)) (fun vs zs => pick ix (vs ++ [] ++ zs)) := by
  obtain ⟨oc, od, dV, kV, doc, pm, an, cdv, ct, osl, rfl, lk, hcd, hD, hK⟩ := F.ex
  rcases hD with ⟨_, rfl⟩ | ⟨e, _⟩
  · exact ⟨[], ⟨fun s us ws X l1 l2 => .of_eq (h kV doc pm an cdv ct us ws l1 l2), fun r1 r2 => pick_vals ((r1.append .nil).append r2) ix⟩⟩
  · exact absurd rfl e
theorem kbn1 {x qual : Str} {params : Arguments} {body : List Stmt} {scope : Scope} {dvs : List V} {f : Addr} {fd : FuncData} {ps : List Str} (F : FunD K x qual params body scope dvs [] f fd) (hd : dvs ≠ []) (n : Nat) (ks : List Str) (ix : List Nat)
    (h : ∀ (T : Addr) (kV doc pm : Value) (an : Option Addr) (cdv ct : Value) (us its ws : List Value), us.length = n → its.length = dvs.length → ws.length = ks.length →
      ∃ k, bindArgs (PySem.W.fnOf x qual params body scope (.ref T) kV doc pm an cdv ct) ⟨us, ks.zip ws⟩ = seqItems? (.ref T) >>= k ∧ k (some its.toArray) = pure (ps.zip (pick ix (us ++ its ++ ws)))) :
    ∃ its : List Value, KBn K fd ps n ks (fun us ws => pick ix (us ++ its ++ ws)) (fun vs zs => pick ix (vs ++ dvs ++ zs)) := by
  obtain ⟨oc, od, dV, kV, doc, pm, an, cdv, ct, osl, rfl, lk, hcd, hD, hK⟩ := F.ex
  rcases hD with ⟨e, _⟩ | ⟨_, T, o, its, m, rfl, lT, oT, rT⟩
  · exact absurd e hd
  · refine ⟨its, ⟨fun s us ws X l1 l2 => ?_, fun r1 r2 => pick_vals ((r1.append rT).append r2) ix⟩⟩
    obtain ⟨k, e1, e2⟩ := h T kV doc pm an cdv ct us its ws l1 rT.length.symm l2
    refine BindsTo.of_looks fun M => ?_
    rw [e1]
    exact looks_items X lT oT (.of_pure e2)
theorem rps_split {g : Gh} {H : Hp} {vs zs : List V} {ds : List D} {n : Nat} (r : Rps K g H (vs ++ zs) ds) (h : vs.length = n) : Rps K g H vs (ds.take n) ∧ Rps K g H zs (ds.drop n) := by
  have a := r.take n
  have b := r.drop n
  subst h
  rw [List.take_left'] at a
  · rw [List.drop_left'] at b
    · exact ⟨a, b⟩
    · rfl
  · rfl
theorem ent_of {name : Str} {n m k : Nat} {ks ps : List Str} {dd : List D} {dvs : List V} {ix : List Nat} {b : Sms} {f : Addr} {fd : FuncData} {gs : List Value → List Value → List Value} (hm : mg name = some (.ref f)) (hk : PySem.W.keepIn K (.ref f) = true)
    (F : FnG P w K mg base k f fd ps (spD K G m b ps)) (hb : KBn K fd ps n ks gs (fun vs zs => pick ix (vs ++ dvs ++ zs))) (hd : ∀ g H, Rps K g H dvs dd) (hl : (ix.all fun i => decide (i < n + dvs.length + ks.length)) = true) (hp : ix.length = ps.length) :
    EntOk P w K mg base k (mkEnt name n ks dd ix G m b) := by
  refine ⟨f, fd, ps, _, gs, _, hm, hk, F, hb, fun g H S vs zs ds d S' Q s r l1 l2 e q => ?_⟩
  obtain ⟨r1, r2⟩ := rps_split r l1
  have l2 : zs.length = ks.length := l2
  refine ⟨?_, g, S, _, d, S', s, pick_rps ((r1.append (hd g H)).append r2) ix, e, q⟩
  have : ∀ (ix : List Nat) (l : List V), (ix.all fun i => decide (i < l.length)) = true → (pick ix l).length = ix.length := by
    intro ix l
    induction ix with
    | nil => intro _; rfl
    | cons i ix ih =>
      intro h
      simp only [List.all_cons, Bool.and_eq_true, decide_eq_true_eq] at h
      unfold pick
      rw [List.filterMap_cons, List.getElem?_eq_getElem h.1]
      show (pick ix l).length + 1 = ix.length + 1
      rw [ih h.2]
  rw [this ix _ (by rw [List.length_append, List.length_append, l1, l2]; exact hl), hp]
end
end PD

set_option Elab.async false
set_option linter.all false
set_option maxRecDepth 100000
set_option maxHeartbeats 4000000
/-! PD, part v: cells made within a call become values at its end. -/
namespace PD
open PySem PySem.Spec PyProof.Rows L2

mutual
/-- no cells from n on -/
def D.low (n : Nat) : D → Bool
  | .cell k => decide (k < n)
  | .tup xs => D.lows n xs | .lst xs => D.lows n xs
  | _ => true
def D.lows (n : Nat) : List D → Bool
  | [] => true | x :: xs => x.low n && D.lows n xs
end
mutual
/-- cells from n on read as what they hold (f: what may stand there) -/
def sealD (n : Nat) (S : Store) (f : List D → Option (List D)) : D → Option D
  | .cell k => if k < n then some (.cell k) else match S[k]? with | some xs => (f xs).map .lst | none => none
  | .tup xs => (sealDs n S f xs).map .tup
  | .lst xs => (sealDs n S f xs).map .lst
  | .non => some .non | .bl b => some (.bl b) | .int i => some (.int i) | .str x => some (.str x) | .ty t => some (.ty t)
def sealDs (n : Nat) (S : Store) (f : List D → Option (List D)) : List D → Option (List D)
  | [] => some []
  | x :: xs => match sealD n S f x, sealDs n S f xs with
    | some y, some ys => some (y :: ys)
    | _, _ => none
end
def seal0 (n : Nat) (xs : List D) : Option (List D) := if D.lows n xs then some xs else none
/-- two levels of cells -/
def sealV (n : Nat) (S : Store) (d : D) : Option D := sealD n S (sealDs n S (seal0 n)) d
/-- no cell of before holds a new one -/
def SealOk (S S' : Store) : Prop := ∀ i row, i < S.length → S'[i]? = some row → S[i]? = some row ∨ D.lows S.length row = true
open Classical in
noncomputable def sealR (S : Store) (r : Option (D × Store)) : Option (D × Store) :=
  bnd r fun d S' => if SealOk S S' then match sealV S.length S' d with | some d' => some (d', S'.take S.length) | none => none else none
noncomputable def sealE (e : Ent) : Ent := ⟨e.name, e.n, e.ks, fun ds S => sealR S (e.sem ds S)⟩

section
variable {K : PySem.W.Frag} {g g' : Gh} {H H' : Hp} {m : List Addr}
/-- what is left of the ghost -/
def Gh.seal (g g' : Gh) : Gh := ⟨g.ca, fun b => g'.W b ∧ b ∉ g'.ca.drop g.ca.length⟩
mutual
theorem Rp.seal0 (em : g'.ca = g.ca ++ m) : ∀ {v : V} {d : D}, Rp K g' H' v d → d.low g.ca.length = true → Rp K (g.seal g') H' v d
  | _, _, .non, _ => .non
  | _, _, .bl b, _ => .bl b
  | _, _, .int i, _ => .int i
  | _, _, .str x, _ => .str x
  | _, _, .ty n, _ => .ty n
  | _, _, .tup h r, e => .tup (h.elim (fun z => .inl ⟨z.1, fun w => z.2 w.1⟩) .inr) (Rps.seal0 em r (by simpa [D.low] using e))
  | _, _, .lst h r, e => .lst (h.elim (fun z => .inl ⟨z.1, fun w => z.2 w.1⟩) .inr) (Rps.seal0 em r (by simpa [D.low] using e))
  | _, _, .cell (a := a) (n := n) h, e => by
    simp only [D.low, decide_eq_true_eq] at e
    refine .cell ?_
    rw [em, List.getElem?_append_left e] at h
    exact h
theorem Rps.seal0 (em : g'.ca = g.ca ++ m) : ∀ {vs : List V} {ds : List D}, Rps K g' H' vs ds → D.lows g.ca.length ds = true → Rps K (g.seal g') H' vs ds
  | _, _, .nil, _ => .nil
  | _, _, .cons h r, e => by
    simp only [D.lows, Bool.and_eq_true] at e
    exact .cons (Rp.seal0 em h e.1) (Rps.seal0 em r e.2)
end
mutual
theorem Rp.sealD (em : g'.ca = g.ca ++ m) {S' : Store} (s : Gs K g' H' S') {f : List D → Option (List D)} (hf : ∀ xs ds ds', Rps K g' H' xs ds → f ds = some ds' → Rps K (g.seal g') H' xs ds') :
    ∀ {v : V} {d d' : D}, Rp K g' H' v d → PD.sealD g.ca.length S' f d = some d' → Rp K (g.seal g') H' v d'
  | _, _, _, .non, e => by simp only [PD.sealD, Option.some.injEq] at e; subst e; exact .non
  | _, _, _, .bl b, e => by simp only [PD.sealD, Option.some.injEq] at e; subst e; exact .bl b
  | _, _, _, .int i, e => by simp only [PD.sealD, Option.some.injEq] at e; subst e; exact .int i
  | _, _, _, .str x, e => by simp only [PD.sealD, Option.some.injEq] at e; subst e; exact .str x
  | _, _, _, .ty n, e => by simp only [PD.sealD, Option.some.injEq] at e; subst e; exact .ty n
  | _, _, _, .tup (ds := ds) h r, e => by
    simp only [PD.sealD] at e
    cases k : PD.sealDs g.ca.length S' f ds with
    | none => rw [k] at e; cases e
    | some ys =>
      rw [k] at e
      cases e
      exact .tup (h.elim (fun z => .inl ⟨z.1, fun w => z.2 w.1⟩) .inr) (Rps.sealDs em s hf r k)
  | _, _, _, .lst (ds := ds) h r, e => by
    simp only [PD.sealD] at e
    cases k : PD.sealDs g.ca.length S' f ds with
    | none => rw [k] at e; cases e
    | some ys =>
      rw [k] at e
      cases e
      exact .lst (h.elim (fun z => .inl ⟨z.1, fun w => z.2 w.1⟩) .inr) (Rps.sealDs em s hf r k)
  | _, _, _, .cell (a := a) (n := n) h, e => by
    simp only [PD.sealD] at e
    split at e
    · rename_i hn
      cases e
      refine .cell ?_
      rw [em, List.getElem?_append_left hn] at h
      exact h
    · rename_i hn
      cases k : S'[n]? with
      | none => rw [k] at e; cases e
      | some ds =>
        rw [k] at e
        cases k2 : f ds with
        | none => simp [k2] at e
        | some ds' =>
          simp [k2] at e
          subst e
          obtain ⟨xs, h2, r2⟩ := s.st n a ds h k
          refine .lst (.inl ⟨.inl h2, fun w => w.2 ?_⟩) (hf xs ds ds' r2 k2)
          refine List.mem_of_getElem? (i := n - g.ca.length) ?_
          rw [List.getElem?_drop]
          rw [show g.ca.length + (n - g.ca.length) = n by omega]
          exact h
theorem Rps.sealDs (em : g'.ca = g.ca ++ m) {S' : Store} (s : Gs K g' H' S') {f : List D → Option (List D)} (hf : ∀ xs ds ds', Rps K g' H' xs ds → f ds = some ds' → Rps K (g.seal g') H' xs ds') :
    ∀ {vs : List V} {ds ds' : List D}, Rps K g' H' vs ds → PD.sealDs g.ca.length S' f ds = some ds' → Rps K (g.seal g') H' vs ds'
  | _, _, _, .nil, e => by simp only [PD.sealDs, Option.some.injEq] at e; subst e; exact .nil
  | _, _, _, .cons (d := d) (ds := ds) h r, e => by
    simp only [PD.sealDs] at e
    split at e
    · rename_i y ys h1 h2
      cases e
      exact .cons (Rp.sealD em s hf h h1) (Rps.sealDs em s hf r h2)
    · cases e
end
theorem ext_seal {S S' : Store} (x : Ext g H g' H') (s : Gs K g H S) (s' : Gs K g' H' S') : Ext g H (g.seal g') H' := by
  obtain ⟨m, em⟩ := x.ca
  have nd := s'.nd
  rw [em] at nd
  refine ⟨x.keep, x.there, fun b o h => ⟨fun w => (x.wk b o h).mp w.1, fun w => ⟨(x.wk b o h).mpr w, fun z => ?_⟩⟩, ⟨[], by simp [Gh.seal]⟩, fun c hc => .inl hc⟩
  rw [em, List.drop_left'] at z
  · rcases x.new b (by rw [em]; exact List.mem_append.mpr (.inr z)) with q | q
    · exact (List.nodup_append.mp nd).2.2 b q b z rfl
    · rw [h] at q; cases q
  · rfl
mutual
theorem Rp.lowS : ∀ {v : V} {d : D}, Rp K g H v d → d.low g.ca.length = true
  | _, _, .non => rfl
  | _, _, .bl b => rfl
  | _, _, .int i => rfl
  | _, _, .str x => rfl
  | _, _, .ty n => rfl
  | _, _, .tup h r => by simp only [D.low]; exact Rps.lowS r
  | _, _, .lst h r => by simp only [D.low]; exact Rps.lowS r
  | _, _, .cell h => by simp only [D.low, decide_eq_true_eq]; exact (List.getElem?_eq_some_iff.mp h).1
theorem Rps.lowS : ∀ {vs : List V} {ds : List D}, Rps K g H vs ds → D.lows g.ca.length ds = true
  | _, _, .nil => rfl
  | _, _, .cons h r => by simp only [D.lows, Bool.and_eq_true]; exact ⟨Rp.lowS h, Rps.lowS r⟩
end
theorem gs_seal {S S' : Store} (x : Ext g H g' H') (s : Gs K g H S) (s' : Gs K g' H' S') (h : SealOk S S') : Gs K (g.seal g') H' (S'.take S.length) := by
  obtain ⟨m, em⟩ := x.ca
  have nd := s'.nd
  rw [em] at nd
  have l1 := s.len
  have l2 := s'.len
  refine ⟨fun b w => s'.wi b w.1, fun a ha => ⟨s'.cw a (by rw [em]; exact List.mem_append.mpr (.inl ha)), fun z => ?_⟩, s.nd, ?_, fun n a ds h1 h2 => ?_⟩
  · rw [em, List.drop_left'] at z
    · exact (List.nodup_append.mp nd).2.2 a ha a z rfl
    · rfl
  · show g.ca.length = _
    rw [List.length_take, l1]
    have : g'.ca.length = g.ca.length + m.length := by rw [em, List.length_append]
    omega
  · have h1 : g.ca[n]? = some a := h1
    have hn : n < g.ca.length := (List.getElem?_eq_some_iff.mp h1).1
    have h2' : S'[n]? = some ds := by
      rw [List.getElem?_take_of_lt (by omega)] at h2
      exact h2
    have h1' : g'.ca[n]? = some a := by rw [em, List.getElem?_append_left hn]; exact h1
    obtain ⟨xs, h3, r3⟩ := s'.st n a ds h1' h2'
    refine ⟨xs, h3, Rps.seal0 em r3 ?_⟩
    rcases h n ds (by omega) h2' with q | q
    · obtain ⟨ys, _, rr⟩ := s.st n a ds h1 q
      exact rr.lowS
    · rw [l1]; exact q
end
/-- a call whose new cells become values -/
theorem ent_seal {P : Program} {w : World} {K : PySem.W.Frag} {mg : Str → Option Value} {base : Heap} {k : Nat} {e : Ent} (h : EntOk P w K mg base k e) : EntOk P w K mg base k (sealE e) := by
  obtain ⟨f, fd, ps, sp, gs, gv, hm, hkp, F, hb, hsp⟩ := h
  refine ⟨f, fd, ps, sp, gs, gv, hm, hkp, F, hb, fun g H S vs zs ds d S' Q s r l1 l2 he q => ?_⟩
  have he : sealR S (e.sem ds S) = some (d, S') := he
  unfold sealR at he
  obtain ⟨d0, S0, e1, e2⟩ := of_bnd he
  split at e2
  · rename_i hl
    split at e2
    · rename_i d' hd
      cases e2
      refine hsp g H S vs zs ds d0 S0 Q s r l1 l2 e1 fun v g' H' x' s' r' => ?_
      obtain ⟨m, em⟩ := x'.ca
      refine q v (g.seal g') H' (ext_seal x' s s') (gs_seal x' s s' hl) ?_
      unfold sealV at hd
      rw [← s.len] at hd
      exact Rp.sealD em s' (fun xs ds ds' r h => Rps.sealDs em s' (fun xs ds ds' r h => by
        unfold PD.seal0 at h
        split at h
        · rename_i hh
          cases h
          exact Rps.seal0 em r hh
        · cases h) r h) r' hd
    · cases e2
  · cases e2
section
variable {e : Ent}
@[simp] theorem se_n : (sealE e).n = e.n := rfl
@[simp] theorem se_ks : (sealE e).ks = e.ks := rfl
@[simp] theorem se_sem {ds : List D} {S : Store} : (sealE e).sem ds S = sealR S (e.sem ds S) := rfl
@[simp] theorem se_name : (sealE e).name = e.name := rfl
end
mutual
theorem sealD_low {n : Nat} {S : Store} {f : List D → Option (List D)} : ∀ {d : D}, d.low n = true → sealD n S f d = some d
  | .non, _ => rfl
  | .bl _, _ => rfl
  | .int _, _ => rfl
  | .str _, _ => rfl
  | .ty _, _ => rfl
  | .tup xs, h => by
    simp only [D.low] at h
    simp only [sealD, sealDs_low h, Option.map_some]
  | .lst xs, h => by
    simp only [D.low] at h
    simp only [sealD, sealDs_low h, Option.map_some]
  | .cell k, h => by
    simp only [D.low, decide_eq_true_eq] at h
    simp only [sealD, if_pos h]
theorem sealDs_low {n : Nat} {S : Store} {f : List D → Option (List D)} : ∀ {d : List D}, D.lows n d = true → sealDs n S f d = some d
  | [], _ => rfl
  | x :: xs, h => by
    simp only [D.lows, Bool.and_eq_true] at h
    simp only [sealDs, sealD_low h.1, sealDs_low h.2]
end
mutual
theorem low_pure {n : Nat} : ∀ {d : D}, d.pure = true → d.low n = true
  | .non, _ => rfl
  | .bl _, _ => rfl
  | .int _, _ => rfl
  | .str _, _ => rfl
  | .ty _, h => by simp [D.pure] at h
  | .tup xs, h => by simp only [D.pure] at h; simp only [D.low, lows_pure h]
  | .lst xs, h => by simp only [D.pure] at h; simp only [D.low, lows_pure h]
  | .cell k, h => by simp [D.pure] at h
theorem lows_pure {n : Nat} : ∀ {d : List D}, D.pures d = true → D.lows n d = true
  | [], _ => rfl
  | x :: xs, h => by
    simp only [D.pures, Bool.and_eq_true] at h
    simp only [D.lows, low_pure h.1, lows_pure h.2, Bool.and_self]
end
theorem sealOk_app {S T : Store} : SealOk S (S ++ T) := fun i row hi h => .inl (by rw [List.getElem?_append_left hi] at h; exact h)
theorem sealR_of {S S' : Store} {d d' : D} (ok : SealOk S S') (h : sealV S.length S' d = some d') : sealR S (some (d, S')) = some (d', S'.take S.length) := by
  unfold sealR
  rw [bnd_some, if_pos ok, h]
theorem sealV_low {n : Nat} {S : Store} {d : D} (h : d.low n = true) : sealV n S d = some d := sealD_low h
/-- a result without new cells: what was added to the store is dropped -/
theorem sealR_low {S T : Store} {d : D} (hd : d.low S.length = true) : sealR S (some (d, S ++ T)) = some (d, S) := by
  rw [sealR_of sealOk_app (sealV_low hd), List.take_left' rfl]
end PD

set_option Elab.async false
set_option linter.all false
set_option maxRecDepth 100000
set_option maxHeartbeats 8000000
/-! PD, part p: the law's end. -/
namespace PD
open PySem PySem.Spec PyProof.Rows L2

/-- the law's def keeps its promise at the heap behind the top -/
theorem lawG {P : Program} {w : World} {K : PySem.W.Frag} {mg mb : Str → Option Value} {k : Nat} {fl sc : Addr} {fd : FuncData} {x : Str} {sp : Sp} {s1 : Shared} {vs : List Value} {ns : List Int}
    (KX : K.In s1.heap) (hns : s1.heap.Ns mainGlobals mg) (hbn : s1.heap.Ns builtinsNs mb) (hbb : ∀ y : Str, y ≠ "__name__" → mb y = bootBuiltins y)
    (hlim : s1.heap.NoLimit) (hgen : s1.gens = #[]) (hobj : s1.heap.get? sc = some { cls := .type "list", data := .seq vs.toArray }) (hi : IntsAre vs ns) (hl : ns.length ≤ sizeLine)
    (hr : Room k callerA) (F : ∀ base : Heap, K.In base → base.Ns mainGlobals mg → FnG P w K mg base k fl fd [x] sp) (hbind : ∀ (s : Shared) (u : Value), BindsTo s fd ⟨[u], []⟩ [(x, u)])
    (hsp : ∀ H : Hp, (∀ b, H b = none ∨ ∃ o ys, H b = some (.frz o (.lst ys))) → LX K H sc (ns.map V.int) → sp [.ref sc] H (fun v _ => v = .bl true) E0) :
    codeAny (model P w) callerA (.call (.ref fl) ⟨[.ref sc], []⟩) (fun r t => r = .ok (.ret (.bool true)) ∧ OldK s1.heap t.heap ∧ t.os = s1.os ∧ AllBare t.gens) s1 := by
  have rints := vals_ints hi
  have llen := hi.length
  have main : ∀ Hx : Hp, (∀ b, Hx b = none ∨ ∃ o ys, Hx b = some (.frz o (.lst ys))) → LX K Hx sc (ns.map V.int) → HOk P w Hx s1.heap → (∀ b, Hx b ≠ none → b = sc) → (Hx sc ≠ none → K.lookup sc = none) →
      codeAny (model P w) callerA (.call (.ref fl) ⟨[.ref sc], []⟩) (fun r t => r = .ok (.ret (.bool true)) ∧ OldK s1.heap t.heap ∧ t.os = s1.os ∧ AllBare t.gens) s1 := by
    intro Hx only hseq hok one noK
    have vis : ∀ {b : Addr} {o : Obj}, s1.heap.get? b = some o → Hx b = none → (hidT s1.heap Hx).get? b = some o := fun e n => hidT_get e n
    have nodict : ∀ {b : Addr} {o : Obj} {es : Array DictEntry} {ep : Nat}, s1.heap.get? b = some o → o.data = .dict es ep → Hx b = none := by
      intro b o es ep e d
      cases q : Hx b with
      | none => rfl
      | some u =>
        obtain rfl : b = sc := one b (by rw [q]; simp)
        rw [hobj] at e
        cases e
        have dd : Data.seq vs.toArray _ = Data.dict es ep := d
        cases dd
    have nsH : ∀ {b : Addr} {m : Str → Option Value}, s1.heap.Ns b m → (hidT s1.heap Hx).Ns b m := by
      rintro b m ⟨o, es, ep, e, d, r⟩
      exact ⟨o, es, ep, vis e (nodict e d), d, r⟩
    have Kin : K.In (hidT s1.heap Hx) := by
      intro b o e
      refine vis (KX b o e) ?_
      cases q : Hx b with
      | none => rfl
      | some u =>
        obtain rfl : b = sc := one b (by rw [q]; simp)
        rw [noK (by rw [q]; simp)] at e
        cases e
    obtain ⟨mc, lim1, lim2⟩ := hlim
    have env0 : Env0 P w K mg (hidT s1.heap Hx) callerA [] s1 Hx :=
      ⟨rfl, ⟨Kin, nsH hns, ⟨mb, nsH hbn, hbb⟩, mc, nsH lim1, lim2⟩, fun b o e => of_hidT e, Nat.le_of_eq (hidT_size _ _), trivial, fun b z => absurd (show b ∈ ([] : List Addr) from z) (by simp), hok, .of_eq hgen⟩
    refine codeAny_mono ((F _ Kin (nsH hns)).run callerA [] s1 Hx ⟨[.ref sc], []⟩ [.ref sc] [.ref sc] _ _ hr rfl env0 (hbind s1 (.ref sc)) (.cons rfl .nil) (hsp Hx only hseq)) ?_
    rintro (e | f) t h
    · exact h.elim
    · cases f with
      | next => exact h.elim
      | brk => exact h.elim
      | cont => exact h.elim
      | ret u =>
        obtain ⟨v, H', hos, hbare, un, hok2, rv, q⟩ := h
        obtain rfl : v = .bl true := q
        obtain rfl : u = Value.bool true := rv
        refine ⟨rfl, OldK.of_keep fun b o e => ?_, hos, hbare⟩
        rcases only b with z | ⟨ob, ys, z⟩
        · exact un.keep b o e z (fun m => absurd (show b ∈ ([] : List Addr) from m) (by simp)) (by simp)
        · obtain ⟨g1, _⟩ := hok b _ z
          obtain ⟨g2, _⟩ := hok2 b _ (un.frzs b ob _ z)
          rw [e] at g1
          cases g1
          exact g2
  have hsz : (ns.map V.int).length ≤ sizeLine := by rw [List.length_map]; exact hl
  cases hK : K.lookup sc with
  | some o =>
    have e := KX sc o hK
    rw [hobj] at e
    cases e
    refine main (fun _ => none) (fun _ => .inl rfl) (.inr ⟨vs, _, hK, by rw [llen]; exact hl, rints⟩) (fun b u z => ?_) (fun b z => absurd rfl z) fun z => absurd rfl z
    have z2 : (none : Option HO) = some u := z
    cases z2
  | none =>
    refine main (fun b => if b = sc then some (.frz { cls := .type "list", data := .seq vs.toArray } (.lst (ns.map V.int))) else none) (fun b => ?_) (.inl (.inr ⟨_, if_pos rfl⟩)) (fun b u z => ?_) (fun b z => ?_) fun _ => hK
    · by_cases q : b = sc
      · exact .inr ⟨_, _, if_pos q⟩
      · exact .inl (if_neg q)
    · by_cases q : b = sc
      · have z2 := (if_pos q).symm.trans z
        cases z2
        subst q
        exact ⟨hobj, hsz, vs, _, rints, hobj⟩
      · have z2 := (if_neg q).symm.trans z
        cases z2
    · by_cases q : b = sc
      · exact q
      · exact absurd (if_neg q) z

/-- the script as a datum -/
theorem rp_script {K : PySem.W.Frag} {H : Hp} {a : Addr} {ns : List Int} (h : LX K H a (ns.map V.int)) : Rp K ⟨[], fun _ => False⟩ H (.ref a) (.lst (ns.map D.int)) := by
  refine .lst ?_ (Rps.of_ints ns)
  rcases h with h | h
  · exact .inl ⟨h, fun q => q⟩
  · exact .inr h
theorem gs_nil {K : PySem.W.Frag} {H : Hp} : Gs K ⟨[], fun _ => False⟩ H [] :=
  ⟨fun _ (z : False) => z.elim, fun _ z => absurd z (by simp), List.nodup_nil, rfl, fun n a ds z => absurd z (by simp)⟩

/-- the whole way of a law: the def's run answers True at every script -/
theorem walkG {l : PySem.W.OpenLaw} {k : Nat} {q : Program} {loose : List Str} {XP : (Str → Option Value) → Heap → Prop} {YP : World → Heap → Prop} {d : DefRec} {x : Str} {G : Gam} {m : Nat} {b : Sms}
    (hn : l.most = some 63) (hdf : d.params.defaults = []) (hr : Room k callerA)
    (F : ∀ (w : World) (mg : Str → Option Value) (fa : Addr) (h : Heap), YP w h → h.Ns mainGlobals mg → mg d.name = some (.ref fa) →
      ∃ (K : PySem.W.Frag) (fd : FuncData), K.In h ∧ (∀ (s : Shared) (u : Value), BindsTo s fd ⟨[u], []⟩ [(x, u)]) ∧
        ∀ base : Heap, K.In base → base.Ns mainGlobals mg → FnG l.prog w K mg base k fa fd [x] (spD K G m b [x]))
    (run : ∀ ns : List Int, ns.length ≤ 63 → ∃ S, runF G m b [.lst (ns.map D.int)] [] = some (.bl true, S)) :
    PySem.W.WalkO q loose XP YP l.row.toRowW d [] (fun f vs => PySem.call f vs) := by
  refine Att.attach_call hn hdf fun w s0 s1 mg mb fa o pm cd doc a vs ns Gr Y ho hd hcd hmg hobj hi hlen hg => ?_
  obtain ⟨K, fd, KX, hb, hF⟩ := F w mg fa _ Y Gr.T.g hmg
  have h63 : (63 : Nat) ≤ sizeLine := by decide
  refine lawG KX Gr.T.g Gr.T.b Gr.T.builtins Gr.T.nolimit hg hobj hi (Nat.le_trans hlen h63) hr hF hb fun H only hs => ?_
  obtain ⟨S, e⟩ := run ns hlen
  refine ⟨rfl, _, [], [.lst (ns.map D.int)], _, S, gs_nil, .cons (rp_script hs) .nil, e, fun v g' H' _ _ r => ?_⟩
  cases r with
  | bl => rfl

/-- the whole way of a law, the numbers of 2 ^ 20 bits at most: the def's run answers True at every script -/
theorem walkGB {l : PySem.W.OpenLaw} {k : Nat} {q : Program} {loose : List Str} {XP : (Str → Option Value) → Heap → Prop} {YP : World → Heap → Prop} {d : DefRec} {x : Str} {G : Gam} {m : Nat} {b : Sms}
    (hn : l.most = some 63) (hdf : d.params.defaults = []) (hr : Room k callerA)
    (F : ∀ (w : World) (mg : Str → Option Value) (fa : Addr) (h : Heap), YP w h → h.Ns mainGlobals mg → mg d.name = some (.ref fa) →
      ∃ (K : PySem.W.Frag) (fd : FuncData), K.In h ∧ (∀ (s : Shared) (u : Value), BindsTo s fd ⟨[u], []⟩ [(x, u)]) ∧
        ∀ base : Heap, K.In base → base.Ns mainGlobals mg → FnG l.prog w K mg base k fa fd [x] (spD K G m b [x]))
    (run : ∀ ns : List Int, ns.length ≤ 63 → (∀ z ∈ ns, Builtin.Int.intBits z ≤ 1048576) → ∃ S, runF G m b [.lst (ns.map D.int)] [] = some (.bl true, S)) :
    PySem.W.WalkO q loose XP YP l.row.toRowW d [] (fun f vs => PySem.call f vs) := by
  refine Att.attach_callB hn hdf fun w s0 s1 mg mb fa o pm cd doc a vs ns Gr Y ho hd hcd hmg hobj hi hlen hbt hg => ?_
  obtain ⟨K, fd, KX, hb, hF⟩ := F w mg fa _ Y Gr.T.g hmg
  have h63 : (63 : Nat) ≤ sizeLine := by decide
  refine lawG KX Gr.T.g Gr.T.b Gr.T.builtins Gr.T.nolimit hg hobj hi (Nat.le_trans hlen h63) hr hF hb fun H only hs => ?_
  obtain ⟨S, e⟩ := run ns hlen hbt
  refine ⟨rfl, _, [], [.lst (ns.map D.int)], _, S, gs_nil, .cons (rp_script hs) .nil, e, fun v g' H' _ _ r => ?_⟩
  cases r with
  | bl => rfl
end PD

set_option Elab.async false
set_option linter.all false
set_option maxRecDepth 100000
set_option maxHeartbeats 8000000
/-! PD, part q: what the head tells. -/
namespace PD
open PySem PySem.Spec PyProof.Rows L2

mutual
/-- a value of the written part is this datum -/
def matB (K : PySem.W.Frag) : D → Value → Bool
  | .non, u => match u with | .none => true | _ => false
  | .bl b, u => match u with | .bool c => b == c | _ => false
  | .int i, u => match u with | .int j _ => decide (i = j) | _ => false
  | .str x, u => match u with | .str y _ => decide (x = y) | _ => false
  | .tup ds, u => match u with
    | .ref a => match K.lookup a with
      | some ⟨.type c, _, .seq its _, _⟩ => decide (c = "tuple") && decide (its.size ≤ sizeLine) && matBs K ds its.toList
      | _ => false
    | _ => false
  | _, _ => false
def matBs (K : PySem.W.Frag) : List D → List Value → Bool
  | [], us => match us with | [] => true | _ => false
  | d :: ds, us => match us with | u :: us => matB K d u && matBs K ds us | _ => false
end
mutual
theorem matB_ok {K : PySem.W.Frag} : ∀ {d : D} {u : Value}, matB K d u = true → ∃ v, RelV v u ∧ ∀ g H, Rp K g H v d
  | .non, u, h => by cases u <;> first | exact ⟨.non, rfl, fun g H => .non⟩ | cases h
  | .bl b, u, h => by
    cases u <;> first | (cases h; done) | skip
    rename_i c
    have e : (b == c) = true := h
    obtain rfl := eq_of_beq e
    exact ⟨.bl b, rfl, fun g H => .bl _⟩
  | .int i, u, h => by
    cases u <;> first | (cases h; done) | skip
    obtain rfl := of_decide_eq_true (show decide (i = _) = true from h)
    exact ⟨.int i, ⟨_, rfl⟩, fun g H => .int _⟩
  | .str i, u, h => by
    cases u <;> first | (cases h; done) | skip
    obtain rfl := of_decide_eq_true (show decide (i = _) = true from h)
    exact ⟨.str i, ⟨_, rfl⟩, fun g H => .str _⟩
  | .tup ds, u, h => by
    cases u <;> first | (cases h; done) | skip
    rename_i a
    have h : (match K.lookup a with
      | some ⟨.type c, _, .seq its _, _⟩ => decide (c = "tuple") && decide (its.size ≤ sizeLine) && matBs K ds its.toList
      | _ => false) = true := h
    split at h
    · rename_i c od its n osl hl
      simp only [Bool.and_eq_true, decide_eq_true_eq] at h
      obtain ⟨⟨rfl, h2⟩, h3⟩ := h
      obtain ⟨vs, r, q⟩ := matBs_ok h3
      exact ⟨.ref a, rfl, fun g H => .tup (.inr ⟨_, its, n, hl, rfl, rfl, h2, r⟩) (q g H)⟩
    · cases h
  | .ty _, u, h => by cases h
  | .lst _, u, h => by cases h
  | .cell _, u, h => by cases h
theorem matBs_ok {K : PySem.W.Frag} : ∀ {ds : List D} {us : List Value}, matBs K ds us = true → ∃ vs, Vals vs us ∧ ∀ g H, Rps K g H vs ds
  | [], us, h => by cases us <;> first | exact ⟨[], .nil, fun g H => .nil⟩ | cases h
  | d :: ds, us, h => by
    cases us with
    | nil => cases h
    | cons u us =>
      obtain ⟨h1, h2⟩ := Bool.and_eq_true_iff.mp (show (matB K d u && matBs K ds us) = true from h)
      obtain ⟨v, r, q⟩ := matB_ok h1
      obtain ⟨vs, rs, qs⟩ := matBs_ok h2
      exact ⟨v :: vs, .cons r rs, fun g H => .cons (q g H) (qs g H)⟩
end
def conB (K : PySem.W.Frag) (p : Str × D) : Bool := match PySem.W.nsIn K mainGlobals p.1 with
  | some (some u) => matB K p.2 u
  | _ => false
def bfB (K : PySem.W.Frag) (p : Str × String) : Bool := match PySem.W.nsIn K mainGlobals p.1 with
  | some (some (.builtin i)) => decide (i = p.2)
  | _ => false
/-- a default that is a tuple -/
def dflB (K : PySem.W.Frag) (p : Str × Nat × D) : Bool := matB K p.2.2 (.ref (He.dflAt (p.1, none) p.2.1 K))
theorem dfl_ok {K : PySem.W.Frag} {p : Str × Nat × D} (h : dflB K p = true) (g : Gh) (H : Hp) : Rp K g H (.ref (He.dflAt (p.1, none) p.2.1 K)) p.2.2 := by
  obtain ⟨v, r, q⟩ := matB_ok h
  cases v with
  | ref a =>
    have e : Value.ref (He.dflAt (p.1, none) p.2.1 K) = Value.ref a := r
    cases e
    exact q g H
  | _ => first | (cases r; done) | (obtain ⟨_, e⟩ := r; cases e)
/-- more that the head looks at -/
def exB (cs : List (Str × D)) (bs : List (Str × String)) (ds : List (Str × Nat × D)) (K : PySem.W.Frag) : Bool := (cs.all fun p => conB K p) && ((bs.all fun p => bfB K p) && ds.all fun p => dflB K p)
theorem con_ok {K : PySem.W.Frag} {h : Heap} {mg : Str → Option Value} (X : K.In h) (G : h.Ns mainGlobals mg) {p : Str × D} (c : conB K p = true) : ∃ v u, mg p.1 = some u ∧ RelV v u ∧ ∀ g H, Rp K g H v p.2 := by
  unfold conB at c
  split at c
  · rename_i u e
    obtain ⟨v, r, q⟩ := matB_ok c
    exact ⟨v, u, PySem.W.mg_of X G e, r, q⟩
  · cases c
theorem bf_ok {K : PySem.W.Frag} {h : Heap} {mg : Str → Option Value} (X : K.In h) (G : h.Ns mainGlobals mg) {p : Str × String} (c : bfB K p = true) : mg p.1 = some (.builtin p.2) := by
  unfold bfB at c
  split at c
  · rename_i i e
    obtain rfl : i = p.2 := of_decide_eq_true c
    exact PySem.W.mg_of X G e
  · cases c

/-! ### the Hook -/
def obsC (fa : List He.Fa) (fn : List He.DefD) (cs : List (Str × D)) (bs : List (Str × String)) (ds : List (Str × Nat × D)) (K : PySem.W.Frag) : He.AlD := ((He.obsD fa fn K).1 && exB cs bs ds K, (He.obsD fa fn K).2)
/-- what the objects at these places name; the globals themselves are left out -/
def outA (g : Addr → Option Obj) (as : List Addr) : List Addr := as.flatMap fun a => match a == mainGlobals || a == builtinsNs with
  | true => []
  | false => match g a with
    | some o => He.refsD o
    | none => []
/-- the globals, the objects of these names, three steps on -/
def asN (g : Addr → Option Obj) (nms : List Str) : List Addr :=
  (fun a1 => (fun a2 => (fun a3 => mainGlobals :: (a1 ++ (a2 ++ (a3 ++ outA g a3)))) (outA g a2)) (outA g a1)) (nms.map (He.ga (He.frG g [mainGlobals])))
def obsCG (n : Nat) (fa : List He.Fa) (fn : List He.DefD) (cs : List (Str × D)) (bs : List (Str × String)) (ds : List (Str × Nat × D)) (g : Addr → Option Obj) : He.AlD := obsC fa fn cs bs ds (He.frG g (asN g (fn.map (fun d => d.at_.1) ++ cs.map (·.1))))
structure SaysC (fa : List He.Fa) (fn : List He.DefD) (cs : List (Str × D)) (bs : List (Str × String)) (ds : List (Str × Nat × D)) (K : PySem.W.Frag) : Prop where
  d : He.SaysD fa fn K
  c : ∀ p ∈ cs, conB K p = true
  b : ∀ p ∈ bs, bfB K p = true
  z : ∀ p ∈ ds, dflB K p = true
theorem saysC_of {fa : List He.Fa} {fn : List He.DefD} {cs : List (Str × D)} {bs : List (Str × String)} {ds : List (Str × Nat × D)} {K : PySem.W.Frag} (e : obsC fa fn cs bs ds K = He.valD fn) : SaysC fa fn cs bs ds K := by
  have e1 : ((He.obsD fa fn K).1 && exB cs bs ds K) = true := congrArg (fun z : He.AlD => z.1) e
  have e2 : (He.obsD fa fn K).2 = (He.valD fn).2 := by
    have z := congrArg (fun z : He.AlD => z.2) (show ((_, _) : He.AlD) = _ from e)
    exact z
  obtain ⟨h1, h2⟩ := Bool.and_eq_true_iff.mp e1
  obtain ⟨h3, h4⟩ := Bool.and_eq_true_iff.mp h2
  obtain ⟨h5, h6⟩ := Bool.and_eq_true_iff.mp h4
  exact ⟨Prod.ext h1 e2, List.all_eq_true.mp h3, List.all_eq_true.mp h5, List.all_eq_true.mp h6⟩
def hookC (n : Nat) (fa : List He.Fa) (fn : List He.DefD) (cs : List (Str × D)) (bs : List (Str × String)) (ds : List (Str × Nat × D)) : PySem.W.Hook where
  α := He.AlD
  obs := fun s => obsCG n fa fn cs bs ds s.heap.get?
  val := fun _ => He.valD fn
  says := fun _ h => ∃ K : PySem.W.Frag, K.In h ∧ SaysC fa fn cs bs ds K
  of := fun _ _ e => ⟨_, He.frG_in, saysC_of e⟩
  keeps := fun _ _ _ ⟨K, hK, c⟩ k => ⟨K, PySem.W.Frag.In.keeps hK k, c⟩
theorem obsCG_eq {n : Nat} {fa : List He.Fa} {fn : List He.DefD} {cs : List (Str × D)} {bs : List (Str × String)} {ds : List (Str × Nat × D)} {g : Addr → Option Obj} {s : Shared} (h : ∀ a, g a = s.heap.get? a) : obsCG n fa fn cs bs ds g = (hookC n fa fn cs bs ds).obs s := by
  have e : g = s.heap.get? := funext h
  rw [e]; rfl
theorem EntOk.mono {P : Program} {w : World} {K : PySem.W.Frag} {mg : Str → Option Value} {base : Heap} {j k : Nat} {e : Ent} (h : EntOk P w K mg base j e) (le : j ≤ k) : EntOk P w K mg base k e := by
  obtain ⟨f, fd, ps, sp, gs, gv, h1, h2, h3, h4, h5⟩ := h
  exact ⟨f, fd, ps, sp, gs, gv, h1, h2, h3.mono le, h4, h5⟩
theorem ents_nil {P : Program} {w : World} {K : PySem.W.Frag} {mg : Str → Option Value} {base : Heap} {k : Nat} : ∀ e ∈ ([] : List Ent), EntOk P w K mg base k e := fun _ h => by cases h
theorem ents_cons {P : Program} {w : World} {K : PySem.W.Frag} {mg : Str → Option Value} {base : Heap} {j k : Nat} {e : Ent} {es : List Ent} (h : EntOk P w K mg base j e) (le : j ≤ k) (t : ∀ e ∈ es, EntOk P w K mg base k e) : ∀ z ∈ e :: es, EntOk P w K mg base k z := fun z hz => by
  rcases List.mem_cons.mp hz with q | hz
  · rw [q]; exact h.mono le
  · exact t z hz
end PD
namespace PD
theorem fa_nil {α : Type} {p : α → Prop} : ∀ z ∈ ([] : List α), p z := fun _ h => by cases h
theorem fa_cons {α : Type} {p : α → Prop} {a : α} {l : List α} (h : p a) (t : ∀ z ∈ l, p z) : ∀ z ∈ a :: l, p z := fun z hz => by
  rcases List.mem_cons.mp hz with q | hz
  · rw [q]; exact h
  · exact t z hz
end PD

set_option Elab.async false
set_option linter.all false
set_option maxRecDepth 100000
set_option maxHeartbeats 8000000
/-! PD, part r: the evaluator's equations. -/
namespace PD
open PySem PySem.Spec PyProof.Rows L2
section
variable {G : Gam} {L : Loc} {S : Store}
@[simp] theorem evX_nm {i : Nat} : evX G (.nm i) L S = match L[i]? with
    | some (.dat d) => some (.d d, S)
    | some (.own xs) => some (.b xs, S)
    | _ => none := rfl
@[simp] theorem evX_lit {d : D} : evX G (.lit d) L S = some (.d d, S) := rfl
@[simp] theorem evX_gc {j : Nat} : evX G (.gc j) L S = match G.cons[j]? with | some p => some (.d p.2, S) | none => none := rfl
@[simp] theorem evX_bin {o : BO} {a b : Xp} : evX G (.bin o a b) L S = bnd (evX G a L S) fun x S1 => bnd (evX G b L S1) fun y S2 => lft ((binV o x y).map .d) S2 := rfl
@[simp] theorem evX_neg {a : Xp} : evX G (.neg a) L S = bnd (evX G a L S) fun x S1 => lft ((negV x).map .d) S1 := rfl
@[simp] theorem evX_cmp {o : CO} {a b : Xp} : evX G (.cmp o a b) L S = bnd (evX G a L S) fun x S1 => bnd (evX G b L S1) fun y S2 => lft ((cmpV o x y).map fun c => .d (.bl c)) S2 := rfl
@[simp] theorem evX_cmp2 {o o' : CO} {a b c : Xp} : evX G (.cmp2 o o' a b c) L S = bnd (evX G a L S) fun x S1 => bnd (evX G b L S1) fun y S2 => bnd (lft (cmpV o x y) S2) fun k S2 =>
      if k = true then bnd (evX G c L S2) fun z S3 => lft ((cmpV o' y z).map fun c => .d (.bl c)) S3 else some (.d (.bl false), S2) := rfl
@[simp] theorem evX_and {a b : Xp} : evX G (.and a b) L S = bnd (evX G a L S) fun x S1 => bnd (lft (asB x) S1) fun c S1 => if c = true then evX G b L S1 else some (.d (.bl false), S1) := rfl
@[simp] theorem evX_or {a b : Xp} : evX G (.or a b) L S = bnd (evX G a L S) fun x S1 => bnd (lft (asB x) S1) fun c S1 => if c = true then some (.d (.bl true), S1) else evX G b L S1 := rfl
@[simp] theorem evX_not {a : Xp} : evX G (.not a) L S = bnd (evX G a L S) fun x S1 => lft ((asB x).map fun c => .d (.bl (!c))) S1 := rfl
@[simp] theorem evX_ife {c a b : Xp} : evX G (.ife c a b) L S = bnd (evX G c L S) fun x S1 => bnd (lft (asB x) S1) fun c S1 => if c = true then evX G a L S1 else evX G b L S1 := rfl
@[simp] theorem evX_tup {es : Xps} : evX G (.tup es) L S = bnd (evXs G es L S) fun xs S1 => lft ((unVs xs).map fun ds => .d (.tup ds)) S1 := rfl
@[simp] theorem evX_ix {a b : Xp} : evX G (.ix a b) L S = bnd (evX G a L S) fun x S1 => bnd (evX G b L S1) fun y S2 => lft ((ixV x y S2).map .d) S2 := rfl
@[simp] theorem evX_slc {a : Xp} {lo hi : Xo} : evX G (.slc a lo hi) L S = bnd (evX G a L S) fun x S1 => bnd (evO G lo L S1) fun l S2 => bnd (evO G hi L S2) fun h S3 => lft ((slcT x l h).map .d) S3 := rfl
@[simp] theorem evX_call {j : Nat} {es ks : Xps} : evX G (.call j es ks) L S = match G.ents[j]? with
    | some e => bnd (evXs G es L S) fun xs S1 => bnd (evXs G ks L S1) fun zs S2 => bnd (lft (unVs (xs ++ zs)) S2) fun ds S2 =>
        if xs.length = e.n ∧ zs.length = e.ks.length then bnd (e.sem ds S2) fun d S3 => some (.d d, S3) else none
    | none => none := rfl
@[simp] theorem evX_bi {b : Bi} {es : Xps} : evX G (.bi b es) L S = bnd (evXs G es L S) fun xs S1 => lft ((biV b xs).map .d) S1 := rfl
@[simp] theorem evX_isi {a : Xp} {t : String} : evX G (.isi a t) L S = bnd (evX G a L S) fun x S1 => lft ((isiV x t).map fun c => .d (.bl c)) S1 := rfl
@[simp] theorem evX_fr {f : Fx} : evX G (.fr f) L S = bnd (evF G f L S) fun xs S1 => some (.d (.lst xs), S1) := rfl
@[simp] theorem evX_bic {b : Bi} {es : Xps} : evX G (.bic b es) L S = bnd (evXs G es L S) fun xs S1 => lft ((bicV b xs S1).map .d) S1 := rfl
@[simp] theorem evX_nwc {f : Fx} : evX G (.nwc f) L S = bnd (evF G f L S) fun xs S1 => some (.d (.cell S1.length), S1 ++ [xs]) := rfl
@[simp] theorem evX_rev {a : Xp} : evX G (.rev a) L S = bnd (evX G a L S) fun x S1 => lft ((revV x).map .d) S1 := rfl
@[simp] theorem revV_tup {xs : List D} : revV (.d (.tup xs)) = some (.tup xs.reverse) := rfl
@[simp] theorem revV_lst {xs : List D} : revV (.d (.lst xs)) = some (.lst xs.reverse) := rfl
@[simp] theorem evW_range3 {a b c : Xp} : evW G (.range3 a b c) L S = bnd (evX G a L S) fun x S1 => bnd (evX G b L S1) fun y S2 => bnd (evX G c L S2) fun z S3 => lft (match x, y, z with
      | .d (.int m), .d (.int n), .d (.int k) => if k = -1 ∧ n < 2 ^ 62 ∧ -(2 ^ 62) ≤ n ∧ m < 2 ^ 62 ∧ -(2 ^ 62) ≤ m then some ((List.range (m - n).toNat).map fun i => .int (m + (i : Nat) * (-1))) else none
      | _, _, _ => none) S3 := rfl
@[simp] theorem evXs_nil : evXs G .nil L S = some ([], S) := rfl
@[simp] theorem evXs_cons {e : Xp} {es : Xps} : evXs G (.cons e es) L S = bnd (evX G e L S) fun x S1 => bnd (evXs G es L S1) fun xs S2 => some (x :: xs, S2) := rfl
@[simp] theorem evXs_star {e : Xp} {es : Xps} : evXs G (.star e es) L S = bnd (evX G e L S) fun x S1 => bnd (lft (seqV x) S1) fun l S1 => bnd (evXs G es L S1) fun xs S2 => if l.length ≤ 100000 then some (l.map .d ++ xs, S2) else none := rfl
@[simp] theorem seqV_lst {xs : List D} : seqV (.d (.lst xs)) = some xs := rfl
@[simp] theorem seqV_tup {xs : List D} : seqV (.d (.tup xs)) = some xs := rfl
@[simp] theorem seqV_b {xs : List D} : seqV (.b xs) = some xs := rfl
@[simp] theorem evW_enum {e : Xp} : evW G (.enum e) L S = bnd (evX G e L S) fun x S1 => lft ((match x with | .d (.lst l) => some l | .d (.tup l) => some l | _ => none).map enumD) S1 := rfl
@[simp] theorem evW_enumB {i : Nat} : evW G (.enumB i) L S = match L[i]? with
    | some (.own xs) => some (enumD xs, S)
    | _ => none := rfl
@[simp] theorem evW_zip {a b : Xp} : evW G (.zip a b) L S = bnd (evX G a L S) fun x S1 => bnd (evX G b L S1) fun y S2 => lft (match x, y with
      | .d (.lst l), .d (.lst m) => some (zipD l m)
      | .d (.tup l), .d (.tup m) => some (zipD l m)
      | .d (.tup l), .d (.lst m) => some (zipD l m)
      | _, _ => none) S2 := rfl
@[simp] theorem evW_rvd {e : Xp} : evW G (.rvd e) L S = bnd (evX G e L S) fun x S1 => lft (match x with | .d (.lst l) => some l.reverse | .d (.tup l) => some l.reverse | _ => none) S1 := rfl
@[simp] theorem evF_comp2 {elt : Xp} {t t1 : Tg} {w w1 : Wk} {c c1 : Xo} {own own1 : List Nat} : evF G (.comp2 elt t w c t1 w1 c1 own own1) L S = bnd (evW G w L S) fun ds S1 => bnd (compN (fun d S => bnd (evG G t d (wipeL L own) S) fun L2 S => bnd (evC G c L2 S) fun k S => if k = true then
        bnd (evW G w1 L2 S) fun es S => compL (fun d S => bnd (evG G t1 d (wipeL L2 own1) S) fun L3 S => bnd (evC G c1 L3 S) fun k S => if k = true then bnd (evX G elt L3 S) fun x S => bnd (lft (unV x) S) fun y S => some (some y, S) else some (none, S)) es S
      else some ([], S)) ds S1) fun xs S2 => if xs.length ≤ line then some (xs, S2) else none := rfl
@[simp] theorem biV_reprb {b : Bool} : biV .repr [.d (.bl b)] = some (.str (if b then "True" else "False")) := rfl
@[simp] theorem cmpV_isB {a b : Bool} : cmpV .isN (.d (.bl a)) (.d (.bl b)) = some (decide (a = b)) := rfl
@[simp] theorem cmpV_notB {a b : Bool} : cmpV .notN (.d (.bl a)) (.d (.bl b)) = some (!decide (a = b)) := rfl
@[simp] theorem biV_reprn : biV .repr [.d .non] = some (.str "None") := rfl
@[simp] theorem biV_intb {i : Bool} : biV .int1 [.d (.bl i)] = some (.int (if i then 1 else 0)) := rfl
@[simp] theorem biV_fact {i : Int} : biV .fact [.d (.int i)] = if 0 ≤ i ∧ i ≤ 100 then some (.int ((Builtin.Math.factorialNat i.toNat : Nat) : Int)) else none := rfl
@[simp] theorem evO_none : evO G .none L S = some (none, S) := rfl
@[simp] theorem evO_some {e : Xp} : evO G (.some e) L S = bnd (evX G e L S) fun x S1 => lft (optI (some x)) S1 := rfl
@[simp] theorem evF_disp {es : Xps} : evF G (.disp es) L S = bnd (evXs G es L S) fun xs S1 => lft (unVs xs) S1 := rfl
@[simp] theorem evF_comp {elt : Xp} {t : Tg} {w : Wk} {c : Xo} {own : List Nat} : evF G (.comp elt t w c own) L S = bnd (evW G w L S) fun ds S1 => if ds.length < line then
      compL (fun d S => bnd (evG G t d (wipeL L own) S) fun L2 S => bnd (evC G c L2 S) fun k S => if k = true then bnd (evX G elt L2 S) fun x S => bnd (lft (unV x) S) fun y S => some (some y, S) else some (none, S)) ds S1
      else none := rfl
@[simp] theorem evF_list {e : Xp} : evF G (.list e) L S = bnd (evX G e L S) fun x S1 => lft (match asL x with | some l => some l | none => asT x) S1 := rfl
@[simp] theorem evF_cat {a b : Xp} : evF G (.cat a b) L S = bnd (evX G a L S) fun x S1 => bnd (evX G b L S1) fun y S2 => lft (match asL x, asL y with
      | some l, some m => if l.length + m.length ≤ line then some (l ++ m) else none
      | _, _ => none) S2 := rfl
@[simp] theorem evF_slc {a : Xp} {lo hi : Xo} : evF G (.slc a lo hi) L S = bnd (evX G a L S) fun x S1 => bnd (evO G lo L S1) fun l S2 => bnd (evO G hi L S2) fun h S3 => lft (slcL x l h) S3 := rfl
@[simp] theorem evC_none : evC G .none L S = some (true, S) := rfl
@[simp] theorem evC_some {e : Xp} : evC G (.some e) L S = bnd (evX G e L S) fun x S1 => lft (asB x) S1 := rfl
@[simp] theorem evW_seq {e : Xp} : evW G (.seq e) L S = bnd (evX G e L S) fun x S1 => lft (match x with | .d (.lst l) => some l | .d (.tup l) => some l | _ => none) S1 := rfl
@[simp] theorem evW_bor {i : Nat} : evW G (.bor i) L S = match L[i]? with
    | some (.own xs) => some (xs, S)
    | _ => none := rfl
@[simp] theorem evW_range1 {a : Xp} : evW G (.range1 a) L S = bnd (evX G a L S) fun x S1 => lft (match x with
      | .d (.int n) => if n < 2 ^ 62 ∧ -(2 ^ 62) ≤ n then some ((List.range n.toNat).map fun i => .int (i : Nat)) else none
      | _ => none) S1 := rfl
@[simp] theorem evG_nm {i : Nat} {d : D} : evG G (.nm i) d L S = some (L.set i (.dat d), S) := rfl
@[simp] theorem evG_tup {ts : Tgs} {ds : List D} : evG G (.tup ts) (.tup ds) L S = evGs G ts ds L S := rfl
@[simp] theorem evG_sub {i : Nat} {b : Xp} {d : D} : evG G (.sub i b) d L S = bnd (evX G b L S) fun y S1 => match y with
    | .d (.int k) => match L[i]? with
      | some (.own xs) => match ixN xs.length k with | some j => some (L.set i (.own (xs.set j d)), S1) | none => none
      | some (.dat (.cell n)) => match S1[n]? with
        | some xs => match ixN xs.length k with | some j => some (L, S1.set n (xs.set j d)) | none => none
        | none => none
      | _ => none
    | _ => none := rfl
@[simp] theorem evG_sbx {a b : Xp} {d : D} : evG G (.sbx a b) d L S = bnd (evX G a L S) fun x S1 => bnd (evX G b L S1) fun y S2 => match x, y with
    | .d (.cell n), .d (.int k) => match S2[n]? with
      | some xs => match ixN xs.length k with | some j => some (L, S2.set n (xs.set j d)) | none => none
      | none => none
    | _, _ => none := rfl
@[simp] theorem evGs_nil : evGs G .nil [] L S = some (L, S) := rfl
@[simp] theorem evGs_cons {t : Tg} {ts : Tgs} {d : D} {ds : List D} : evGs G (.cons t ts) (d :: ds) L S = bnd (evG G t d L S) fun L1 S1 => evGs G ts ds L1 S1 := rfl
@[simp] theorem evSs_nil : evSs G .nil L S = some ((.nx, L), S) := rfl
@[simp] theorem evSs_cons {s : Sm} {ss : Sms} : evSs G (.cons s ss) L S = bnd (evS G s L S) fun r S1 => match r.1 with
    | .nx => evSs G ss r.2 S1
    | f => some ((f, r.2), S1) := rfl
@[simp] theorem evS_asg {t : Tg} {e : Xp} : evS G (.asg t e) L S = bnd (evX G e L S) fun x S1 => bnd (lft (unV x) S1) fun d S1 => bnd (evG G t d L S1) fun L2 S2 => some ((.nx, L2), S2) := rfl
@[simp] theorem evS_own {i : Nat} {f : Fx} : evS G (.own i f) L S = bnd (evF G f L S) fun xs S1 => some ((.nx, L.set i (.own xs)), S1) := rfl
@[simp] theorem evS_par {is : List Nat} {es : Xps} : evS G (.par is es) L S = bnd (evXs G es L S) fun xs S1 => bnd (lft (unVs xs) S1) fun ds S1 => if ds.length = is.length then some ((.nx, setAll is.reverse ds.reverse L), S1) else none := rfl
@[simp] theorem evS_aug {i : Nat} {o : BO} {e : Xp} : evS G (.aug i o e) L S = match L[i]? with
    | some (.dat d) => bnd (evX G e L S) fun y S1 => bnd (lft (augV o d y) S1) fun z S1 => some ((.nx, L.set i (.dat z)), S1)
    | _ => none := rfl
@[simp] theorem evS_app {i : Nat} {e : Xp} : evS G (.app i e) L S = bnd (evX G e L S) fun x S1 => bnd (lft (unV x) S1) fun d S1 => match L[i]? with
    | some (.own xs) => if xs.length < line then some ((.nx, L.set i (.own (xs ++ [d]))), S1) else none
    | some (.dat (.cell n)) => match S1[n]? with
      | some xs => if xs.length < line then some ((.nx, L), S1.set n (xs ++ [d])) else none
      | none => none
    | _ => none := rfl
@[simp] theorem evS_fz {i : Nat} : evS G (.fz i) L S = match L[i]? with
    | some (.own xs) => some ((.nx, L.set i (.dat (.lst xs))), S)
    | _ => some ((.nx, L), S) := rfl
@[simp] theorem evS_retc {es : Xps} : evS G (.retc es) L S = bnd (evXs G es L S) fun xs S1 => bnd (lft (unVs xs) S1) fun ds S1 => some ((.ret (.cell S1.length), L), S1 ++ [ds]) := rfl
@[simp] theorem evS_ex {e : Xp} : evS G (.ex e) L S = bnd (evX G e L S) fun _ S1 => some ((.nx, L), S1) := rfl
@[simp] theorem evS_ret {e : Xp} : evS G (.ret e) L S = bnd (evX G e L S) fun x S1 => bnd (lft (unV x) S1) fun d S1 => some ((.ret d, L), S1) := rfl
@[simp] theorem evS_ret0 : evS G .ret0 L S = some ((.ret .non, L), S) := rfl
@[simp] theorem evS_ife {c : Xp} {a b : Sms} : evS G (.ife c a b) L S = bnd (evX G c L S) fun x S1 => bnd (lft (asB x) S1) fun k S1 => if k = true then evSs G a L S1 else evSs G b L S1 := rfl
theorem ev_for {t : Tg} {w : Wk} {b : Sms} {ds : List D} {S1 : Store} {r : (Fl × Loc) × Store} (h : w.isB = false) (hw : evW G w L S = some (ds, S1)) (hl : forL (fun d L S => bnd (evG G t d L S) fun L2 S2 => evSs G b L2 S2) ds L S1 = some r) : evS G (.for_ t w b) L S = some r := by
  show (if w.isB = true then none else bnd (evW G w L S) fun ds S1 => forL (fun d L S => bnd (evG G t d L S) fun L2 S2 => evSs G b L2 S2) ds L S1) = _
  rw [h, hw, ← hl]
  rfl
theorem evS_for {t : Tg} {w : Wk} {b : Sms} : evS G (.for_ t w b) L S = if w.isB then none else bnd (evW G w L S) fun ds S1 => forL (fun d L S => bnd (evG G t d L S) fun L2 S2 => evSs G b L2 S2) ds L S1 := rfl
theorem ev_forc {t : Tg} {e : Xp} {b : Sms} {n : Nat} {ds : List D} {S1 S2 : Store} {r : Fl × Loc} (he : evX G e L S = some (.d (.cell n), S1)) (hn : S1[n]? = some ds)
    (hl : forL (fun d L S => if sameC S n ds = true then bnd (evG G t d L S) fun L2 S2 => evSs G b L2 S2 else none) ds L S1 = some (r, S2)) (h2 : S2[n]? = some ds) : evS G (.forc t e b) L S = some (r, S2) := by
  show (bnd (evX G e L S) fun x S1 => bnd (lft (cellOf x S1) S1) fun p S1 => bnd (forL (fun d L S => if sameC S p.1 p.2 = true then bnd (evG G t d L S) fun L2 S2 => evSs G b L2 S2 else none) p.2 L S1) fun r S2 => if sameC S2 p.1 p.2 = true then some (r, S2) else none) = _
  have hc : cellOf (.d (.cell n)) S1 = some (n, ds) := by show (S1[n]?).map _ = _; rw [hn]; rfl
  rw [he, bnd_some, hc]
  show (bnd (forL _ ds L S1) _) = _
  rw [hl, bnd_some, if_pos (sameC_of h2)]
theorem evS_wh {c : Xp} {b : Sms} : evS G (.wh c b) L S = whL (fun L S => bnd (evX G c L S) fun x S1 => lft (asB x) S1) (fun L S => evSs G b L S) L S := rfl
theorem wh_go {c : Xp} {b : Sms} {L2 : Loc} {S1 S2 : Store} (hc : evX G c L S = some (.d (.bl true), S1)) (hb : evSs G b L S1 = some ((.nx, L2), S2)) : evS G (.wh c b) L S = evS G (.wh c b) L2 S2 := by
  rw [evS_wh, whL_eq, hc, bnd_some]
  show bnd (some (true, S1)) _ = _
  rw [bnd_some, if_pos rfl, hb]
  rfl
theorem wh_stop {c : Xp} {b : Sms} {S1 : Store} (hc : evX G c L S = some (.d (.bl false), S1)) : evS G (.wh c b) L S = some ((.nx, L), S1) := by
  rw [evS_wh, whL_eq, hc]
  rfl
@[simp] theorem evS_never : evS G .never L S = none := rfl
@[simp] theorem compL_nil {turn : D → Store → Option (Option D × Store)} : compL turn [] S = some ([], S) := rfl
@[simp] theorem compL_cons {turn : D → Store → Option (Option D × Store)} {d : D} {ds : List D} : compL turn (d :: ds) S = bnd (turn d S) fun r S1 => bnd (compL turn ds S1) fun rs S2 => some ((match r with | some x => x :: rs | none => rs), S2) := rfl
@[simp] theorem wipeL_nil : wipeL L [] = L := rfl
@[simp] theorem wipeL_cons {v : Nat} {vs : List Nat} : wipeL L (v :: vs) = (wipeL L vs).set v .un := rfl
theorem runF_eq {n : Nat} {b : Sms} {ds : List D} : runF G n b ds S = bnd (evSs G b (ds.map .dat ++ List.replicate (n - ds.length) .un) S) fun r S1 => match r.1 with
    | .ret d => some (d, S1)
    | .nx => some (.non, S1)
    | _ => none := rfl
@[simp] theorem binV_add {i j : Int} : binV .add (.d (.int i)) (.d (.int j)) = some (.int (i + j)) := rfl
@[simp] theorem binV_sub {i j : Int} : binV .sub (.d (.int i)) (.d (.int j)) = some (.int (i - j)) := rfl
@[simp] theorem binV_mul {i j : Int} : binV .mul (.d (.int i)) (.d (.int j)) = if okMul i j then some (.int (i * j)) else none := rfl
@[simp] theorem binV_fdiv {i j : Int} : binV .fdiv (.d (.int i)) (.d (.int j)) = if okDiv j then some (.int (i.fdiv j)) else none := rfl
@[simp] theorem binV_mod {i j : Int} : binV .mod (.d (.int i)) (.d (.int j)) = if j ≠ 0 then some (.int (i.fmod j)) else none := rfl
@[simp] theorem binV_pow {i j : Int} : binV .pow (.d (.int i)) (.d (.int j)) = if okPow i j then some (.int (i ^ j.toNat)) else none := rfl
@[simp] theorem binV_subB {i j : Bool} : binV .sub (.d (.bl i)) (.d (.bl j)) = some (.int ((if i then 1 else 0) - (if j then 1 else 0))) := rfl
@[simp] theorem negV_int {i : Int} : negV (.d (.int i)) = some (.int (-i)) := rfl
@[simp] theorem cmpV_lt {i j : Int} : cmpV .lt (.d (.int i)) (.d (.int j)) = some (decide (i < j)) := rfl
@[simp] theorem cmpV_le {i j : Int} : cmpV .le (.d (.int i)) (.d (.int j)) = some (decide (i ≤ j)) := rfl
@[simp] theorem cmpV_gt {i j : Int} : cmpV .gt (.d (.int i)) (.d (.int j)) = some (decide (j < i)) := rfl
@[simp] theorem cmpV_ge {i j : Int} : cmpV .ge (.d (.int i)) (.d (.int j)) = some (decide (j ≤ i)) := rfl
@[simp] theorem eqOk_int {i : Int} : eqOk (.int i) = true := rfl

@[simp] theorem cmpV_eqI {i j : Int} : cmpV .eq (.d (.int i)) (.d (.int j)) = some (decide (i = j)) := by
  show (if (eqOk (.int i) && eqOk (.int j)) then some (eqD (.int i) (.int j)) else none) = _
  rw [eqOk_int, eqOk_int]; rfl
@[simp] theorem cmpV_neI {i j : Int} : cmpV .ne (.d (.int i)) (.d (.int j)) = some (!decide (i = j)) := by
  show (if (eqOk (.int i) && eqOk (.int j)) then some (!eqD (.int i) (.int j)) else none) = _
  rw [eqOk_int, eqOk_int]; rfl
@[simp] theorem cmpV_eqS {i j : Str} : cmpV .eq (.d (.str i)) (.d (.str j)) = some (decide (i = j)) := rfl
@[simp] theorem cmpV_neS {i j : Str} : cmpV .ne (.d (.str i)) (.d (.str j)) = some (!decide (i = j)) := rfl
@[simp] theorem unV_d {d : D} : unV (.d d) = some d := rfl
@[simp] theorem unVs_nil : unVs [] = some [] := rfl
@[simp] theorem unVs_cons {d : D} {r : List Va} : unVs (.d d :: r) = match unVs r with | some l => some (d :: l) | none => none := rfl
@[simp] theorem asB_bl {b : Bool} : asB (.d (.bl b)) = some b := rfl
@[simp] theorem ixV_tup {xs : List D} {i : Int} {S : Store} : ixV (.d (.tup xs)) (.d (.int i)) S = atI xs i := rfl
@[simp] theorem ixV_lst {xs : List D} {i : Int} {S : Store} : ixV (.d (.lst xs)) (.d (.int i)) S = atI xs i := rfl
@[simp] theorem ixV_cell {n : Nat} {i : Int} {S : Store} : ixV (.d (.cell n)) (.d (.int i)) S = match S[n]? with | some xs => atI xs i | none => none := rfl
@[simp] theorem biV_abs {i : Int} : biV .abs [.d (.int i)] = some (.int (if i < 0 then -i else i)) := rfl
@[simp] theorem biV_gcd {i j : Int} : biV .gcd [.d (.int i), .d (.int j)] = some (.int ((Nat.gcd i.natAbs j.natAbs : Nat) : Int)) := rfl
@[simp] theorem biV_min {i j : Int} : biV .min2 [.d (.int i), .d (.int j)] = some (.int (if j < i then j else i)) := rfl
@[simp] theorem biV_max {i j : Int} : biV .max2 [.d (.int i), .d (.int j)] = some (.int (if j > i then j else i)) := rfl
@[simp] theorem biV_int {i : Int} : biV .int1 [.d (.int i)] = some (.int i) := rfl
@[simp] theorem biV_lenT {xs : List D} : biV .len [.d (.tup xs)] = some (.int xs.length) := rfl
@[simp] theorem biV_lenL {xs : List D} : biV .len [.d (.lst xs)] = some (.int xs.length) := rfl
@[simp] theorem biV_divmod {i j : Int} : biV .divmod [.d (.int i), .d (.int j)] = if 0 < j ∧ j < 1073741824 then some (.tup [.int (i / j), .int (i % j)]) else none := rfl
@[simp] theorem setAll_nil {ds : List D} : setAll [] ds L = L := by cases ds <;> rfl
@[simp] theorem setAll_cons {i : Nat} {is : List Nat} {d : D} {ds : List D} : setAll (i :: is) (d :: ds) L = setAll is ds (L.set i (.dat d)) := rfl
@[simp] theorem atI_2_0 {α : Type} {a b : α} : atI [a, b] 0 = some a := rfl
@[simp] theorem atI_2_1 {α : Type} {a b : α} : atI [a, b] 1 = some b := rfl
@[simp] theorem atI_3_0 {α : Type} {a b c : α} : atI [a, b, c] 0 = some a := rfl
@[simp] theorem atI_3_1 {α : Type} {a b c : α} : atI [a, b, c] 1 = some b := rfl
@[simp] theorem atI_3_2 {α : Type} {a b c : α} : atI [a, b, c] 2 = some c := rfl
@[simp] theorem mk_n {name : Str} {n m : Nat} {ks : List Str} {dd : List D} {ix : List Nat} {b : Sms} : (mkEnt name n ks dd ix G m b).n = n := rfl
@[simp] theorem mk_ks {name : Str} {n m : Nat} {ks : List Str} {dd : List D} {ix : List Nat} {b : Sms} : (mkEnt name n ks dd ix G m b).ks = ks := rfl
@[simp] theorem mk_sem {name : Str} {n m : Nat} {ks : List Str} {dd : List D} {ix : List Nat} {b : Sms} {ds : List D} : (mkEnt name n ks dd ix G m b).sem ds S = runF G m b (pick ix (ds.take n ++ dd ++ ds.drop n)) S := rfl
end
end PD

set_option Elab.async false
set_option linter.all false
set_option maxRecDepth 100000
set_option maxHeartbeats 1000000
/-! PD, part s: sizes, fractions. -/
namespace PD
open PySem PySem.Spec PyProof.Rows L2

/-- of at most k bits -/
def sz (k : Nat) (i : Int) : Prop := i.natAbs < 2 ^ k
theorem sz.log {k : Nat} {i : Int} (h : sz k i) : i.natAbs.log2 ≤ k := by
  by_cases z : i.natAbs = 0
  · rw [z, show Nat.log2 0 = 0 by decide]; exact Nat.zero_le _
  · exact Nat.le_of_lt ((Nat.log2_lt z).mpr h)
theorem sz.mono {k l : Nat} {i : Int} (h : sz k i) (le : k ≤ l) : sz l i := Nat.lt_of_lt_of_le h (Nat.pow_le_pow_right (by decide) le)
theorem sz.mul {k l : Nat} {i j : Int} (h : sz k i) (h' : sz l j) : sz (k + l) (i * j) := by
  unfold sz at *
  rw [Int.natAbs_mul, Nat.pow_add]
  exact Nat.mul_lt_mul'' h h'
theorem sz.add {k : Nat} {i j : Int} (h : sz k i) (h' : sz k j) : sz (k + 1) (i + j) := by
  unfold sz at *
  rw [Nat.pow_succ]
  omega
theorem sz.sub {k : Nat} {i j : Int} (h : sz k i) (h' : sz k j) : sz (k + 1) (i - j) := by
  unfold sz at *
  rw [Nat.pow_succ]
  omega
theorem sz.neg {k : Nat} {i : Int} (h : sz k i) : sz k (-i) := by
  unfold sz at *
  omega
theorem sz.le {k : Nat} {i j : Int} (h : sz k i) (le : j.natAbs ≤ i.natAbs) : sz k j := Nat.lt_of_le_of_lt le h
theorem okMul_sz {k l : Nat} {i j : Int} (h : sz k i) (h' : sz l j) (le : k + l < 4000000) : okMul i j = true := by
  unfold okMul
  have := h.log
  have := h'.log
  exact decide_eq_true (by omega)
theorem okDiv_sz {k : Nat} {j : Int} (h : sz k j) (hj : j ≠ 0) (le : k < 9000) : okDiv j = true := by
  unfold okDiv
  have := h.log
  rw [Bool.and_eq_true]
  exact ⟨decide_eq_true hj, decide_eq_true (by omega)⟩

/-! ### fractions -/
def F (r : Rat) : D := .tup [.int r.num, .int r.den]
def Nm (p : Rat × Rat) : D := .tup [F p.1, F p.2]
/-- numerator and denominator of at most k bits -/
structure Sz (k : Nat) (r : Rat) : Prop where
  n : sz k r.num
  d : sz k (r.den : Int)
theorem Sz.mono {k l : Nat} {r : Rat} (h : Sz k r) (le : k ≤ l) : Sz l r := ⟨h.n.mono le, h.d.mono le⟩
theorem den_pos (r : Rat) : (0 : Int) < r.den := by have := r.den_pos; omega
theorem den_ne (r : Rat) : (r.den : Int) ≠ 0 := by have := r.den_pos; omega
/-- reduced -/
theorem Sz.div {k : Nat} {n m : Int} (hn : sz k n) (hm : sz k m) (h : m ≠ 0) : Sz k (Rat.divInt n m) := by
  refine ⟨?_, ?_⟩
  · rw [Rat.num_divInt]
    refine hn.le ?_
    have e : (m.sign * n / (m.gcd n : Int)).natAbs ≤ (m.sign * n).natAbs := by
      rw [Int.natAbs_ediv_of_dvd]
      · exact Nat.div_le_self _ _
      · exact Int.dvd_mul_of_dvd_right (Int.gcd_dvd_right ..)
    refine Nat.le_trans e ?_
    rw [Int.natAbs_mul, Int.natAbs_sign_of_ne_zero h, Nat.one_mul]
    exact Nat.le_refl _
  · rw [Rat.den_divInt, if_neg h]
    refine hm.le ?_
    rw [Int.natAbs_natCast]
    exact Nat.div_le_self _ _
theorem red_num {n m : Int} (h : m ≠ 0) : (n.fdiv (if 0 < m then ((Nat.gcd n.natAbs m.natAbs : Nat) : Int) else -((Nat.gcd n.natAbs m.natAbs : Nat) : Int))) = (Rat.divInt n m).num := by
  rw [Rat.num_divInt]
  have eg : (m.gcd n) = Nat.gcd n.natAbs m.natAbs := by show Nat.gcd m.natAbs n.natAbs = _; exact Nat.gcd_comm _ _
  rw [eg]
  split
  · rename_i hp
    rw [Int.sign_eq_one_of_pos hp, Int.one_mul, Int.fdiv_eq_ediv_of_nonneg _ (by omega)]
  · have hn : m < 0 := by omega
    rw [Int.sign_eq_neg_one_of_neg hn, Int.neg_one_mul, ← Int.neg_neg n, Int.neg_fdiv_neg, Int.fdiv_eq_ediv_of_nonneg _ (by omega), Int.neg_neg]
theorem red_den {n m : Int} (h : m ≠ 0) : (m.fdiv (if 0 < m then ((Nat.gcd n.natAbs m.natAbs : Nat) : Int) else -((Nat.gcd n.natAbs m.natAbs : Nat) : Int))) = ((Rat.divInt n m).den : Int) := by
  rw [Rat.den_divInt, if_neg h]
  have eg : (m.gcd n) = Nat.gcd n.natAbs m.natAbs := by show Nat.gcd m.natAbs n.natAbs = _; exact Nat.gcd_comm _ _
  rw [eg, Int.natCast_ediv]
  split
  · rename_i hp
    rw [Int.fdiv_eq_ediv_of_nonneg _ (by omega), Int.natAbs_of_nonneg (by omega)]
  · have hn : m < 0 := by omega
    have e : (m.natAbs : Int) = -m := by omega
    rw [e, ← Int.neg_neg m, Int.neg_fdiv_neg, Int.fdiv_eq_ediv_of_nonneg _ (by omega), Int.natAbs_neg, Int.neg_neg]
theorem red_F {n m : Int} (h : m ≠ 0) : D.tup [.int (n.fdiv (if 0 < m then ((Nat.gcd n.natAbs m.natAbs : Nat) : Int) else -((Nat.gcd n.natAbs m.natAbs : Nat) : Int))), .int (m.fdiv (if 0 < m then ((Nat.gcd n.natAbs m.natAbs : Nat) : Int) else -((Nat.gcd n.natAbs m.natAbs : Nat) : Int)))] = F (Rat.divInt n m) := by
  rw [red_num h, red_den h]; rfl
theorem gcd_sz {n m : Int} (h : m ≠ 0) : (Nat.gcd n.natAbs m.natAbs) ≤ m.natAbs ∧ 0 < Nat.gcd n.natAbs m.natAbs :=
  ⟨Nat.le_of_dvd (by omega) (Nat.gcd_dvd_right _ _), Nat.gcd_pos_of_pos_right _ (by omega)⟩
end PD

set_option Elab.async false
set_option linter.all false
set_option maxRecDepth 100000
set_option maxHeartbeats 1000000
/-! PD, part t: what may be shown. -/
namespace PD
open PySem PySem.Spec PyProof.Rows L2
mutual
def D.okSh : D → Prop
  | .non => True | .bl _ => True | .int i => i.natAbs.log2 < 1920 | .str x => x.cps.size ≤ 100 ∧ (PyData.str x).showable = true ∧ (x.cps.toList.all fun c => decide (c < 16 ^ 8)) = true
  | .ty _ => False | .cell _ => False
  | .tup xs => D.okShs xs | .lst xs => D.okShs xs
def D.okShs : List D → Prop
  | [] => True | x :: xs => x.okSh ∧ D.okShs xs
end
mutual
def D.cnt : D → Nat
  | .tup xs => D.cnts xs + 1 | .lst xs => D.cnts xs + 1 | _ => 1
def D.cnts : List D → Nat
  | [] => 0 | x :: xs => x.cnt + D.cnts xs
end
mutual
theorem okSh_pure : ∀ {d : D}, d.okSh → d.pure = true
  | .non, _ => rfl
  | .bl _, _ => rfl
  | .int _, _ => rfl
  | .str _, _ => rfl
  | .ty _, h => h.elim
  | .cell _, h => h.elim
  | .tup xs, h => okShs_pure (xs := xs) h
  | .lst xs, h => okShs_pure (xs := xs) h
theorem okShs_pure : ∀ {xs : List D}, D.okShs xs → D.pures xs = true
  | [], _ => rfl
  | x :: xs, h => by
    show (x.pure && D.pures xs) = true
    rw [okSh_pure h.1, okShs_pure h.2]; rfl
end
mutual
theorem okSh_showable : ∀ {d : D}, d.okSh → d.py.showable = true
  | .non, _ => by simp only [D.py, PyData.showable]
  | .bl _, _ => by simp only [D.py, PyData.showable]
  | .int i, h => by
    have h : i.natAbs.log2 < 1920 := h
    simp only [D.py, PyData.showable, decide_eq_true h]
  | .str _, h => h.2.1
  | .ty _, h => h.elim
  | .cell _, h => h.elim
  | .tup xs, h => by
    simp only [D.py, PyData.showable]
    exact okShs_showable (xs := xs) h
  | .lst xs, h => by
    simp only [D.py, PyData.showable]
    exact okShs_showable (xs := xs) h
theorem okShs_showable : ∀ {xs : List D}, D.okShs xs → PyData.showableAll (D.pys xs) = true
  | [], _ => by simp only [D.pys, PyData.showableAll]
  | x :: xs, h => by
    simp only [D.pys, PyData.showableAll]
    rw [okSh_showable h.1, okShs_showable h.2]; rfl
end
mutual
theorem okSh_len : ∀ {d : D}, d.okSh → d.py.shown.length + 2 ≤ 1995 * d.cnt
  | .non, _ => by decide +kernel
  | .bl true, _ => by decide +kernel
  | .bl false, _ => by decide +kernel
  | .int i, h => by
    have h : i.natAbs.log2 < 1920 := h
    have := int_text_len_1921 h
    simp only [D.py, PyData.shown, D.cnt]
    omega
  | .str x, h => by
    have a := PyData.shown_le 8 (by decide) (.str x) (by simp only [PyData.leavesShort]; exact h.2.2)
    have b := h.1
    simp only [PyData.weight] at a
    simp only [D.py, D.cnt]
    omega
  | .ty _, h => h.elim
  | .cell _, h => h.elim
  | .tup xs, h => by
    have h1 := okShs_len (xs := xs) h
    have h2 := tupleText_len_le (PyData.shownAll (D.pys xs))
    simp only [D.py, PyData.shown, D.cnt]
    omega
  | .lst xs, h => by
    have h1 := okShs_len (xs := xs) h
    have h2 := listText_len_le (PyData.shownAll (D.pys xs))
    simp only [D.py, PyData.shown, D.cnt]
    omega
theorem okShs_len : ∀ {xs : List D}, D.okShs xs → ((PyData.shownAll (D.pys xs)).map (·.length)).sum + 2 * (PyData.shownAll (D.pys xs)).length ≤ 1995 * D.cnts xs
  | [], _ => by simp only [D.pys, PyData.shownAll, D.cnts]; decide
  | x :: xs, h => by
    have h1 := okSh_len h.1
    have h2 := okShs_len h.2
    have h3 : 1 ≤ x.cnt := by cases x <;> simp [D.cnt]
    simp only [D.pys, PyData.shownAll, D.cnts, List.map_cons, List.sum_cons, List.length_cons]
    omega
end
/-- may be shown -/
theorem shOk_sz {d : D} (h : d.okSh) (hd : d.py.depth ≤ 64) (hc : d.cnt ≤ 8000) : shOk d = true := by
  unfold shOk
  have h1 := okSh_len h
  simp only [Bool.and_eq_true, decide_eq_true_eq]
  exact ⟨⟨⟨okSh_pure h, okSh_showable h⟩, hd⟩, by omega⟩
theorem okSh_F {r : Rat} (h : Sz 1900 r) : (F r).okSh := by
  have a := h.n.log
  have b := h.d.log
  exact ⟨by show r.num.natAbs.log2 < 1920; omega, by show (r.den : Int).natAbs.log2 < 1920; omega, trivial⟩
theorem okSh_Nm {p : Rat × Rat} (h1 : Sz 1900 p.1) (h2 : Sz 1900 p.2) : (Nm p).okSh := ⟨okSh_F h1, okSh_F h2, trivial⟩
end PD

set_option Elab.async false
set_option linter.all false
set_option maxRecDepth 100000
set_option maxHeartbeats 1000000
/-! PD, part u: numbers by a common number below (sizes that grow slowly). -/
namespace PD
open PySem PySem.Spec PyProof.Rows L2
/-- M times the number is whole in both parts, of size up to B -/
def Gd (M B : Nat) (p : Rat × Rat) : Prop := 0 < M ∧ ∃ a b : Int, p = (Rat.divInt a M, Rat.divInt b M) ∧ a.natAbs ≤ B ∧ b.natAbs ≤ B
theorem Gd.sz {M B k : Nat} {p : Rat × Rat} (h : Gd M B p) (hM : M < 2 ^ k) (hB : B < 2 ^ k) : Sz k p.1 ∧ Sz k p.2 := by
  obtain ⟨h0, a, b, rfl, ha, hb⟩ := h
  have m : PD.sz k (M : Int) := by unfold PD.sz; rw [Int.natAbs_natCast]; exact hM
  exact ⟨Sz.div (Nat.lt_of_le_of_lt ha hB) m (by omega), Sz.div (Nat.lt_of_le_of_lt hb hB) m (by omega)⟩
theorem Gd.mono {M B B' : Nat} {p : Rat × Rat} (h : Gd M B p) (le : B ≤ B') : Gd M B' p := by
  obtain ⟨h0, a, b, h1, ha, hb⟩ := h
  exact ⟨h0, a, b, h1, Nat.le_trans ha le, Nat.le_trans hb le⟩
theorem Gd.up {M B : Nat} {p : Rat × Rat} (c : Nat) (hc : 0 < c) (h : Gd M B p) : Gd (M * c) (B * c) p := by
  obtain ⟨h0, a, b, rfl, ha, hb⟩ := h
  have c0 : (c : Int) ≠ 0 := by omega
  have e : ((M * c : Nat) : Int) = (M : Int) * c := by simp
  refine ⟨Nat.mul_pos h0 hc, a * c, b * c, ?_, ?_, ?_⟩
  · rw [e, Rat.divInt_mul_right c0, Rat.divInt_mul_right c0]
  · rw [Int.natAbs_mul, Int.natAbs_natCast]; exact Nat.mul_le_mul_right _ ha
  · rw [Int.natAbs_mul, Int.natAbs_natCast]; exact Nat.mul_le_mul_right _ hb
theorem same_add (a b m : Int) : Rat.divInt a m + Rat.divInt b m = Rat.divInt (a + b) m := by
  rw [Rat.divInt_eq_div, Rat.divInt_eq_div, Rat.divInt_eq_div, Rat.intCast_add]
  grind
theorem same_sub (a b m : Int) : Rat.divInt a m - Rat.divInt b m = Rat.divInt (a - b) m := by
  rw [Rat.divInt_eq_div, Rat.divInt_eq_div, Rat.divInt_eq_div, Rat.intCast_sub]
  grind
theorem Gd.add {M B B' : Nat} {p q : Rat × Rat} (h : Gd M B p) (h' : Gd M B' q) : Gd M (B + B') (p.1 + q.1, p.2 + q.2) := by
  obtain ⟨h0, a, b, rfl, ha, hb⟩ := h
  obtain ⟨_, a', b', rfl, ha', hb'⟩ := h'
  refine ⟨h0, a + a', b + b', ?_, by omega, by omega⟩
  rw [← same_add, ← same_add]
theorem Gd.mul {M N B B' : Nat} {p q : Rat × Rat} (h : Gd M B p) (h' : Gd N B' q) : Gd (M * N) (2 * (B * B')) (p.1 * q.1 - p.2 * q.2, p.1 * q.2 + p.2 * q.1) := by
  obtain ⟨h0, a, b, rfl, ha, hb⟩ := h
  obtain ⟨h1, a', b', rfl, ha', hb'⟩ := h'
  have e : ((M * N : Nat) : Int) = (M : Int) * N := by simp
  have f : ∀ x y : Int, x.natAbs ≤ B → y.natAbs ≤ B' → (x * y).natAbs ≤ B * B' := fun x y hx hy => by
    rw [Int.natAbs_mul]; exact Nat.mul_le_mul hx hy
  have f1 := f a a' ha ha'
  have f2 := f b b' hb hb'
  have f3 := f a b' ha hb'
  have f4 := f b a' hb ha'
  refine ⟨Nat.mul_pos h0 h1, a * a' - b * b', a * b' + b * a', ?_, by omega, by omega⟩
  rw [e, ← same_sub, ← same_add]
  simp only [Rat.divInt_mul_divInt]
end PD

set_option Elab.async false
set_option linter.all false
set_option maxRecDepth 100000
set_option maxHeartbeats 1000000
/-! NB: numbers a + b i over d as reduced triples; bits. Pure mathematics, no program. -/
namespace PD
open PySem PySem.Spec PyProof.Rows L2
theorem rne {B : Int} (h : B ≠ 0) : (B : Rat) ≠ 0 := by
  intro e
  exact h (by exact_mod_cast e)
theorem divInt_eq {A B : Int} {r : Rat} (hB : B ≠ 0) (h : (A : Rat) = r * (B : Rat)) : Rat.divInt A B = r := by
  have := rne hB
  rw [Rat.divInt_eq_div, h]
  grind
theorem nd (x : Rat) : (x.num : Rat) = x * ((x.den : Int) : Rat) := by
  have h := Rat.num_divInt_den x
  rw [Rat.divInt_eq_div] at h
  have := rne (den_ne x)
  grind
theorem di {a d : Int} (h : d ≠ 0) : (a : Rat) = Rat.divInt a d * (d : Rat) := by
  have := rne h
  rw [Rat.divInt_eq_div]
  grind
theorem num_ne {x : Rat} (h : x ≠ 0) : x.num ≠ 0 := fun e => h (Rat.num_eq_zero.mp e)
theorem add_eq (x y : Rat) : Rat.divInt (x.num * y.den + y.num * x.den) (x.den * y.den) = x + y := by
  refine divInt_eq (Int.mul_ne_zero (den_ne x) (den_ne y)) ?_
  simp only [Rat.intCast_mul, Rat.intCast_add, nd x, nd y]
  grind
theorem sub_eq (x y : Rat) : Rat.divInt (x.num * y.den - y.num * x.den) (x.den * y.den) = x - y := by
  refine divInt_eq (Int.mul_ne_zero (den_ne x) (den_ne y)) ?_
  simp only [Rat.intCast_mul, Rat.intCast_sub, nd x, nd y]
  grind
theorem mul_eq (x y : Rat) : Rat.divInt (x.num * y.num) (x.den * y.den) = x * y := by
  refine divInt_eq (Int.mul_ne_zero (den_ne x) (den_ne y)) ?_
  simp only [Rat.intCast_mul, nd x, nd y]
  grind
theorem over_eq (x y : Rat) (hy : y ≠ 0) : Rat.divInt (x.num * y.den) (x.den * y.num) = x / y := by
  refine divInt_eq (Int.mul_ne_zero (den_ne x) (num_ne hy)) ?_
  simp only [Rat.intCast_mul, nd x, nd y]
  grind
abbrev Cq := Rat × Rat
def mulN (p q : Cq) : Cq := (p.1 * q.1 - p.2 * q.2, p.1 * q.2 + p.2 * q.1)
def conN (p : Cq) : Cq := (p.1, -p.2)
def sizN (p : Cq) : Rat := p.1 * p.1 + p.2 * p.2
def addN (p q : Cq) : Cq := (p.1 + q.1, p.2 + q.2)
def subN (p q : Cq) : Cq := (p.1 - q.1, p.2 - q.2)
def negN (p : Cq) : Cq := (-p.1, -p.2)
def sclN (p : Cq) (r : Rat) : Cq := (p.1 * r, p.2 * r)
def ovrN (p q : Cq) : Cq := sclN (mulN p (conN q)) (1 / sizN q)
def c0 : Cq := (0, 0)
def c1 : Cq := (1, 0)
/-- both parts of at most k bits -/
def Szn (k : Nat) (p : Cq) : Prop := Sz k p.1 ∧ Sz k p.2
theorem Szn.mono {k l : Nat} {p : Cq} (h : Szn k p) (le : k ≤ l) : Szn l p := ⟨h.1.mono le, h.2.mono le⟩
/-- (a + b i) / d -/
def q3 (a b d : Int) : Cq := (Rat.divInt a d, Rat.divInt b d)
theorem q3_inj {a b d a' b' d' : Int} (h : d ≠ 0) (h' : d' ≠ 0) (e : q3 a b d = q3 a' b' d') : a * d' = a' * d ∧ b * d' = b' * d := by
  unfold q3 at e
  simp only [Prod.mk.injEq] at e
  exact ⟨(Rat.divInt_eq_divInt_iff h h').mp e.1, (Rat.divInt_eq_divInt_iff h h').mp e.2⟩
/-- the reduced triple -/
def red3 (a b d : Int) : Int × Int × Int :=
  let g : Int := ((Nat.gcd (Nat.gcd a.natAbs b.natAbs) d.natAbs : Nat) : Int)
  (a / g, b / g, d / g)
theorem red3_spec {a b d : Int} (h : 0 < d) : ∃ g : Int, 0 < g ∧ (red3 a b d).1 * g = a ∧ (red3 a b d).2.1 * g = b ∧ (red3 a b d).2.2 * g = d ∧ 0 < (red3 a b d).2.2 ∧
    Nat.gcd (Nat.gcd (red3 a b d).1.natAbs (red3 a b d).2.1.natAbs) (red3 a b d).2.2.natAbs = 1 ∧ g = ((Nat.gcd (Nat.gcd a.natAbs b.natAbs) d.natAbs : Nat) : Int) := by
  obtain ⟨g, hg⟩ : ∃ g : Nat, Nat.gcd (Nat.gcd a.natAbs b.natAbs) d.natAbs = g := ⟨_, rfl⟩
  have g0 : 0 < g := by rw [← hg]; exact Nat.gcd_pos_of_pos_right _ (by omega)
  have gd : g ∣ d.natAbs := by rw [← hg]; exact Nat.gcd_dvd_right _ _
  have ga : g ∣ a.natAbs := by rw [← hg]; exact Nat.dvd_trans (Nat.gcd_dvd_left _ _) (Nat.gcd_dvd_left _ _)
  have gb : g ∣ b.natAbs := by rw [← hg]; exact Nat.dvd_trans (Nat.gcd_dvd_left _ _) (Nat.gcd_dvd_right _ _)
  obtain ⟨a', ea⟩ : (g : Int) ∣ a := Int.natAbs_dvd_natAbs.mp (by simpa using ga)
  obtain ⟨b', eb⟩ : (g : Int) ∣ b := Int.natAbs_dvd_natAbs.mp (by simpa using gb)
  obtain ⟨d', ed⟩ : (g : Int) ∣ d := Int.natAbs_dvd_natAbs.mp (by simpa using gd)
  have gz : (g : Int) ≠ 0 := by omega
  have r1 : (red3 a b d).1 = a' := by
    show a / ((Nat.gcd (Nat.gcd a.natAbs b.natAbs) d.natAbs : Nat) : Int) = a'
    rw [hg, ea, Int.mul_ediv_cancel_left _ gz]
  have r2 : (red3 a b d).2.1 = b' := by
    show b / ((Nat.gcd (Nat.gcd a.natAbs b.natAbs) d.natAbs : Nat) : Int) = b'
    rw [hg, eb, Int.mul_ediv_cancel_left _ gz]
  have r3 : (red3 a b d).2.2 = d' := by
    show d / ((Nat.gcd (Nat.gcd a.natAbs b.natAbs) d.natAbs : Nat) : Int) = d'
    rw [hg, ed, Int.mul_ediv_cancel_left _ gz]
  rw [r1, r2, r3, hg]
  refine ⟨g, by omega, by rw [ea, Int.mul_comm], by rw [eb, Int.mul_comm], by rw [ed, Int.mul_comm], ?_, ?_, rfl⟩
  · by_cases q : 0 < d'
    · exact q
    · have := Int.mul_le_mul_of_nonneg_left (show d' ≤ 0 by omega) (show (0 : Int) ≤ g by omega)
      rw [Int.mul_zero, ← ed] at this
      omega
  · rw [ea, eb, ed] at hg
    simp only [Int.natAbs_mul, Int.natAbs_natCast] at hg
    rw [Nat.gcd_mul_left, Nat.gcd_mul_left] at hg
    have : g * Nat.gcd (Nat.gcd a'.natAbs b'.natAbs) d'.natAbs = g * 1 := by omega
    exact Nat.eq_of_mul_eq_mul_left g0 this
theorem q3_red3 {a b d : Int} (h : 0 < d) : q3 (red3 a b d).1 (red3 a b d).2.1 (red3 a b d).2.2 = q3 a b d := by
  obtain ⟨g, g0, e1, e2, e3, _, _⟩ := red3_spec (a := a) (b := b) h
  have gz : g ≠ 0 := by omega
  generalize (red3 a b d) = t at *
  subst e1 e2 e3
  unfold q3
  rw [Rat.divInt_mul_right gz, Rat.divInt_mul_right gz]
theorem gcd3_dvd {a b d n d' : Nat} (h1 : d' ∣ a * n) (h2 : d' ∣ b * n) (h3 : d' ∣ d * n) (h : Nat.gcd (Nat.gcd a b) d = 1) : d' ∣ n := by
  have e1 := Nat.dvd_gcd (Nat.dvd_gcd h1 h2) h3
  rw [Nat.gcd_mul_right, Nat.gcd_mul_right, h, Nat.one_mul] at e1
  exact e1
theorem red_unique {a b d a' b' d' : Int} (h : 0 < d) (h' : 0 < d') (g : Nat.gcd (Nat.gcd a.natAbs b.natAbs) d.natAbs = 1) (g' : Nat.gcd (Nat.gcd a'.natAbs b'.natAbs) d'.natAbs = 1)
    (e : q3 a b d = q3 a' b' d') : a = a' ∧ b = b' ∧ d = d' := by
  obtain ⟨e1, e2⟩ := q3_inj (by omega) (by omega) e
  have n1 : a.natAbs * d'.natAbs = a'.natAbs * d.natAbs := by rw [← Int.natAbs_mul, ← Int.natAbs_mul, e1]
  have n2 : b.natAbs * d'.natAbs = b'.natAbs * d.natAbs := by rw [← Int.natAbs_mul, ← Int.natAbs_mul, e2]
  have k1 : d.natAbs ∣ d'.natAbs := gcd3_dvd (n := d'.natAbs) ⟨a'.natAbs, by rw [n1, Nat.mul_comm]⟩ ⟨b'.natAbs, by rw [n2, Nat.mul_comm]⟩ ⟨d'.natAbs, rfl⟩ g
  have k2 : d'.natAbs ∣ d.natAbs := gcd3_dvd (n := d.natAbs) ⟨a.natAbs, by rw [← n1, Nat.mul_comm]⟩ ⟨b.natAbs, by rw [← n2, Nat.mul_comm]⟩ ⟨d.natAbs, rfl⟩ g'
  have k3 := Nat.dvd_antisymm k1 k2
  have ed : d = d' := by omega
  subst ed
  exact ⟨Int.eq_of_mul_eq_mul_right (by omega) e1, Int.eq_of_mul_eq_mul_right (by omega) e2, rfl⟩
/-- the triple of a number -/
def t3 (p : Cq) : Int × Int × Int := red3 (p.1.num * p.2.den) (p.2.num * p.1.den) (p.1.den * p.2.den)
def T (p : Cq) : D := .tup [.int (t3 p).1, .int (t3 p).2.1, .int (t3 p).2.2]
theorem dd_pos (p : Cq) : (0 : Int) < p.1.den * p.2.den := Int.mul_pos (den_pos _) (den_pos _)
theorem q3_self (p : Cq) : q3 (p.1.num * p.2.den) (p.2.num * p.1.den) (p.1.den * p.2.den) = p := by
  unfold q3
  rw [Rat.divInt_mul_right (den_ne p.2), Int.mul_comm (p.1.den : Int), Rat.divInt_mul_right (den_ne p.1), Rat.num_divInt_den, Rat.num_divInt_den]
theorem t3_q3 (p : Cq) : q3 (t3 p).1 (t3 p).2.1 (t3 p).2.2 = p := by
  unfold t3
  rw [q3_red3 (dd_pos p), q3_self]
theorem t3_pos (p : Cq) : 0 < (t3 p).2.2 := by
  obtain ⟨g, _, _, _, _, h, _⟩ := red3_spec (a := p.1.num * p.2.den) (b := p.2.num * p.1.den) (dd_pos p)
  exact h
theorem t3_gcd (p : Cq) : Nat.gcd (Nat.gcd (t3 p).1.natAbs (t3 p).2.1.natAbs) (t3 p).2.2.natAbs = 1 := by
  obtain ⟨g, _, _, _, _, _, h, _⟩ := red3_spec (a := p.1.num * p.2.den) (b := p.2.num * p.1.den) (dd_pos p)
  exact h
theorem t3_of {a b d : Int} (h : 0 < d) (g : Nat.gcd (Nat.gcd a.natAbs b.natAbs) d.natAbs = 1) : t3 (q3 a b d) = (a, b, d) := by
  obtain ⟨e1, e2, e3⟩ := red_unique (t3_pos (q3 a b d)) h (t3_gcd _) g (t3_q3 _)
  exact Prod.ext e1 (Prod.ext e2 e3)
theorem t3_red {a b d : Int} (h : 0 < d) : t3 (q3 a b d) = red3 a b d := by
  obtain ⟨g, _, _, _, _, h1, h2, _⟩ := red3_spec (a := a) (b := b) h
  have := t3_of h1 h2
  rw [q3_red3 h] at this
  exact this
theorem t3_inj {p q : Cq} (h : t3 p = t3 q) : p = q := by rw [← t3_q3 p, ← t3_q3 q, h]
/-- at most k bits, the parts over one number -/
def hb (k : Nat) (p : Cq) : Prop := sz k (t3 p).1 ∧ sz k (t3 p).2.1 ∧ sz k (t3 p).2.2
theorem hb.mono {k l : Nat} {p : Cq} (h : hb k p) (le : k ≤ l) : hb l p := ⟨h.1.mono le, h.2.1.mono le, h.2.2.mono le⟩
theorem hb_q3 {k : Nat} {a b d : Int} (h : 0 < d) (ha : sz k a) (hb' : sz k b) (hd : sz k d) : hb k (q3 a b d) := by
  obtain ⟨g, g0, e1, e2, e3, _, _, _⟩ := red3_spec (a := a) (b := b) h
  unfold hb
  rw [t3_red h]
  have le : ∀ z : Int, z.natAbs ≤ (z * g).natAbs := fun z => by
    rw [Int.natAbs_mul]
    exact Nat.le_mul_of_pos_right _ (by omega)
  generalize (red3 a b d) = t at *
  subst e1 e2 e3
  exact ⟨ha.le (le _), hb'.le (le _), hd.le (le _)⟩
theorem hb_q3' {k : Nat} {a b d : Int} (h : d ≠ 0) (ha : sz k a) (hb' : sz k b) (hd : sz k d) : hb k (q3 a b d) := by
  by_cases hp : 0 < d
  · exact hb_q3 hp ha hb' hd
  · have e : q3 a b d = q3 (-a) (-b) (-d) := by unfold q3; rw [Rat.neg_divInt_neg, Rat.neg_divInt_neg]
    rw [e]
    exact hb_q3 (by omega) ha.neg hb'.neg hd.neg
theorem hb.szn {k : Nat} {p : Cq} (h : hb k p) : Szn k p := by
  rw [← t3_q3 p]
  exact ⟨Sz.div h.1 h.2.2 (by have := t3_pos p; omega), Sz.div h.2.1 h.2.2 (by have := t3_pos p; omega)⟩
section
variable {a b d a' b' d' : Int}
theorem q3_mul (h : d ≠ 0) (h' : d' ≠ 0) : q3 (a * a' - b * b') (a * b' + b * a') (d * d') = mulN (q3 a b d) (q3 a' b' d') := by
  have k1 := rne h
  have k2 := rne h'
  simp only [q3, mulN, Rat.divInt_eq_div, Rat.intCast_mul, Rat.intCast_add, Rat.intCast_sub, Prod.mk.injEq]
  constructor <;> grind
theorem q3_add (h : d ≠ 0) (h' : d' ≠ 0) : q3 (a * d' + a' * d) (b * d' + b' * d) (d * d') = addN (q3 a b d) (q3 a' b' d') := by
  have k1 := rne h
  have k2 := rne h'
  simp only [q3, addN, Rat.divInt_eq_div, Rat.intCast_mul, Rat.intCast_add, Prod.mk.injEq]
  constructor <;> grind
theorem q3_sub (h : d ≠ 0) (h' : d' ≠ 0) : q3 (a * d' - a' * d) (b * d' - b' * d) (d * d') = subN (q3 a b d) (q3 a' b' d') := by
  have k1 := rne h
  have k2 := rne h'
  simp only [q3, subN, Rat.divInt_eq_div, Rat.intCast_mul, Rat.intCast_sub, Prod.mk.injEq]
  constructor <;> grind
theorem q3_con : q3 a (-b) d = conN (q3 a b d) := by
  simp only [q3, conN, Rat.divInt_eq_div, Rat.intCast_neg, Prod.mk.injEq, true_and]
  grind
theorem q3_neg : q3 (-a) (-b) d = negN (q3 a b d) := by
  simp only [q3, negN, Rat.divInt_eq_div, Rat.intCast_neg, Prod.mk.injEq]
  constructor <;> grind
theorem q3_siz (h : d ≠ 0) : Rat.divInt (a * a + b * b) (d * d) = sizN (q3 a b d) := by
  have k1 := rne h
  simp only [q3, sizN, Rat.divInt_eq_div, Rat.intCast_mul, Rat.intCast_add]
  grind
theorem q3_ovr (h : d ≠ 0) (h' : d' ≠ 0) (hn : a' * a' + b' * b' ≠ 0) : q3 ((a * a' + b * b') * d') ((b * a' - a * b') * d') (d * (a' * a' + b' * b')) = ovrN (q3 a b d) (q3 a' b' d') := by
  have k1 := rne h
  have k2 := rne h'
  have k3 := rne hn
  have k4 : ((a' : Rat) * a' + (b' : Rat) * b') ≠ 0 := by simpa only [Rat.intCast_add, Rat.intCast_mul] using k3
  simp only [q3, ovrN, sclN, mulN, conN, sizN, Rat.divInt_eq_div, Rat.intCast_mul, Rat.intCast_add, Rat.intCast_sub, Prod.mk.injEq]
  have e1 : (a' : Rat) / d' * (a' / d') + (b' : Rat) / d' * (b' / d') = ((a' : Rat) * a' + (b' : Rat) * b') / ((d' : Rat) * d') := by grind
  rw [e1]
  generalize ((a' : Rat) * a' + (b' : Rat) * b') = n at *
  constructor <;> grind
end
theorem sqq_nn (a : Rat) : 0 ≤ a * a := by
  rcases Rat.nonneg_total a with h | h
  · exact Rat.mul_nonneg h h
  · have := Rat.mul_nonneg h h
    have e : -a * -a = a * a := by grind
    rw [e] at this
    exact this
theorem sizN_nn (q : Cq) : 0 ≤ sizN q := by
  have h1 := sqq_nn q.1
  have h2 := sqq_nn q.2
  unfold sizN
  grind
theorem sizN_zero {q : Cq} (e : sizN q = 0) : q = c0 := by
  unfold sizN at e
  have h1 := sqq_nn q.1
  have h2 := sqq_nn q.2
  have e1 : q.1 * q.1 = 0 := by grind
  have e2 : q.2 * q.2 = 0 := by grind
  have z1 : q.1 = 0 := by rcases Rat.mul_eq_zero.mp e1 with z | z <;> exact z
  have z2 : q.2 = 0 := by rcases Rat.mul_eq_zero.mp e2 with z | z <;> exact z
  show (q.1, q.2) = (0, 0)
  rw [z1, z2]
theorem sizN_ne {q : Cq} (h : q ≠ c0) : sizN q ≠ 0 := fun e => h (sizN_zero e)
theorem sq_pos {a b : Int} (h : a ≠ 0 ∨ b ≠ 0) : 0 < a * a + b * b := by
  have f : ∀ x : Int, 0 ≤ x * x := fun x => by
    rcases Int.le_total 0 x with z | z
    · exact Int.mul_nonneg z z
    · exact Int.mul_nonneg_of_nonpos_of_nonpos z z
  have g : ∀ x : Int, x ≠ 0 → 0 < x * x := fun x z => by
    rcases Int.lt_or_gt_of_ne z with q | q
    · exact Int.mul_pos_of_neg_of_neg q q
    · exact Int.mul_pos q q
  rcases h with h | h
  · have := g a h; have := f b; omega
  · have := g b h; have := f a; omega
theorem q3_zero {a b d : Int} (h : d ≠ 0) : q3 a b d = c0 ↔ a = 0 ∧ b = 0 := by
  unfold q3 c0
  simp only [Prod.mk.injEq]
  constructor
  · rintro ⟨e1, e2⟩
    have f : ∀ x : Int, Rat.divInt x d = 0 → x = 0 := fun x e => by
      have := di (a := x) h
      rw [e, Rat.zero_mul] at this
      exact_mod_cast this
    exact ⟨f a e1, f b e2⟩
  · rintro ⟨rfl, rfl⟩
    exact ⟨Rat.zero_divInt _, Rat.zero_divInt _⟩
theorem t3_ne {p : Cq} (h : p ≠ c0) : (t3 p).1 ≠ 0 ∨ (t3 p).2.1 ≠ 0 := by
  by_cases z : (t3 p).1 = 0
  · right
    intro z2
    exact h (by rw [← t3_q3 p]; exact (q3_zero (by have := t3_pos p; omega)).mpr ⟨z, z2⟩)
  · exact .inl z
theorem t3_zero (p : Cq) : ((t3 p).1 = 0 ∧ (t3 p).2.1 = 0) ↔ p = c0 := by
  constructor
  · intro h
    rw [← t3_q3 p]; exact (q3_zero (by have := t3_pos p; omega)).mpr h
  · intro h
    by_cases z : (t3 p).1 = 0 ∧ (t3 p).2.1 = 0
    · exact z
    · rw [← t3_q3 p] at h
      exact (q3_zero (by have := t3_pos p; omega)).mp h
section
variable {k l : Nat} {p q : Cq}
theorem hb.mul (h : hb k p) (h' : hb l q) : hb (k + l + 1) (mulN p q) := by
  have p1 := t3_pos p
  have p2 := t3_pos q
  have e := q3_mul (a := (t3 p).1) (b := (t3 p).2.1) (a' := (t3 q).1) (b' := (t3 q).2.1) (by omega : (t3 p).2.2 ≠ 0) (by omega : (t3 q).2.2 ≠ 0)
  rw [t3_q3, t3_q3] at e
  rw [← e]
  obtain ⟨x1, x2, x3⟩ := h
  obtain ⟨y1, y2, y3⟩ := h'
  exact hb_q3 (Int.mul_pos p1 p2) ((x1.mul y1).sub (x2.mul y2)) ((x1.mul y2).add (x2.mul y1)) ((x3.mul y3).mono (by omega))
theorem hb.add (h : hb k p) (h' : hb l q) : hb (k + l + 1) (addN p q) := by
  have p1 := t3_pos p
  have p2 := t3_pos q
  have e := q3_add (a := (t3 p).1) (b := (t3 p).2.1) (a' := (t3 q).1) (b' := (t3 q).2.1) (by omega : (t3 p).2.2 ≠ 0) (by omega : (t3 q).2.2 ≠ 0)
  rw [t3_q3, t3_q3] at e
  rw [← e]
  obtain ⟨x1, x2, x3⟩ := h
  obtain ⟨y1, y2, y3⟩ := h'
  exact hb_q3 (Int.mul_pos p1 p2) ((x1.mul y3).add ((y1.mul x3).mono (by omega))) ((x2.mul y3).add ((y2.mul x3).mono (by omega))) ((x3.mul y3).mono (by omega))
theorem hb.sub (h : hb k p) (h' : hb l q) : hb (k + l + 1) (subN p q) := by
  have p1 := t3_pos p
  have p2 := t3_pos q
  have e := q3_sub (a := (t3 p).1) (b := (t3 p).2.1) (a' := (t3 q).1) (b' := (t3 q).2.1) (by omega : (t3 p).2.2 ≠ 0) (by omega : (t3 q).2.2 ≠ 0)
  rw [t3_q3, t3_q3] at e
  rw [← e]
  obtain ⟨x1, x2, x3⟩ := h
  obtain ⟨y1, y2, y3⟩ := h'
  exact hb_q3 (Int.mul_pos p1 p2) ((x1.mul y3).sub ((y1.mul x3).mono (by omega))) ((x2.mul y3).sub ((y2.mul x3).mono (by omega))) ((x3.mul y3).mono (by omega))
theorem hb.con (h : hb k p) : hb k (conN p) := by
  have p1 := t3_pos p
  have e := q3_con (a := (t3 p).1) (b := (t3 p).2.1) (d := (t3 p).2.2)
  rw [t3_q3] at e
  rw [← e]
  exact hb_q3 p1 h.1 h.2.1.neg h.2.2
theorem hb.neg (h : hb k p) : hb k (negN p) := by
  have p1 := t3_pos p
  have e := q3_neg (a := (t3 p).1) (b := (t3 p).2.1) (d := (t3 p).2.2)
  rw [t3_q3] at e
  rw [← e]
  exact hb_q3 p1 h.1.neg h.2.1.neg h.2.2
theorem hb.siz (h : hb k p) : Sz (2 * k + 1) (sizN p) := by
  have p1 := t3_pos p
  have e := q3_siz (a := (t3 p).1) (b := (t3 p).2.1) (by omega : (t3 p).2.2 ≠ 0)
  rw [t3_q3] at e
  rw [← e]
  exact Sz.div (((h.1.mul h.1).add (h.2.1.mul h.2.1)).mono (by omega)) ((h.2.2.mul h.2.2).mono (by omega)) (Int.mul_ne_zero (by omega) (by omega))
theorem hb.ovr (h : hb k p) (h' : hb l q) (hq : q ≠ c0) : hb (k + 2 * l + 1) (ovrN p q) := by
  have p1 := t3_pos p
  have p2 := t3_pos q
  have n := sq_pos (t3_ne hq)
  have e := q3_ovr (a := (t3 p).1) (b := (t3 p).2.1) (a' := (t3 q).1) (b' := (t3 q).2.1) (by omega : (t3 p).2.2 ≠ 0) (by omega : (t3 q).2.2 ≠ 0) (by omega)
  rw [t3_q3, t3_q3] at e
  rw [← e]
  obtain ⟨x1, x2, x3⟩ := h
  obtain ⟨y1, y2, y3⟩ := h'
  refine hb_q3 (Int.mul_pos p1 n) ?_ ?_ ?_
  · exact ((((x1.mul y1).add (x2.mul y2)).mul y3)).mono (by omega)
  · refine (PD.sz.mul (k := k + l + 1) ?_ y3).mono (by omega)
    exact ((x2.mul y1).sub (x1.mul y2))
  · exact (x3.mul ((y1.mul y1).add (y2.mul y2))).mono (by omega)
end
theorem hb_c0 : hb 1 c0 := by
  have : c0 = q3 0 0 1 := by unfold c0 q3; rw [Rat.zero_divInt]
  rw [this]
  exact hb_q3 (by decide) (by unfold sz; decide) (by unfold sz; decide) (by unfold sz; decide)
theorem hb_c1 : hb 1 c1 := by
  have : c1 = q3 1 0 1 := by unfold c1 q3; rw [Rat.zero_divInt, show Rat.divInt 1 1 = 1 by decide +kernel]
  rw [this]
  exact hb_q3 (by decide) (by unfold sz; decide) (by unfold sz; decide) (by unfold sz; decide)
theorem hb_real {k : Nat} {r : Rat} (h : Sz k r) : hb (k + 1) (r, 0) := by
  have e : ((r, 0) : Cq) = q3 r.num 0 r.den := by unfold q3; rw [Rat.num_divInt_den, Rat.zero_divInt]
  rw [e]
  exact hb_q3 (den_pos r) (h.n.mono (by omega)) (by unfold sz; exact Nat.pow_pos (by decide)) (h.d.mono (by omega))
theorem T_q3 {a b d : Int} (h : 0 < d) : T (q3 a b d) = .tup [.int (red3 a b d).1, .int (red3 a b d).2.1, .int (red3 a b d).2.2] := by unfold T; rw [t3_red h]
theorem T_c0 : T c0 = .tup [.int 0, .int 0, .int 1] := by
  have : c0 = q3 0 0 1 := by unfold c0 q3; rw [Rat.zero_divInt]
  rw [this, T_q3 (by decide)]; rfl
theorem T_c1 : T c1 = .tup [.int 1, .int 0, .int 1] := by
  have : c1 = q3 1 0 1 := by unfold c1 q3; rw [Rat.zero_divInt, show Rat.divInt 1 1 = 1 by decide +kernel]
  rw [this, T_q3 (by decide)]; rfl
theorem T_con (p : Cq) : .tup [.int (t3 p).1, .int (-(t3 p).2.1), .int (t3 p).2.2] = T (conN p) := by
  have e := q3_con (a := (t3 p).1) (b := (t3 p).2.1) (d := (t3 p).2.2)
  rw [t3_q3] at e
  rw [← e]
  unfold T
  rw [t3_of (t3_pos p) (by rw [Int.natAbs_neg]; exact t3_gcd p)]
theorem T_neg (p : Cq) : .tup [.int (-(t3 p).1), .int (-(t3 p).2.1), .int (t3 p).2.2] = T (negN p) := by
  have e := q3_neg (a := (t3 p).1) (b := (t3 p).2.1) (d := (t3 p).2.2)
  rw [t3_q3] at e
  rw [← e]
  unfold T
  rw [t3_of (t3_pos p) (by rw [Int.natAbs_neg, Int.natAbs_neg]; exact t3_gcd p)]
end PD

set_option Elab.async false
set_option linter.all false
set_option autoImplicit false
set_option maxRecDepth 100000
set_option maxHeartbeats 1000000
/-! NC: numbers a + b i are a field (so that grind reasons about them). -/
namespace PD
section
theorem cx {p q : Cq} (h1 : p.1 = q.1) (h2 : p.2 = q.2) : p = q := Prod.ext h1 h2
instance : Add Cq := ⟨addN⟩
instance : Mul Cq := ⟨mulN⟩
instance : Neg Cq := ⟨negN⟩
instance : Sub Cq := ⟨subN⟩
instance : NatCast Cq := ⟨fun n => ((n : Rat), 0)⟩
instance : IntCast Cq := ⟨fun n => ((n : Rat), 0)⟩
instance (n : Nat) : OfNat Cq n := ⟨((OfNat.ofNat n : Rat), 0)⟩
def powN (p : Cq) : Nat → Cq
  | 0 => 1 | n + 1 => powN p n * p
instance : HPow Cq Nat Cq := ⟨powN⟩
instance : SMul Nat Cq := ⟨fun n p => (n : Cq) * p⟩
instance : SMul Int Cq := ⟨fun n p => (n : Cq) * p⟩
def invN (q : Cq) : Cq := (q.1 / sizN q, -q.2 / sizN q)
instance : Inv Cq := ⟨invN⟩
instance : Div Cq := ⟨fun p q => p * q⁻¹⟩
theorem a1 (p q : Cq) : (p + q).1 = p.1 + q.1 := rfl
theorem a2 (p q : Cq) : (p + q).2 = p.2 + q.2 := rfl
theorem m1 (p q : Cq) : (p * q).1 = p.1 * q.1 - p.2 * q.2 := rfl
theorem m2 (p q : Cq) : (p * q).2 = p.1 * q.2 + p.2 * q.1 := rfl
theorem n1 (p : Cq) : (-p).1 = -p.1 := rfl
theorem n2 (p : Cq) : (-p).2 = -p.2 := rfl
theorem s1 (p q : Cq) : (p - q).1 = p.1 - q.1 := rfl
theorem s2 (p q : Cq) : (p - q).2 = p.2 - q.2 := rfl
theorem o1 : (1 : Cq).1 = 1 := rfl
theorem o2 : (1 : Cq).2 = 0 := rfl
theorem z1 : (0 : Cq).1 = 0 := rfl
theorem z2 : (0 : Cq).2 = 0 := rfl
theorem nc1 (n : Nat) : (n : Cq).1 = (n : Rat) := rfl
theorem nc2 (n : Nat) : (n : Cq).2 = 0 := rfl
theorem i1 (q : Cq) : (q⁻¹).1 = q.1 / sizN q := rfl
theorem i2 (q : Cq) : (q⁻¹).2 = -q.2 / sizN q := rfl
theorem on1 (n : Nat) : (OfNat.ofNat n : Cq).1 = (OfNat.ofNat n : Rat) := rfl
theorem on2 (n : Nat) : (OfNat.ofNat n : Cq).2 = 0 := rfl
theorem c0_eq : c0 = (0 : Cq) := rfl
theorem c1_eq : c1 = (1 : Cq) := rfl
theorem mul_comm' (p q : Cq) : p * q = q * p := cx (by rw [m1, m1]; grind) (by rw [m2, m2]; grind)
instance : Lean.Grind.CommRing Cq where
  natCast := inferInstance
  ofNat := inferInstance
  nsmul := inferInstance
  npow := inferInstance
  intCast := inferInstance
  zsmul := inferInstance
  add_zero := fun p => cx (by rw [a1, z1]; grind) (by rw [a2, z2]; grind)
  add_comm := fun p q => cx (by rw [a1, a1]; grind) (by rw [a2, a2]; grind)
  add_assoc := fun p q r => cx (by simp only [a1]; grind) (by simp only [a2]; grind)
  mul_assoc := fun p q r => cx (by simp only [m1, m2]; grind) (by simp only [m1, m2]; grind)
  mul_one := fun p => cx (by simp only [m1, o1, o2]; grind) (by simp only [m2, o1, o2]; grind)
  one_mul := fun p => cx (by simp only [m1, o1, o2]; grind) (by simp only [m2, o1, o2]; grind)
  left_distrib := fun p q r => cx (by simp only [m1, a1, a2]; grind) (by simp only [m2, a1, a2]; grind)
  right_distrib := fun p q r => cx (by simp only [m1, a1, a2]; grind) (by simp only [m2, a1, a2]; grind)
  zero_mul := fun p => cx (by simp only [m1, z1, z2]; grind) (by simp only [m2, z1, z2]; grind)
  mul_zero := fun p => cx (by simp only [m1, z1, z2]; grind) (by simp only [m2, z1, z2]; grind)
  pow_zero := fun p => rfl
  pow_succ := fun p n => rfl
  ofNat_succ := fun n => cx (by rw [a1, on1, on1, o1]; exact Lean.Grind.Semiring.ofNat_succ n) (by rw [a2, on2, on2, o2]; grind)
  ofNat_eq_natCast := fun n => cx (by rw [on1, nc1]; exact Lean.Grind.Semiring.ofNat_eq_natCast n) rfl
  nsmul_eq_natCast_mul := fun n p => rfl
  neg_add_cancel := fun p => cx (by rw [a1, n1, z1]; grind) (by rw [a2, n2, z2]; grind)
  sub_eq_add_neg := fun p q => cx (by rw [s1, a1, n1]; grind) (by rw [s2, a2, n2]; grind)
  neg_zsmul := fun i p => by
    show ((-i : Int) : Cq) * p = -((i : Cq) * p)
    have e1 : ((-i : Int) : Cq).1 = -(i : Rat) := Rat.intCast_neg i
    have e2 : ((-i : Int) : Cq).2 = 0 := rfl
    have e3 : ((i : Int) : Cq).1 = (i : Rat) := rfl
    have e4 : ((i : Int) : Cq).2 = 0 := rfl
    exact cx (by simp only [m1, n1, e1, e2, e3, e4]; grind) (by simp only [m2, n2, e1, e2, e3, e4]; grind)
  zsmul_natCast_eq_nsmul := fun n p => by
    show (((n : Nat) : Int) : Cq) * p = ((n : Nat) : Cq) * p
    have : (((n : Nat) : Int) : Cq) = ((n : Nat) : Cq) := cx (Rat.intCast_natCast n) rfl
    rw [this]
  intCast_ofNat := fun n => cx (by exact Rat.intCast_ofNat) rfl
  intCast_neg := fun i => cx (by rw [n1]; exact Rat.intCast_neg i) (by rw [n2]; show (0 : Rat) = -0; grind)
  mul_comm := mul_comm'
theorem inv_z : ((0 : Cq)⁻¹) = 0 := cx (by rw [i1, z1, Rat.div_def, Rat.zero_mul]) (by rw [i2, z2, Rat.div_def]; grind)
theorem mul_inv' (p : Cq) (h : p ≠ 0) : p * p⁻¹ = 1 := by
  have k := sizN_ne (q := p) h
  refine cx ?_ ?_
  · rw [m1, i1, i2, o1]
    have : sizN p = p.1 * p.1 + p.2 * p.2 := rfl
    generalize sizN p = s at *
    grind
  · rw [m2, i1, i2, o2]
    have : sizN p = p.1 * p.1 + p.2 * p.2 := rfl
    generalize sizN p = s at *
    grind
def zpowN (p : Cq) : Int → Cq
  | .ofNat n => p ^ n | .negSucc n => (p ^ (n + 1))⁻¹
theorem one_ne' : (0 : Cq) ≠ 1 := fun e => by
  have := congrArg Prod.fst e
  rw [z1, o1] at this
  exact absurd this (by decide)
theorem inv_inv' (p : Cq) : p⁻¹⁻¹ = p := by
  by_cases h : p = 0
  · rw [h, inv_z, inv_z]
  · have e := mul_inv' p h
    have h2 : p⁻¹ ≠ 0 := fun z => by
      rw [z] at e
      exact one_ne' (by rw [← e]; grind)
    have e2 := mul_inv' _ h2
    have : p⁻¹⁻¹ = p * (p⁻¹ * p⁻¹⁻¹) := by
      rw [← Lean.Grind.Semiring.mul_assoc, e, Lean.Grind.Semiring.one_mul]
    rw [this, e2, Lean.Grind.Semiring.mul_one]
theorem inv_one' : (1 : Cq)⁻¹ = 1 := by
  have e := mul_inv' 1 (fun z => one_ne' z.symm)
  rw [Lean.Grind.Semiring.one_mul] at e
  exact e
instance : HPow Cq Int Cq := ⟨zpowN⟩
instance : Lean.Grind.Field Cq where
  zpow := inferInstance
  div_eq_mul_inv := fun p q => rfl
  zero_ne_one := one_ne'
  inv_zero := inv_z
  mul_inv_cancel := fun {p} h => mul_inv' p h
  zpow_zero := fun p => rfl
  zpow_succ := fun p n => rfl
  zpow_neg := fun p n => by
    cases n with
    | ofNat m =>
      cases m with
      | zero => exact inv_one'.symm
      | succ m => rfl
    | negSucc m => exact (inv_inv' _).symm
instance : Lean.Grind.IsCharP Cq 0 where
  ofNat_ext_iff := fun {x y} => by
    have h := Lean.Grind.IsCharP.ofNat_ext_iff (α := Rat) (p := 0) (x := x) (y := y)
    rw [← h]
    exact ⟨fun e => congrArg Prod.fst e, fun e => cx e rfl⟩
instance : Lean.Grind.NoNatZeroDivisors Cq where
  no_nat_zero_divisors := fun k a b hk h => by
    have e : ((k : Nat) : Cq) * a = ((k : Nat) : Cq) * b := h
    have k0 : ((k : Nat) : Rat) ≠ 0 := by exact_mod_cast hk
    have e1 := congrArg Prod.fst e
    have e2 := congrArg Prod.snd e
    rw [m1, m1, nc1, nc2] at e1
    rw [m2, m2, nc1, nc2] at e2
    exact cx (by grind) (by grind)
/-- mirrored -/
theorem con_add (p q : Cq) : conN (p + q) = conN p + conN q := cx rfl (by show -(p.2 + q.2) = -p.2 + -q.2; grind)
theorem con_sub (p q : Cq) : conN (p - q) = conN p - conN q := cx rfl (by show -(p.2 - q.2) = -p.2 - -q.2; grind)
theorem con_neg (p : Cq) : conN (-p) = -conN p := rfl
theorem con_mul (p q : Cq) : conN (p * q) = conN p * conN q := cx (by show p.1 * q.1 - p.2 * q.2 = p.1 * q.1 - -p.2 * -q.2; grind) (by show -(p.1 * q.2 + p.2 * q.1) = p.1 * -q.2 + -p.2 * q.1; grind)
theorem con_one : conN 1 = 1 := cx rfl (by show -(0 : Rat) = 0; grind)
theorem con_zero : conN 0 = 0 := cx rfl (by show -(0 : Rat) = 0; grind)
theorem con_con (p : Cq) : conN (conN p) = p := cx rfl (by show - -p.2 = p.2; grind)
theorem con_inj {p q : Cq} (h : conN p = conN q) : p = q := by rw [← con_con p, h, con_con]
theorem con_z {p : Cq} (h : conN p = 0) : p = 0 := con_inj (h.trans con_zero.symm)
theorem con_inv (p : Cq) : conN p⁻¹ = (conN p)⁻¹ := by
  by_cases h : p = 0
  · rw [h, inv_z, con_zero, inv_z]
  · have e := mul_inv' p h
    have e1 : conN p * conN p⁻¹ = 1 := by rw [← con_mul, e, con_one]
    have h2 : conN p ≠ 0 := fun z => h (con_z z)
    have e2 := mul_inv' _ h2
    grind
theorem con_div (p q : Cq) : conN (p / q) = conN p / conN q := by
  show conN (p * q⁻¹) = conN p * (conN q)⁻¹
  rw [con_mul, con_inv]
/-- a fraction as a number -/
def re (r : Rat) : Cq := (r, 0)
theorem re_add (x y : Rat) : re (x + y) = re x + re y := cx rfl (by show (0 : Rat) = 0 + 0; grind)
theorem re_sub (x y : Rat) : re (x - y) = re x - re y := cx rfl (by show (0 : Rat) = 0 - 0; grind)
theorem re_mul (x y : Rat) : re (x * y) = re x * re y := cx (by show x * y = x * y - 0 * 0; grind) (by show (0 : Rat) = x * 0 + 0 * y; grind)
theorem re_one : re 1 = 1 := rfl
theorem re_zero : re 0 = 0 := rfl
theorem re_inj {x y : Rat} (h : re x = re y) : x = y := congrArg Prod.fst h
theorem re_ne {x : Rat} (h : x ≠ 0) : re x ≠ 0 := fun e => h (re_inj e)
theorem con_re (x : Rat) : conN (re x) = re x := cx rfl (by show -(0 : Rat) = 0; grind)
theorem siz_eq (p : Cq) : re (sizN p) = p * conN p := cx (by show p.1 * p.1 + p.2 * p.2 = p.1 * p.1 - p.2 * -p.2; grind) (by show (0 : Rat) = p.1 * -p.2 + p.2 * p.1; grind)
theorem re_inv (x : Rat) : re x⁻¹ = (re x)⁻¹ := by
  by_cases h : x = 0
  · subst h; rw [show (0 : Rat)⁻¹ = 0 by decide +kernel, re_zero, inv_z]
  · have e : re x * re x⁻¹ = 1 := by rw [← re_mul, Rat.mul_inv_cancel _ h]; rfl
    have h2 := re_ne h
    have e2 := mul_inv' _ h2
    grind
theorem re_div (x y : Rat) : re (x / y) = re x / re y := by
  rw [Rat.div_def, re_mul, re_inv]; rfl
theorem siz_mul (p q : Cq) : sizN (p * q) = sizN p * sizN q := by
  show (p.1 * q.1 - p.2 * q.2) * (p.1 * q.1 - p.2 * q.2) + (p.1 * q.2 + p.2 * q.1) * (p.1 * q.2 + p.2 * q.1) = (p.1 * p.1 + p.2 * p.2) * (q.1 * q.1 + q.2 * q.2)
  grind
theorem siz_con (p : Cq) : sizN (conN p) = sizN p := by show p.1 * p.1 + -p.2 * -p.2 = p.1 * p.1 + p.2 * p.2; grind
theorem siz_one : sizN 1 = 1 := by decide +kernel
theorem siz_zero : sizN 0 = 0 := by decide +kernel
theorem siz_z {p : Cq} : sizN p = 0 ↔ p = 0 := ⟨sizN_zero, fun h => by rw [h]; exact siz_zero⟩
theorem siz_inv (p : Cq) : sizN p⁻¹ = (sizN p)⁻¹ := by
  by_cases h : p = 0
  · rw [h, inv_z, siz_zero]; decide +kernel
  · have e := congrArg sizN (mul_inv' p h)
    rw [siz_mul, siz_one] at e
    have k := sizN_ne (q := p) h
    grind
theorem siz_div (p q : Cq) : sizN (p / q) = sizN p / sizN q := by
  show sizN (p * q⁻¹) = _
  rw [siz_mul, siz_inv, Rat.div_def]
theorem ovr_eq (p q : Cq) : ovrN p q = p / q := by
  show sclN (mulN p (conN q)) (1 / sizN q) = p * q⁻¹
  refine cx ?_ ?_
  · show (p.1 * q.1 - p.2 * -q.2) * (1 / sizN q) = p.1 * (q.1 / sizN q) - p.2 * (-q.2 / sizN q)
    grind
  · show (p.1 * -q.2 + p.2 * q.1) * (1 / sizN q) = p.1 * (-q.2 / sizN q) + p.2 * (q.1 / sizN q)
    grind
theorem scl_eq (p : Cq) (r : Rat) : sclN p r = p * re r := by
  refine cx ?_ ?_
  · show p.1 * r = p.1 * r - p.2 * 0
    grind
  · show p.2 * r = p.1 * 0 + p.2 * r
    grind
theorem add_N (p q : Cq) : addN p q = p + q := rfl
theorem sub_N (p q : Cq) : subN p q = p - q := rfl
theorem mul_N (p q : Cq) : mulN p q = p * q := rfl
theorem neg_N (p : Cq) : negN p = -p := rfl
end
end PD

set_option Elab.async false
set_option linter.all false
set_option autoImplicit false
set_option maxRecDepth 100000
set_option maxHeartbeats 1000000
/-! N46: turns of the disc. Pure mathematics. -/
namespace PD
def lowN (c : Cq) (t : Rat) : Cq := conN c * re (1 / t)
def ledN (u c : Cq) (t : Rat) (z : Cq) : Option Cq := if 1 - lowN c t * z = 0 then none else some (u * (z - c) / (1 - lowN c t * z))
theorem re_inv1 (t : Rat) : re (1 / t) = (re t)⁻¹ := by rw [re_div, re_one]; show 1 * (re t)⁻¹ = _; grind
theorem low_law (c z : Cq) (t : Rat) : conN c * z / re t = lowN c t * z := by
  unfold lowN
  rw [re_inv1]
  show conN c * z * (re t)⁻¹ = _
  grind
theorem rat_mul_lt {a b t : Rat} (ha : 0 ≤ a) (ha' : a < t) (hb' : b < t) : a * b < t * t := by
  have t0 : 0 < t := by grind
  have h1 : a * b ≤ a * t := Rat.mul_le_mul_of_nonneg_left (by grind) ha
  have h2 : a * t < t * t := Rat.mul_lt_mul_of_pos_right ha' t0
  grind
theorem siz_re (x : Rat) : sizN (re x) = x * x := by show x * x + 0 * 0 = x * x; grind
theorem siz_low (c : Cq) {t : Rat} (ht : t ≠ 0) : sizN (lowN c t) = sizN c / (t * t) := by
  unfold lowN
  rw [siz_mul, siz_con, siz_re]
  grind
theorem siz_neg (p : Cq) : sizN (-p) = sizN p := by show -p.1 * -p.1 + -p.2 * -p.2 = p.1 * p.1 + p.2 * p.2; grind
section
variable {u v c d : Cq} {t : Rat}
theorem along_ne (hu : sizN u = 1) (hc : sizN c < t) (hd : sizN d < t) : u + d * lowN c t ≠ 0 := by
  intro h
  have t0 : 0 < t := by have := sizN_nn c; grind
  have e : u = -(d * lowN c t) := by grind
  have k := congrArg sizN e
  rw [hu, siz_neg, siz_mul, siz_low c (by grind)] at k
  have m := rat_mul_lt (sizN_nn d) hd hc
  have : sizN d * (sizN c / (t * t)) * (t * t) = sizN d * sizN c := by grind
  rw [← k] at this
  grind
def alongN (u c d : Cq) (t : Rat) : Cq := u + d * lowN c t
def rndN (u c v d : Cq) (t : Rat) : Cq := v * alongN u c d t / (u * conN (alongN u c d t))
def ctrN (u c d : Cq) (t : Rat) : Cq := (u * c + d) / alongN u c d t
theorem u_unit (hu : sizN u = 1) : u * conN u = 1 := by rw [← siz_eq, hu]; rfl
theorem u_ne (hu : sizN u = 1) : u ≠ 0 := fun h => by rw [h, siz_zero] at hu; exact absurd hu (by decide)
theorem rnd_size (hu : sizN u = 1) (hv : sizN v = 1) (ha : alongN u c d t ≠ 0) : sizN (rndN u c v d t) = 1 := by
  unfold rndN
  have := sizN_ne (q := alongN u c d t) ha
  rw [siz_div, siz_mul, siz_mul, siz_con, hu, hv]
  grind
theorem ctr_id (hu : sizN u = 1) (ht : t ≠ 0) : t * sizN (alongN u c d t) - sizN (u * c + d) = (t - sizN c) * (t - sizN d) / t := by
  apply re_inj
  have k := u_unit hu
  have n := re_ne ht
  rw [re_sub, re_mul, siz_eq, siz_eq, re_div, re_mul, re_sub, re_sub, siz_eq, siz_eq]
  unfold alongN lowN
  simp only [con_add, con_mul, con_con, con_re, re_inv1, con_inv]
  generalize re t = T at *
  generalize conN u = u' at *
  generalize conN c = c' at *
  generalize conN d = d' at *
  grind
theorem rat_mul_pos {a b : Rat} (ha : 0 < a) (hb : 0 < b) : 0 < a * b := Rat.mul_pos ha hb
theorem ctr_size (hu : sizN u = 1) (hc : sizN c < t) (hd : sizN d < t) : sizN (ctrN u c d t) < t := by
  have t0 : 0 < t := by have := sizN_nn c; grind
  have ha := along_ne hu hc hd
  have e := ctr_id (c := c) (d := d) hu (show t ≠ 0 by grind)
  have p1 : 0 < (t - sizN c) * (t - sizN d) := Rat.mul_pos (by grind) (by grind)
  have p2 : 0 < (t - sizN c) * (t - sizN d) / t := by
    rw [Rat.div_def]
    exact Rat.mul_pos p1 (Rat.inv_pos.mpr t0)
  have n : sizN (alongN u c d t) ≠ 0 := sizN_ne ha
  have n0 : 0 < sizN (alongN u c d t) := by have := sizN_nn (alongN u c d t); grind
  unfold ctrN
  rw [siz_div]
  rw [← e] at p2
  have : sizN (u * c + d) / sizN (alongN u c d t) * sizN (alongN u c d t) = sizN (u * c + d) := by grind
  apply Rat.lt_of_mul_lt_mul_right (c := sizN (alongN u c d t)) _ (by grind)
  rw [this]
  grind
theorem behind_led (hu : sizN u = 1) (hc : sizN c < t) (hd : sizN d < t) {z w : Cq} (h : ledN u c t z = some w) : ledN (rndN u c v d t) (ctrN u c d t) t z = ledN v d t w := by
  have t0 : 0 < t := by have := sizN_nn c; grind
  have tn := re_ne (show t ≠ 0 by grind)
  have ha := along_ne hu hc hd
  have k := u_unit hu
  have un := u_ne hu
  unfold ledN at h
  split at h
  · cases h
  · rename_i n1
    cases h
    have hA : conN (alongN u c d t) ≠ 0 := fun z => ha (con_z z)
    have key : (1 - lowN c t * z) * (1 - lowN d t * (u * (z - c) / (1 - lowN c t * z))) = u * conN (alongN u c d t) * (1 - lowN (ctrN u c d t) t * z) := by
      unfold lowN ctrN at *
      rw [con_div]
      unfold alongN lowN at *
      simp only [con_add, con_mul, con_con, con_re, re_inv1, con_inv] at *
      generalize re t = T at *
      generalize conN u = u' at *
      generalize conN c = c' at *
      generalize conN d = d' at *
      grind
    have key2 : (1 - lowN c t * z) * (u * (z - c) / (1 - lowN c t * z) - d) = alongN u c d t * (z - ctrN u c d t) := by
      unfold ctrN
      unfold alongN lowN at *
      generalize conN c * re (1 / t) = e at *
      grind
    have ne : u * conN (alongN u c d t) ≠ 0 := by grind
    generalize e1 : 1 - lowN d t * (u * (z - c) / (1 - lowN c t * z)) = D2 at *
    generalize e2 : 1 - lowN (ctrN u c d t) t * z = D at *
    unfold ledN
    rw [e1, e2]
    by_cases hD : D = 0
    · have : D2 = 0 := by grind
      rw [if_pos hD, if_pos this]
    · have : D2 ≠ 0 := by grind
      rw [if_neg hD, if_neg this]
      refine congrArg some ?_
      unfold rndN
      generalize ctrN u c d t = m at *
      generalize alongN u c d t = A at *
      generalize conN A = A' at *
      generalize u * (z - c) / (1 - lowN c t * z) = w at *
      grind
theorem back_led (hu : sizN u = 1) (hc : sizN c < t) {z w : Cq} (h : ledN u c t z = some w) : ledN (conN u) (-(u * c)) t w = some z := by
  have t0 : 0 < t := by have := sizN_nn c; grind
  have tn := re_ne (show t ≠ 0 by grind)
  have k := u_unit hu
  have un := u_ne hu
  have sc : re t - c * conN c ≠ 0 := by
    rw [← siz_eq, ← re_sub]
    exact re_ne (by grind)
  unfold ledN at h
  split at h
  · cases h
  · rename_i n1
    cases h
    have key : (1 - lowN (-(u * c)) t * (u * (z - c) / (1 - lowN c t * z))) * (1 - lowN c t * z) * re t = re t - c * conN c := by
      unfold lowN at *
      simp only [con_neg, con_mul, con_con, con_re, re_inv1, con_inv] at *
      generalize re t = T at *
      generalize conN u = u' at *
      generalize conN c = c' at *
      grind
    have ne : 1 - lowN (-(u * c)) t * (u * (z - c) / (1 - lowN c t * z)) ≠ 0 := by grind
    unfold ledN
    rw [if_neg ne]
    refine congrArg some ?_
    have key2 : (u * (z - c) / (1 - lowN c t * z) - -(u * c)) * (1 - lowN c t * z) * re t = u * z * (re t - c * conN c) := by
      unfold lowN at *
      simp only [re_inv1] at *
      generalize re t = T at *
      generalize conN c = c' at *
      grind
    generalize u * (z - c) / (1 - lowN c t * z) - -(u * c) = X at *
    generalize 1 - lowN (-(u * c)) t * (u * (z - c) / (1 - lowN c t * z)) = Y at *
    generalize (1 - lowN c t * z) = D at *
    generalize re t - c * conN c = s at *
    generalize conN u = u' at *
    generalize re t = T at *
    grind
end
end PD

set_option Elab.async false
set_option linter.all false
set_option autoImplicit false
set_option maxRecDepth 100000
set_option maxHeartbeats 1000000
/-! NR6: rows: values, coefficients in powers of h. Pure mathematics. -/
namespace PD
/-- the value -/
def evN : List Cq → Cq → Cq
  | [], _ => 0 | p :: ps, x => evN ps x * x + p
def adH (p : Cq) : List Cq → List Cq
  | [] => [] | q :: qs => (q + p) :: qs
/-- times x + h -/
def stp (x : Cq) (l : List Cq) : List Cq := List.zipWith (· + ·) (0 :: l) (l.map (· * x) ++ [0])
/-- in powers of h, at x + h -/
def shN : List Cq → Cq → List Cq
  | [], _ => [] | p :: ps, x => adH p (stp x (shN ps x))
theorem stp_len (x : Cq) (l : List Cq) : (stp x l).length = l.length + 1 := by simp [stp]
theorem adH_len (p : Cq) (l : List Cq) : (adH p l).length = l.length := by cases l <;> rfl
theorem shN_len : ∀ (l : List Cq) (x : Cq), (shN l x).length = l.length
  | [], _ => rfl
  | p :: ps, x => by
    show (adH p (stp x (shN ps x))).length = _
    rw [adH_len, stp_len, shN_len ps x]; rfl
theorem stp_cons (x q : Cq) (qs : List Cq) : stp x (q :: qs) = (q * x) :: adH q (stp x qs) := by
  unfold stp
  rw [List.map_cons, List.cons_append, List.zipWith_cons_cons]
  have e : (0 : Cq) + q * x = q * x := by grind
  rw [e]
  refine congrArg _ ?_
  cases h : List.map (fun z => z * x) qs ++ [0] with
  | nil => simp at h
  | cons a as =>
    rw [List.zipWith_cons_cons, List.zipWith_cons_cons]
    show _ = ((0 : Cq) + a + q) :: _
    rw [show q + a = (0 : Cq) + a + q by grind]
/-- coefficients -/
def cf (l : List Cq) (i : Nat) : Cq := (l[i]?).getD 0
theorem cf_cons0 (p : Cq) (l : List Cq) : cf (p :: l) 0 = p := rfl
theorem cf_consS (p : Cq) (l : List Cq) (i : Nat) : cf (p :: l) (i + 1) = cf l i := by simp [cf]
theorem cf_nil (i : Nat) : cf [] i = 0 := rfl
theorem cf_ext {l m : List Cq} (h : l.length = m.length) (e : ∀ i, cf l i = cf m i) : l = m := by
  refine List.ext_getElem h fun i h1 h2 => ?_
  have := e i
  unfold cf at this
  rw [List.getElem?_eq_getElem h1, List.getElem?_eq_getElem h2] at this
  exact this
def stpF (x : Cq) (f : Nat → Cq) : Nat → Cq
  | 0 => f 0 * x | i + 1 => f i + f (i + 1) * x
def adF (p : Cq) (f : Nat → Cq) : Nat → Cq
  | 0 => f 0 + p | i + 1 => f (i + 1)
theorem cf_adH {p : Cq} {l : List Cq} (h : l ≠ []) : cf (adH p l) = adF p (cf l) := by
  cases l with
  | nil => exact absurd rfl h
  | cons q qs =>
    funext i
    cases i with
    | zero => rfl
    | succ i => show cf ((q + p) :: qs) (i + 1) = cf (q :: qs) (i + 1); rw [cf_consS, cf_consS]
theorem stp_ne (x : Cq) (l : List Cq) : stp x l ≠ [] := fun e => by
  have := stp_len x l
  rw [e] at this
  cases this
theorem cf_stp (x : Cq) : ∀ (l : List Cq), cf (stp x l) = stpF x (cf l)
  | [] => by
    funext i
    cases i with
    | zero => show (0 : Cq) + 0 = 0 * x; grind
    | succ i => show cf [(0 : Cq) + 0] (i + 1) = cf [] i + cf [] (i + 1) * x; rw [cf_consS, cf_nil, cf_nil]; grind
  | q :: qs => by
    funext i
    rw [stp_cons]
    cases i with
    | zero => rfl
    | succ i =>
      rw [cf_consS, cf_adH (stp_ne x qs), cf_stp x qs]
      show adF q (stpF x (cf qs)) i = cf (q :: qs) i + cf (q :: qs) (i + 1) * x
      rw [cf_consS]
      cases i with
      | zero => show cf qs 0 * x + q = q + cf qs 0 * x; grind
      | succ i => rw [cf_consS]; rfl
theorem stpF_comm (x y : Cq) (f : Nat → Cq) : stpF x (stpF y f) = stpF y (stpF x f) := by
  funext i
  match i with
  | 0 => show f 0 * y * x = f 0 * x * y; grind
  | 1 => show f 0 * y + (f 0 + f 1 * y) * x = f 0 * x + (f 0 + f 1 * x) * y; grind
  | i + 2 => show f i + f (i + 1) * y + (f (i + 1) + f (i + 2) * y) * x = f i + f (i + 1) * x + (f (i + 1) + f (i + 2) * x) * y; grind
theorem stpF_ad (x q : Cq) (f : Nat → Cq) : stpF x (adF q f) = fun i => stpF x f i + (if i = 0 then q * x else if i = 1 then q else 0) := by
  funext i
  match i with
  | 0 => show (f 0 + q) * x = f 0 * x + q * x; grind
  | 1 => show f 0 + q + f 1 * x = f 0 + f 1 * x + q; grind
  | i + 2 => show f (i + 1) + f (i + 2) * x = f (i + 1) + f (i + 2) * x + 0; grind
theorem sh_ad (q y : Cq) {l : List Cq} (h : l ≠ []) : cf (shN (adH q l) y) = adF q (cf (shN l y)) := by
  cases l with
  | nil => exact absurd rfl h
  | cons a as =>
    show cf (adH (a + q) (stp y (shN as y))) = adF q (cf (adH a (stp y (shN as y))))
    rw [cf_adH (stp_ne _ _), cf_adH (stp_ne _ _)]
    funext i
    cases i with
    | zero => show _ + (a + q) = _ + a + q; grind
    | succ i => rfl
theorem sh_stp (x y : Cq) : ∀ l : List Cq, cf (shN (stp x l) y) = stpF (x + y) (cf (shN l y))
  | [] => by
    have e : shN (stp x []) y = [0] := by
      show adH ((0 : Cq) + 0) (stp y []) = [0]
      show [((0 : Cq) + 0) + (0 + 0)] = [0]
      rw [show ((0 : Cq) + 0) + (0 + 0) = 0 by grind]
    rw [e]
    funext i
    cases i with
    | zero => show (0 : Cq) = 0 * (x + y); grind
    | succ i => rw [cf_consS]; show (0 : Cq) = 0 + 0 * (x + y); grind
  | q :: qs => by
    rw [stp_cons]
    show cf (adH (q * x) (stp y (shN (adH q (stp x qs)) y))) = stpF (x + y) (cf (adH q (stp y (shN qs y))))
    rw [cf_adH (stp_ne _ _), cf_stp, sh_ad q y (stp_ne _ _), sh_stp x y qs, cf_adH (stp_ne _ _), cf_stp, stpF_ad, stpF_ad, stpF_comm (x + y) y]
    funext i
    match i with
    | 0 => show stpF y (stpF (x + y) (cf (shN qs y))) 0 + q * y + q * x = stpF y (stpF (x + y) (cf (shN qs y))) 0 + q * (x + y); grind
    | 1 => rfl
    | i + 2 => rfl
theorem sh_sh (x y : Cq) : ∀ l : List Cq, shN (shN l x) y = shN l (x + y)
  | [] => rfl
  | p :: ps => by
    refine cf_ext (by rw [shN_len, shN_len, shN_len]) fun i => ?_
    show cf (shN (adH p (stp x (shN ps x))) y) i = cf (adH p (stp (x + y) (shN ps (x + y)))) i
    rw [sh_ad p y (stp_ne _ _), sh_stp, sh_sh x y ps, cf_adH (stp_ne _ _), cf_stp]
theorem sh_zero : ∀ l : List Cq, shN l 0 = l
  | [] => rfl
  | p :: ps => by
    refine cf_ext (by rw [shN_len]) fun i => ?_
    show cf (adH p (stp 0 (shN ps 0))) i = _
    rw [cf_adH (stp_ne _ _), cf_stp, sh_zero ps]
    cases i with
    | zero => show cf ps 0 * 0 + p = p; grind
    | succ i => rw [cf_consS]; show cf ps i + cf ps (i + 1) * 0 = _; grind
/-- one pass: Horner from the end -/
def passN (x : Cq) : List Cq → List Cq
  | [] => [] | p :: ps => (p + x * (passN x ps).headD 0) :: passN x ps
theorem pass_len (x : Cq) : ∀ l, (passN x l).length = l.length
  | [] => rfl
  | p :: ps => by show (passN x ps).length + 1 = _; rw [pass_len x ps]; rfl
theorem sh_pass (x : Cq) : ∀ (ps : List Cq) (p : Cq), shN (p :: ps) x = (p + x * (passN x ps).headD 0) :: shN (passN x ps) x
  | [], p => by
    show [((0 : Cq) + 0) + p] = [p + x * 0]
    rw [show ((0 : Cq) + 0) + p = p + x * 0 by grind]
  | q :: qs, p => by
    have ih := sh_pass x qs q
    show adH p (stp x (shN (q :: qs) x)) = (p + x * (q + x * (passN x qs).headD 0)) :: adH (q + x * (passN x qs).headD 0) (stp x (shN (passN x qs) x))
    rw [ih, stp_cons]
    generalize q + x * (passN x qs).headD 0 = h
    show (h * x + p) :: adH h (stp x (shN (passN x qs) x)) = _
    rw [show h * x + p = p + x * h by grind]
end PD

set_option Elab.async false
set_option linter.all false
set_option autoImplicit false
set_option maxRecDepth 100000
set_option maxHeartbeats 1000000
/-! NR7: sizes of rows: numbers over powers of six. -/
namespace PD
theorem q3_same {a b a' b' d : Int} : q3 a b d + q3 a' b' d = q3 (a + a') (b + b') d := by
  unfold q3
  exact cx (same_add _ _ _) (same_add _ _ _)
theorem q3_up {a b d c : Int} (hd : d ≠ 0) (hc : c ≠ 0) : q3 (a * c) (b * c) (d * c) = q3 a b d := by
  unfold q3
  rw [Rat.divInt_mul_right hc, Rat.divInt_mul_right hc]
def six (j : Nat) : Int := 6 ^ j
theorem six_pos (j : Nat) : 0 < six j := Int.pow_pos (by decide)
theorem six_add (i j : Nat) : six (i + j) = six i * six j := by unfold six; rw [Int.pow_add]
theorem sz_six : ∀ j, sz (3 * j + 1) (six j)
  | 0 => by unfold sz six; decide
  | j + 1 => by
    have h := sz_six j
    have e : six (j + 1) = six j * 6 := six_add j 1
    have : sz (3 * j + 4) (six (j + 1)) := by
      rw [e]
      unfold sz at *
      rw [show (2 : Nat) ^ (3 * j + 4) = 2 ^ (3 * j + 1) * 8 by rw [show 3 * j + 4 = (3 * j + 1) + 3 by omega, Nat.pow_add]]
      rw [Int.natAbs_mul]
      have : (6 : Int).natAbs = 6 := rfl
      rw [this]
      omega
    exact this
/-- over 6^j, numerators below 2^k -/
def gb (j k : Nat) (p : Cq) : Prop := ∃ a b : Int, p = q3 a b (six j) ∧ sz k a ∧ sz k b
theorem gb.mono {j k l : Nat} {p : Cq} (h : gb j k p) (le : k ≤ l) : gb j l p := by
  obtain ⟨a, b, e, x, y⟩ := h
  exact ⟨a, b, e, x.mono le, y.mono le⟩
theorem gb.hb {j k l : Nat} {p : Cq} (h : gb j k p) (le : k ≤ l) (lj : 3 * j + 1 ≤ l) : hb l p := by
  obtain ⟨a, b, e, x, y⟩ := h
  rw [e]
  exact hb_q3 (six_pos j) (x.mono le) (y.mono le) ((sz_six j).mono lj)
theorem sz_add {k : Nat} {a b : Int} (h : sz k a) (h' : sz k b) : sz (k + 1) (a + b) := by
  unfold sz at *
  rw [Nat.pow_succ]
  omega
theorem gb.mul {i j k l : Nat} {p q : Cq} (h : gb i k p) (h' : gb j l q) : gb (i + j) (k + l + 1) (p * q) := by
  obtain ⟨a, b, e, x, y⟩ := h
  obtain ⟨a', b', e', x', y'⟩ := h'
  have p1 := six_pos i
  have p2 := six_pos j
  refine ⟨a * a' - b * b', a * b' + b * a', ?_, ?_, sz_add (k := k + l) (x.mul y') (by have := y.mul x'; exact this)⟩
  · rw [e, e', six_add, q3_mul (by omega) (by omega)]; rfl
  · have := sz_add (x.mul x') (y.mul y').neg
    rwa [← Int.sub_eq_add_neg] at this
theorem gb.add {j k : Nat} {p q : Cq} (h : gb j k p) (h' : gb j k q) : gb j (k + 1) (p + q) := by
  obtain ⟨a, b, e, x, y⟩ := h
  obtain ⟨a', b', e', x', y'⟩ := h'
  exact ⟨a + a', b + b', by rw [e, e', q3_same], sz_add x x', sz_add y y'⟩
theorem gb.up {j k : Nat} {p : Cq} (i : Nat) (h : gb j k p) : gb (j + i) (k + (3 * i + 1)) p := by
  obtain ⟨a, b, e, x, y⟩ := h
  have p1 := six_pos i
  have p2 := six_pos j
  exact ⟨a * six i, b * six i, by rw [e, six_add, q3_up (by omega) (by omega)], x.mul (sz_six i), y.mul (sz_six i)⟩
theorem gb.con {j k : Nat} {p : Cq} (h : gb j k p) : gb j k (conN p) := by
  obtain ⟨a, b, e, x, y⟩ := h
  exact ⟨a, -b, by rw [e, ← q3_con], x, y.neg⟩
theorem gb_zero (j : Nat) : gb j 1 0 := ⟨0, 0, by
  have p := six_pos j
  exact ((q3_zero (d := six j) (by omega)).mpr ⟨rfl, rfl⟩).symm, by unfold sz; decide, by unfold sz; decide⟩
/-- the sizes of a row: later numbers smaller -/
def wl (k c : Nat) : List Cq → Prop
  | [] => True | p :: ps => gb (1 + ps.length) (k + ps.length * c) p ∧ wl k c ps
theorem wl.mono {k c k' c' : Nat} (hk : k ≤ k') (hc : c ≤ c') : ∀ {l : List Cq}, wl k c l → wl k' c' l
  | [], _ => trivial
  | p :: ps, h => ⟨h.1.mono (Nat.add_le_add hk (Nat.mul_le_mul_left _ hc)), wl.mono hk hc h.2⟩
theorem wl.hb {k c B : Nat} : ∀ {l : List Cq}, wl k c l → k + l.length * c ≤ B → 3 * l.length + 4 ≤ B → ∀ p ∈ l, hb B p
  | [], _, _, _, p, hp => by cases hp
  | q :: qs, h, h1, h2, p, hp => by
    have e : (q :: qs).length = qs.length + 1 := rfl
    rw [e] at h1 h2
    rw [Nat.add_mul] at h1
    rcases List.mem_cons.mp hp with rfl | hp
    · exact h.1.hb (by omega) (by omega)
    · exact h.2.hb (by omega) (by omega) p hp
theorem gb.upc {k c n : Nat} {p : Cq} (hc : 4 ≤ c) (h : gb 1 k p) : gb (1 + n) (k + n * c) p := by
  by_cases z : n = 0
  · subst z; exact h.mono (by omega)
  refine (h.up n).mono ?_
  have : 4 * n ≤ n * c := by rw [Nat.mul_comm]; exact Nat.mul_le_mul_left _ hc
  omega
theorem wl_of {k c : Nat} (hc : 4 ≤ c) : ∀ {l : List Cq}, (∀ p ∈ l, gb 1 k p) → wl k c l
  | [], _ => trivial
  | p :: ps, h => ⟨(h p (List.mem_cons_self ..)).upc hc, wl_of hc fun q hq => h q (List.mem_cons_of_mem _ hq)⟩
theorem wl_stp {k c kx : Nat} {x : Cq} (hx : gb 1 kx x) (hc : kx + 1 ≤ c) (hk : 1 ≤ k) : ∀ {l : List Cq}, wl k c l → ∃ h t, stp x l = h :: t ∧ t.length = l.length ∧ gb (1 + l.length) (k + l.length * c) h ∧ wl (k + 1) c t
  | [], _ => ⟨0, [], by show [(0 : Cq) + 0] = [0]; rw [show (0 : Cq) + 0 = 0 by grind], rfl, (gb_zero 1).mono (by simpa using hk), trivial⟩
  | q :: qs, w => by
    obtain ⟨h, t, e, el, g, w2⟩ := wl_stp hx hc hk w.2
    refine ⟨q * x, (h + q) :: t, by rw [stp_cons, e]; rfl, by show t.length + 1 = qs.length + 1; rw [el], ?_, ?_⟩
    · have := w.1.mul hx
      refine this.mono ?_
      show _ ≤ k + (qs.length + 1) * c
      rw [Nat.add_mul]
      omega
    · refine ⟨?_, w2⟩
      rw [el]
      exact (g.add w.1).mono (by omega)
theorem wl_sh {k c kx : Nat} {x : Cq} (hx : gb 1 kx x) (hc : kx + 1 ≤ c) (h4 : 4 ≤ c) (hk : 1 ≤ k) : ∀ {l : List Cq}, (∀ p ∈ l, gb 1 k p) → wl (k + l.length) c (shN l x)
  | [], _ => trivial
  | p :: ps, w => by
    have ih := wl_sh hx hc h4 hk fun q hq => w q (List.mem_cons_of_mem _ hq)
    obtain ⟨h, t, e, el, g, w2⟩ := wl_stp hx hc (by omega) ih
    have el2 := shN_len ps x
    show wl _ c (adH p (stp x (shN ps x)))
    rw [e]
    refine ⟨?_, w2.mono (by show _ ≤ k + (ps.length + 1); omega) (Nat.le_refl _)⟩
    rw [el]
    have gp : gb (1 + (shN ps x).length) (k + ps.length + (shN ps x).length * c) p := ((w p (List.mem_cons_self ..)).upc h4).mono (by omega)
    exact (g.add gp).mono (by show _ ≤ k + (ps.length + 1) + _; omega)
theorem wl_pass {k c kx : Nat} {x : Cq} (hx : gb 1 kx x) (hc : kx + 1 ≤ c) : ∀ {l : List Cq}, wl k c l → wl k (c + 1) (passN x l)
  | [], _ => trivial
  | [p], w => ⟨by
      show gb 1 _ (p + x * 0)
      rw [show p + x * 0 = p by grind]
      exact w.1.mono (by show k + 0 * c ≤ k + 0 * (c + 1); omega), trivial⟩
  | p :: q :: qs, w => by
    have ih := wl_pass hx hc w.2
    refine ⟨?_, ih⟩
    have g := hx.mul ih.1
    have ll : (passN x (q :: qs)).length = qs.length + 1 := pass_len x _
    have l2 : (passN x qs).length = qs.length := pass_len x _
    rw [ll]
    rw [l2] at g
    rw [show 1 + (1 + qs.length) = 1 + (qs.length + 1) by omega] at g
    have e1 : (qs.length + 1) * (c + 1) = qs.length * (c + 1) + (c + 1) := by rw [Nat.add_mul]; omega
    have e2 : (qs.length + 1) * (c + 1) = (qs.length + 1) * c + (qs.length + 1) := by rw [Nat.mul_add]; omega
    have e3 : (q :: qs).length = qs.length + 1 := rfl
    have a := w.1
    rw [e3] at a
    exact ((a.mono (by omega : _ ≤ k + (qs.length + 1) * c)).mono (by omega : _ ≤ k + (qs.length + 1) * (c + 1) - 1)).add (g.mono (by omega : _ ≤ k + (qs.length + 1) * (c + 1) - 1)) |>.mono (by omega)
/-- the head stands among the rest -/
theorem pass_sub (x : Cq) (b : List Cq) : ∀ (a : List Cq), ∀ q ∈ passN x b, q ∈ passN x (a ++ b)
  | [], q, h => h
  | p :: ps, q, h => List.mem_cons_of_mem _ (pass_sub x b ps q h)
end PD

set_option Elab.async false
set_option linter.all false
set_option autoImplicit false
set_option maxRecDepth 100000
set_option maxHeartbeats 1000000
/-! NR12: numbers over powers of 2520; tables: pure mathematics. -/
namespace PD
def bq (j : Nat) : Int := 2520 ^ j
theorem bq_pos (j : Nat) : 0 < bq j := Int.pow_pos (by decide)
theorem bq_add (i j : Nat) : bq (i + j) = bq i * bq j := by unfold bq; rw [Int.pow_add]
theorem sz_bq : ∀ j, sz (12 * j + 1) (bq j)
  | 0 => by unfold sz bq; decide
  | j + 1 => by
    have h := sz_bq j
    have e : bq (j + 1) = bq j * 2520 := bq_add j 1
    have : sz (12 * j + 13) (bq (j + 1)) := by
      rw [e]
      unfold sz at *
      rw [show (2 : Nat) ^ (12 * j + 13) = 2 ^ (12 * j + 1) * 4096 by rw [show 12 * j + 13 = (12 * j + 1) + 12 by omega, Nat.pow_add]]
      rw [Int.natAbs_mul]
      have : (2520 : Int).natAbs = 2520 := rfl
      rw [this]
      omega
    exact this
/-- over 6^j, numerators below 2^k -/
def gq (j k : Nat) (p : Cq) : Prop := ∃ a b : Int, p = q3 a b (bq j) ∧ sz k a ∧ sz k b
theorem gq.mono {j k l : Nat} {p : Cq} (h : gq j k p) (le : k ≤ l) : gq j l p := by
  obtain ⟨a, b, e, x, y⟩ := h
  exact ⟨a, b, e, x.mono le, y.mono le⟩
theorem gq.hb {j k l : Nat} {p : Cq} (h : gq j k p) (le : k ≤ l) (lj : 12 * j + 1 ≤ l) : hb l p := by
  obtain ⟨a, b, e, x, y⟩ := h
  rw [e]
  exact hb_q3 (bq_pos j) (x.mono le) (y.mono le) ((sz_bq j).mono lj)
theorem gq.mul {i j k l : Nat} {p q : Cq} (h : gq i k p) (h' : gq j l q) : gq (i + j) (k + l + 1) (p * q) := by
  obtain ⟨a, b, e, x, y⟩ := h
  obtain ⟨a', b', e', x', y'⟩ := h'
  have p1 := bq_pos i
  have p2 := bq_pos j
  refine ⟨a * a' - b * b', a * b' + b * a', ?_, ?_, sz_add (k := k + l) (x.mul y') (by have := y.mul x'; exact this)⟩
  · rw [e, e', bq_add, q3_mul (by omega) (by omega)]; rfl
  · have := sz_add (x.mul x') (y.mul y').neg
    rwa [← Int.sub_eq_add_neg] at this
theorem gq.add {j k : Nat} {p q : Cq} (h : gq j k p) (h' : gq j k q) : gq j (k + 1) (p + q) := by
  obtain ⟨a, b, e, x, y⟩ := h
  obtain ⟨a', b', e', x', y'⟩ := h'
  exact ⟨a + a', b + b', by rw [e, e', q3_same], sz_add x x', sz_add y y'⟩
theorem gq.up {j k : Nat} {p : Cq} (i : Nat) (h : gq j k p) : gq (j + i) (k + (12 * i + 1)) p := by
  obtain ⟨a, b, e, x, y⟩ := h
  have p1 := bq_pos i
  have p2 := bq_pos j
  exact ⟨a * bq i, b * bq i, by rw [e, bq_add, q3_up (by omega) (by omega)], x.mul (sz_bq i), y.mul (sz_bq i)⟩
theorem gq.con {j k : Nat} {p : Cq} (h : gq j k p) : gq j k (conN p) := by
  obtain ⟨a, b, e, x, y⟩ := h
  exact ⟨a, -b, by rw [e, ← q3_con], x, y.neg⟩
theorem gq_zero (j : Nat) : gq j 1 0 := ⟨0, 0, by
  have p := bq_pos j
  exact ((q3_zero (d := bq j) (by omega)).mpr ⟨rfl, rfl⟩).symm, by unfold sz; decide, by unfold sz; decide⟩
theorem gq_neg {j k : Nat} {p : Cq} (h : gq j k p) : gq j k (-p) := by
  obtain ⟨a, b, e, x, y⟩ := h
  refine ⟨-a, -b, ?_, x.neg, y.neg⟩
  rw [q3_neg, ← e]; rfl
theorem gq.sub {j k : Nat} {p q : Cq} (h : gq j k p) (h' : gq j k q) : gq j (k + 1) (p - q) := by
  have : p - q = p + -q := by grind
  rw [this]
  exact h.add (gq_neg h')
theorem gq_of {k : Nat} {a b d c : Int} (hd : d * c = 2520) (ha : sz k a) (hb : sz k b) : gq 1 (k + 12) (q3 a b d) := by
  have d0 : d ≠ 0 := fun e => by rw [e, Int.zero_mul] at hd; cases hd
  have c0 : c ≠ 0 := fun e => by rw [e, Int.mul_zero] at hd; cases hd
  have hc : sz 12 c := by
    have : c.natAbs ≤ 2520 := by
      have h1 : d.natAbs * c.natAbs = 2520 := by rw [← Int.natAbs_mul, hd]; rfl
      have h2 : 1 ≤ d.natAbs := by omega
      have := Nat.mul_le_mul_right c.natAbs h2
      omega
    unfold sz; omega
  refine ⟨a * c, b * c, ?_, ha.mul hc, hb.mul hc⟩
  rw [show bq 1 = d * c by rw [hd]; rfl, q3_up d0 c0]
theorem div2520 {d : Int} (h1 : 1 ≤ d) (h9 : d ≤ 10) : ∃ c, d * c = 2520 := by
  have : d = 1 ∨ d = 2 ∨ d = 3 ∨ d = 4 ∨ d = 5 ∨ d = 6 ∨ d = 7 ∨ d = 8 ∨ d = 9 ∨ d = 10 := by omega
  rcases this with rfl | rfl | rfl | rfl | rfl | rfl | rfl | rfl | rfl | rfl
  · exact ⟨2520, rfl⟩
  · exact ⟨1260, rfl⟩
  · exact ⟨840, rfl⟩
  · exact ⟨630, rfl⟩
  · exact ⟨504, rfl⟩
  · exact ⟨420, rfl⟩
  · exact ⟨360, rfl⟩
  · exact ⟨315, rfl⟩
  · exact ⟨280, rfl⟩
  · exact ⟨252, rfl⟩
theorem gq_one (j : Nat) : gq j (12 * j + 1) 1 := by
  refine ⟨bq j, 0, ?_, sz_bq j, by unfold sz; exact Nat.pow_pos (by decide)⟩
  have p := bq_pos j
  have e := q3_up (a := 1) (b := 0) (d := 1) (c := bq j) (by decide) (by omega)
  rw [Int.one_mul, Int.zero_mul] at e
  rw [e]
  exact t3_q3 (1 : Cq) ▸ rfl
end PD

set_option Elab.async false
set_option linter.all false
set_option autoImplicit false
set_option maxRecDepth 100000
set_option maxHeartbeats 1000000
/-! NR13: tables of numbers: pure mathematics. -/
namespace PD
open PySem PySem.Spec PyProof.Rows L2
def dotF : Cq → List Cq → List Cq → Cq
  | a, p :: ps, q :: qs => dotF (a + p * q) ps qs | a, _, _ => a
def RN (r : List Cq) : D := .tup (r.map Nm)
def RT (r : List Cq) : D := .lst (r.map T)
def MN (M : List (List Cq)) : D := .tup (M.map RN)
def MT (M : List (List Cq)) : D := .lst (M.map RT)
def colN (M : List (List Cq)) (j : Nat) : List Cq := M.map fun r => cf r j
/-- c T -/
def runM (M : List (List Cq)) (c : List Cq) : List Cq := (List.range M.length).map fun j => dotF 0 c (colN M j)
def IsM (n : Nat) (M : List (List Cq)) : Prop := M.length = n ∧ ∀ r ∈ M, r.length = n
def ent (M : List (List Cq)) (i j : Nat) : Cq := cf ((M[i]?).getD []) j
def Herm (n : Nat) (M : List (List Cq)) : Prop := ∀ i j, i < n → j < n → ent M i j = conN (ent M j i)
def Mg (j k : Nat) (M : List (List Cq)) : Prop := ∀ r ∈ M, ∀ p ∈ r, gq j k p
theorem Mg.mono {j k l : Nat} {M : List (List Cq)} (h : Mg j k M) (le : k ≤ l) : Mg j l M := fun r hr p hp => (h r hr p hp).mono le
theorem gq_cf {j k : Nat} {r : List Cq} (h : ∀ p ∈ r, gq j k p) (h1 : 1 ≤ k) (i : Nat) : gq j k (cf r i) := by
  unfold cf
  cases e : r[i]? with
  | none => exact (gq_zero j).mono h1
  | some p => exact h p (List.mem_of_getElem? e)
theorem gq_dot {i j k l : Nat} : ∀ (ps qs : List Cq) (a : Cq) (c : Nat), (∀ p ∈ ps, gq i k p) → (∀ q ∈ qs, gq j l q) → gq (i + j) c a → k + l + 1 ≤ c → gq (i + j) (c + ps.length) (dotF a ps qs)
  | [], qs, a, c, _, _, ha, _ => by unfold dotF; exact ha
  | p :: ps, [], a, c, _, _, ha, _ => by unfold dotF; exact ha.mono (by omega)
  | p :: ps, q :: qs, a, c, hp, hq, ha, hc => by
    show gq (i + j) (c + (ps.length + 1)) (dotF (a + p * q) ps qs)
    have := gq_dot ps qs (a + p * q) (c + 1) (fun z hz => hp z (List.mem_cons_of_mem _ hz)) (fun z hz => hq z (List.mem_cons_of_mem _ hz)) (ha.add (((hp p (List.mem_cons_self ..)).mul (hq q (List.mem_cons_self ..))).mono hc)) (by omega)
    exact this.mono (by omega)
theorem gq_dot0 {i j k l c : Nat} {ps qs : List Cq} (hp : ∀ p ∈ ps, gq i k p) (hq : ∀ q ∈ qs, gq j l q) (hc : k + l + 1 ≤ c) : gq (i + j) (c + ps.length) (dotF 0 ps qs) :=
  gq_dot ps qs 0 c hp hq ((gq_zero _).mono (by omega)) hc
theorem gq_col {j k n : Nat} {M : List (List Cq)} (h : Mg j k M) (h1 : 1 ≤ k) (c : Nat) : ∀ p ∈ colN M c, gq j k p := fun p hp => by
  obtain ⟨r, hr, rfl⟩ := List.mem_map.mp hp
  exact gq_cf (h r hr) h1 c
theorem run_len (M : List (List Cq)) (c : List Cq) : (runM M c).length = M.length := by simp [runM]
theorem gq_run {i j k l : Nat} {M : List (List Cq)} {c : List Cq} (hM : Mg j l M) (h1 : 1 ≤ l) (hc : ∀ p ∈ c, gq i k p) : ∀ p ∈ runM M c, gq (i + j) (k + l + 1 + c.length) p := fun p hp => by
  obtain ⟨x, _, rfl⟩ := List.mem_map.mp hp
  exact gq_dot0 hc (gq_col (n := 0) hM h1 x) (Nat.le_refl _)
theorem gq_cons {j k : Nat} {r : List Cq} (h : ∀ p ∈ r, gq j k p) : ∀ p ∈ r.map conN, gq j k p := fun p hp => by
  obtain ⟨q, hq, rfl⟩ := List.mem_map.mp hp
  exact (h q hq).con
/-- what two mixes come out together as -/
def togM (M : List (List Cq)) (c d : List Cq) : Cq := dotF 0 (runM M c) (d.map conN)
theorem gq_tog {i j h k l m : Nat} {M : List (List Cq)} {c d : List Cq} (hM : Mg j l M) (h1 : 1 ≤ l) (hc : ∀ p ∈ c, gq i k p) (hd : ∀ p ∈ d, gq h m p) : gq (i + j + h) (k + l + 1 + c.length + m + 1 + M.length) (togM M c d) := by
  have := gq_dot0 (gq_run hM h1 hc) (gq_cons hd) (Nat.le_refl _)
  rw [run_len] at this
  exact this
theorem ent_lt {n i j : Nat} {M : List (List Cq)} (h : IsM n M) (hi : i < n) (hj : j < n) : ∃ r, M[i]? = some r ∧ r[j]? = some (ent M i j) ∧ r.length = n := by
  have h1 : i < M.length := by rw [h.1]; exact hi
  have hr := h.2 _ (List.getElem_mem h1)
  refine ⟨M[i], List.getElem?_eq_getElem h1, ?_, hr⟩
  unfold ent cf
  rw [List.getElem?_eq_getElem h1]
  show M[i][j]? = some ((M[i][j]?).getD 0)
  rw [List.getElem?_eq_getElem (by omega)]
  rfl
end PD
namespace PD
def addR (ps qs : List Cq) : List Cq := List.zipWith (· + ·) ps qs
def addM (M N : List (List Cq)) : List (List Cq) := List.zipWith addR M N
def mulR (ps qs : List Cq) : List Cq := List.zipWith (· * ·) ps qs
def mulM (M N : List (List Cq)) : List (List Cq) := List.zipWith mulR M N
def sclM (M : List (List Cq)) (x : Cq) : List (List Cq) := M.map fun r => r.map (· * x)
def ledM (M cs : List (List Cq)) : List (List Cq) := cs.map fun c => cs.map fun d => togM M c d
theorem mem_zipW {α β γ : Type} {f : α → β → γ} : ∀ {as : List α} {bs : List β} {c : γ}, c ∈ List.zipWith f as bs → ∃ a b, a ∈ as ∧ b ∈ bs ∧ c = f a b
  | [], _, _, h => by simp at h
  | _ :: _, [], _, h => by simp at h
  | a :: as, b :: bs, c, h => by
    rw [List.zipWith_cons_cons] at h
    rcases List.mem_cons.mp h with rfl | h
    · exact ⟨a, b, List.mem_cons_self .., List.mem_cons_self .., rfl⟩
    · obtain ⟨a', b', h1, h2, h3⟩ := mem_zipW h
      exact ⟨a', b', List.mem_cons_of_mem _ h1, List.mem_cons_of_mem _ h2, h3⟩
theorem Mg_add {j k : Nat} {M N : List (List Cq)} (h : Mg j k M) (h' : Mg j k N) : Mg j (k + 1) (addM M N) := fun r hr p hp => by
  obtain ⟨a, b, ha, hb, rfl⟩ := mem_zipW hr
  obtain ⟨x, y, hx, hy, rfl⟩ := mem_zipW hp
  exact (h a ha x hx).add (h' b hb y hy)
theorem Mg_mul {i j k l : Nat} {M N : List (List Cq)} (h : Mg i k M) (h' : Mg j l N) : Mg (i + j) (k + l + 1) (mulM M N) := fun r hr p hp => by
  obtain ⟨a, b, ha, hb, rfl⟩ := mem_zipW hr
  obtain ⟨x, y, hx, hy, rfl⟩ := mem_zipW hp
  exact (h a ha x hx).mul (h' b hb y hy)
theorem Mg_scl {i j k l : Nat} {M : List (List Cq)} {x : Cq} (h : Mg i k M) (h' : gq j l x) : Mg (i + j) (k + l + 1) (sclM M x) := fun r hr p hp => by
  obtain ⟨a, ha, rfl⟩ := List.mem_map.mp hr
  obtain ⟨y, hy, rfl⟩ := List.mem_map.mp hp
  exact (h a ha y hy).mul h'
theorem zipW_len {f : List Cq → List Cq → List Cq} {n : Nat} {M N : List (List Cq)} (hM : IsM n M) (hN : IsM n N) (hf : ∀ a b : List Cq, a.length = n → b.length = n → (f a b).length = n) : IsM n (List.zipWith f M N) :=
  ⟨by rw [List.length_zipWith, hM.1, hN.1, Nat.min_self], fun r hr => by
    obtain ⟨a, b, ha, hb, rfl⟩ := mem_zipW hr
    exact hf a b (hM.2 a ha) (hN.2 b hb)⟩
theorem IsM_add {n : Nat} {M N : List (List Cq)} (hM : IsM n M) (hN : IsM n N) : IsM n (addM M N) := zipW_len hM hN fun a b h1 h2 => by unfold addR; rw [List.length_zipWith, h1, h2, Nat.min_self]
theorem IsM_mul {n : Nat} {M N : List (List Cq)} (hM : IsM n M) (hN : IsM n N) : IsM n (mulM M N) := zipW_len hM hN fun a b h1 h2 => by unfold mulR; rw [List.length_zipWith, h1, h2, Nat.min_self]
/-- by places -/
def tabM (n : Nat) (f : Nat → Nat → Cq) : List (List Cq) := (List.range n).map fun i => (List.range n).map fun j => f i j
theorem tab_ext {n : Nat} {f : Nat → Nat → Cq} {M : List (List Cq)} (hM : IsM n M) (h : ∀ i j, i < n → j < n → f i j = ent M i j) : tabM n f = M := by
  unfold tabM
  refine List.ext_getElem (by simp [hM.1]) fun i h1 h2 => ?_
  have hi : i < n := by rw [← hM.1]; exact h2
  rw [List.getElem_map, List.getElem_range]
  have lr := hM.2 _ (List.getElem_mem h2)
  refine List.ext_getElem (by simp [lr]) fun j h3 h4 => ?_
  have hj : j < n := by rw [← lr]; exact h4
  rw [List.getElem_map, List.getElem_range, h i j hi hj]
  unfold ent cf
  rw [List.getElem?_eq_getElem h2]
  show (M[i][j]?).getD 0 = _
  rw [List.getElem?_eq_getElem h4]; rfl
theorem ent_zip {f : Cq → Cq → Cq} {n i j : Nat} {M N : List (List Cq)} (hM : IsM n M) (hN : IsM n N) (hi : i < n) (hj : j < n) : ent (List.zipWith (List.zipWith f) M N) i j = f (ent M i j) (ent N i j) := by
  obtain ⟨r, a1, a2, a3⟩ := ent_lt hM hi hj
  obtain ⟨s, b1, b2, b3⟩ := ent_lt hN hi hj
  have : ent (List.zipWith (List.zipWith f) M N) i j = cf (List.zipWith f r s) j := by
    unfold ent
    rw [List.getElem?_zipWith, a1, b1]; rfl
  rw [this]
  unfold cf
  rw [List.getElem?_zipWith, a2, b2]; rfl
end PD

set_option Elab.async false
set_option linter.all false
set_option autoImplicit false
set_option maxRecDepth 100000
set_option maxHeartbeats 1000000
/-! NR14: tables in cells. -/
namespace PD
open PySem PySem.Spec PyProof.Rows L2
def setM (M : List (List Cq)) (i j : Nat) (z : Cq) : List (List Cq) := M.set i (((M[i]?).getD []).set j z)
theorem IsM_set {n i j : Nat} {M : List (List Cq)} {z : Cq} (h : IsM n M) (hi : i < n) : IsM n (setM M i j z) := by
  have h1 : i < M.length := by rw [h.1]; exact hi
  refine ⟨by unfold setM; rw [List.length_set]; exact h.1, fun r hr => ?_⟩
  unfold setM at hr
  rcases List.mem_or_eq_of_mem_set hr with hr | rfl
  · exact h.2 r hr
  · rw [List.length_set, List.getElem?_eq_getElem h1]
    exact h.2 _ (List.getElem_mem h1)
theorem ent_set {n i j a b : Nat} {M : List (List Cq)} {z : Cq} (h : IsM n M) (hi : i < n) (hj : j < n) : ent (setM M i j z) a b = if a = i ∧ b = j then z else ent M a b := by
  obtain ⟨r, h1, h2, h3⟩ := ent_lt h hi hj
  unfold setM ent
  rw [h1]
  by_cases ha : a = i
  · subst ha
    have hl : a < M.length := by rw [h.1]; exact hi
    rw [List.getElem?_set_self hl, h1]
    show cf (r.set j z) b = if a = a ∧ b = j then z else cf r b
    unfold cf
    by_cases hb : b = j
    · subst hb
      rw [List.getElem?_set_self (by omega), if_pos ⟨rfl, rfl⟩]; rfl
    · rw [List.getElem?_set_ne (Ne.symm hb), if_neg fun e => hb e.2]
  · rw [List.getElem?_set_ne (Ne.symm ha), if_neg fun e => ha e.1]
def zerM (n : Nat) : List (List Cq) := List.replicate n (List.replicate n 0)
theorem IsM_zer (n : Nat) : IsM n (zerM n) := ⟨List.length_replicate .., fun r hr => by rw [List.eq_of_mem_replicate hr, List.length_replicate]⟩
theorem ent_zer (n a b : Nat) : ent (zerM n) a b = 0 := by
  unfold ent zerM
  rw [List.getElem?_replicate]
  split
  · show cf (List.replicate n 0) b = 0
    unfold cf
    rw [List.getElem?_replicate]
    split <;> rfl
  · rfl
theorem Herm_zer (n : Nat) : Herm n (zerM n) := fun i j _ _ => by rw [ent_zer, ent_zer, con_zero]
theorem Mg_of {n j k : Nat} {M : List (List Cq)} (hM : IsM n M) (h : ∀ a b, a < n → b < n → gq j k (ent M a b)) : Mg j k M := fun r hr p hp => by
  obtain ⟨a, ha, rfl⟩ := List.getElem_of_mem hr
  obtain ⟨b, hb, rfl⟩ := List.getElem_of_mem hp
  have la : a < n := by rw [← hM.1]; exact ha
  have lb : b < n := by rw [← hM.2 _ (List.getElem_mem ha)]; exact hb
  have := h a b la lb
  unfold ent cf at this
  rw [List.getElem?_eq_getElem ha] at this
  simp only [Option.getD_some] at this
  rw [List.getElem?_eq_getElem hb] at this
  exact this
theorem Mg_ent {n j k a b : Nat} {M : List (List Cq)} (hM : IsM n M) (h : Mg j k M) (ha : a < n) (hb : b < n) : gq j k (ent M a b) := by
  obtain ⟨r, h1, h2, _⟩ := ent_lt hM ha hb
  exact h r (List.mem_of_getElem? h1) _ (List.mem_of_getElem? h2)
/-! in the store -/
def rowsT (M : List (List Cq)) : List (List D) := M.map fun r => r.map T
def cellL (c n : Nat) : D := .lst ((List.range n).map fun r => .cell (c + r))
theorem rowsT_len {n : Nat} {M : List (List Cq)} (h : IsM n M) : (rowsT M).length = n := by unfold rowsT; rw [List.length_map, h.1]
theorem rows_at {S0 : Store} {M : List (List Cq)} {i : Nat} {r : List Cq} (h : M[i]? = some r) : (S0 ++ rowsT M)[S0.length + i]? = some (r.map T) := by
  rw [List.getElem?_append_right (by omega), Nat.add_sub_cancel_left]
  unfold rowsT
  rw [List.getElem?_map, h]; rfl
theorem rows_set {S0 : Store} {M : List (List Cq)} {n i j : Nat} {z : Cq} {r : List Cq} (h : M[i]? = some r) : (S0 ++ rowsT M).set (S0.length + i) ((r.map T).set j (T z)) = S0 ++ rowsT (setM M i j z) := by
  rw [List.set_append_right _ _ (by omega), Nat.add_sub_cancel_left]
  unfold rowsT setM
  rw [h, List.map_set, ← List.map_set]; rfl
theorem pureT (p : Cq) : D.pure (T p) = true := rfl
theorem puresT : ∀ ps : List Cq, D.pures (ps.map T) = true
  | [] => rfl
  | p :: ps => by show (D.pure (T p) && D.pures (ps.map T)) = true; rw [puresT ps]; rfl
theorem seal_cells {S S0 : Store} {M : List (List Cq)} {n : Nat} (hM : IsM n M) (hl : S0.length = S.length) : sealV S.length (S0 ++ rowsT M) (cellL S.length n) = some (MT M) := by
  have go : ∀ (M' : List (List Cq)) (c : Nat), (∀ i r, M'[i]? = some r → M[c + i]? = some r) → sealDs S.length (S0 ++ rowsT M) (sealDs S.length (S0 ++ rowsT M) (seal0 S.length)) ((List.range' c M'.length).map fun r => .cell (S.length + r)) = some (M'.map RT) := by
    intro M'
    induction M' with
    | nil => intro c _; rfl
    | cons r M' ih =>
      intro c h
      have h0 := h 0 r rfl
      rw [Nat.add_zero] at h0
      have ih' := ih (c + 1) fun i x hx => by have := h (i + 1) x (by simpa using hx); rwa [show c + (i + 1) = c + 1 + i by omega] at this
      rw [List.length_cons, List.range'_succ, List.map_cons, List.map_cons]
      have e1 : sealD S.length (S0 ++ rowsT M) (sealDs S.length (S0 ++ rowsT M) (seal0 S.length)) (.cell (S.length + c)) = some (RT r) := by
        simp only [sealD]
        rw [if_neg (by omega), ← hl, rows_at h0]
        show (sealDs _ _ _ (r.map T)).map D.lst = _
        rw [sealDs_low (lows_pure (puresT r))]; rfl
      simp only [sealDs, e1, ih']
  have := go M 0 fun i r h => by rw [Nat.zero_add]; exact h
  unfold sealV cellL
  rw [hM.1, ← List.range_eq_range'] at this
  simp only [sealD, this]
  rfl
end PD
namespace PD
def sqF (a b : Nat) : Cq → List (Cq × List Cq) → Cq
  | acc, [] => acc | acc, s :: ss => sqF a b (acc + s.1 * (cf s.2 a * conN (cf s.2 b))) ss
theorem con_sqF {a b : Nat} : ∀ (ss : List (Cq × List Cq)) (acc acc' : Cq), (∀ s ∈ ss, conN s.1 = s.1) → conN acc = acc' → conN (sqF a b acc ss) = sqF b a acc' ss
  | [], acc, acc', _, h => h
  | s :: ss, acc, acc', hs, h => by
    show conN (sqF a b (acc + s.1 * (cf s.2 a * conN (cf s.2 b))) ss) = sqF b a (acc' + s.1 * (cf s.2 b * conN (cf s.2 a))) ss
    refine con_sqF ss _ _ (fun z hz => hs z (List.mem_cons_of_mem _ hz)) ?_
    rw [con_add, con_mul, con_mul, con_con, h, hs s (List.mem_cons_self ..)]
    have : conN (cf s.2 a) * cf s.2 b = cf s.2 b * conN (cf s.2 a) := by grind
    rw [this]
theorem Mg_set {n j k a b : Nat} {M : List (List Cq)} {z : Cq} (hM : IsM n M) (h : Mg j k M) (ha : a < n) (hb : b < n) (hz : gq j k z) : Mg j k (setM M a b z) := by
  refine Mg_of (IsM_set hM ha) fun x y hx hy => ?_
  rw [ent_set hM ha hb]
  split
  · exact hz
  · exact Mg_ent hM h hx hy
end PD

set_option Elab.async false
set_option linter.all false
set_option maxRecDepth 100000
set_option maxHeartbeats 4000000
namespace W
open PySem PySem.Spec PyProof.Rows L2 PD
/-! clearing, null mixes: pure -/
def fstO : List Cq → Option Nat
  | [] => none
  | p :: ps => if p = 0 then (fstO ps).map (· + 1) else some 0
def lesR (p q : List Cq) (x : Cq) : List Cq := List.zipWith (fun a b => a - x * b) p q
def minM (A B : List (List Cq)) : List (List Cq) := List.zipWith (fun r s => lesR r s 1) A B
def unitR (n : Nat) (at' : Int) : List Cq := (List.range n).map fun i => if ((i : Nat) : Int) = at' then 1 else 0
def sqTab (w : Rat) (m : List Cq) : List (List Cq) := m.map fun a => (m.map conN).map fun b => a * b * re w
def ldM (M : List (List Cq)) (t : Nat) : List Cq := M.map fun r => cf r t / ent M t t
def SqN (s : Rat × List Cq) : D := .tup [F s.1, RN s.2]
/-- rows of n numbers, K bits at most -/
def BdR (K n : Nat) (r : List Cq) : Prop := r.length = n ∧ ∀ p ∈ r, hb K p
def BdM (K n : Nat) (M : List (List Cq)) : Prop := M.length = n ∧ ∀ r ∈ M, BdR K n r
abbrev Ld := Nat × List Cq × List Cq
def LdD (l : Ld) : D := .tup [.int (l.1 : Nat), RN l.2.1, RN l.2.2]
def redF : List Ld → List Cq × List Cq → List Cq × List Cq
  | [], s => s
  | l :: ls, s => redF ls (lesR s.1 l.2.1 (cf s.1 l.1 / cf l.2.1 l.1), lesR s.2 l.2.2 (cf s.1 l.1 / cf l.2.1 l.1))
def RedOk (K n : Nat) : List Ld → List Cq × List Cq → Prop
  | [], s => BdR K n s.1 ∧ BdR K n s.2
  | l :: ls, s => BdR K n s.1 ∧ BdR K n s.2 ∧ BdR K n l.2.1 ∧ BdR K n l.2.2 ∧ l.1 < n ∧ cf l.2.1 l.1 ≠ 0 ∧ RedOk K n ls (lesR s.1 l.2.1 (cf s.1 l.1 / cf l.2.1 l.1), lesR s.2 l.2.2 (cf s.1 l.1 / cf l.2.1 l.1))
def nstep (M : List (List Cq)) (n : Nat) (a : List Ld × List (List Cq)) (t : Nat) : List Ld × List (List Cq) :=
  match fstO (redF a.1 ((M[t]?).getD [], unitR n (t : Nat))).1 with
  | none => (a.1, a.2 ++ [(redF a.1 ((M[t]?).getD [], unitR n (t : Nat))).2])
  | some p => (a.1 ++ [(p, (redF a.1 ((M[t]?).getD [], unitR n (t : Nat))).1, (redF a.1 ((M[t]?).getD [], unitR n (t : Nat))).2)], a.2)
/-- from the t-th row on, r rows -/
def nulF (M : List (List Cq)) (n : Nat) : Nat → Nat → List Ld × List (List Cq) → List Ld × List (List Cq)
  | 0, _, a => a
  | r + 1, t, a => nulF M n r (t + 1) (nstep M n a t)
def NulOk (K : Nat) (M : List (List Cq)) (n : Nat) : Nat → Nat → List Ld × List (List Cq) → Prop
  | 0, _, _ => True
  | r + 1, t, a => RedOk K n a.1 ((M[t]?).getD [], unitR n (t : Nat)) ∧ NulOk K M n r (t + 1) (nstep M n a t)
/-- the turns of clearing: the squares found, where it stopped, what is left -/
def ClRun (K n : Nat) : Nat → Nat → List (List Cq) → List (Rat × List Cq) → Option Nat → List (List Cq) → Prop
  | 0, _, left, sqs, stop, fin => sqs = [] ∧ stop = none ∧ fin = left
  | r + 1, t, left, sqs, stop, fin => BdM K n left ∧ ((fstO ((left[t]?).getD []) = none ∧ ClRun K n r (t + 1) left sqs stop fin) ∨
      (fstO ((left[t]?).getD []) ≠ none ∧ (ent left t t).1 ≤ 0 ∧ sqs = [] ∧ stop = some t ∧ fin = left) ∨
      (fstO ((left[t]?).getD []) ≠ none ∧ 0 < (ent left t t).1 ∧ ∃ rest, sqs = ((ent left t t).1, ldM left t) :: rest ∧ BdR K n (ldM left t) ∧ ClRun K n r (t + 1) (minM left (sqTab (ent left t t).1 (ldM left t))) rest stop fin))
theorem lesR_len {p q : List Cq} {x : Cq} : (lesR p q x).length = min p.length q.length := List.length_zipWith
theorem cf_les {n i : Nat} {p q : List Cq} {x : Cq} (hp : p.length = n) (hq : q.length = n) : cf (lesR p q x) i = cf p i - x * cf q i := by
  unfold cf lesR
  rw [List.getElem?_zipWith]
  by_cases h : i < n
  · rw [List.getElem?_eq_getElem (by omega : i < p.length), List.getElem?_eq_getElem (by omega : i < q.length)]; rfl
  · rw [List.getElem?_eq_none (by omega : p.length ≤ i), List.getElem?_eq_none (by omega : q.length ≤ i)]
    show (0 : Cq) = 0 - x * 0
    grind
end W

set_option Elab.async false
set_option linter.all false
set_option autoImplicit false
set_option maxRecDepth 100000
set_option maxHeartbeats 2000000
namespace W
open PySem PySem.Spec PyProof.Rows L2 PD
/-! stepped squares, cleared -/
abbrev Sq := Cq × List Cq
def SqG (n : Nat) (s : Sq) : Prop := gq 1 15 s.1 ∧ s.1 = re s.1.1 ∧ s.2.length = n ∧ ∀ p ∈ s.2, gq 1 15 p
def sqS (a b : Nat) : List Sq → Cq
  | [] => 0
  | s :: ss => s.1 * (cf s.2 a * conN (cf s.2 b)) + sqS a b ss
theorem sqF_eq {a b : Nat} : ∀ (ss : List Sq) (acc : Cq), sqF a b acc ss = acc + sqS a b ss
  | [], acc => by show acc = acc + 0; grind
  | s :: ss, acc => by
    show sqF a b (acc + s.1 * (cf s.2 a * conN (cf s.2 b))) ss = acc + (s.1 * (cf s.2 a * conN (cf s.2 b)) + sqS a b ss)
    rw [sqF_eq ss]; grind
def Stp (n : Nat) : Nat → List Sq → Prop
  | _, [] => True
  | k, s :: ss => ∃ j, k ≤ j ∧ j < n ∧ (∀ i, i < j → cf s.2 i = 0) ∧ cf s.2 j = 1 ∧ 0 < s.1.1 ∧ Stp n (j + 1) ss
theorem Stp.down {n k l : Nat} : ∀ {ss : List Sq}, Stp n l ss → k ≤ l → Stp n k ss
  | [], _, _ => trivial
  | s :: ss, ⟨j, h1, h⟩, le => ⟨j, by omega, h⟩
theorem Stp.low {n k : Nat} : ∀ {ss : List Sq}, Stp n k ss → ∀ s ∈ ss, ∀ i, i < k → cf s.2 i = 0
  | s :: ss, ⟨j, h1, h2, h3, h4, h5, h6⟩, z, hz, i, hi => by
    rcases List.mem_cons.mp hz with rfl | hz
    · exact h3 i (by omega)
    · exact h6.low z hz i (by omega)
theorem sqS_left {a b : Nat} : ∀ {ss : List Sq}, (∀ s ∈ ss, cf s.2 a = 0) → sqS a b ss = 0
  | [], _ => rfl
  | s :: ss, h => by
    show s.1 * (cf s.2 a * conN (cf s.2 b)) + sqS a b ss = 0
    rw [sqS_left fun z hz => h z (List.mem_cons_of_mem _ hz), h s (List.mem_cons_self ..)]; grind
theorem sqS_right {a b : Nat} : ∀ {ss : List Sq}, (∀ s ∈ ss, cf s.2 b = 0) → sqS a b ss = 0
  | [], _ => rfl
  | s :: ss, h => by
    show s.1 * (cf s.2 a * conN (cf s.2 b)) + sqS a b ss = 0
    rw [sqS_right fun z hz => h z (List.mem_cons_of_mem _ hz), h s (List.mem_cons_self ..), con_zero]; grind
theorem gq_sqS {n a b : Nat} : ∀ {ss : List Sq}, (∀ s ∈ ss, SqG n s) → gq 3 (47 + ss.length) (sqS a b ss)
  | [], _ => (gq_zero 3).mono (by simp)
  | s :: ss, h => by
    obtain ⟨h1, _, _, h4⟩ := h s (List.mem_cons_self ..)
    have ih := gq_sqS (a := a) (b := b) fun z hz => h z (List.mem_cons_of_mem _ hz)
    have t := (h1.mul ((gq_cf h4 (by decide) a).mul (gq_cf h4 (by decide) b).con))
    exact (t.mono (show _ ≤ 47 + ss.length by omega)).add ih
/-- the table that the squares make -/
def mkT (n : Nat) (ss : List Sq) : List (List Cq) := tabM n fun a b => sqS a b ss
def rowS (n t : Nat) (ss : List Sq) : List Cq := (List.range n).map fun b => sqS t b ss
theorem rng_cf {n : Nat} {r : List Cq} (h : r.length = n) : (List.range n).map (cf r) = r := by
  refine List.ext_getElem (by simp [h]) fun i h1 h2 => ?_
  simp [cf, h2]
theorem cf_rng {n i : Nat} {f : Nat → Cq} (h : i < n) : cf ((List.range n).map f) i = f i := by
  unfold cf
  rw [List.getElem?_map, List.getElem?_range h]; rfl
theorem ent_tab {n i j : Nat} {f : Nat → Nat → Cq} (hi : i < n) (hj : j < n) : ent (tabM n f) i j = f i j := by
  unfold ent tabM
  rw [List.getElem?_map, List.getElem?_range hi]
  exact cf_rng hj
theorem row_tab {n t : Nat} {ss : List Sq} (h : t < n) : ((mkT n ss)[t]?).getD [] = rowS n t ss := by
  unfold mkT tabM
  rw [List.getElem?_map, List.getElem?_range h]; rfl
theorem IsM_tab {n : Nat} {f : Nat → Nat → Cq} : IsM n (tabM n f) := ⟨by simp [tabM], fun r hr => by
  obtain ⟨i, _, rfl⟩ := List.mem_map.mp hr
  simp⟩
theorem fst_none : ∀ {r : List Cq}, (∀ p ∈ r, p = 0) → fstO r = none
  | [], _ => rfl
  | p :: r, h => by
    unfold fstO
    rw [if_pos (h p (List.mem_cons_self ..)), fst_none fun q hq => h q (List.mem_cons_of_mem _ hq)]; rfl
theorem fst_at : ∀ {r : List Cq} {t : Nat}, t < r.length → (∀ i, i < t → cf r i = 0) → cf r t ≠ 0 → fstO r = some t
  | [], _, h, _, _ => absurd h (Nat.not_lt_zero _)
  | p :: r, 0, _, _, h0 => by
    unfold fstO
    have h0 : p ≠ 0 := h0
    rw [if_neg h0]
  | p :: r, t + 1, hl, hz, h0 => by
    unfold fstO
    have z0 : p = 0 := hz 0 (Nat.succ_pos _)
    rw [if_pos z0, fst_at (by simpa using hl) (fun i hi => by simpa [cf_consS] using hz (i + 1) (by omega)) (by simpa [cf_consS] using h0)]; rfl
theorem BdM_mk {n : Nat} {ss : List Sq} (h : ∀ s ∈ ss, SqG n s) (hl : ss.length ≤ 6) : BdM 400 n (mkT n ss) :=
  ⟨IsM_tab.1, fun r hr => ⟨IsM_tab.2 r hr, fun p hp => by
    obtain ⟨i, _, rfl⟩ := List.mem_map.mp hr
    obtain ⟨j, _, rfl⟩ := List.mem_map.mp hp
    exact (gq_sqS h).hb (by omega) (by decide)⟩⟩
theorem BdR_rowS {n t : Nat} {ss : List Sq} (h : ∀ s ∈ ss, SqG n s) (hl : ss.length ≤ 6) : BdR 400 n (rowS n t ss) :=
  ⟨by simp [rowS], fun p hp => by
    obtain ⟨j, _, rfl⟩ := List.mem_map.mp hp
    exact (gq_sqS h).hb (by omega) (by decide)⟩
theorem ent_sqTab {n i j : Nat} {w : Rat} {m : List Cq} (hm : m.length = n) (hi : i < n) (hj : j < n) : ent (sqTab w m) i j = cf m i * conN (cf m j) * re w := by
  unfold ent sqTab
  rw [← rng_cf hm, List.map_map, List.getElem?_map, List.getElem?_range hi]
  show cf ((List.map conN ((List.range n).map (cf m))).map _) j = _
  rw [List.map_map, List.map_map, cf_rng hj, rng_cf hm]; rfl
theorem IsM_sqTab {n : Nat} {w : Rat} {m : List Cq} (hm : m.length = n) : IsM n (sqTab w m) := ⟨by simp [sqTab, hm], fun r hr => by
  obtain ⟨i, _, rfl⟩ := List.mem_map.mp hr
  simp [hm]⟩
/-- clearing finds the steps -/
theorem cl_stp {n : Nat} (ss0 : List Sq) : ∀ (r t : Nat) (ss : List Sq), t + r = n → Stp n t ss → (∀ s ∈ ss, SqG n s) → ss.length ≤ 6 → ClRun 400 n r t (mkT n ss) (ss.map fun s => (s.1.1, s.2)) none (mkT n [])
  | 0, t, ss, ht, h, hg, hl => by
    cases ss with
    | nil => exact ⟨rfl, rfl, rfl⟩
    | cons s ss => obtain ⟨j, h1, h2, _⟩ := h; omega
  | r + 1, t, ss, ht, h, hg, hl => by
    refine ⟨BdM_mk hg hl, ?_⟩
    rw [row_tab (by omega)]
    have skip : (∀ s ∈ ss, cf s.2 t = 0) → Stp n (t + 1) ss → fstO (rowS n t ss) = none ∧ ClRun 400 n r (t + 1) (mkT n ss) (ss.map fun s => (s.1.1, s.2)) none (mkT n []) := fun h0 hs =>
      ⟨fst_none fun p hp => by
        obtain ⟨b, _, rfl⟩ := List.mem_map.mp hp
        exact sqS_left h0, cl_stp ss0 r (t + 1) ss (by omega) hs hg hl⟩
    cases ss with
    | nil => exact .inl (skip (fun s hs => by cases hs) trivial)
    | cons s ss =>
      obtain ⟨j, h1, h2, h3, h4, h5, h6⟩ := h
      by_cases hj : j = t
      · subst hj
        obtain ⟨g1, g2, g3, g4⟩ := hg s (List.mem_cons_self ..)
        have hg' : ∀ z ∈ ss, SqG n z := fun z hz => hg z (List.mem_cons_of_mem _ hz)
        have low : ∀ z ∈ ss, ∀ i, i < j + 1 → cf z.2 i = 0 := h6.low
        have ev : ∀ a, sqS a j (s :: ss) = s.1 * cf s.2 a := fun a => by
          show s.1 * (cf s.2 a * conN (cf s.2 j)) + sqS a j ss = _
          rw [sqS_right fun z hz => low z hz j (by omega), h4, con_one]; grind
        have ee : ent (mkT n (s :: ss)) j j = s.1 := by
          unfold mkT
          rw [ent_tab h2 h2, ev, h4]; grind
        have n0 : s.1 ≠ 0 := fun z => by rw [z] at h5; exact Rat.lt_irrefl h5
        refine .inr (.inr ⟨?_, by rw [ee]; exact h5, ss.map fun s => (s.1.1, s.2), ?_, ?_, ?_⟩)
        · rw [fst_at (t := j) (by simp [rowS]; exact h2) (fun i hi => ?_) ?_]
          · exact fun z => by cases z
          · unfold rowS
            rw [cf_rng h2, ev, h4]
            intro z; apply n0; rw [← z]; grind
          · unfold rowS
            rw [cf_rng (by omega)]
            refine sqS_right fun z hz => ?_
            rcases List.mem_cons.mp hz with rfl | hz
            · exact h3 i hi
            · exact low z hz i (by omega)
        · have em : ldM (mkT n (s :: ss)) j = s.2 := by
            unfold ldM
            rw [ee]
            unfold mkT tabM
            rw [List.map_map]
            refine Eq.trans (List.map_congr_left fun a ha => ?_) (rng_cf g3)
            show cf ((List.range n).map fun b => sqS a b (s :: ss)) j / s.1 = cf s.2 a
            rw [cf_rng h2, ev]; grind
          rw [ee, em]; rfl
        · have em : ldM (mkT n (s :: ss)) j = s.2 := by
            unfold ldM
            rw [ee]
            unfold mkT tabM
            rw [List.map_map]
            refine Eq.trans (List.map_congr_left fun a ha => ?_) (rng_cf g3)
            show cf ((List.range n).map fun b => sqS a b (s :: ss)) j / s.1 = cf s.2 a
            rw [cf_rng h2, ev]; grind
          rw [em]
          exact ⟨g3, fun p hp => (g4 p hp).hb (by decide) (by decide)⟩
        · have em : ldM (mkT n (s :: ss)) j = s.2 := by
            unfold ldM
            rw [ee]
            unfold mkT tabM
            rw [List.map_map]
            refine Eq.trans (List.map_congr_left fun a ha => ?_) (rng_cf g3)
            show cf ((List.range n).map fun b => sqS a b (s :: ss)) j / s.1 = cf s.2 a
            rw [cf_rng h2, ev]; grind
          have mm : minM (mkT n (s :: ss)) (sqTab s.1.1 s.2) = mkT n ss := by
            have im : IsM n (minM (mkT n (s :: ss)) (sqTab s.1.1 s.2)) := zipW_len IsM_tab (IsM_sqTab g3) fun a b h1 h2 => by rw [lesR_len, h1, h2, Nat.min_self]
            refine (tab_ext im fun a b ha hb => ?_).symm
            have := ent_zip (f := fun x y => x - 1 * y) (M := mkT n (s :: ss)) (N := sqTab s.1.1 s.2) IsM_tab (IsM_sqTab g3) ha hb
            refine Eq.trans ?_ this.symm
            show sqS a b ss = ent (mkT n (s :: ss)) a b - 1 * ent (sqTab s.1.1 s.2) a b
            unfold mkT
            rw [ent_tab ha hb, ent_sqTab g3 ha hb, ← g2]
            show _ = (s.1 * (cf s.2 a * conN (cf s.2 b)) + sqS a b ss) - _
            grind
          rw [ee, em, mm]
          exact cl_stp ss0 r (j + 1) ss (by omega) h6 hg' (by simp at hl; omega)
      · exact .inl (skip (fun z hz => by
          rcases List.mem_cons.mp hz with rfl | hz
          · exact h3 t (by omega)
          · exact h6.low z hz t (by omega)) ⟨j, by omega, h2, h3, h4, h5, h6⟩)
end W

set_option Elab.async false
set_option linter.all false
set_option autoImplicit false
set_option maxRecDepth 100000
set_option maxHeartbeats 2000000
namespace W
open PySem PySem.Spec PyProof.Rows L2 PD
/-! null mixes of a table that stepped squares make -/
def rowOf (n : Nat) (s : Sq) : List Cq := (List.range n).map fun b => s.1 * conN (cf s.2 b)
def LdsOk (n : Nat) (rest : List Sq) : Nat → List Sq → List Ld → Prop
  | _, [], [] => True
  | i, s :: ss, l :: ls => (l.1 < n ∧ cf s.2 l.1 = 1 ∧ s.1 ≠ 0 ∧ (∀ z ∈ ss ++ rest, cf z.2 l.1 = 0) ∧ l.2.1 = rowOf n s ∧ l.2.2.length = n ∧ ∀ p ∈ l.2.2, gq i (30 * i + 1) p) ∧ LdsOk n rest (i + 1) ss ls
  | _, _, _ => False
theorem LdsOk.snoc {n : Nat} {s : Sq} {rest : List Sq} {l : Ld} : ∀ {pre : List Sq} {ls : List Ld} {i : Nat}, LdsOk n (s :: rest) i pre ls →
    (l.1 < n ∧ cf s.2 l.1 = 1 ∧ s.1 ≠ 0 ∧ (∀ z ∈ rest, cf z.2 l.1 = 0) ∧ l.2.1 = rowOf n s ∧ l.2.2.length = n ∧ ∀ p ∈ l.2.2, gq (i + pre.length) (30 * (i + pre.length) + 1) p) → LdsOk n rest i (pre ++ [s]) (ls ++ [l])
  | [], [], i, _, h => ⟨h, trivial⟩
  | z :: pre, k :: ls, i, ⟨⟨h1, h2, h3, h4, h5⟩, h6⟩, h => by
    refine ⟨⟨h1, h2, h3, fun y hy => h4 y (by simpa using hy), h5⟩, ?_⟩
    refine LdsOk.snoc h6 ?_
    have e : i + (z :: pre).length = i + 1 + pre.length := by simp; omega
    rwa [e] at h
theorem zip_rng {f : Cq → Cq → Cq} {g h : Nat → Cq} : ∀ l : List Nat, List.zipWith f (l.map g) (l.map h) = l.map fun b => f (g b) (h b)
  | [] => rfl
  | b :: l => by rw [List.map_cons, List.map_cons, List.zipWith_cons_cons, zip_rng l]; rfl
theorem BdR_gq {j k n : Nat} {r : List Cq} (hl : r.length = n) (h : ∀ p ∈ r, gq j k p) (h1 : k ≤ 400) (h2 : 12 * j + 1 ≤ 400) : BdR 400 n r := ⟨hl, fun p hp => (h p hp).hb h1 h2⟩
theorem red_stp {n t : Nat} {rest : List Sq} (ht : t < n) : ∀ (pre : List Sq) (ls : List Ld) (i : Nat) (mix : List Cq), LdsOk n rest i pre ls → mix.length = n → (∀ p ∈ mix, gq i (30 * i + 1) p) → (∀ s ∈ pre ++ rest, SqG n s) → i + pre.length ≤ 6 → (pre ++ rest).length ≤ 6 →
    RedOk 400 n ls (rowS n t (pre ++ rest), mix) ∧ (redF ls (rowS n t (pre ++ rest), mix)).1 = rowS n t rest ∧ (redF ls (rowS n t (pre ++ rest), mix)).2.length = n ∧ ∀ p ∈ (redF ls (rowS n t (pre ++ rest), mix)).2, gq (i + pre.length) (30 * (i + pre.length) + 1) p
  | [], [], i, mix, _, hm, hq, hg, hi, hl => ⟨⟨BdR_rowS hg hl, BdR_gq hm hq (by simp at hi; omega) (by simp at hi; omega)⟩, rfl, hm, hq⟩
  | s :: pre, l :: ls, i, mix, ⟨⟨h1, h2, h3, h4, h5, h6, h7⟩, h8⟩, hm, hq, hg, hi, hl => by
    have hi' : i + 1 + pre.length ≤ 6 := by simp at hi; omega
    obtain ⟨g1, g2, g3, g4⟩ := hg s (by simp)
    have cr : cf (rowS n t (s :: pre ++ rest)) l.1 = s.1 * cf s.2 t := by
      unfold rowS
      rw [cf_rng h1]
      show s.1 * (cf s.2 t * conN (cf s.2 l.1)) + sqS t l.1 (pre ++ rest) = _
      rw [sqS_right h4, h2, con_one]; grind
    have cl : cf l.2.1 l.1 = s.1 := by
      rw [h5]
      unfold rowOf
      rw [cf_rng h1, h2, con_one]; grind
    have ex : cf (rowS n t (s :: pre ++ rest)) l.1 / cf l.2.1 l.1 = cf s.2 t := by rw [cr, cl]; grind
    have e1 : lesR (rowS n t (s :: pre ++ rest)) l.2.1 (cf s.2 t) = rowS n t (pre ++ rest) := by
      rw [h5]
      unfold lesR rowS rowOf
      rw [zip_rng]
      refine List.map_congr_left fun b _ => ?_
      show s.1 * (cf s.2 t * conN (cf s.2 b)) + sqS t b (pre ++ rest) - cf s.2 t * (s.1 * conN (cf s.2 b)) = _
      grind
    have hg' : ∀ z ∈ pre ++ rest, SqG n z := fun z hz => hg z (by simp at hz ⊢; exact .inr hz)
    have ml : (lesR mix l.2.2 (cf s.2 t)).length = n := by rw [lesR_len, hm, h6, Nat.min_self]
    have mq : ∀ p ∈ lesR mix l.2.2 (cf s.2 t), gq (i + 1) (30 * (i + 1) + 1) p := fun p hp => by
      obtain ⟨a, b, ha, hb, rfl⟩ := mem_zipW hp
      have q1 := ((hq a ha).up 1).mono (show 30 * i + 1 + (12 * 1 + 1) ≤ 30 * i + 17 by omega)
      have q2 := (((gq_cf g4 (by decide) t).mul (h7 b hb))).mono (show 15 + (30 * i + 1) + 1 ≤ 30 * i + 17 by omega)
      rw [Nat.add_comm 1 i] at q2
      exact (q1.sub q2).mono (by omega)
    obtain ⟨a1, a2, a3, a4⟩ := red_stp ht pre ls (i + 1) _ h8 ml mq hg' hi' (by simp at hl ⊢; omega)
    have cn : cf l.2.1 l.1 ≠ 0 := by rw [cl]; exact h3
    have bl : BdR 400 n l.2.1 := by
      rw [h5]
      exact BdR_gq (j := 2) (k := 31) (by simp [rowOf]) (fun p hp => by
        obtain ⟨b, _, rfl⟩ := List.mem_map.mp hp
        exact g1.mul (gq_cf g4 (by decide) b).con) (by decide) (by decide)
    have run : redF (l :: ls) (rowS n t (s :: pre ++ rest), mix) = redF ls (rowS n t (pre ++ rest), lesR mix l.2.2 (cf s.2 t)) := by
      show redF ls (lesR (rowS n t (s :: pre ++ rest)) l.2.1 (cf (rowS n t (s :: pre ++ rest)) l.1 / cf l.2.1 l.1), lesR mix l.2.2 (cf (rowS n t (s :: pre ++ rest)) l.1 / cf l.2.1 l.1)) = _
      rw [ex, e1]
    refine ⟨⟨BdR_rowS hg hl, BdR_gq hm hq (by omega) (by omega), bl, BdR_gq h6 h7 (by omega) (by omega), h1, cn, ?_⟩, ?_, ?_, ?_⟩
    · show RedOk 400 n ls (lesR (rowS n t (s :: pre ++ rest)) l.2.1 (cf (rowS n t (s :: pre ++ rest)) l.1 / cf l.2.1 l.1), lesR mix l.2.2 (cf (rowS n t (s :: pre ++ rest)) l.1 / cf l.2.1 l.1))
      rw [ex, e1]; exact a1
    · rw [run]; exact a2
    · rw [run]; exact a3
    · rw [run]
      have e : i + (s :: pre).length = i + 1 + pre.length := by simp; omega
      rw [e]; exact a4
theorem unit_gq {n : Nat} {t : Int} : (unitR n t).length = n ∧ ∀ p ∈ unitR n t, gq 0 (30 * 0 + 1) p := ⟨by simp [unitR], fun p hp => by
  obtain ⟨i, _, rfl⟩ := List.mem_map.mp hp
  split
  · exact gq_one 0
  · exact gq_zero 0⟩
theorem nul_stp {n : Nat} : ∀ (r t : Nat) (pre rest : List Sq) (a : List Ld × List (List Cq)), t + r = n → Stp n t rest → LdsOk n rest 0 pre a.1 → (∀ s ∈ pre ++ rest, SqG n s) → (pre ++ rest).length ≤ 6 →
    NulOk 400 (mkT n (pre ++ rest)) n r t a ∧ (nulF (mkT n (pre ++ rest)) n r t a).2.length + rest.length = a.2.length + r
  | 0, t, pre, rest, a, ht, hs, hl, hg, h6 => by
    cases rest with
    | nil => exact ⟨trivial, rfl⟩
    | cons s ss => obtain ⟨j, h1, h2, _⟩ := hs; omega
  | r + 1, t, pre, rest, a, ht, hs, hl, hg, h6 => by
    have htn : t < n := by omega
    have lp : 0 + pre.length ≤ 6 := by simp at h6; omega
    obtain ⟨a1, a2, a3, a4⟩ := red_stp htn pre a.1 0 (unitR n (t : Nat)) hl unit_gq.1 unit_gq.2 hg lp h6
    have er := row_tab (ss := pre ++ rest) htn
    have none_case : (∀ z ∈ rest, cf z.2 t = 0) → Stp n (t + 1) rest → NulOk 400 (mkT n (pre ++ rest)) n (r + 1) t a ∧ (nulF (mkT n (pre ++ rest)) n (r + 1) t a).2.length + rest.length = a.2.length + (r + 1) := fun h0 hs' => by
      have f0 : fstO (redF a.1 (((mkT n (pre ++ rest))[t]?).getD [], unitR n (t : Nat))).1 = none := by
        rw [er, a2]
        exact fst_none fun p hp => by
          obtain ⟨b, _, rfl⟩ := List.mem_map.mp hp
          exact sqS_left h0
      have ns : nstep (mkT n (pre ++ rest)) n a t = (a.1, a.2 ++ [(redF a.1 (((mkT n (pre ++ rest))[t]?).getD [], unitR n (t : Nat))).2]) := by
        unfold nstep
        rw [f0]
      obtain ⟨b1, b2⟩ := nul_stp r (t + 1) pre rest (a.1, a.2 ++ [(redF a.1 (((mkT n (pre ++ rest))[t]?).getD [], unitR n (t : Nat))).2]) (by omega) hs' hl hg h6
      rw [← ns] at b1 b2
      refine ⟨⟨by rw [er]; exact a1, b1⟩, ?_⟩
      refine Eq.trans b2 ?_
      rw [ns]
      simp; omega
    cases rest with
    | nil => exact none_case (fun z hz => by cases hz) trivial
    | cons s rest =>
      obtain ⟨j, h1, h2, h3, h4, h5, h6'⟩ := hs
      by_cases hj : j = t
      · subst hj
        have low : ∀ z ∈ rest, ∀ i, i < j + 1 → cf z.2 i = 0 := h6'.low
        have n0 : s.1 ≠ 0 := fun z => by rw [z] at h5; exact Rat.lt_irrefl h5
        have ro : rowS n j (s :: rest) = rowOf n s := List.map_congr_left fun b _ => by
          show s.1 * (cf s.2 j * conN (cf s.2 b)) + sqS j b rest = _
          rw [sqS_left fun z hz => low z hz j (by omega), h4]; grind
        have f0 : fstO (redF a.1 (((mkT n (pre ++ s :: rest))[j]?).getD [], unitR n (j : Nat))).1 = some j := by
          rw [er, a2, ro]
          refine fst_at (by simp [rowOf]; exact h2) (fun i hi => ?_) ?_
          · unfold rowOf
            rw [cf_rng (by omega), h3 i hi, con_zero]; grind
          · unfold rowOf
            rw [cf_rng h2, h4, con_one]
            intro z; apply n0; rw [← z]; grind
        have ns : nstep (mkT n (pre ++ s :: rest)) n a j = (a.1 ++ [(j, (redF a.1 (((mkT n (pre ++ s :: rest))[j]?).getD [], unitR n (j : Nat))).1, (redF a.1 (((mkT n (pre ++ s :: rest))[j]?).getD [], unitR n (j : Nat))).2)], a.2) := by
          unfold nstep
          rw [f0]
        have ll : LdsOk n rest 0 (pre ++ [s]) (a.1 ++ [(j, (redF a.1 (((mkT n (pre ++ s :: rest))[j]?).getD [], unitR n (j : Nat))).1, (redF a.1 (((mkT n (pre ++ s :: rest))[j]?).getD [], unitR n (j : Nat))).2)]) := by
          refine LdsOk.snoc hl ⟨h2, h4, n0, fun z hz => low z hz j (by omega), ?_, ?_, ?_⟩
          · show (redF a.1 (((mkT n (pre ++ s :: rest))[j]?).getD [], unitR n (j : Nat))).1 = _
            rw [er, a2, ro]
          · show (redF a.1 (((mkT n (pre ++ s :: rest))[j]?).getD [], unitR n (j : Nat))).2.length = _
            rw [er, a3]
          · show ∀ p ∈ (redF a.1 (((mkT n (pre ++ s :: rest))[j]?).getD [], unitR n (j : Nat))).2, _
            rw [er]; exact a4
        have ea : pre ++ [s] ++ rest = pre ++ s :: rest := by simp
        obtain ⟨b1, b2⟩ := nul_stp r (j + 1) (pre ++ [s]) rest (nstep (mkT n (pre ++ s :: rest)) n a j) (by omega) h6' (by rw [ns]; exact ll) (by rw [ea]; exact hg) (by rw [ea]; exact h6)
        rw [ea] at b1 b2
        refine ⟨⟨by rw [er]; exact a1, b1⟩, ?_⟩
        have b3 : (nulF (mkT n (pre ++ s :: rest)) n r (j + 1) (nstep (mkT n (pre ++ s :: rest)) n a j)).2.length + rest.length = a.2.length + r := by
          refine Eq.trans b2 ?_
          rw [ns]
        show (nulF (mkT n (pre ++ s :: rest)) n r (j + 1) (nstep (mkT n (pre ++ s :: rest)) n a j)).2.length + (rest.length + 1) = _
        omega
      · exact none_case (fun z hz => by
          rcases List.mem_cons.mp hz with rfl | hz
          · exact h3 t (by omega)
          · exact h6'.low z hz t (by omega)) ⟨j, by omega, h2, h3, h4, h5, h6'⟩
end W

set_option Elab.async false
set_option linter.all false
set_option maxRecDepth 100000
set_option maxHeartbeats 0
namespace W
open PySem PySem.Spec PyProof.Rows L2 PD
def top (i : Nat) : Stmt := PySem.Challenge.pw_withinrim_k33_whole_stepped_squares_told.main.body.getD i (.Pass ⟨0, 0, 0, 0⟩)
def c_MOST_ROWS : Str × D := ("MOST_ROWS", .int 6)
def c_FRAC_ONE : Str × D := ("FRAC_ONE", .tup [.int 1, .int 1])
def c_ONE : Str × D := ("ONE", .tup [.tup [.int 1, .int 1], .tup [.int 0, .int 1]])
def c_NOUGHT : Str × D := ("NOUGHT", .tup [.tup [.int 0, .int 1], .tup [.int 0, .int 1]])

/-! ### _law_laps -/
def N_Llaps : List Str := ["_law_script"]
def P_Llaps : List Str := ["_law_script"]
noncomputable def G_Llaps : Gam := ⟨[], [], ["max", "min", "len"], []⟩
def b_Llaps : Sms := .cons (.ret (.bi .max2 (.cons (.lit (.int 2)) (.cons (.bi .min2 (.cons (.bi .len (.cons (.nm 0) .nil)) (.cons (.lit (.int 3)) .nil))) .nil)))) .nil
theorem s_Llaps : FnScope N_Llaps P_Llaps (defScope (top 55)) := C8.fnScope_by (by kernel_rfl)
theorem k_Llaps : chSs G_Llaps ⟨N_Llaps, (defScope (top 55)).names, fun _ => true⟩ b_Llaps (defBody (top 55)) = true := by kernel_rfl
def d_Llaps : He.DefD := ⟨("_law_laps", none), "_law_laps", "_law_laps", defArgs (top 55), defBody (top 55), defScope (top 55), [], []⟩
noncomputable def e_Llaps_1 : Ent := mkEnt "_law_laps" 1 [] [] [0] G_Llaps 1 b_Llaps

/-! ### _law_draw -/
def N_Ldraw : List Str := ["_law_pot_here", "_law_many_here", "_law_digit"]
def P_Ldraw : List Str := ["_law_pot_here", "_law_many_here"]
noncomputable def G_Ldraw : Gam := ⟨[], [], ["divmod", "int"], []⟩
def b_Ldraw : Sms := .cons (.ife (.cmp .gt (.ix (.nm 0) (.lit (.int 0))) (.lit (.int 0))) (.cons (.asg (.tup (.cons (.sub 0 (.lit (.int 0))) (.cons (.nm 2) .nil))) (.bi .divmod (.cons (.ix (.nm 0) (.lit (.int 0))) (.cons (.nm 1) .nil)))) (.cons (.ret (.nm 2)) .nil)) .nil) (.cons (.asg (.sub 0 (.lit (.int 2))) (.bin .add (.ix (.nm 0) (.lit (.int 2))) (.lit (.int 1)))) (.cons (.asg (.sub 0 (.lit (.int 1))) (.bin .mod (.bi .int1 (.cons (.bin .add (.bin .add (.bin .mul (.ix (.nm 0) (.lit (.int 1))) (.lit (.int 48271))) (.bin .mul (.lit (.int 37)) (.ix (.nm 0) (.lit (.int 2))))) (.lit (.int 11))) .nil)) (.lit (.int 2147483629)))) (.cons (.ret (.bin .mod (.bi .int1 (.cons (.bin .fdiv (.bin .mul (.ix (.nm 0) (.lit (.int 1))) (.bin .add (.bin .add (.bin .fdiv (.ix (.nm 0) (.lit (.int 1))) (.lit (.int 65537))) (.bin .mul (.lit (.int 2)) (.ix (.nm 0) (.lit (.int 2))))) (.lit (.int 1)))) (.lit (.int 509))) .nil)) (.nm 1))) .nil)))
theorem s_Ldraw : FnScope N_Ldraw P_Ldraw (defScope (top 53)) := C8.fnScope_by (by kernel_rfl)
theorem k_Ldraw : chSs G_Ldraw ⟨N_Ldraw, (defScope (top 53)).names, fun _ => true⟩ b_Ldraw (defBody (top 53)) = true := by kernel_rfl
def d_Ldraw : He.DefD := ⟨("_law_draw", none), "_law_draw", "_law_draw", defArgs (top 53), defBody (top 53), defScope (top 53), [], []⟩
noncomputable def e_Ldraw_2 : Ent := mkEnt "_law_draw" 2 [] [] [0, 1] G_Ldraw 3 b_Ldraw

/-! ### _law_pick -/
def N_Lpick : List Str := ["_law_pot_here", "_law_some"]
def P_Lpick : List Str := ["_law_pot_here", "_law_some"]
noncomputable def G_Lpick : Gam := ⟨[e_Ldraw_2], [], ["len"], []⟩
def b_Lpick : Sms := .cons (.ret (.ix (.nm 1) (.call 0 (.cons (.nm 0) (.cons (.bi .len (.cons (.nm 1) .nil)) .nil)) .nil))) .nil
theorem s_Lpick : FnScope N_Lpick P_Lpick (defScope (top 54)) := C8.fnScope_by (by kernel_rfl)
theorem k_Lpick : chSs G_Lpick ⟨N_Lpick, (defScope (top 54)).names, fun _ => true⟩ b_Lpick (defBody (top 54)) = true := by kernel_rfl
def d_Lpick : He.DefD := ⟨("_law_pick", none), "_law_pick", "_law_pick", defArgs (top 54), defBody (top 54), defScope (top 54), [], []⟩
noncomputable def e_Lpick_2 : Ent := mkEnt "_law_pick" 2 [] [] [0, 1] G_Lpick 2 b_Lpick

/-! ### _law_many -/
def N_Lmany : List Str := ["_law_pot_here"]
def P_Lmany : List Str := ["_law_pot_here"]
noncomputable def G_Lmany : Gam := ⟨[e_Lpick_2], [], [], []⟩
def b_Lmany : Sms := .cons (.ret (.call 0 (.cons (.nm 0) (.cons (.tup (.cons (.lit (.int 0)) (.cons (.lit (.int 1)) (.cons (.lit (.int 1)) (.cons (.lit (.int 2)) (.cons (.lit (.int 2)) (.cons (.lit (.int 2)) (.cons (.lit (.int 3)) (.cons (.lit (.int 3)) (.cons (.lit (.int 3)) (.cons (.lit (.int 3)) (.cons (.lit (.int 4)) (.cons (.lit (.int 4)) (.cons (.lit (.int 5)) .nil)))))))))))))) .nil)) .nil)) .nil
theorem s_Lmany : FnScope N_Lmany P_Lmany (defScope (top 78)) := C8.fnScope_by (by kernel_rfl)
theorem k_Lmany : chSs G_Lmany ⟨N_Lmany, (defScope (top 78)).names, fun _ => true⟩ b_Lmany (defBody (top 78)) = true := by kernel_rfl
def d_Lmany : He.DefD := ⟨("_law_many", none), "_law_many", "_law_many", defArgs (top 78), defBody (top 78), defScope (top 78), [], []⟩
noncomputable def e_Lmany_1 : Ent := mkEnt "_law_many" 1 [] [] [0] G_Lmany 1 b_Lmany

/-! ### _law_common -/
def N_Lcommon : List Str := ["_law_a", "_law_b"]
def P_Lcommon : List Str := ["_law_a", "_law_b"]
noncomputable def G_Lcommon : Gam := ⟨[], [], ["abs", "int"], []⟩
def b_Lcommon : Sms := .cons (.par [0, 1] (.cons (.bi .abs (.cons (.nm 0) .nil)) (.cons (.bi .abs (.cons (.nm 1) .nil)) .nil))) (.cons (.wh (.cmp .gt (.nm 1) (.lit (.int 0))) (.cons (.par [0, 1] (.cons (.nm 1) (.cons (.bin .mod (.bi .int1 (.cons (.nm 0) .nil)) (.nm 1)) .nil))) .nil)) (.cons (.ret (.nm 0)) .nil))
theorem s_Lcommon : FnScope N_Lcommon P_Lcommon (defScope (top 56)) := C8.fnScope_by (by kernel_rfl)
theorem k_Lcommon : chSs G_Lcommon ⟨N_Lcommon, (defScope (top 56)).names, fun _ => true⟩ b_Lcommon (defBody (top 56)) = true := by kernel_rfl
def d_Lcommon : He.DefD := ⟨("_law_common", none), "_law_common", "_law_common", defArgs (top 56), defBody (top 56), defScope (top 56), [], []⟩
noncomputable def e_Lcommon_2 : Ent := mkEnt "_law_common" 2 [] [] [0, 1] G_Lcommon 2 b_Lcommon

/-! ### _law_cut -/
def N_Lcut : List Str := ["_law_a", "_law_b", "_law_d", "_law_by"]
def P_Lcut : List Str := ["_law_a", "_law_b", "_law_d"]
noncomputable def G_Lcut : Gam := ⟨[e_Lcommon_2], [], [], []⟩
def b_Lcut : Sms := .cons (.asg (.nm 3) (.call 0 (.cons (.call 0 (.cons (.nm 0) (.cons (.nm 1) .nil)) .nil) (.cons (.nm 2) .nil)) .nil)) (.cons (.ret (.tup (.cons (.bin .fdiv (.nm 0) (.nm 3)) (.cons (.bin .fdiv (.nm 1) (.nm 3)) (.cons (.bin .fdiv (.nm 2) (.nm 3)) .nil))))) .nil)
theorem s_Lcut : FnScope N_Lcut P_Lcut (defScope (top 57)) := C8.fnScope_by (by kernel_rfl)
theorem k_Lcut : chSs G_Lcut ⟨N_Lcut, (defScope (top 57)).names, fun _ => true⟩ b_Lcut (defBody (top 57)) = true := by kernel_rfl
def d_Lcut : He.DefD := ⟨("_law_cut", none), "_law_cut", "_law_cut", defArgs (top 57), defBody (top 57), defScope (top 57), [], []⟩
noncomputable def e_Lcut_3 : Ent := mkEnt "_law_cut" 3 [] [] [0, 1, 2] G_Lcut 4 b_Lcut

/-! ### _law_small -/
def N_Lsmall : List Str := ["_law_pot_here"]
def P_Lsmall : List Str := ["_law_pot_here"]
noncomputable def G_Lsmall : Gam := ⟨[e_Ldraw_2, e_Lcut_3], [], [], []⟩
def b_Lsmall : Sms := .cons (.ife (.cmp .eq (.call 0 (.cons (.nm 0) (.cons (.lit (.int 3)) .nil)) .nil) (.lit (.int 0))) (.cons (.ret (.tup (.cons (.lit (.int 0)) (.cons (.lit (.int 0)) (.cons (.lit (.int 1)) .nil))))) .nil) .nil) (.cons (.ret (.call 1 (.cons (.bin .sub (.call 0 (.cons (.nm 0) (.cons (.lit (.int 7)) .nil)) .nil) (.lit (.int 3))) (.cons (.ife (.cmp .eq (.call 0 (.cons (.nm 0) (.cons (.lit (.int 2)) .nil)) .nil) (.lit (.int 0))) (.bin .sub (.call 0 (.cons (.nm 0) (.cons (.lit (.int 7)) .nil)) .nil) (.lit (.int 3))) (.lit (.int 0))) (.cons (.bin .add (.lit (.int 1)) (.call 0 (.cons (.nm 0) (.cons (.lit (.int 2)) .nil)) .nil)) .nil))) .nil)) .nil)
theorem s_Lsmall : FnScope N_Lsmall P_Lsmall (defScope (top 73)) := C8.fnScope_by (by kernel_rfl)
theorem k_Lsmall : chSs G_Lsmall ⟨N_Lsmall, (defScope (top 73)).names, fun _ => true⟩ b_Lsmall (defBody (top 73)) = true := by kernel_rfl
def d_Lsmall : He.DefD := ⟨("_law_small", none), "_law_small", "_law_small", defArgs (top 73), defBody (top 73), defScope (top 73), [], []⟩
noncomputable def e_Lsmall_1 : Ent := mkEnt "_law_small" 1 [] [] [0] G_Lsmall 1 b_Lsmall

/-! ### _law_positive -/
def N_Lpositive : List Str := ["_law_pot_here"]
def P_Lpositive : List Str := ["_law_pot_here"]
noncomputable def G_Lpositive : Gam := ⟨[e_Lcut_3, e_Ldraw_2, e_Lpick_2], [], [], []⟩
def b_Lpositive : Sms := .cons (.ret (.call 0 (.cons (.bin .add (.lit (.int 1)) (.call 1 (.cons (.nm 0) (.cons (.lit (.int 6)) .nil)) .nil)) (.cons (.lit (.int 0)) (.cons (.call 2 (.cons (.nm 0) (.cons (.tup (.cons (.lit (.int 1)) (.cons (.lit (.int 1)) (.cons (.lit (.int 2)) (.cons (.lit (.int 3)) (.cons (.lit (.int 7)) .nil)))))) .nil)) .nil) .nil))) .nil)) .nil
theorem s_Lpositive : FnScope N_Lpositive P_Lpositive (defScope (top 75)) := C8.fnScope_by (by kernel_rfl)
theorem k_Lpositive : chSs G_Lpositive ⟨N_Lpositive, (defScope (top 75)).names, fun _ => true⟩ b_Lpositive (defBody (top 75)) = true := by kernel_rfl
def d_Lpositive : He.DefD := ⟨("_law_positive", none), "_law_positive", "_law_positive", defArgs (top 75), defBody (top 75), defScope (top 75), [], []⟩
noncomputable def e_Lpositive_1 : Ent := mkEnt "_law_positive" 1 [] [] [0] G_Lpositive 1 b_Lpositive

/-! ### _law_steps -/
def N_Lsteps : List Str := ["_law_pot_here", "_law_n", "_law_found", "_law_k", "_law_rest", "_law_i"]
def P_Lsteps : List Str := ["_law_pot_here", "_law_n"]
noncomputable def G_Lsteps : Gam := ⟨[e_Ldraw_2, e_Lsmall_1, e_Lpositive_1], [], ["range"], []⟩
def b_Lsteps : Sms := .cons (.own 2 (.disp .nil)) (.cons (.for_ (.nm 3) (.range1 (.nm 1)) (.cons (.ife (.cmp .gt (.call 0 (.cons (.nm 0) (.cons (.lit (.int 4)) .nil)) .nil) (.lit (.int 0))) (.cons (.asg (.nm 4) (.fr (.comp (.call 1 (.cons (.nm 0) .nil) .nil) (.nm 5) (.range1 (.bin .sub (.bin .sub (.nm 1) (.lit (.int 1))) (.nm 3))) .none [5]))) (.cons (.app 2 (.tup (.cons (.call 2 (.cons (.nm 0) .nil) .nil) (.cons (.fr (.cat (.fr (.cat (.fr (.rep (.disp (.cons (.tup (.cons (.lit (.int 0)) (.cons (.lit (.int 0)) (.cons (.lit (.int 1)) .nil)))) .nil)) (.nm 3))) (.fr (.disp (.cons (.tup (.cons (.lit (.int 1)) (.cons (.lit (.int 0)) (.cons (.lit (.int 1)) .nil)))) .nil))))) (.nm 4))) .nil)))) .nil)) .nil) .nil)) (.cons (.fz 2) (.cons (.ret (.nm 2)) .nil)))
theorem s_Lsteps : FnScope N_Lsteps P_Lsteps (defScope (top 79)) := C8.fnScope_by (by kernel_rfl)
theorem k_Lsteps : chSs G_Lsteps ⟨N_Lsteps, (defScope (top 79)).names, fun _ => true⟩ b_Lsteps (defBody (top 79)) = true := by kernel_rfl
def d_Lsteps : He.DefD := ⟨("_law_steps", none), "_law_steps", "_law_steps", defArgs (top 79), defBody (top 79), defScope (top 79), [], []⟩
noncomputable def e_Lsteps_2 : Ent := mkEnt "_law_steps" 2 [] [] [0, 1] G_Lsteps 6 b_Lsteps

/-! ### _law_fraction -/
def N_Lfraction : List Str := ["_law_n", "_law_d", "_law_by"]
def P_Lfraction : List Str := ["_law_n", "_law_d"]
noncomputable def G_Lfraction : Gam := ⟨[e_Lcommon_2], [], [], []⟩
def b_Lfraction : Sms := .cons (.asg (.nm 2) (.call 0 (.cons (.nm 0) (.cons (.nm 1) .nil)) .nil)) (.cons (.ret (.tup (.cons (.bin .fdiv (.nm 0) (.nm 2)) (.cons (.bin .fdiv (.nm 1) (.nm 2)) .nil)))) .nil)
theorem s_Lfraction : FnScope N_Lfraction P_Lfraction (defScope (top 64)) := C8.fnScope_by (by kernel_rfl)
theorem k_Lfraction : chSs G_Lfraction ⟨N_Lfraction, (defScope (top 64)).names, fun _ => true⟩ b_Lfraction (defBody (top 64)) = true := by kernel_rfl
def d_Lfraction : He.DefD := ⟨("_law_fraction", none), "_law_fraction", "_law_fraction", defArgs (top 64), defBody (top 64), defScope (top 64), [], []⟩
noncomputable def e_Lfraction_2 : Ent := mkEnt "_law_fraction" 2 [] [] [0, 1] G_Lfraction 3 b_Lfraction

/-! ### _law_number -/
def N_Lnumber : List Str := ["_law_x"]
def P_Lnumber : List Str := ["_law_x"]
noncomputable def G_Lnumber : Gam := ⟨[e_Lfraction_2], [], [], []⟩
def b_Lnumber : Sms := .cons (.ret (.tup (.cons (.call 0 (.cons (.ix (.nm 0) (.lit (.int 0))) (.cons (.ix (.nm 0) (.lit (.int 2))) .nil)) .nil) (.cons (.call 0 (.cons (.ix (.nm 0) (.lit (.int 1))) (.cons (.ix (.nm 0) (.lit (.int 2))) .nil)) .nil) .nil)))) .nil
theorem s_Lnumber : FnScope N_Lnumber P_Lnumber (defScope (top 65)) := C8.fnScope_by (by kernel_rfl)
theorem k_Lnumber : chSs G_Lnumber ⟨N_Lnumber, (defScope (top 65)).names, fun _ => true⟩ b_Lnumber (defBody (top 65)) = true := by kernel_rfl
def d_Lnumber : He.DefD := ⟨("_law_number", none), "_law_number", "_law_number", defArgs (top 65), defBody (top 65), defScope (top 65), [], []⟩
noncomputable def e_Lnumber_1 : Ent := mkEnt "_law_number" 1 [] [] [0] G_Lnumber 1 b_Lnumber

/-! ### _law_line -/
def N_Lline : List Str := ["_law_own", "_law_x"]
def P_Lline : List Str := ["_law_own"]
noncomputable def G_Lline : Gam := ⟨[e_Lnumber_1], [], ["tuple"], []⟩
def b_Lline : Sms := .cons (.ret (.bi .tuple (.cons (.fr (.comp (.call 0 (.cons (.nm 1) .nil) .nil) (.nm 1) (.seq (.nm 0)) .none [1])) .nil))) .nil
theorem s_Lline : FnScope N_Lline P_Lline (defScope (top 67)) := C8.fnScope_by (by kernel_rfl)
theorem k_Lline : chSs G_Lline ⟨N_Lline, (defScope (top 67)).names, fun _ => true⟩ b_Lline (defBody (top 67)) = true := by kernel_rfl
def d_Lline : He.DefD := ⟨("_law_line", none), "_law_line", "_law_line", defArgs (top 67), defBody (top 67), defScope (top 67), [], []⟩
noncomputable def e_Lline_1 : Ent := mkEnt "_law_line" 1 [] [] [0] G_Lline 2 b_Lline

/-! ### _law_tab -/
def N_Ltab : List Str := ["_law_own", "_law_each"]
def P_Ltab : List Str := ["_law_own"]
noncomputable def G_Ltab : Gam := ⟨[e_Lline_1], [], ["tuple"], []⟩
def b_Ltab : Sms := .cons (.ret (.bi .tuple (.cons (.fr (.comp (.call 0 (.cons (.nm 1) .nil) .nil) (.nm 1) (.seq (.nm 0)) .none [1])) .nil))) .nil
theorem s_Ltab : FnScope N_Ltab P_Ltab (defScope (top 68)) := C8.fnScope_by (by kernel_rfl)
theorem k_Ltab : chSs G_Ltab ⟨N_Ltab, (defScope (top 68)).names, fun _ => true⟩ b_Ltab (defBody (top 68)) = true := by kernel_rfl
def d_Ltab : He.DefD := ⟨("_law_tab", none), "_law_tab", "_law_tab", defArgs (top 68), defBody (top 68), defScope (top 68), [], []⟩
noncomputable def e_Ltab_1 : Ent := mkEnt "_law_tab" 1 [] [] [0] G_Ltab 2 b_Ltab

/-! ### _law_is_nought -/
def N_Lis_nought : List Str := ["_law_x"]
def P_Lis_nought : List Str := ["_law_x"]
noncomputable def G_Lis_nought : Gam := ⟨[], [], [], []⟩
def b_Lis_nought : Sms := .cons (.ret (.and (.cmp .eq (.ix (.nm 0) (.lit (.int 0))) (.lit (.int 0))) (.cmp .eq (.ix (.nm 0) (.lit (.int 1))) (.lit (.int 0))))) .nil
theorem s_Lis_nought : FnScope N_Lis_nought P_Lis_nought (defScope (top 63)) := C8.fnScope_by (by kernel_rfl)
theorem k_Lis_nought : chSs G_Lis_nought ⟨N_Lis_nought, (defScope (top 63)).names, fun _ => true⟩ b_Lis_nought (defBody (top 63)) = true := by kernel_rfl
def d_Lis_nought : He.DefD := ⟨("_law_is_nought", none), "_law_is_nought", "_law_is_nought", defArgs (top 63), defBody (top 63), defScope (top 63), [], []⟩
noncomputable def e_Lis_nought_1 : Ent := mkEnt "_law_is_nought" 1 [] [] [0] G_Lis_nought 1 b_Lis_nought

/-! ### _law_other_than_nought -/
def N_Lother_than_nought : List Str := ["_law_pot_here", "_law_x"]
def P_Lother_than_nought : List Str := ["_law_pot_here"]
noncomputable def G_Lother_than_nought : Gam := ⟨[e_Lsmall_1, e_Lis_nought_1, e_Ldraw_2], [], [], []⟩
def b_Lother_than_nought : Sms := .cons (.asg (.nm 1) (.call 0 (.cons (.nm 0) .nil) .nil)) (.cons (.ret (.ife (.call 1 (.cons (.nm 1) .nil) .nil) (.tup (.cons (.bin .add (.lit (.int 1)) (.call 2 (.cons (.nm 0) (.cons (.lit (.int 3)) .nil)) .nil)) (.cons (.lit (.int 0)) (.cons (.lit (.int 1)) .nil)))) (.nm 1))) .nil)
theorem s_Lother_than_nought : FnScope N_Lother_than_nought P_Lother_than_nought (defScope (top 74)) := C8.fnScope_by (by kernel_rfl)
theorem k_Lother_than_nought : chSs G_Lother_than_nought ⟨N_Lother_than_nought, (defScope (top 74)).names, fun _ => true⟩ b_Lother_than_nought (defBody (top 74)) = true := by kernel_rfl
def d_Lother_than_nought : He.DefD := ⟨("_law_other_than_nought", none), "_law_other_than_nought", "_law_other_than_nought", defArgs (top 74), defBody (top 74), defScope (top 74), [], []⟩
noncomputable def e_Lother_than_nought_1 : Ent := mkEnt "_law_other_than_nought" 1 [] [] [0] G_Lother_than_nought 2 b_Lother_than_nought

/-! ### _law_real -/
def N_Lreal : List Str := ["_law_pair"]
def P_Lreal : List Str := ["_law_pair"]
noncomputable def G_Lreal : Gam := ⟨[], [], [], []⟩
def b_Lreal : Sms := .cons (.ret (.tup (.cons (.ix (.nm 0) (.lit (.int 0))) (.cons (.lit (.int 0)) (.cons (.ix (.nm 0) (.lit (.int 1))) .nil))))) .nil
theorem s_Lreal : FnScope N_Lreal P_Lreal (defScope (top 66)) := C8.fnScope_by (by kernel_rfl)
theorem k_Lreal : chSs G_Lreal ⟨N_Lreal, (defScope (top 66)).names, fun _ => true⟩ b_Lreal (defBody (top 66)) = true := by kernel_rfl
def d_Lreal : He.DefD := ⟨("_law_real", none), "_law_real", "_law_real", defArgs (top 66), defBody (top 66), defScope (top 66), [], []⟩
noncomputable def e_Lreal_1 : Ent := mkEnt "_law_real" 1 [] [] [0] G_Lreal 1 b_Lreal

/-! ### _law_read -/
def N_Lread : List Str := ["_law_told"]
def P_Lread : List Str := ["_law_told"]
noncomputable def G_Lread : Gam := ⟨[e_Lcut_3], [], [], []⟩
def b_Lread : Sms := .cons (.ret (.call 0 (.cons (.bin .mul (.ix (.ix (.nm 0) (.lit (.int 0))) (.lit (.int 0))) (.ix (.ix (.nm 0) (.lit (.int 1))) (.lit (.int 1)))) (.cons (.bin .mul (.ix (.ix (.nm 0) (.lit (.int 1))) (.lit (.int 0))) (.ix (.ix (.nm 0) (.lit (.int 0))) (.lit (.int 1)))) (.cons (.bin .mul (.ix (.ix (.nm 0) (.lit (.int 0))) (.lit (.int 1))) (.ix (.ix (.nm 0) (.lit (.int 1))) (.lit (.int 1)))) .nil))) .nil)) .nil
theorem s_Lread : FnScope N_Lread P_Lread (defScope (top 71)) := C8.fnScope_by (by kernel_rfl)
theorem k_Lread : chSs G_Lread ⟨N_Lread, (defScope (top 71)).names, fun _ => true⟩ b_Lread (defBody (top 71)) = true := by kernel_rfl
def d_Lread : He.DefD := ⟨("_law_read", none), "_law_read", "_law_read", defArgs (top 71), defBody (top 71), defScope (top 71), [], []⟩
noncomputable def e_Lread_1 : Ent := mkEnt "_law_read" 1 [] [] [0] G_Lread 1 b_Lread

/-! ### _law_over -/
def N_Lover : List Str := ["_law_x", "_law_y", "_law_far"]
def P_Lover : List Str := ["_law_x", "_law_y"]
noncomputable def G_Lover : Gam := ⟨[e_Lcut_3], [], [], []⟩
def b_Lover : Sms := .cons (.asg (.nm 2) (.bin .add (.bin .mul (.ix (.nm 1) (.lit (.int 0))) (.ix (.nm 1) (.lit (.int 0)))) (.bin .mul (.ix (.nm 1) (.lit (.int 1))) (.ix (.nm 1) (.lit (.int 1)))))) (.cons (.ret (.call 0 (.cons (.bin .mul (.bin .add (.bin .mul (.ix (.nm 0) (.lit (.int 0))) (.ix (.nm 1) (.lit (.int 0)))) (.bin .mul (.ix (.nm 0) (.lit (.int 1))) (.ix (.nm 1) (.lit (.int 1))))) (.ix (.nm 1) (.lit (.int 2)))) (.cons (.bin .mul (.bin .sub (.bin .mul (.ix (.nm 0) (.lit (.int 1))) (.ix (.nm 1) (.lit (.int 0)))) (.bin .mul (.ix (.nm 0) (.lit (.int 0))) (.ix (.nm 1) (.lit (.int 1))))) (.ix (.nm 1) (.lit (.int 2)))) (.cons (.bin .mul (.ix (.nm 0) (.lit (.int 2))) (.nm 2)) .nil))) .nil)) .nil)
theorem s_Lover : FnScope N_Lover P_Lover (defScope (top 61)) := C8.fnScope_by (by kernel_rfl)
theorem k_Lover : chSs G_Lover ⟨N_Lover, (defScope (top 61)).names, fun _ => true⟩ b_Lover (defBody (top 61)) = true := by kernel_rfl
def d_Lover : He.DefD := ⟨("_law_over", none), "_law_over", "_law_over", defArgs (top 61), defBody (top 61), defScope (top 61), [], []⟩
noncomputable def e_Lover_2 : Ent := mkEnt "_law_over" 2 [] [] [0, 1] G_Lover 3 b_Lover

/-! ### _law_times -/
def N_Ltimes : List Str := ["_law_x", "_law_y"]
def P_Ltimes : List Str := ["_law_x", "_law_y"]
noncomputable def G_Ltimes : Gam := ⟨[e_Lcut_3], [], [], []⟩
def b_Ltimes : Sms := .cons (.ret (.call 0 (.cons (.bin .sub (.bin .mul (.ix (.nm 0) (.lit (.int 0))) (.ix (.nm 1) (.lit (.int 0)))) (.bin .mul (.ix (.nm 0) (.lit (.int 1))) (.ix (.nm 1) (.lit (.int 1))))) (.cons (.bin .add (.bin .mul (.ix (.nm 0) (.lit (.int 0))) (.ix (.nm 1) (.lit (.int 1)))) (.bin .mul (.ix (.nm 0) (.lit (.int 1))) (.ix (.nm 1) (.lit (.int 0))))) (.cons (.bin .mul (.ix (.nm 0) (.lit (.int 2))) (.ix (.nm 1) (.lit (.int 2)))) .nil))) .nil)) .nil
theorem s_Ltimes : FnScope N_Ltimes P_Ltimes (defScope (top 59)) := C8.fnScope_by (by kernel_rfl)
theorem k_Ltimes : chSs G_Ltimes ⟨N_Ltimes, (defScope (top 59)).names, fun _ => true⟩ b_Ltimes (defBody (top 59)) = true := by kernel_rfl
def d_Ltimes : He.DefD := ⟨("_law_times", none), "_law_times", "_law_times", defArgs (top 59), defBody (top 59), defScope (top 59), [], []⟩
noncomputable def e_Ltimes_2 : Ent := mkEnt "_law_times" 2 [] [] [0, 1] G_Ltimes 2 b_Ltimes

/-! ### _law_size -/
def N_Lsize : List Str := ["_law_x"]
def P_Lsize : List Str := ["_law_x"]
noncomputable def G_Lsize : Gam := ⟨[e_Lcut_3], [], [], []⟩
def b_Lsize : Sms := .cons (.ret (.call 0 (.cons (.bin .add (.bin .mul (.ix (.nm 0) (.lit (.int 0))) (.ix (.nm 0) (.lit (.int 0)))) (.bin .mul (.ix (.nm 0) (.lit (.int 1))) (.ix (.nm 0) (.lit (.int 1))))) (.cons (.lit (.int 0)) (.cons (.bin .mul (.ix (.nm 0) (.lit (.int 2))) (.ix (.nm 0) (.lit (.int 2)))) .nil))) .nil)) .nil
theorem s_Lsize : FnScope N_Lsize P_Lsize (defScope (top 62)) := C8.fnScope_by (by kernel_rfl)
theorem k_Lsize : chSs G_Lsize ⟨N_Lsize, (defScope (top 62)).names, fun _ => true⟩ b_Lsize (defBody (top 62)) = true := by kernel_rfl
def d_Lsize : He.DefD := ⟨("_law_size", none), "_law_size", "_law_size", defArgs (top 62), defBody (top 62), defScope (top 62), [], []⟩
noncomputable def e_Lsize_1 : Ent := mkEnt "_law_size" 1 [] [] [0] G_Lsize 1 b_Lsize

/-! ### _law_plus -/
def N_Lplus : List Str := ["_law_x", "_law_y"]
def P_Lplus : List Str := ["_law_x", "_law_y"]
noncomputable def G_Lplus : Gam := ⟨[e_Lcut_3], [], [], []⟩
def b_Lplus : Sms := .cons (.ret (.call 0 (.cons (.bin .add (.bin .mul (.ix (.nm 0) (.lit (.int 0))) (.ix (.nm 1) (.lit (.int 2)))) (.bin .mul (.ix (.nm 1) (.lit (.int 0))) (.ix (.nm 0) (.lit (.int 2))))) (.cons (.bin .add (.bin .mul (.ix (.nm 0) (.lit (.int 1))) (.ix (.nm 1) (.lit (.int 2)))) (.bin .mul (.ix (.nm 1) (.lit (.int 1))) (.ix (.nm 0) (.lit (.int 2))))) (.cons (.bin .mul (.ix (.nm 0) (.lit (.int 2))) (.ix (.nm 1) (.lit (.int 2)))) .nil))) .nil)) .nil
theorem s_Lplus : FnScope N_Lplus P_Lplus (defScope (top 58)) := C8.fnScope_by (by kernel_rfl)
theorem k_Lplus : chSs G_Lplus ⟨N_Lplus, (defScope (top 58)).names, fun _ => true⟩ b_Lplus (defBody (top 58)) = true := by kernel_rfl
def d_Lplus : He.DefD := ⟨("_law_plus", none), "_law_plus", "_law_plus", defArgs (top 58), defBody (top 58), defScope (top 58), [], []⟩
noncomputable def e_Lplus_2 : Ent := mkEnt "_law_plus" 2 [] [] [0, 1] G_Lplus 2 b_Lplus

/-! ### _law_changed -/
def N_Lchanged : List Str := ["_law_pot_here", "_law_told", "_law_n", "_law_at", "_law_x", "_law_w", "_law_m", "_law_half", "_law_way", "_law_some", "_law_j", "_law_each"]
def P_Lchanged : List Str := ["_law_pot_here", "_law_told", "_law_n"]
noncomputable def G_Lchanged : Gam := ⟨[e_Ldraw_2, e_Lother_than_nought_1, e_Lreal_1, e_Lread_1, e_Lnumber_1, e_Lover_2, e_Lsize_1, e_Lline_1, e_Ltimes_2, e_Lplus_2, e_Lpositive_1, e_Lsmall_1], [], ["len", "list"], []⟩
def b_Lchanged : Sms := .cons (.ife (.cmp .eq (.nm 1) (.tup .nil)) (.cons (.ret (.lit (.non))) .nil) .nil) (.cons (.asg (.tup (.cons (.nm 3) (.cons (.nm 4) .nil))) (.tup (.cons (.call 0 (.cons (.nm 0) (.cons (.bi .len (.cons (.nm 1) .nil)) .nil)) .nil) (.cons (.call 1 (.cons (.nm 0) .nil) .nil) .nil)))) (.cons (.par [5, 6] (.cons (.call 2 (.cons (.ix (.ix (.nm 1) (.nm 3)) (.lit (.int 0))) .nil) .nil) (.cons (.fr (.comp (.call 3 (.cons (.nm 11) .nil) .nil) (.nm 11) (.seq (.ix (.ix (.nm 1) (.nm 3)) (.lit (.int 1)))) .none [11])) .nil))) (.cons (.par [7, 8] (.cons (.tup (.cons (.ix (.call 4 (.cons (.call 5 (.cons (.nm 5) (.cons (.tup (.cons (.lit (.int 2)) (.cons (.lit (.int 0)) (.cons (.lit (.int 1)) .nil)))) .nil)) .nil) .nil) .nil) (.lit (.int 0))) (.cons (.ix (.ix (.nm 1) (.nm 3)) (.lit (.int 1))) .nil))) (.cons (.call 0 (.cons (.nm 0) (.cons (.lit (.int 6)) .nil)) .nil) .nil))) (.cons (.asg (.nm 9) (.tup .nil)) (.cons (.ife (.cmp .eq (.nm 8) (.lit (.int 1))) (.cons (.asg (.nm 9) (.tup (.cons (.tup (.cons (.ix (.call 4 (.cons (.call 5 (.cons (.nm 5) (.cons (.call 6 (.cons (.nm 4) .nil) .nil) .nil)) .nil) .nil) .nil) (.lit (.int 0))) (.cons (.call 7 (.cons (.fr (.comp (.call 8 (.cons (.nm 4) (.cons (.nm 11) .nil)) .nil) (.nm 11) (.seq (.nm 6)) .none [11])) .nil) .nil) .nil))) .nil))) .nil) (.cons (.ife (.cmp .eq (.nm 8) (.lit (.int 2))) (.cons (.asg (.nm 9) (.tup (.cons (.nm 7) (.cons (.nm 7) .nil)))) .nil) (.cons (.ife (.cmp .eq (.nm 8) (.lit (.int 3))) (.cons (.asg (.nm 9) (.tup (.cons (.tup (.cons (.ix (.call 4 (.cons (.call 9 (.cons (.nm 5) (.cons (.call 10 (.cons (.nm 0) .nil) .nil) .nil)) .nil) .nil) .nil) (.lit (.int 0))) (.cons (.ix (.ix (.nm 1) (.nm 3)) (.lit (.int 1))) .nil))) .nil))) .nil) (.cons (.ife (.cmp .eq (.nm 8) (.lit (.int 4))) (.cons (.asg (.nm 10) (.call 0 (.cons (.nm 0) (.cons (.nm 2) .nil)) .nil)) (.cons (.asg (.nm 9) (.tup (.cons (.tup (.cons (.ix (.ix (.nm 1) (.nm 3)) (.lit (.int 0))) (.cons (.bin .add (.bin .add (.slc (.ix (.ix (.nm 1) (.nm 3)) (.lit (.int 1))) .none (.some (.nm 10))) (.tup (.cons (.call 4 (.cons (.call 11 (.cons (.nm 0) .nil) .nil) .nil) .nil) .nil))) (.slc (.ix (.ix (.nm 1) (.nm 3)) (.lit (.int 1))) (.some (.bin .add (.nm 10) (.lit (.int 1)))) .none)) .nil))) .nil))) .nil)) (.cons (.ife (.cmp .eq (.nm 8) (.lit (.int 5))) (.cons (.asg (.nm 9) (.tup (.cons (.tup (.cons (.ix (.ix (.nm 1) (.nm 3)) (.lit (.int 0))) (.cons (.fr (.list (.ix (.ix (.nm 1) (.nm 3)) (.lit (.int 1))))) .nil))) .nil))) .nil) .nil) .nil)) .nil)) .nil)) .nil)) (.cons (.ret (.bin .add (.bin .add (.slc (.nm 1) .none (.some (.nm 3))) (.nm 9)) (.slc (.nm 1) (.some (.bin .add (.nm 3) (.lit (.int 1)))) .none))) .nil))))))
theorem s_Lchanged : FnScope N_Lchanged P_Lchanged (defScope (top 81)) := C8.fnScope_by (by kernel_rfl)
theorem k_Lchanged : chSs G_Lchanged ⟨N_Lchanged, (defScope (top 81)).names, fun _ => true⟩ b_Lchanged (defBody (top 81)) = true := by kernel_rfl
def d_Lchanged : He.DefD := ⟨("_law_changed", none), "_law_changed", "_law_changed", defArgs (top 81), defBody (top 81), defScope (top 81), [], []⟩
noncomputable def e_Lchanged_3 : Ent := mkEnt "_law_changed" 3 [] [] [0, 1, 2] G_Lchanged 12 b_Lchanged

/-! ### _law_things -/
def N_Lthings : List Str := ["_law_pot_here", "_law_told", "_law_n", "_law_m", "_law_two", "_law_void", "_law_some", "_law_i"]
def P_Lthings : List Str := ["_law_pot_here", "_law_told", "_law_n"]
noncomputable def G_Lthings : Gam := ⟨[e_Lother_than_nought_1, e_Lsmall_1, e_Lline_1, e_Lchanged_3, e_Lpick_2], [], ["range", "list"], []⟩
def b_Lthings : Sms := .cons (.asg (.nm 3) (.fr (.cat (.fr (.disp (.cons (.call 0 (.cons (.nm 0) .nil) .nil) .nil))) (.fr (.comp (.call 1 (.cons (.nm 0) .nil) .nil) (.nm 7) (.range1 (.bin .sub (.nm 2) (.lit (.int 1)))) .none [7]))))) (.cons (.asg (.nm 3) (.call 2 (.cons (.slc (.nm 3) .none (.some (.nm 2))) .nil) .nil)) (.cons (.par [4, 5] (.cons (.tup (.cons (.tup (.cons (.tup (.cons (.lit (.int 3)) (.cons (.lit (.int 2)) .nil))) (.cons (.nm 3) .nil))) (.cons (.tup (.cons (.tup (.cons (.neg (.lit (.int 3))) (.cons (.lit (.int 2)) .nil))) (.cons (.nm 3) .nil))) .nil))) (.cons (.call 2 (.cons (.fr (.rep (.disp (.cons (.tup (.cons (.lit (.int 0)) (.cons (.lit (.int 0)) (.cons (.lit (.int 1)) .nil)))) .nil)) (.nm 2))) .nil) .nil) .nil))) (.cons (.asg (.nm 6) (.fr (.disp (.cons (.rev (.nm 1)) (.cons (.bin .add (.nm 1) (.nm 4)) (.cons (.bin .add (.bin .add (.slc (.nm 4) (.some (.lit (.int 1))) .none) (.nm 1)) (.slc (.nm 4) .none (.some (.lit (.int 1))))) (.cons (.bin .add (.nm 1) (.slc (.nm 4) (.some (.lit (.int 1))) .none)) (.cons (.bin .add (.nm 1) (.slc (.nm 4) .none (.some (.lit (.int 1))))) (.cons (.fr (.list (.nm 1))) (.cons (.bin .add (.nm 1) (.tup (.cons (.lit (.non)) .nil))) (.cons (.lit (.non)) .nil))))))))))) (.cons (.asg (.nm 6) (.fr (.cat (.nm 6) (.fr (.disp (.cons (.bin .add (.nm 1) (.tup (.cons (.tup (.cons (.lit (.int 1)) (.cons (.lit (.int 1)) .nil))) .nil))) (.cons (.bin .add (.nm 1) (.tup (.cons (.tup (.cons (.tup (.cons (.lit (.int 0)) (.cons (.lit (.int 1)) .nil))) (.cons (.nm 3) .nil))) .nil))) (.cons (.bin .add (.nm 1) (.tup (.cons (.tup (.cons (.tup (.cons (.lit (.int 1)) (.cons (.lit (.int 1)) .nil))) (.cons (.nm 5) .nil))) .nil))) (.cons (.bin .add (.nm 1) (.tup (.cons (.tup (.cons (.tup (.cons (.lit (.int 2)) (.cons (.lit (.int 2)) .nil))) (.cons (.nm 3) .nil))) (.cons (.tup (.cons (.tup (.cons (.neg (.lit (.int 1))) (.cons (.lit (.int 1)) .nil))) (.cons (.nm 3) .nil))) .nil)))) (.cons (.bin .add (.nm 1) (.tup (.cons (.tup (.cons (.tup (.cons (.lit (.bl true)) (.cons (.lit (.int 1)) .nil))) (.cons (.nm 3) .nil))) (.cons (.tup (.cons (.tup (.cons (.neg (.lit (.int 1))) (.cons (.lit (.int 1)) .nil))) (.cons (.nm 3) .nil))) .nil)))) .nil)))))))))) (.cons (.ret (.fr (.disp (.cons (.call 3 (.cons (.nm 0) (.cons (.nm 1) (.cons (.nm 2) .nil))) .nil) (.cons (.call 3 (.cons (.nm 0) (.cons (.nm 1) (.cons (.nm 2) .nil))) .nil) (.cons (.call 4 (.cons (.nm 0) (.cons (.nm 6) .nil)) .nil) (.cons (.call 4 (.cons (.nm 0) (.cons (.nm 6) .nil)) .nil) (.cons (.call 4 (.cons (.nm 0) (.cons (.nm 6) .nil)) .nil) .nil)))))))) .nil)))))
theorem s_Lthings : FnScope N_Lthings P_Lthings (defScope (top 82)) := C8.fnScope_by (by kernel_rfl)
theorem k_Lthings : chSs G_Lthings ⟨N_Lthings, (defScope (top 82)).names, fun _ => true⟩ b_Lthings (defBody (top 82)) = true := by kernel_rfl
def d_Lthings : He.DefD := ⟨("_law_things", none), "_law_things", "_law_things", defArgs (top 82), defBody (top 82), defScope (top 82), [], []⟩
noncomputable def e_Lthings_3 : Ent := mkEnt "_law_things" 3 [] [] [0, 1, 2] G_Lthings 8 b_Lthings

/-! ### _law_mirror -/
def N_Lmirror : List Str := ["_law_x"]
def P_Lmirror : List Str := ["_law_x"]
noncomputable def G_Lmirror : Gam := ⟨[], [], [], []⟩
def b_Lmirror : Sms := .cons (.ret (.tup (.cons (.ix (.nm 0) (.lit (.int 0))) (.cons (.neg (.ix (.nm 0) (.lit (.int 1)))) (.cons (.ix (.nm 0) (.lit (.int 2))) .nil))))) .nil
theorem s_Lmirror : FnScope N_Lmirror P_Lmirror (defScope (top 60)) := C8.fnScope_by (by kernel_rfl)
theorem k_Lmirror : chSs G_Lmirror ⟨N_Lmirror, (defScope (top 60)).names, fun _ => true⟩ b_Lmirror (defBody (top 60)) = true := by kernel_rfl
def d_Lmirror : He.DefD := ⟨("_law_mirror", none), "_law_mirror", "_law_mirror", defArgs (top 60), defBody (top 60), defScope (top 60), [], []⟩
noncomputable def e_Lmirror_1 : Ent := mkEnt "_law_mirror" 1 [] [] [0] G_Lmirror 1 b_Lmirror

/-! ### _law_made -/
def N_Lmade : List Str := ["_law_n", "_law_some", "_law_own", "_law_w", "_law_m", "_law_i", "_law_j", "_law_lap"]
def P_Lmade : List Str := ["_law_n", "_law_some"]
noncomputable def G_Lmade : Gam := ⟨[e_Lplus_2, e_Ltimes_2, e_Lmirror_1], [], ["range"], []⟩
def b_Lmade : Sms := .cons (.asg (.nm 2) (.fr (.comp (.nwc (.rep (.disp (.cons (.tup (.cons (.lit (.int 0)) (.cons (.lit (.int 0)) (.cons (.lit (.int 1)) .nil)))) .nil)) (.nm 0))) (.nm 7) (.range1 (.nm 0)) .none [7]))) (.cons (.for_ (.tup (.cons (.nm 3) (.cons (.nm 4) .nil))) (.seq (.nm 1)) (.cons (.for_ (.nm 5) (.range1 (.nm 0)) (.cons (.for_ (.nm 6) (.range1 (.nm 0)) (.cons (.asg (.sbx (.ix (.nm 2) (.nm 5)) (.nm 6)) (.call 0 (.cons (.ix (.ix (.nm 2) (.nm 5)) (.nm 6)) (.cons (.call 1 (.cons (.nm 3) (.cons (.call 1 (.cons (.ix (.nm 4) (.nm 5)) (.cons (.call 2 (.cons (.ix (.nm 4) (.nm 6)) .nil) .nil) .nil)) .nil) .nil)) .nil) .nil)) .nil)) .nil)) .nil)) .nil)) (.cons (.ret (.nm 2)) .nil))
theorem s_Lmade : FnScope N_Lmade P_Lmade (defScope (top 76)) := C8.fnScope_by (by kernel_rfl)
theorem k_Lmade : chSs G_Lmade ⟨N_Lmade, (defScope (top 76)).names, fun _ => true⟩ b_Lmade (defBody (top 76)) = true := by kernel_rfl
def d_Lmade : He.DefD := ⟨("_law_made", none), "_law_made", "_law_made", defArgs (top 76), defBody (top 76), defScope (top 76), [], []⟩
noncomputable def e_Lmade_2_S : Ent := sealE (mkEnt "_law_made" 2 [] [] [0, 1] G_Lmade 8 b_Lmade)

/-! ### _law_squares -/
def N_Lsquares : List Str := ["_law_some", "_law_each"]
def P_Lsquares : List Str := ["_law_some"]
noncomputable def G_Lsquares : Gam := ⟨[e_Lnumber_1, e_Lline_1], [], ["tuple"], []⟩
def b_Lsquares : Sms := .cons (.ret (.bi .tuple (.cons (.fr (.comp (.tup (.cons (.ix (.call 0 (.cons (.ix (.nm 1) (.lit (.int 0))) .nil) .nil) (.lit (.int 0))) (.cons (.call 1 (.cons (.ix (.nm 1) (.lit (.int 1))) .nil) .nil) .nil))) (.nm 1) (.seq (.nm 0)) .none [1])) .nil))) .nil
theorem s_Lsquares : FnScope N_Lsquares P_Lsquares (defScope (top 77)) := C8.fnScope_by (by kernel_rfl)
theorem k_Lsquares : chSs G_Lsquares ⟨N_Lsquares, (defScope (top 77)).names, fun _ => true⟩ b_Lsquares (defBody (top 77)) = true := by kernel_rfl
def d_Lsquares : He.DefD := ⟨("_law_squares", none), "_law_squares", "_law_squares", defArgs (top 77), defBody (top 77), defScope (top 77), [], []⟩
noncomputable def e_Lsquares_1 : Ent := mkEnt "_law_squares" 1 [] [] [0] G_Lsquares 2 b_Lsquares

/-! ### num_mirrored -/
def N_num_mirrored : List Str := ["x"]
def P_num_mirrored : List Str := ["x"]
noncomputable def G_num_mirrored : Gam := ⟨[], [], [], []⟩
def b_num_mirrored : Sms := .cons (.ret (.tup (.cons (.ix (.nm 0) (.lit (.int 0))) (.cons (.tup (.cons (.neg (.ix (.ix (.nm 0) (.lit (.int 1))) (.lit (.int 0)))) (.cons (.ix (.ix (.nm 0) (.lit (.int 1))) (.lit (.int 1))) .nil))) .nil)))) .nil
theorem s_num_mirrored : FnScope N_num_mirrored P_num_mirrored (defScope (top 18)) := C8.fnScope_by (by kernel_rfl)
theorem k_num_mirrored : chSs G_num_mirrored ⟨N_num_mirrored, (defScope (top 18)).names, fun _ => true⟩ b_num_mirrored (defBody (top 18)) = true := by kernel_rfl
def d_num_mirrored : He.DefD := ⟨("num_mirrored", none), "num_mirrored", "num_mirrored", defArgs (top 18), defBody (top 18), defScope (top 18), [], []⟩
noncomputable def e_num_mirrored_1 : Ent := mkEnt "num_mirrored" 1 [] [] [0] G_num_mirrored 1 b_num_mirrored

/-! ### is_whole -/
def N_is_whole : List Str := ["value"]
def P_is_whole : List Str := ["value"]
noncomputable def G_is_whole : Gam := ⟨[], [], ["isinstance", "bool", "int"], []⟩
def b_is_whole : Sms := .cons (.ret (.and (.isi (.nm 0) "int") (.not (.isi (.nm 0) "bool")))) .nil
theorem s_is_whole : FnScope N_is_whole P_is_whole (defScope (top 5)) := C8.fnScope_by (by kernel_rfl)
theorem k_is_whole : chSs G_is_whole ⟨N_is_whole, (defScope (top 5)).names, fun _ => true⟩ b_is_whole (defBody (top 5)) = true := by kernel_rfl
def d_is_whole : He.DefD := ⟨("is_whole", none), "is_whole", "is_whole", defArgs (top 5), defBody (top 5), defScope (top 5), [], []⟩
noncomputable def e_is_whole_1 : Ent := mkEnt "is_whole" 1 [] [] [0] G_is_whole 1 b_is_whole

/-! ### is_frac -/
def N_is_frac : List Str := ["value"]
def P_is_frac : List Str := ["value"]
noncomputable def G_is_frac : Gam := ⟨[e_is_whole_1], [], ["isinstance", "tuple", "len"], [("gcd", "math.gcd")]⟩
def b_is_frac : Sms := .cons (.ife (.or (.not (.isi (.nm 0) "tuple")) (.or (.cmp .ne (.bi .len (.cons (.nm 0) .nil)) (.lit (.int 2))) (.or (.not (.call 0 (.cons (.ix (.nm 0) (.lit (.int 0))) .nil) .nil)) (.not (.call 0 (.cons (.ix (.nm 0) (.lit (.int 1))) .nil) .nil))))) (.cons (.ret (.lit (.bl false))) .nil) .nil) (.cons (.ret (.and (.cmp .gt (.ix (.nm 0) (.lit (.int 1))) (.lit (.int 0))) (.cmp .eq (.bi .gcd (.cons (.ix (.nm 0) (.lit (.int 0))) (.cons (.ix (.nm 0) (.lit (.int 1))) .nil))) (.lit (.int 1))))) .nil)
theorem s_is_frac : FnScope N_is_frac P_is_frac (defScope (top 6)) := C8.fnScope_by (by kernel_rfl)
theorem k_is_frac : chSs G_is_frac ⟨N_is_frac, (defScope (top 6)).names, fun _ => true⟩ b_is_frac (defBody (top 6)) = true := by kernel_rfl
def d_is_frac : He.DefD := ⟨("is_frac", none), "is_frac", "is_frac", defArgs (top 6), defBody (top 6), defScope (top 6), [], []⟩
noncomputable def e_is_frac_1 : Ent := mkEnt "is_frac" 1 [] [] [0] G_is_frac 1 b_is_frac

/-! ### is_num -/
def N_is_num : List Str := ["value"]
def P_is_num : List Str := ["value"]
noncomputable def G_is_num : Gam := ⟨[e_is_frac_1], [], ["isinstance", "tuple", "len"], []⟩
def b_is_num : Sms := .cons (.ret (.and (.isi (.nm 0) "tuple") (.and (.cmp .eq (.bi .len (.cons (.nm 0) .nil)) (.lit (.int 2))) (.and (.call 0 (.cons (.ix (.nm 0) (.lit (.int 0))) .nil) .nil) (.call 0 (.cons (.ix (.nm 0) (.lit (.int 1))) .nil) .nil))))) .nil
theorem s_is_num : FnScope N_is_num P_is_num (defScope (top 7)) := C8.fnScope_by (by kernel_rfl)
theorem k_is_num : chSs G_is_num ⟨N_is_num, (defScope (top 7)).names, fun _ => true⟩ b_is_num (defBody (top 7)) = true := by kernel_rfl
def d_is_num : He.DefD := ⟨("is_num", none), "is_num", "is_num", defArgs (top 7), defBody (top 7), defScope (top 7), [], []⟩
noncomputable def e_is_num_1 : Ent := mkEnt "is_num" 1 [] [] [0] G_is_num 1 b_is_num

/-! ### fits_as_row -/
def N_fits_as_row : List Str := ["value", "at", "row", "by", "each"]
def P_fits_as_row : List Str := ["value", "at", "row"]
noncomputable def G_fits_as_row : Gam := ⟨[e_is_num_1, e_num_mirrored_1], [], ["all", "isinstance", "tuple", "len", "range"], []⟩
def b_fits_as_row : Sms := .cons (.ife (.or (.not (.isi (.nm 2) "tuple")) (.or (.cmp .ne (.bi .len (.cons (.nm 2) .nil)) (.bi .len (.cons (.nm 0) .nil))) (.not (.bi .all (.cons (.fr (.comp (.call 0 (.cons (.nm 4) .nil) .nil) (.nm 4) (.seq (.nm 2)) .none [4])) .nil))))) (.cons (.ret (.lit (.bl false))) .nil) .nil) (.cons (.ret (.bi .all (.cons (.fr (.comp (.cmp .eq (.ix (.nm 2) (.nm 3)) (.call 1 (.cons (.ix (.ix (.nm 0) (.nm 3)) (.nm 1)) .nil) .nil)) (.nm 3) (.range1 (.bin .add (.nm 1) (.lit (.int 1)))) .none [3])) .nil))) .nil)
theorem s_fits_as_row : FnScope N_fits_as_row P_fits_as_row (defScope (top 23)) := C8.fnScope_by (by kernel_rfl)
theorem k_fits_as_row : chSs G_fits_as_row ⟨N_fits_as_row, (defScope (top 23)).names, fun _ => true⟩ b_fits_as_row (defBody (top 23)) = true := by kernel_rfl
def d_fits_as_row : He.DefD := ⟨("fits_as_row", none), "fits_as_row", "fits_as_row", defArgs (top 23), defBody (top 23), defScope (top 23), [], []⟩
noncomputable def e_fits_as_row_3 : Ent := mkEnt "fits_as_row" 3 [] [] [0, 1, 2] G_fits_as_row 5 b_fits_as_row

/-! ### wrong_in_table -/
def N_wrong_in_table : List Str := ["value", "at", "row"]
def P_wrong_in_table : List Str := ["value"]
noncomputable def G_wrong_in_table : Gam := ⟨[e_fits_as_row_3], [c_MOST_ROWS], ["len", "isinstance", "tuple", "enumerate"], []⟩
def b_wrong_in_table : Sms := .cons (.ife (.or (.not (.isi (.nm 0) "tuple")) (.cmp .gt (.bi .len (.cons (.nm 0) .nil)) (.gc 0))) (.cons (.ret (.fr (.disp (.cons (.lit (.non)) .nil)))) .nil) .nil) (.cons (.for_ (.tup (.cons (.nm 1) (.cons (.nm 2) .nil))) (.enum (.nm 0)) (.cons (.ife (.not (.call 0 (.cons (.nm 0) (.cons (.nm 1) (.cons (.nm 2) .nil))) .nil)) (.cons (.ret (.fr (.disp (.cons (.nm 1) .nil)))) .nil) .nil) .nil)) (.cons (.ret (.fr (.disp .nil))) .nil))
theorem s_wrong_in_table : FnScope N_wrong_in_table P_wrong_in_table (defScope (top 24)) := C8.fnScope_by (by kernel_rfl)
theorem k_wrong_in_table : chSs G_wrong_in_table ⟨N_wrong_in_table, (defScope (top 24)).names, fun _ => true⟩ b_wrong_in_table (defBody (top 24)) = true := by kernel_rfl
def d_wrong_in_table : He.DefD := ⟨("wrong_in_table", none), "wrong_in_table", "wrong_in_table", defArgs (top 24), defBody (top 24), defScope (top 24), [], []⟩
noncomputable def e_wrong_in_table_1 : Ent := mkEnt "wrong_in_table" 1 [] [] [0] G_wrong_in_table 3 b_wrong_in_table

/-! ### check_table -/
def N_check_table : List Str := ["value", "index"]
def P_check_table : List Str := ["value"]
noncomputable def G_check_table : Gam := ⟨[e_wrong_in_table_1], [], [], []⟩
def b_check_table : Sms := .cons (.for_ (.nm 1) (.seq (.call 0 (.cons (.nm 0) .nil) .nil)) (.cons .never .nil)) .nil
theorem s_check_table : FnScope N_check_table P_check_table (defScope (top 45)) := C8.fnScope_by (by kernel_rfl)
theorem k_check_table : chSs G_check_table ⟨N_check_table, (defScope (top 45)).names, fun _ => true⟩ b_check_table (defBody (top 45)) = true := by kernel_rfl
def d_check_table : He.DefD := ⟨("check_table", none), "check_table", "check_table", defArgs (top 45), defBody (top 45), defScope (top 45), [], []⟩
noncomputable def e_check_table_1 : Ent := mkEnt "check_table" 1 [] [] [0] G_check_table 2 b_check_table

/-! ### frac_reduced -/
def N_frac_reduced : List Str := ["n", "m", "divisor"]
def P_frac_reduced : List Str := ["n", "m"]
noncomputable def G_frac_reduced : Gam := ⟨[], [], [], [("gcd", "math.gcd")]⟩
def b_frac_reduced : Sms := .cons (.asg (.nm 2) (.ife (.cmp .gt (.nm 1) (.lit (.int 0))) (.bi .gcd (.cons (.nm 0) (.cons (.nm 1) .nil))) (.neg (.bi .gcd (.cons (.nm 0) (.cons (.nm 1) .nil)))))) (.cons (.ret (.tup (.cons (.bin .fdiv (.nm 0) (.nm 2)) (.cons (.bin .fdiv (.nm 1) (.nm 2)) .nil)))) .nil)
theorem s_frac_reduced : FnScope N_frac_reduced P_frac_reduced (defScope (top 8)) := C8.fnScope_by (by kernel_rfl)
theorem k_frac_reduced : chSs G_frac_reduced ⟨N_frac_reduced, (defScope (top 8)).names, fun _ => true⟩ b_frac_reduced (defBody (top 8)) = true := by kernel_rfl
def d_frac_reduced : He.DefD := ⟨("frac_reduced", none), "frac_reduced", "frac_reduced", defArgs (top 8), defBody (top 8), defScope (top 8), [], []⟩
noncomputable def e_frac_reduced_2 : Ent := mkEnt "frac_reduced" 2 [] [] [0, 1] G_frac_reduced 3 b_frac_reduced

/-! ### frac_product -/
def N_frac_product : List Str := ["x", "y"]
def P_frac_product : List Str := ["x", "y"]
noncomputable def G_frac_product : Gam := ⟨[e_frac_reduced_2], [], [], []⟩
def b_frac_product : Sms := .cons (.ret (.call 0 (.cons (.bin .mul (.ix (.nm 0) (.lit (.int 0))) (.ix (.nm 1) (.lit (.int 0)))) (.cons (.bin .mul (.ix (.nm 0) (.lit (.int 1))) (.ix (.nm 1) (.lit (.int 1)))) .nil)) .nil)) .nil
theorem s_frac_product : FnScope N_frac_product P_frac_product (defScope (top 11)) := C8.fnScope_by (by kernel_rfl)
theorem k_frac_product : chSs G_frac_product ⟨N_frac_product, (defScope (top 11)).names, fun _ => true⟩ b_frac_product (defBody (top 11)) = true := by kernel_rfl
def d_frac_product : He.DefD := ⟨("frac_product", none), "frac_product", "frac_product", defArgs (top 11), defBody (top 11), defScope (top 11), [], []⟩
noncomputable def e_frac_product_2 : Ent := mkEnt "frac_product" 2 [] [] [0, 1] G_frac_product 2 b_frac_product

/-! ### num_scaled -/
def N_num_scaled : List Str := ["x", "fraction"]
def P_num_scaled : List Str := ["x", "fraction"]
noncomputable def G_num_scaled : Gam := ⟨[e_frac_product_2], [], [], []⟩
def b_num_scaled : Sms := .cons (.ret (.tup (.cons (.call 0 (.cons (.ix (.nm 0) (.lit (.int 0))) (.cons (.nm 1) .nil)) .nil) (.cons (.call 0 (.cons (.ix (.nm 0) (.lit (.int 1))) (.cons (.nm 1) .nil)) .nil) .nil)))) .nil
theorem s_num_scaled : FnScope N_num_scaled P_num_scaled (defScope (top 17)) := C8.fnScope_by (by kernel_rfl)
theorem k_num_scaled : chSs G_num_scaled ⟨N_num_scaled, (defScope (top 17)).names, fun _ => true⟩ b_num_scaled (defBody (top 17)) = true := by kernel_rfl
def d_num_scaled : He.DefD := ⟨("num_scaled", none), "num_scaled", "num_scaled", defArgs (top 17), defBody (top 17), defScope (top 17), [], []⟩
noncomputable def e_num_scaled_2 : Ent := mkEnt "num_scaled" 2 [] [] [0, 1] G_num_scaled 2 b_num_scaled

/-! ### num_product -/
def N_num_product : List Str := ["x", "y", "a", "b", "c", "d", "p", "q", "r", "s", "under"]
def P_num_product : List Str := ["x", "y"]
noncomputable def G_num_product : Gam := ⟨[e_frac_reduced_2], [], [], []⟩
def b_num_product : Sms := .cons (.asg (.tup (.cons (.tup (.cons (.nm 2) (.cons (.nm 3) .nil))) (.cons (.tup (.cons (.nm 4) (.cons (.nm 5) .nil))) .nil))) (.nm 0)) (.cons (.asg (.tup (.cons (.tup (.cons (.nm 6) (.cons (.nm 7) .nil))) (.cons (.tup (.cons (.nm 8) (.cons (.nm 9) .nil))) .nil))) (.nm 1)) (.cons (.asg (.nm 10) (.bin .mul (.bin .mul (.bin .mul (.nm 3) (.nm 5)) (.nm 7)) (.nm 9))) (.cons (.ret (.tup (.cons (.call 0 (.cons (.bin .sub (.bin .mul (.bin .mul (.bin .mul (.nm 2) (.nm 6)) (.nm 5)) (.nm 9)) (.bin .mul (.bin .mul (.bin .mul (.nm 4) (.nm 8)) (.nm 3)) (.nm 7))) (.cons (.nm 10) .nil)) .nil) (.cons (.call 0 (.cons (.bin .add (.bin .mul (.bin .mul (.bin .mul (.nm 2) (.nm 8)) (.nm 5)) (.nm 7)) (.bin .mul (.bin .mul (.bin .mul (.nm 4) (.nm 6)) (.nm 3)) (.nm 9))) (.cons (.nm 10) .nil)) .nil) .nil)))) .nil)))
theorem s_num_product : FnScope N_num_product P_num_product (defScope (top 16)) := C8.fnScope_by (by kernel_rfl)
theorem k_num_product : chSs G_num_product ⟨N_num_product, (defScope (top 16)).names, fun _ => true⟩ b_num_product (defBody (top 16)) = true := by kernel_rfl
def d_num_product : He.DefD := ⟨("num_product", none), "num_product", "num_product", defArgs (top 16), defBody (top 16), defScope (top 16), [], []⟩
noncomputable def e_num_product_2 : Ent := mkEnt "num_product" 2 [] [] [0, 1] G_num_product 11 b_num_product

/-! ### frac_over -/
def N_frac_over : List Str := ["x", "y"]
def P_frac_over : List Str := ["x", "y"]
noncomputable def G_frac_over : Gam := ⟨[e_frac_reduced_2], [], [], []⟩
def b_frac_over : Sms := .cons (.ret (.call 0 (.cons (.bin .mul (.ix (.nm 0) (.lit (.int 0))) (.ix (.nm 1) (.lit (.int 1)))) (.cons (.bin .mul (.ix (.nm 0) (.lit (.int 1))) (.ix (.nm 1) (.lit (.int 0)))) .nil)) .nil)) .nil
theorem s_frac_over : FnScope N_frac_over P_frac_over (defScope (top 12)) := C8.fnScope_by (by kernel_rfl)
theorem k_frac_over : chSs G_frac_over ⟨N_frac_over, (defScope (top 12)).names, fun _ => true⟩ b_frac_over (defBody (top 12)) = true := by kernel_rfl
def d_frac_over : He.DefD := ⟨("frac_over", none), "frac_over", "frac_over", defArgs (top 12), defBody (top 12), defScope (top 12), [], []⟩
noncomputable def e_frac_over_2 : Ent := mkEnt "frac_over" 2 [] [] [0, 1] G_frac_over 2 b_frac_over

/-! ### num_size -/
def N_num_size : List Str := ["x", "a", "b", "c", "d"]
def P_num_size : List Str := ["x"]
noncomputable def G_num_size : Gam := ⟨[e_frac_reduced_2], [], [], []⟩
def b_num_size : Sms := .cons (.asg (.tup (.cons (.tup (.cons (.nm 1) (.cons (.nm 2) .nil))) (.cons (.tup (.cons (.nm 3) (.cons (.nm 4) .nil))) .nil))) (.nm 0)) (.cons (.ret (.call 0 (.cons (.bin .add (.bin .mul (.bin .mul (.bin .mul (.nm 1) (.nm 1)) (.nm 4)) (.nm 4)) (.bin .mul (.bin .mul (.bin .mul (.nm 3) (.nm 3)) (.nm 2)) (.nm 2))) (.cons (.bin .mul (.bin .mul (.bin .mul (.nm 2) (.nm 2)) (.nm 4)) (.nm 4)) .nil)) .nil)) .nil)
theorem s_num_size : FnScope N_num_size P_num_size (defScope (top 19)) := C8.fnScope_by (by kernel_rfl)
theorem k_num_size : chSs G_num_size ⟨N_num_size, (defScope (top 19)).names, fun _ => true⟩ b_num_size (defBody (top 19)) = true := by kernel_rfl
def d_num_size : He.DefD := ⟨("num_size", none), "num_size", "num_size", defArgs (top 19), defBody (top 19), defScope (top 19), [], []⟩
noncomputable def e_num_size_1 : Ent := mkEnt "num_size" 1 [] [] [0] G_num_size 5 b_num_size

/-! ### num_over -/
def N_num_over : List Str := ["x", "y"]
def P_num_over : List Str := ["x", "y"]
noncomputable def G_num_over : Gam := ⟨[e_num_scaled_2, e_num_product_2, e_num_mirrored_1, e_frac_over_2, e_num_size_1], [c_FRAC_ONE], [], []⟩
def b_num_over : Sms := .cons (.ret (.call 0 (.cons (.call 1 (.cons (.nm 0) (.cons (.call 2 (.cons (.nm 1) .nil) .nil) .nil)) .nil) (.cons (.call 3 (.cons (.gc 0) (.cons (.call 4 (.cons (.nm 1) .nil) .nil) .nil)) .nil) .nil)) .nil)) .nil
theorem s_num_over : FnScope N_num_over P_num_over (defScope (top 20)) := C8.fnScope_by (by kernel_rfl)
theorem k_num_over : chSs G_num_over ⟨N_num_over, (defScope (top 20)).names, fun _ => true⟩ b_num_over (defBody (top 20)) = true := by kernel_rfl
def d_num_over : He.DefD := ⟨("num_over", none), "num_over", "num_over", defArgs (top 20), defBody (top 20), defScope (top 20), [], []⟩
noncomputable def e_num_over_2 : Ent := mkEnt "num_over" 2 [] [] [0, 1] G_num_over 2 b_num_over

/-! ### lead_square -/
def N_lead_square : List Str := ["table", "at", "first", "row"]
def P_lead_square : List Str := ["table", "at"]
noncomputable def G_lead_square : Gam := ⟨[e_num_over_2], [], ["tuple"], []⟩
def b_lead_square : Sms := .cons (.asg (.nm 2) (.ix (.ix (.nm 0) (.nm 1)) (.nm 1))) (.cons (.ret (.tup (.cons (.ix (.nm 2) (.lit (.int 0))) (.cons (.bi .tuple (.cons (.fr (.comp (.call 0 (.cons (.ix (.nm 3) (.nm 1)) (.cons (.nm 2) .nil)) .nil) (.nm 3) (.seq (.nm 0)) .none [3])) .nil)) .nil)))) .nil)
theorem s_lead_square : FnScope N_lead_square P_lead_square (defScope (top 35)) := C8.fnScope_by (by kernel_rfl)
theorem k_lead_square : chSs G_lead_square ⟨N_lead_square, (defScope (top 35)).names, fun _ => true⟩ b_lead_square (defBody (top 35)) = true := by kernel_rfl
def d_lead_square : He.DefD := ⟨("lead_square", none), "lead_square", "lead_square", defArgs (top 35), defBody (top 35), defScope (top 35), [], []⟩
noncomputable def e_lead_square_2 : Ent := mkEnt "lead_square" 2 [] [] [0, 1] G_lead_square 4 b_lead_square

/-! ### frac_less -/
def N_frac_less : List Str := ["x", "y"]
def P_frac_less : List Str := ["x", "y"]
noncomputable def G_frac_less : Gam := ⟨[e_frac_reduced_2], [], [], []⟩
def b_frac_less : Sms := .cons (.ret (.call 0 (.cons (.bin .sub (.bin .mul (.ix (.nm 0) (.lit (.int 0))) (.ix (.nm 1) (.lit (.int 1)))) (.bin .mul (.ix (.nm 1) (.lit (.int 0))) (.ix (.nm 0) (.lit (.int 1))))) (.cons (.bin .mul (.ix (.nm 0) (.lit (.int 1))) (.ix (.nm 1) (.lit (.int 1)))) .nil)) .nil)) .nil
theorem s_frac_less : FnScope N_frac_less P_frac_less (defScope (top 10)) := C8.fnScope_by (by kernel_rfl)
theorem k_frac_less : chSs G_frac_less ⟨N_frac_less, (defScope (top 10)).names, fun _ => true⟩ b_frac_less (defBody (top 10)) = true := by kernel_rfl
def d_frac_less : He.DefD := ⟨("frac_less", none), "frac_less", "frac_less", defArgs (top 10), defBody (top 10), defScope (top 10), [], []⟩
noncomputable def e_frac_less_2 : Ent := mkEnt "frac_less" 2 [] [] [0, 1] G_frac_less 2 b_frac_less

/-! ### num_less -/
def N_num_less : List Str := ["x", "y"]
def P_num_less : List Str := ["x", "y"]
noncomputable def G_num_less : Gam := ⟨[e_frac_less_2], [], [], []⟩
def b_num_less : Sms := .cons (.ret (.tup (.cons (.call 0 (.cons (.ix (.nm 0) (.lit (.int 0))) (.cons (.ix (.nm 1) (.lit (.int 0))) .nil)) .nil) (.cons (.call 0 (.cons (.ix (.nm 0) (.lit (.int 1))) (.cons (.ix (.nm 1) (.lit (.int 1))) .nil)) .nil) .nil)))) .nil
theorem s_num_less : FnScope N_num_less P_num_less (defScope (top 15)) := C8.fnScope_by (by kernel_rfl)
theorem k_num_less : chSs G_num_less ⟨N_num_less, (defScope (top 15)).names, fun _ => true⟩ b_num_less (defBody (top 15)) = true := by kernel_rfl
def d_num_less : He.DefD := ⟨("num_less", none), "num_less", "num_less", defArgs (top 15), defBody (top 15), defScope (top 15), [], []⟩
noncomputable def e_num_less_2 : Ent := mkEnt "num_less" 2 [] [] [0, 1] G_num_less 2 b_num_less

/-! ### mix_less -/
def N_mix_less : List Str := ["one", "other", "number", "each", "second"]
def P_mix_less : List Str := ["one", "other", "number"]
noncomputable def G_mix_less : Gam := ⟨[e_num_less_2, e_num_product_2], [], ["tuple", "zip"], []⟩
def b_mix_less : Sms := .cons (.ret (.bi .tuple (.cons (.fr (.comp (.call 0 (.cons (.nm 3) (.cons (.call 1 (.cons (.nm 2) (.cons (.nm 4) .nil)) .nil) .nil)) .nil) (.tup (.cons (.nm 3) (.cons (.nm 4) .nil))) (.zip (.nm 0) (.nm 1)) .none [3, 4])) .nil))) .nil
theorem s_mix_less : FnScope N_mix_less P_mix_less (defScope (top 28)) := C8.fnScope_by (by kernel_rfl)
theorem k_mix_less : chSs G_mix_less ⟨N_mix_less, (defScope (top 28)).names, fun _ => true⟩ b_mix_less (defBody (top 28)) = true := by kernel_rfl
def d_mix_less : He.DefD := ⟨("mix_less", none), "mix_less", "mix_less", defArgs (top 28), defBody (top 28), defScope (top 28), [], []⟩
noncomputable def e_mix_less_3 : Ent := mkEnt "mix_less" 3 [] [] [0, 1, 2] G_mix_less 5 b_mix_less

/-! ### tables_minus -/
def N_tables_minus : List Str := ["table", "other", "one", "two"]
def P_tables_minus : List Str := ["table", "other"]
noncomputable def G_tables_minus : Gam := ⟨[e_mix_less_3], [c_ONE], ["tuple", "zip"], []⟩
def b_tables_minus : Sms := .cons (.ret (.bi .tuple (.cons (.fr (.comp (.call 0 (.cons (.nm 2) (.cons (.nm 3) (.cons (.gc 0) .nil))) .nil) (.tup (.cons (.nm 2) (.cons (.nm 3) .nil))) (.zip (.nm 0) (.nm 1)) .none [2, 3])) .nil))) .nil
theorem s_tables_minus : FnScope N_tables_minus P_tables_minus (defScope (top 31)) := C8.fnScope_by (by kernel_rfl)
theorem k_tables_minus : chSs G_tables_minus ⟨N_tables_minus, (defScope (top 31)).names, fun _ => true⟩ b_tables_minus (defBody (top 31)) = true := by kernel_rfl
def d_tables_minus : He.DefD := ⟨("tables_minus", none), "tables_minus", "tables_minus", defArgs (top 31), defBody (top 31), defScope (top 31), [], []⟩
noncomputable def e_tables_minus_2 : Ent := mkEnt "tables_minus" 2 [] [] [0, 1] G_tables_minus 4 b_tables_minus

/-! ### first_other -/
def N_first_other : List Str := ["mix", "at", "each"]
def P_first_other : List Str := ["mix"]
noncomputable def G_first_other : Gam := ⟨[], [c_NOUGHT], ["enumerate"], []⟩
def b_first_other : Sms := .cons (.for_ (.tup (.cons (.nm 1) (.cons (.nm 2) .nil))) (.enum (.nm 0)) (.cons (.ife (.cmp .ne (.nm 2) (.gc 0)) (.cons (.ret (.nm 1)) .nil) .nil) .nil)) (.cons (.ret (.lit (.non))) .nil)
theorem s_first_other : FnScope N_first_other P_first_other (defScope (top 33)) := C8.fnScope_by (by kernel_rfl)
theorem k_first_other : chSs G_first_other ⟨N_first_other, (defScope (top 33)).names, fun _ => true⟩ b_first_other (defBody (top 33)) = true := by kernel_rfl
def d_first_other : He.DefD := ⟨("first_other", none), "first_other", "first_other", defArgs (top 33), defBody (top 33), defScope (top 33), [], []⟩
noncomputable def e_first_other_1 : Ent := mkEnt "first_other" 1 [] [] [0] G_first_other 3 b_first_other

/-! ### frac_sign -/
def N_frac_sign : List Str := ["x"]
def P_frac_sign : List Str := ["x"]
noncomputable def G_frac_sign : Gam := ⟨[], [], [], []⟩
def b_frac_sign : Sms := .cons (.ret (.bin .sub (.cmp .gt (.ix (.nm 0) (.lit (.int 0))) (.lit (.int 0))) (.cmp .lt (.ix (.nm 0) (.lit (.int 0))) (.lit (.int 0))))) .nil
theorem s_frac_sign : FnScope N_frac_sign P_frac_sign (defScope (top 13)) := C8.fnScope_by (by kernel_rfl)
theorem k_frac_sign : chSs G_frac_sign ⟨N_frac_sign, (defScope (top 13)).names, fun _ => true⟩ b_frac_sign (defBody (top 13)) = true := by kernel_rfl
def d_frac_sign : He.DefD := ⟨("frac_sign", none), "frac_sign", "frac_sign", defArgs (top 13), defBody (top 13), defScope (top 13), [], []⟩
noncomputable def e_frac_sign_1 : Ent := mkEnt "frac_sign" 1 [] [] [0] G_frac_sign 1 b_frac_sign

/-! ### mix_mirrored -/
def N_mix_mirrored : List Str := ["mix", "each"]
def P_mix_mirrored : List Str := ["mix"]
noncomputable def G_mix_mirrored : Gam := ⟨[e_num_mirrored_1], [], ["tuple"], []⟩
def b_mix_mirrored : Sms := .cons (.ret (.bi .tuple (.cons (.fr (.comp (.call 0 (.cons (.nm 1) .nil) .nil) (.nm 1) (.seq (.nm 0)) .none [1])) .nil))) .nil
theorem s_mix_mirrored : FnScope N_mix_mirrored P_mix_mirrored (defScope (top 29)) := C8.fnScope_by (by kernel_rfl)
theorem k_mix_mirrored : chSs G_mix_mirrored ⟨N_mix_mirrored, (defScope (top 29)).names, fun _ => true⟩ b_mix_mirrored (defBody (top 29)) = true := by kernel_rfl
def d_mix_mirrored : He.DefD := ⟨("mix_mirrored", none), "mix_mirrored", "mix_mirrored", defArgs (top 29), defBody (top 29), defScope (top 29), [], []⟩
noncomputable def e_mix_mirrored_1 : Ent := mkEnt "mix_mirrored" 1 [] [] [0] G_mix_mirrored 2 b_mix_mirrored

/-! ### square_table -/
def N_square_table : List Str := ["square", "back", "found", "each", "second"]
def P_square_table : List Str := ["square"]
noncomputable def G_square_table : Gam := ⟨[e_mix_mirrored_1, e_num_scaled_2, e_num_product_2], [], ["tuple"], []⟩
def b_square_table : Sms := .cons (.asg (.nm 1) (.call 0 (.cons (.ix (.nm 0) (.lit (.int 1))) .nil) .nil)) (.cons (.own 2 (.disp .nil)) (.cons (.for_ (.nm 3) (.seq (.ix (.nm 0) (.lit (.int 1)))) (.cons (.app 2 (.bi .tuple (.cons (.fr (.comp (.call 1 (.cons (.call 2 (.cons (.nm 3) (.cons (.nm 4) .nil)) .nil) (.cons (.ix (.nm 0) (.lit (.int 0))) .nil)) .nil) (.nm 4) (.seq (.nm 1)) .none [4])) .nil))) .nil)) (.cons (.ret (.bi .tuple (.cons (.nm 2) .nil))) .nil)))
theorem s_square_table : FnScope N_square_table P_square_table (defScope (top 34)) := C8.fnScope_by (by kernel_rfl)
theorem k_square_table : chSs G_square_table ⟨N_square_table, (defScope (top 34)).names, fun _ => true⟩ b_square_table (defBody (top 34)) = true := by kernel_rfl
def d_square_table : He.DefD := ⟨("square_table", none), "square_table", "square_table", defArgs (top 34), defBody (top 34), defScope (top 34), [], []⟩
noncomputable def e_square_table_1 : Ent := mkEnt "square_table" 1 [] [] [0] G_square_table 5 b_square_table

/-! ### clearing -/
def N_clearing : List Str := ["table", "found", "left", "at", "square"]
def P_clearing : List Str := ["table"]
noncomputable def G_clearing : Gam := ⟨[e_first_other_1, e_frac_sign_1, e_lead_square_2, e_tables_minus_2, e_square_table_1], [], ["range", "len", "tuple"], []⟩
def b_clearing : Sms := .cons (.par [1, 2] (.cons (.nwc (.disp .nil)) (.cons (.nm 0) .nil))) (.cons (.for_ (.nm 3) (.range1 (.bi .len (.cons (.nm 0) .nil))) (.cons (.ife (.cmp .isN (.call 0 (.cons (.ix (.nm 2) (.nm 3)) .nil) .nil) (.lit (.non))) (.cons .cnt .nil) .nil) (.cons (.ife (.cmp .le (.call 1 (.cons (.ix (.ix (.ix (.nm 2) (.nm 3)) (.nm 3)) (.lit (.int 0))) .nil) .nil) (.lit (.int 0))) (.cons (.ret (.tup (.cons (.bic .tuple (.cons (.nm 1) .nil)) (.cons (.nm 3) (.cons (.nm 2) .nil))))) .nil) .nil) (.cons (.asg (.nm 4) (.call 2 (.cons (.nm 2) (.cons (.nm 3) .nil)) .nil)) (.cons (.app 1 (.nm 4)) (.cons (.asg (.nm 2) (.call 3 (.cons (.nm 2) (.cons (.call 4 (.cons (.nm 4) .nil) .nil) .nil)) .nil)) .nil)))))) (.cons (.ret (.tup (.cons (.bic .tuple (.cons (.nm 1) .nil)) (.cons (.lit (.non)) (.cons (.nm 2) .nil))))) .nil))
theorem s_clearing : FnScope N_clearing P_clearing (defScope (top 36)) := C8.fnScope_by (by kernel_rfl)
theorem k_clearing : chSs G_clearing ⟨N_clearing, (defScope (top 36)).names, fun _ => true⟩ b_clearing (defBody (top 36)) = true := by kernel_rfl
def d_clearing : He.DefD := ⟨("clearing", none), "clearing", "clearing", defArgs (top 36), defBody (top 36), defScope (top 36), [], []⟩
noncomputable def e_clearing_1_S : Ent := sealE (mkEnt "clearing" 1 [] [] [0] G_clearing 5 b_clearing)

/-! ### squares_by -/
def N_squares_by : List Str := ["table", "found", "stop", "_"]
def P_squares_by : List Str := ["table"]
noncomputable def G_squares_by : Gam := ⟨[e_clearing_1_S], [], [], []⟩
def b_squares_by : Sms := .cons (.asg (.tup (.cons (.nm 1) (.cons (.nm 2) (.cons (.nm 3) .nil)))) (.call 0 (.cons (.nm 0) .nil) .nil)) (.cons (.ret (.ife (.cmp .isN (.nm 2) (.lit (.non))) (.nm 1) (.lit (.non)))) .nil)
theorem s_squares_by : FnScope N_squares_by P_squares_by (defScope (top 37)) := C8.fnScope_by (by kernel_rfl)
theorem k_squares_by : chSs G_squares_by ⟨N_squares_by, (defScope (top 37)).names, fun _ => true⟩ b_squares_by (defBody (top 37)) = true := by kernel_rfl
def d_squares_by : He.DefD := ⟨("squares_by", none), "squares_by", "squares_by", defArgs (top 37), defBody (top 37), defScope (top 37), [], []⟩
noncomputable def e_squares_by_1 : Ent := mkEnt "squares_by" 1 [] [] [0] G_squares_by 4 b_squares_by

/-! ### is_nonnegative -/
def N_is_nonnegative : List Str := ["table"]
def P_is_nonnegative : List Str := ["table"]
noncomputable def G_is_nonnegative : Gam := ⟨[e_check_table_1, e_squares_by_1], [], [], []⟩
def b_is_nonnegative : Sms := .cons (.ex (.call 0 (.cons (.nm 0) .nil) .nil)) (.cons (.ret (.cmp .notN (.call 1 (.cons (.nm 0) .nil) .nil) (.lit (.non)))) .nil)
theorem s_is_nonnegative : FnScope N_is_nonnegative P_is_nonnegative (defScope (top 50)) := C8.fnScope_by (by kernel_rfl)
theorem k_is_nonnegative : chSs G_is_nonnegative ⟨N_is_nonnegative, (defScope (top 50)).names, fun _ => true⟩ b_is_nonnegative (defBody (top 50)) = true := by kernel_rfl
def d_is_nonnegative : He.DefD := ⟨("is_nonnegative", none), "is_nonnegative", "is_nonnegative", defArgs (top 50), defBody (top 50), defScope (top 50), [], []⟩
noncomputable def e_is_nonnegative_1 : Ent := mkEnt "is_nonnegative" 1 [] [] [0] G_is_nonnegative 1 b_is_nonnegative

/-! ### frac_sum -/
def N_frac_sum : List Str := ["x", "y"]
def P_frac_sum : List Str := ["x", "y"]
noncomputable def G_frac_sum : Gam := ⟨[e_frac_reduced_2], [], [], []⟩
def b_frac_sum : Sms := .cons (.ret (.call 0 (.cons (.bin .add (.bin .mul (.ix (.nm 0) (.lit (.int 0))) (.ix (.nm 1) (.lit (.int 1)))) (.bin .mul (.ix (.nm 1) (.lit (.int 0))) (.ix (.nm 0) (.lit (.int 1))))) (.cons (.bin .mul (.ix (.nm 0) (.lit (.int 1))) (.ix (.nm 1) (.lit (.int 1)))) .nil)) .nil)) .nil
theorem s_frac_sum : FnScope N_frac_sum P_frac_sum (defScope (top 9)) := C8.fnScope_by (by kernel_rfl)
theorem k_frac_sum : chSs G_frac_sum ⟨N_frac_sum, (defScope (top 9)).names, fun _ => true⟩ b_frac_sum (defBody (top 9)) = true := by kernel_rfl
def d_frac_sum : He.DefD := ⟨("frac_sum", none), "frac_sum", "frac_sum", defArgs (top 9), defBody (top 9), defScope (top 9), [], []⟩
noncomputable def e_frac_sum_2 : Ent := mkEnt "frac_sum" 2 [] [] [0, 1] G_frac_sum 2 b_frac_sum

/-! ### num_sum -/
def N_num_sum : List Str := ["x", "y"]
def P_num_sum : List Str := ["x", "y"]
noncomputable def G_num_sum : Gam := ⟨[e_frac_sum_2], [], [], []⟩
def b_num_sum : Sms := .cons (.ret (.tup (.cons (.call 0 (.cons (.ix (.nm 0) (.lit (.int 0))) (.cons (.ix (.nm 1) (.lit (.int 0))) .nil)) .nil) (.cons (.call 0 (.cons (.ix (.nm 0) (.lit (.int 1))) (.cons (.ix (.nm 1) (.lit (.int 1))) .nil)) .nil) .nil)))) .nil
theorem s_num_sum : FnScope N_num_sum P_num_sum (defScope (top 14)) := C8.fnScope_by (by kernel_rfl)
theorem k_num_sum : chSs G_num_sum ⟨N_num_sum, (defScope (top 14)).names, fun _ => true⟩ b_num_sum (defBody (top 14)) = true := by kernel_rfl
def d_num_sum : He.DefD := ⟨("num_sum", none), "num_sum", "num_sum", defArgs (top 14), defBody (top 14), defScope (top 14), [], []⟩
noncomputable def e_num_sum_2 : Ent := mkEnt "num_sum" 2 [] [] [0, 1] G_num_sum 2 b_num_sum

/-! ### mix_sum -/
def N_mix_sum : List Str := ["one", "other", "each", "second"]
def P_mix_sum : List Str := ["one", "other"]
noncomputable def G_mix_sum : Gam := ⟨[e_num_sum_2], [], ["tuple", "zip"], []⟩
def b_mix_sum : Sms := .cons (.ret (.bi .tuple (.cons (.fr (.comp (.call 0 (.cons (.nm 2) (.cons (.nm 3) .nil)) .nil) (.tup (.cons (.nm 2) (.cons (.nm 3) .nil))) (.zip (.nm 0) (.nm 1)) .none [2, 3])) .nil))) .nil
theorem s_mix_sum : FnScope N_mix_sum P_mix_sum (defScope (top 27)) := C8.fnScope_by (by kernel_rfl)
theorem k_mix_sum : chSs G_mix_sum ⟨N_mix_sum, (defScope (top 27)).names, fun _ => true⟩ b_mix_sum (defBody (top 27)) = true := by kernel_rfl
def d_mix_sum : He.DefD := ⟨("mix_sum", none), "mix_sum", "mix_sum", defArgs (top 27), defBody (top 27), defScope (top 27), [], []⟩
noncomputable def e_mix_sum_2 : Ent := mkEnt "mix_sum" 2 [] [] [0, 1] G_mix_sum 4 b_mix_sum

/-! ### tables_plus -/
def N_tables_plus : List Str := ["table", "other", "one", "two"]
def P_tables_plus : List Str := ["table", "other"]
noncomputable def G_tables_plus : Gam := ⟨[e_mix_sum_2], [], ["tuple", "zip"], []⟩
def b_tables_plus : Sms := .cons (.ret (.bi .tuple (.cons (.fr (.comp (.call 0 (.cons (.nm 2) (.cons (.nm 3) .nil)) .nil) (.tup (.cons (.nm 2) (.cons (.nm 3) .nil))) (.zip (.nm 0) (.nm 1)) .none [2, 3])) .nil))) .nil
theorem s_tables_plus : FnScope N_tables_plus P_tables_plus (defScope (top 30)) := C8.fnScope_by (by kernel_rfl)
theorem k_tables_plus : chSs G_tables_plus ⟨N_tables_plus, (defScope (top 30)).names, fun _ => true⟩ b_tables_plus (defBody (top 30)) = true := by kernel_rfl
def d_tables_plus : He.DefD := ⟨("tables_plus", none), "tables_plus", "tables_plus", defArgs (top 30), defBody (top 30), defScope (top 30), [], []⟩
noncomputable def e_tables_plus_2 : Ent := mkEnt "tables_plus" 2 [] [] [0, 1] G_tables_plus 4 b_tables_plus

/-! ### unit_mix -/
def N_unit_mix : List Str := ["many", "at", "number", "by"]
def P_unit_mix : List Str := ["many", "at", "number"]
noncomputable def G_unit_mix : Gam := ⟨[], [c_NOUGHT], ["tuple", "range"], []⟩
def b_unit_mix : Sms := .cons (.ret (.bi .tuple (.cons (.fr (.comp (.ife (.cmp .eq (.nm 3) (.nm 1)) (.nm 2) (.gc 0)) (.nm 3) (.range1 (.nm 0)) .none [3])) .nil))) .nil
theorem s_unit_mix : FnScope N_unit_mix P_unit_mix (defScope (top 26)) := C8.fnScope_by (by kernel_rfl)
theorem k_unit_mix : chSs G_unit_mix ⟨N_unit_mix, (defScope (top 26)).names, fun _ => true⟩ b_unit_mix (defBody (top 26)) = true := by kernel_rfl
def z_unit_mix_0 : Str × Nat × D := ("unit_mix", 0, .tup [.tup [.int 1, .int 1], .tup [.int 0, .int 1]])
def d_unit_mix : He.DefD := ⟨("unit_mix", none), "unit_mix", "unit_mix", defArgs (top 26), defBody (top 26), defScope (top 26), [.adr (He.dflAt ("unit_mix", none) 0)], []⟩
noncomputable def e_unit_mix_2 : Ent := mkEnt "unit_mix" 2 [] [.tup [.tup [.int 1, .int 1], .tup [.int 0, .int 1]]] [0, 1, 2] G_unit_mix 4 b_unit_mix

/-! ### wrong_in_mix -/
def N_wrong_in_mix : List Str := ["value", "many", "at", "each"]
def P_wrong_in_mix : List Str := ["value", "many"]
noncomputable def G_wrong_in_mix : Gam := ⟨[e_is_num_1], [], ["len", "isinstance", "tuple", "enumerate"], []⟩
def b_wrong_in_mix : Sms := .cons (.ife (.or (.not (.isi (.nm 0) "tuple")) (.cmp .ne (.bi .len (.cons (.nm 0) .nil)) (.nm 1))) (.cons (.ret (.fr (.disp (.cons (.lit (.non)) .nil)))) .nil) .nil) (.cons (.ret (.fr (.slc (.fr (.comp (.nm 2) (.tup (.cons (.nm 2) (.cons (.nm 3) .nil))) (.enum (.nm 0)) (.some (.not (.call 0 (.cons (.nm 3) .nil) .nil))) [2, 3])) .none (.some (.lit (.int 1)))))) .nil)
theorem s_wrong_in_mix : FnScope N_wrong_in_mix P_wrong_in_mix (defScope (top 25)) := C8.fnScope_by (by kernel_rfl)
theorem k_wrong_in_mix : chSs G_wrong_in_mix ⟨N_wrong_in_mix, (defScope (top 25)).names, fun _ => true⟩ b_wrong_in_mix (defBody (top 25)) = true := by kernel_rfl
def d_wrong_in_mix : He.DefD := ⟨("wrong_in_mix", none), "wrong_in_mix", "wrong_in_mix", defArgs (top 25), defBody (top 25), defScope (top 25), [], []⟩
noncomputable def e_wrong_in_mix_2 : Ent := mkEnt "wrong_in_mix" 2 [] [] [0, 1] G_wrong_in_mix 4 b_wrong_in_mix

/-! ### is_square -/
def N_is_square : List Str := ["value", "many"]
def P_is_square : List Str := ["value", "many"]
noncomputable def G_is_square : Gam := ⟨[e_is_frac_1, e_first_other_1, e_wrong_in_mix_2], [], ["isinstance", "tuple", "len"], []⟩
def b_is_square : Sms := .cons (.ife (.or (.not (.isi (.nm 0) "tuple")) (.or (.cmp .ne (.bi .len (.cons (.nm 0) .nil)) (.lit (.int 2))) (.or (.not (.call 0 (.cons (.ix (.nm 0) (.lit (.int 0))) .nil) .nil)) (.cmp .eq (.ix (.ix (.nm 0) (.lit (.int 0))) (.lit (.int 0))) (.lit (.int 0)))))) (.cons (.ret (.lit (.bl false))) .nil) .nil) (.cons (.ret (.and (.cmp .eq (.call 2 (.cons (.ix (.nm 0) (.lit (.int 1))) (.cons (.nm 1) .nil)) .nil) (.fr (.disp .nil))) (.cmp .notN (.call 1 (.cons (.ix (.nm 0) (.lit (.int 1))) .nil) .nil) (.lit (.non))))) .nil)
theorem s_is_square : FnScope N_is_square P_is_square (defScope (top 38)) := C8.fnScope_by (by kernel_rfl)
theorem k_is_square : chSs G_is_square ⟨N_is_square, (defScope (top 38)).names, fun _ => true⟩ b_is_square (defBody (top 38)) = true := by kernel_rfl
def d_is_square : He.DefD := ⟨("is_square", none), "is_square", "is_square", defArgs (top 38), defBody (top 38), defScope (top 38), [], []⟩
noncomputable def e_is_square_2 : Ent := mkEnt "is_square" 2 [] [] [0, 1] G_is_square 2 b_is_square

/-! ### makes_by -/
def N_makes_by : List Str := ["table", "squares", "many", "total", "square", "_", "each"]
def P_makes_by : List Str := ["table", "squares"]
noncomputable def G_makes_by : Gam := ⟨[e_is_square_2, e_unit_mix_2, e_tables_plus_2, e_square_table_1], [], ["len", "all", "isinstance", "tuple", "range"], []⟩
def b_makes_by : Sms := .cons (.asg (.nm 2) (.bi .len (.cons (.nm 0) .nil))) (.cons (.ife (.or (.not (.isi (.nm 1) "tuple")) (.not (.bi .all (.cons (.fr (.comp (.call 0 (.cons (.nm 6) (.cons (.nm 2) .nil)) .nil) (.nm 6) (.seq (.nm 1)) .none [6])) .nil)))) (.cons (.ret (.lit (.bl false))) .nil) .nil) (.cons (.asg (.nm 3) (.bi .tuple (.cons (.fr (.comp (.call 1 (.cons (.nm 2) (.cons (.neg (.lit (.int 1))) .nil)) .nil) (.nm 5) (.range1 (.nm 2)) .none [5])) .nil))) (.cons (.for_ (.nm 4) (.seq (.nm 1)) (.cons (.asg (.nm 3) (.call 2 (.cons (.nm 3) (.cons (.call 3 (.cons (.nm 4) .nil) .nil) .nil)) .nil)) .nil)) (.cons (.ret (.cmp .eq (.nm 3) (.nm 0))) .nil))))
theorem s_makes_by : FnScope N_makes_by P_makes_by (defScope (top 39)) := C8.fnScope_by (by kernel_rfl)
theorem k_makes_by : chSs G_makes_by ⟨N_makes_by, (defScope (top 39)).names, fun _ => true⟩ b_makes_by (defBody (top 39)) = true := by kernel_rfl
def d_makes_by : He.DefD := ⟨("makes_by", none), "makes_by", "makes_by", defArgs (top 39), defBody (top 39), defScope (top 39), [], []⟩
noncomputable def e_makes_by_2 : Ent := mkEnt "makes_by" 2 [] [] [0, 1] G_makes_by 7 b_makes_by

/-! ### do_make -/
def N_do_make : List Str := ["table", "squares"]
def P_do_make : List Str := ["table", "squares"]
noncomputable def G_do_make : Gam := ⟨[e_check_table_1, e_makes_by_2], [], [], []⟩
def b_do_make : Sms := .cons (.ex (.call 0 (.cons (.nm 0) .nil) .nil)) (.cons (.ret (.call 1 (.cons (.nm 0) (.cons (.nm 1) .nil)) .nil)) .nil)
theorem s_do_make : FnScope N_do_make P_do_make (defScope (top 48)) := C8.fnScope_by (by kernel_rfl)
theorem k_do_make : chSs G_do_make ⟨N_do_make, (defScope (top 48)).names, fun _ => true⟩ b_do_make (defBody (top 48)) = true := by kernel_rfl
def d_do_make : He.DefD := ⟨("do_make", none), "do_make", "do_make", defArgs (top 48), defBody (top 48), defScope (top 48), [], []⟩
noncomputable def e_do_make_0_squares_table : Ent := mkEnt "do_make" 0 ["squares", "table"] [] [1, 0] G_do_make 2 b_do_make
noncomputable def e_do_make_2 : Ent := mkEnt "do_make" 2 [] [] [0, 1] G_do_make 2 b_do_make

/-! ### squares_of -/
def N_squares_of : List Str := ["table"]
def P_squares_of : List Str := ["table"]
noncomputable def G_squares_of : Gam := ⟨[e_check_table_1, e_squares_by_1], [], [], []⟩
def b_squares_of : Sms := .cons (.ex (.call 0 (.cons (.nm 0) .nil) .nil)) (.cons (.ret (.call 1 (.cons (.nm 0) .nil) .nil)) .nil)
theorem s_squares_of : FnScope N_squares_of P_squares_of (defScope (top 47)) := C8.fnScope_by (by kernel_rfl)
theorem k_squares_of : chSs G_squares_of ⟨N_squares_of, (defScope (top 47)).names, fun _ => true⟩ b_squares_of (defBody (top 47)) = true := by kernel_rfl
def d_squares_of : He.DefD := ⟨("squares_of", none), "squares_of", "squares_of", defArgs (top 47), defBody (top 47), defScope (top 47), [], []⟩
noncomputable def e_squares_of_1 : Ent := mkEnt "squares_of" 1 [] [] [0] G_squares_of 1 b_squares_of
noncomputable def e_squares_of_0_table : Ent := mkEnt "squares_of" 0 ["table"] [] [0] G_squares_of 1 b_squares_of

/-! ### null_by -/
def N_null_by : List Str := ["table", "leads", "found", "at", "row", "mix", "by", "lead", "other", "place", "part"]
def P_null_by : List Str := ["table"]
noncomputable def G_null_by : Gam := ⟨[e_unit_mix_2, e_num_over_2, e_mix_less_3, e_first_other_1], [], ["range", "len", "tuple"], []⟩
def b_null_by : Sms := .cons (.par [1, 2] (.cons (.nwc (.disp .nil)) (.cons (.nwc (.disp .nil)) .nil))) (.cons (.for_ (.nm 3) (.range1 (.bi .len (.cons (.nm 0) .nil))) (.cons (.par [4, 5] (.cons (.ix (.nm 0) (.nm 3)) (.cons (.call 0 (.cons (.bi .len (.cons (.nm 0) .nil)) (.cons (.nm 3) .nil)) .nil) .nil))) (.cons (.forc (.tup (.cons (.nm 6) (.cons (.nm 7) (.cons (.nm 8) .nil)))) (.nm 1) (.cons (.asg (.nm 10) (.call 1 (.cons (.ix (.nm 4) (.nm 6)) (.cons (.ix (.nm 7) (.nm 6)) .nil)) .nil)) (.cons (.par [4, 5] (.cons (.call 2 (.cons (.nm 4) (.cons (.nm 7) (.cons (.nm 10) .nil))) .nil) (.cons (.call 2 (.cons (.nm 5) (.cons (.nm 8) (.cons (.nm 10) .nil))) .nil) .nil))) .nil))) (.cons (.asg (.nm 9) (.call 3 (.cons (.nm 4) .nil) .nil)) (.cons (.ife (.cmp .isN (.nm 9) (.lit (.non))) (.cons (.app 2 (.nm 5)) .nil) (.cons (.app 1 (.tup (.cons (.nm 9) (.cons (.nm 4) (.cons (.nm 5) .nil))))) .nil)) .nil))))) (.cons (.ret (.bic .tuple (.cons (.nm 2) .nil))) .nil))
theorem s_null_by : FnScope N_null_by P_null_by (defScope (top 40)) := C8.fnScope_by (by kernel_rfl)
theorem k_null_by : chSs G_null_by ⟨N_null_by, (defScope (top 40)).names, fun _ => true⟩ b_null_by (defBody (top 40)) = true := by kernel_rfl
def d_null_by : He.DefD := ⟨("null_by", none), "null_by", "null_by", defArgs (top 40), defBody (top 40), defScope (top 40), [], []⟩
noncomputable def e_null_by_1_S : Ent := sealE (mkEnt "null_by" 1 [] [] [0] G_null_by 11 b_null_by)

/-! ### rank_of -/
def N_rank_of : List Str := ["table"]
def P_rank_of : List Str := ["table"]
noncomputable def G_rank_of : Gam := ⟨[e_check_table_1, e_null_by_1_S], [], ["len"], []⟩
def b_rank_of : Sms := .cons (.ex (.call 0 (.cons (.nm 0) .nil) .nil)) (.cons (.ret (.bin .sub (.bi .len (.cons (.nm 0) .nil)) (.bi .len (.cons (.call 1 (.cons (.nm 0) .nil) .nil) .nil)))) .nil)
theorem s_rank_of : FnScope N_rank_of P_rank_of (defScope (top 49)) := C8.fnScope_by (by kernel_rfl)
theorem k_rank_of : chSs G_rank_of ⟨N_rank_of, (defScope (top 49)).names, fun _ => true⟩ b_rank_of (defBody (top 49)) = true := by kernel_rfl
def d_rank_of : He.DefD := ⟨("rank_of", none), "rank_of", "rank_of", defArgs (top 49), defBody (top 49), defScope (top 49), [], []⟩
noncomputable def e_rank_of_1 : Ent := mkEnt "rank_of" 1 [] [] [0] G_rank_of 1 b_rank_of

/-! ### _law_is_fraction -/
def N_Lis_fraction : List Str := ["_law_thing", "_law_each"]
def P_Lis_fraction : List Str := ["_law_thing"]
noncomputable def G_Lis_fraction : Gam := ⟨[e_Lcommon_2], [], ["len", "isinstance", "tuple", "bool", "int"], []⟩
def b_Lis_fraction : Sms := .cons (.ife (.or (.not (.isi (.nm 0) "tuple")) (.cmp .ne (.bi .len (.cons (.nm 0) .nil)) (.lit (.int 2)))) (.cons (.ret (.lit (.bl false))) .nil) .nil) (.cons (.ife (.cmp .ne (.fr (.comp (.nm 1) (.nm 1) (.seq (.nm 0)) (.some (.or (.not (.isi (.nm 1) "int")) (.isi (.nm 1) "bool"))) [1])) (.fr (.disp .nil))) (.cons (.ret (.lit (.bl false))) .nil) .nil) (.cons (.ret (.and (.cmp .gt (.ix (.nm 0) (.lit (.int 1))) (.lit (.int 0))) (.cmp .eq (.call 0 (.cons (.ix (.nm 0) (.lit (.int 0))) (.cons (.ix (.nm 0) (.lit (.int 1))) .nil)) .nil) (.lit (.int 1))))) .nil))
theorem s_Lis_fraction : FnScope N_Lis_fraction P_Lis_fraction (defScope (top 69)) := C8.fnScope_by (by kernel_rfl)
theorem k_Lis_fraction : chSs G_Lis_fraction ⟨N_Lis_fraction, (defScope (top 69)).names, fun _ => true⟩ b_Lis_fraction (defBody (top 69)) = true := by kernel_rfl
def d_Lis_fraction : He.DefD := ⟨("_law_is_fraction", none), "_law_is_fraction", "_law_is_fraction", defArgs (top 69), defBody (top 69), defScope (top 69), [], []⟩
noncomputable def e_Lis_fraction_1 : Ent := mkEnt "_law_is_fraction" 1 [] [] [0] G_Lis_fraction 2 b_Lis_fraction

/-! ### _law_is_number -/
def N_Lis_number : List Str := ["_law_thing"]
def P_Lis_number : List Str := ["_law_thing"]
noncomputable def G_Lis_number : Gam := ⟨[e_Lis_fraction_1], [], ["len", "isinstance", "tuple"], []⟩
def b_Lis_number : Sms := .cons (.ife (.or (.not (.isi (.nm 0) "tuple")) (.cmp .ne (.bi .len (.cons (.nm 0) .nil)) (.lit (.int 2)))) (.cons (.ret (.lit (.bl false))) .nil) .nil) (.cons (.ret (.and (.call 0 (.cons (.ix (.nm 0) (.lit (.int 0))) .nil) .nil) (.call 0 (.cons (.ix (.nm 0) (.lit (.int 1))) .nil) .nil))) .nil)
theorem s_Lis_number : FnScope N_Lis_number P_Lis_number (defScope (top 70)) := C8.fnScope_by (by kernel_rfl)
theorem k_Lis_number : chSs G_Lis_number ⟨N_Lis_number, (defScope (top 70)).names, fun _ => true⟩ b_Lis_number (defBody (top 70)) = true := by kernel_rfl
def d_Lis_number : He.DefD := ⟨("_law_is_number", none), "_law_is_number", "_law_is_number", defArgs (top 70), defBody (top 70), defScope (top 70), [], []⟩
noncomputable def e_Lis_number_1 : Ent := mkEnt "_law_is_number" 1 [] [] [0] G_Lis_number 1 b_Lis_number

/-! ### _law_is_line -/
def N_Lis_line : List Str := ["_law_thing", "_law_many_here", "_law_each"]
def P_Lis_line : List Str := ["_law_thing", "_law_many_here"]
noncomputable def G_Lis_line : Gam := ⟨[e_Lis_number_1], [], ["len", "isinstance", "tuple"], []⟩
def b_Lis_line : Sms := .cons (.ife (.or (.not (.isi (.nm 0) "tuple")) (.cmp .ne (.bi .len (.cons (.nm 0) .nil)) (.nm 1))) (.cons (.ret (.lit (.bl false))) .nil) .nil) (.cons (.ret (.cmp .eq (.fr (.comp (.nm 2) (.nm 2) (.seq (.nm 0)) (.some (.not (.call 0 (.cons (.nm 2) .nil) .nil))) [2])) (.fr (.disp .nil)))) .nil)
theorem s_Lis_line : FnScope N_Lis_line P_Lis_line (defScope (top 72)) := C8.fnScope_by (by kernel_rfl)
theorem k_Lis_line : chSs G_Lis_line ⟨N_Lis_line, (defScope (top 72)).names, fun _ => true⟩ b_Lis_line (defBody (top 72)) = true := by kernel_rfl
def d_Lis_line : He.DefD := ⟨("_law_is_line", none), "_law_is_line", "_law_is_line", defArgs (top 72), defBody (top 72), defScope (top 72), [], []⟩
noncomputable def e_Lis_line_2 : Ent := mkEnt "_law_is_line" 2 [] [] [0, 1] G_Lis_line 3 b_Lis_line

/-! ### _law_makes -/
def N_Lmakes : List Str := ["_law_own", "_law_thing", "_law_some", "_law_each", "_law_m", "_law_x"]
def P_Lmakes : List Str := ["_law_own", "_law_thing"]
noncomputable def G_Lmakes : Gam := ⟨[e_Lis_fraction_1, e_Lis_line_2, e_Lread_1, e_Lis_nought_1, e_Lreal_1, e_Lmade_2_S], [], ["isinstance", "tuple", "len"], []⟩
def b_Lmakes : Sms := .cons (.ife (.not (.isi (.nm 1) "tuple")) (.cons (.ret (.lit (.bl false))) .nil) .nil) (.cons (.own 2 (.disp .nil)) (.cons (.for_ (.nm 3) (.seq (.nm 1)) (.cons (.ife (.or (.not (.isi (.nm 3) "tuple")) (.or (.cmp .ne (.bi .len (.cons (.nm 3) .nil)) (.lit (.int 2))) (.or (.not (.call 0 (.cons (.ix (.nm 3) (.lit (.int 0))) .nil) .nil)) (.cmp .eq (.ix (.ix (.nm 3) (.lit (.int 0))) (.lit (.int 0))) (.lit (.int 0)))))) (.cons (.ret (.lit (.bl false))) .nil) .nil) (.cons (.ife (.not (.call 1 (.cons (.ix (.nm 3) (.lit (.int 1))) (.cons (.bi .len (.cons (.nm 0) .nil)) .nil)) .nil)) (.cons (.ret (.lit (.bl false))) .nil) .nil) (.cons (.asg (.nm 4) (.fr (.comp (.call 2 (.cons (.nm 5) .nil) .nil) (.nm 5) (.seq (.ix (.nm 3) (.lit (.int 1)))) .none [5]))) (.cons (.ife (.cmp .eq (.fr (.comp (.nm 5) (.nm 5) (.seq (.nm 4)) (.some (.not (.call 3 (.cons (.nm 5) .nil) .nil))) [5])) (.fr (.disp .nil))) (.cons (.ret (.lit (.bl false))) .nil) .nil) (.cons (.app 2 (.tup (.cons (.call 4 (.cons (.ix (.nm 3) (.lit (.int 0))) .nil) .nil) (.cons (.nm 4) .nil)))) .nil)))))) (.cons (.fz 2) (.cons (.ret (.cmp .eq (.call 5 (.cons (.bi .len (.cons (.nm 0) .nil)) (.cons (.nm 2) .nil)) .nil) (.nm 0))) .nil))))
theorem s_Lmakes : FnScope N_Lmakes P_Lmakes (defScope (top 80)) := C8.fnScope_by (by kernel_rfl)
theorem k_Lmakes : chSs G_Lmakes ⟨N_Lmakes, (defScope (top 80)).names, fun _ => true⟩ b_Lmakes (defBody (top 80)) = true := by kernel_rfl
def d_Lmakes : He.DefD := ⟨("_law_makes", none), "_law_makes", "_law_makes", defArgs (top 80), defBody (top 80), defScope (top 80), [], []⟩
noncomputable def e_Lmakes_2 : Ent := mkEnt "_law_makes" 2 [] [] [0, 1] G_Lmakes 6 b_Lmakes

/-! ### _law_right -/
def N_Lright : List Str := ["_law_pot_here", "_law_n", "_law_some", "_law_own", "_law_told", "_law_grid", "_law_thing"]
def P_Lright : List Str := ["_law_pot_here"]
noncomputable def G_Lright : Gam := ⟨[e_Lmany_1, e_Lsteps_2, e_Lmade_2_S, e_Lsquares_1, e_Ltab_1, e_squares_of_1, e_squares_of_0_table, e_rank_of_1, e_is_nonnegative_1, e_do_make_0_squares_table, e_do_make_2, e_Lthings_3, e_Lmakes_2], [], ["repr", "len"], []⟩
def b_Lright : Sms := .cons (.asg (.nm 1) (.call 0 (.cons (.nm 0) .nil) .nil)) (.cons (.asg (.nm 2) (.call 1 (.cons (.nm 0) (.cons (.nm 1) .nil)) .nil)) (.cons (.par [3, 4] (.cons (.call 2 (.cons (.nm 1) (.cons (.nm 2) .nil)) .nil) (.cons (.call 3 (.cons (.nm 2) .nil) .nil) .nil))) (.cons (.asg (.nm 5) (.call 4 (.cons (.nm 3) .nil) .nil)) (.cons (.ife (.cmp .ne (.bi .repr (.cons (.fr (.disp (.cons (.call 5 (.cons (.nm 5) .nil) .nil) (.cons (.call 6 .nil (.cons (.nm 5) .nil)) .nil)))) .nil)) (.bi .repr (.cons (.fr (.disp (.cons (.nm 4) (.cons (.nm 4) .nil)))) .nil))) (.cons (.ret (.lit (.bl false))) .nil) .nil) (.cons (.ife (.or (.cmp .notN (.call 8 (.cons (.nm 5) .nil) .nil) (.lit (.bl true))) (.cmp .ne (.bi .repr (.cons (.call 7 (.cons (.nm 5) .nil) .nil) .nil)) (.bi .repr (.cons (.bi .len (.cons (.nm 2) .nil)) .nil)))) (.cons (.ret (.lit (.bl false))) .nil) .nil) (.cons (.ife (.or (.cmp .notN (.call 10 (.cons (.nm 5) (.cons (.nm 4) .nil)) .nil) (.lit (.bl true))) (.cmp .notN (.call 9 .nil (.cons (.nm 4) (.cons (.nm 5) .nil))) (.lit (.bl true)))) (.cons (.ret (.lit (.bl false))) .nil) .nil) (.cons (.for_ (.nm 6) (.seq (.call 11 (.cons (.nm 0) (.cons (.nm 4) (.cons (.nm 1) .nil))) .nil)) (.cons (.ife (.cmp .ne (.bi .repr (.cons (.call 10 (.cons (.nm 5) (.cons (.nm 6) .nil)) .nil) .nil)) (.bi .repr (.cons (.call 12 (.cons (.nm 3) (.cons (.nm 6) .nil)) .nil) .nil))) (.cons (.ret (.lit (.bl false))) .nil) .nil) .nil)) (.cons (.ret (.cmp .eq (.bi .repr (.cons (.call 5 (.cons (.nm 5) .nil) .nil) .nil)) (.bi .repr (.cons (.nm 4) .nil)))) .nil))))))))
theorem s_Lright : FnScope N_Lright P_Lright (defScope (top 83)) := C8.fnScope_by (by kernel_rfl)
theorem k_Lright : chSs G_Lright ⟨N_Lright, (defScope (top 83)).names, fun _ => true⟩ b_Lright (defBody (top 83)) = true := by kernel_rfl
def d_Lright : He.DefD := ⟨("_law_right", none), "_law_right", "_law_right", defArgs (top 83), defBody (top 83), defScope (top 83), [], []⟩
noncomputable def e_Lright_1 : Ent := mkEnt "_law_right" 1 [] [] [0] G_Lright 7 b_Lright

/-! ### _law_pot -/
def N_Lpot : List Str := ["_law_script", "_law_lap", "_law_mixed", "_law_at", "_law_cell", "_law_own"]
def P_Lpot : List Str := ["_law_script", "_law_lap"]
noncomputable def G_Lpot : Gam := ⟨[], [], ["enumerate", "int", "len", "abs"], []⟩
def b_Lpot : Sms := .cons (.asg (.nm 2) (.bin .add (.lit (.int 8117)) (.bin .mul (.lit (.int 6361)) (.nm 1)))) (.cons (.for_ (.tup (.cons (.nm 3) (.cons (.nm 4) .nil))) (.enum (.fr (.slc (.nm 0) .none (.some (.lit (.int 63)))))) (.cons (.asg (.nm 2) (.bin .mod (.bi .int1 (.cons (.bin .add (.bin .add (.bin .mul (.nm 2) (.lit (.int 69621))) (.bin .mul (.bi .int1 (.cons (.nm 4) .nil)) (.bin .add (.bin .mul (.lit (.int 2)) (.nm 3)) (.lit (.int 5))))) (.lit (.int 40487))) .nil)) (.lit (.int 2147483629)))) .nil)) (.cons (.asg (.nm 5) (.ife (.cmp .lt (.nm 1) (.bi .len (.cons (.nm 0) .nil))) (.bi .abs (.cons (.bi .int1 (.cons (.ix (.nm 0) (.nm 1)) .nil)) .nil)) (.lit (.int 0)))) (.cons (.retc (.cons (.ife (.cmp .ge (.nm 5) (.bin .pow (.lit (.int 10)) (.lit (.int 18)))) (.nm 5) (.lit (.int 0))) (.cons (.bin .mod (.bi .int1 (.cons (.bin .add (.bin .add (.bin .mul (.nm 2) (.lit (.int 16807))) (.nm 5)) (.bin .mul (.lit (.int 91)) (.nm 1))) .nil)) (.lit (.int 2147483629))) (.cons (.lit (.int 0)) .nil)))) .nil)))
theorem s_Lpot : FnScope N_Lpot P_Lpot (defScope (top 52)) := C8.fnScope_by (by kernel_rfl)
theorem k_Lpot : chSs G_Lpot ⟨N_Lpot, (defScope (top 52)).names, fun _ => true⟩ b_Lpot (defBody (top 52)) = true := by kernel_rfl
def d_Lpot : He.DefD := ⟨("_law_pot", none), "_law_pot", "_law_pot", defArgs (top 52), defBody (top 52), defScope (top 52), [], []⟩
noncomputable def e_Lpot_2 : Ent := mkEnt "_law_pot" 2 [] [] [0, 1] G_Lpot 6 b_Lpot

/-! ### law -/
def N_law : List Str := ["_law_script", "_law_lap"]
def P_law : List Str := ["_law_script"]
noncomputable def G_law : Gam := ⟨[e_Llaps_1, e_Lright_1, e_Lpot_2], [], ["range"], []⟩
def b_law : Sms := .cons (.for_ (.nm 1) (.range1 (.call 0 (.cons (.nm 0) .nil) .nil)) (.cons (.ife (.not (.call 1 (.cons (.call 2 (.cons (.nm 0) (.cons (.nm 1) .nil)) .nil) .nil) .nil)) (.cons (.ret (.lit (.bl false))) .nil) .nil) .nil)) (.cons (.ret (.lit (.bl true))) .nil)
theorem s_law : FnScope N_law P_law (defScope (top 84)) := C8.fnScope_by (by kernel_rfl)
theorem k_law : chSs G_law ⟨N_law, (defScope (top 84)).names, fun _ => true⟩ b_law (defBody (top 84)) = true := by kernel_rfl
def d_law : He.DefD := ⟨("law", none), "law", "law", defArgs (top 84), defBody (top 84), defScope (top 84), [], []⟩

/-! ### the head -/
def fn : List He.DefD := ([d_Llaps, d_Ldraw, d_Lpick, d_Lmany, d_Lcommon, d_Lcut, d_Lsmall, d_Lpositive, d_Lsteps, d_Lfraction, d_Lnumber, d_Lline, d_Ltab, d_Lis_nought, d_Lother_than_nought, d_Lreal, d_Lread, d_Lover, d_Ltimes, d_Lsize, d_Lplus, d_Lchanged, d_Lthings, d_Lmirror, d_Lmade, d_Lsquares, d_num_mirrored, d_is_whole, d_is_frac, d_is_num] : List He.DefD) ++ ([d_fits_as_row, d_wrong_in_table, d_check_table, d_frac_reduced, d_frac_product, d_num_scaled, d_num_product, d_frac_over, d_num_size, d_num_over, d_lead_square, d_frac_less, d_num_less, d_mix_less, d_tables_minus, d_first_other, d_frac_sign, d_mix_mirrored, d_square_table, d_clearing, d_squares_by, d_is_nonnegative, d_frac_sum, d_num_sum, d_mix_sum, d_tables_plus, d_unit_mix, d_wrong_in_mix, d_is_square, d_makes_by] : List He.DefD) ++ ([d_do_make, d_squares_of, d_null_by, d_rank_of, d_Lis_fraction, d_Lis_number, d_Lis_line, d_Lmakes, d_Lright, d_Lpot, d_law] : List He.DefD)
def fa : List He.Fa := ([.glo "_law_laps", .glo "_law_draw", .glo "_law_pick", .glo "_law_many", .glo "_law_common", .glo "_law_cut", .glo "_law_small", .glo "_law_positive", .glo "_law_steps", .glo "_law_fraction", .glo "_law_number", .glo "_law_line", .glo "_law_tab", .glo "_law_is_nought", .glo "_law_other_than_nought", .glo "_law_real", .glo "_law_read", .glo "_law_over", .glo "_law_times", .glo "_law_size", .glo "_law_plus", .glo "_law_changed", .glo "_law_things", .glo "_law_mirror", .glo "_law_made", .glo "_law_squares", .glo "num_mirrored", .glo "is_whole", .glo "is_frac", .glo "is_num"] : List He.Fa) ++ ([.glo "fits_as_row", .glo "wrong_in_table", .glo "check_table", .glo "frac_reduced", .glo "frac_product", .glo "num_scaled", .glo "num_product", .glo "frac_over", .glo "num_size", .glo "num_over", .glo "lead_square", .glo "frac_less", .glo "num_less", .glo "mix_less", .glo "tables_minus", .glo "first_other", .glo "frac_sign", .glo "mix_mirrored", .glo "square_table", .glo "clearing", .glo "squares_by", .glo "is_nonnegative", .glo "frac_sum", .glo "num_sum", .glo "mix_sum", .glo "tables_plus", .glo "unit_mix", .glo "wrong_in_mix", .glo "is_square", .glo "makes_by"] : List He.Fa) ++ ([.glo "do_make", .glo "squares_of", .glo "null_by", .glo "rank_of", .glo "_law_is_fraction", .glo "_law_is_number", .glo "_law_is_line", .glo "_law_makes", .glo "_law_right", .glo "_law_pot", .glo "law", .free "max", .free "min", .free "len", .free "divmod", .free "int", .free "abs", .free "range", .free "tuple", .free "list", .free "isinstance", .free "bool", .free "all", .free "enumerate", .free "zip", .free "repr"] : List He.Fa)
def cs : List (Str × D) := [c_MOST_ROWS, c_FRAC_ONE, c_ONE, c_NOUGHT]
def bs : List (Str × String) := [("gcd", "math.gcd")]
def zs : List (Str × Nat × D) := [z_unit_mix_0]
abbrev R : PySem.W.OpenRow := PySem.W.OpenLaw.row PySem.Challenge.rw_withinrim_k33_whole_stepped_squares_told
abbrev hk : PySem.W.Hook := hookC 6 fa fn cs bs zs
def ob (s : PySem.W.SharedT) : He.AlD := obsCG 6 fa fn cs bs zs (HandSHeadRun.getT s)
theorem ob_eq (s : PySem.W.SharedT) : ob s = hk.obs s.abs := obsCG_eq (HandSHeadRun.getT_eq s)
def loose : List Str := (["__name__", "FRAC_ONE", "NOUGHT", "ONE", "is_whole", "is_frac", "is_num", "frac_reduced", "frac_sum", "frac_less", "frac_product", "frac_over", "frac_sign", "num_sum", "num_less", "num_product", "num_scaled", "num_mirrored", "num_size", "num_over", "MOST_ROWS", "fits_as_row", "wrong_in_table", "wrong_in_mix", "unit_mix", "mix_sum", "mix_less", "mix_mirrored", "tables_plus", "tables_minus"] : List Str) ++ (["first_other", "square_table", "lead_square", "clearing", "squares_by", "is_square", "makes_by", "null_by", "RimError", "ValueError", "InvalidTable", "check_table", "squares_of", "do_make", "rank_of", "is_nonnegative", "_law_pot", "_law_draw", "_law_pick", "_law_laps", "_law_common", "_law_cut", "_law_plus", "_law_times", "_law_mirror", "_law_over", "_law_size", "_law_is_nought", "_law_fraction", "_law_number"] : List Str) ++ (["_law_real", "_law_line", "_law_tab", "_law_is_fraction", "_law_is_number", "_law_read", "_law_is_line", "_law_small", "_law_other_than_nought", "_law_positive", "_law_made", "_law_squares", "_law_many", "_law_steps", "_law_makes", "_law_changed", "_law_things", "_law_right"] : List Str)
theorem run (w : World) : HandSHeadRun.RunEqI R (PySem.W.view R.prog [0, 84]) hk ob 6000 loose w := by
  unfold HandSHeadRun.RunEqI; kernel_rfl
section
variable {P : Program} {w : World} {K : PySem.W.Frag} {mg : Str → Option Value} {base h : Heap}
theorem facts (X : K.In h) (G : h.Ns mainGlobals mg) {f : Addr} (hfa : mg ("law" : Str) = some (.ref f)) (c : SaysC fa fn cs bs zs K) :
    ∃ fd : FuncData, (∀ (s : Shared) (v : Value), BindsTo s fd ⟨[v], []⟩ [("_law_script", v)]) ∧ ∀ base : Heap, K.In base → base.Ns mainGlobals mg → FnG P w K mg base 71 f fd P_law (spD K G_law 2 b_law P_law) := by
  have r_max : mg ("max" : Str) = none := He.free_ok X G (c.d.fact 71 (f := .free "max") rfl)
  have r_min : mg ("min" : Str) = none := He.free_ok X G (c.d.fact 72 (f := .free "min") rfl)
  have r_len : mg ("len" : Str) = none := He.free_ok X G (c.d.fact 73 (f := .free "len") rfl)
  have r_divmod : mg ("divmod" : Str) = none := He.free_ok X G (c.d.fact 74 (f := .free "divmod") rfl)
  have r_int : mg ("int" : Str) = none := He.free_ok X G (c.d.fact 75 (f := .free "int") rfl)
  have r_abs : mg ("abs" : Str) = none := He.free_ok X G (c.d.fact 76 (f := .free "abs") rfl)
  have r_range : mg ("range" : Str) = none := He.free_ok X G (c.d.fact 77 (f := .free "range") rfl)
  have r_tuple : mg ("tuple" : Str) = none := He.free_ok X G (c.d.fact 78 (f := .free "tuple") rfl)
  have r_list : mg ("list" : Str) = none := He.free_ok X G (c.d.fact 79 (f := .free "list") rfl)
  have r_isinstance : mg ("isinstance" : Str) = none := He.free_ok X G (c.d.fact 80 (f := .free "isinstance") rfl)
  have r_bool : mg ("bool" : Str) = none := He.free_ok X G (c.d.fact 81 (f := .free "bool") rfl)
  have r_all : mg ("all" : Str) = none := He.free_ok X G (c.d.fact 82 (f := .free "all") rfl)
  have r_enumerate : mg ("enumerate" : Str) = none := He.free_ok X G (c.d.fact 83 (f := .free "enumerate") rfl)
  have r_zip : mg ("zip" : Str) = none := He.free_ok X G (c.d.fact 84 (f := .free "zip") rfl)
  have r_repr : mg ("repr" : Str) = none := He.free_ok X G (c.d.fact 85 (f := .free "repr") rfl)
  have q_MOST_ROWS := con_ok X G (c.c c_MOST_ROWS (by simp [cs]))
  have q_FRAC_ONE := con_ok X G (c.c c_FRAC_ONE (by simp [cs]))
  have q_ONE := con_ok X G (c.c c_ONE (by simp [cs]))
  have q_NOUGHT := con_ok X G (c.c c_NOUGHT (by simp [cs]))
  have w_z_unit_mix_0 := dfl_ok (c.z z_unit_mix_0 (by simp [zs]))
  have u_gcd : mg ("gcd" : Str) = some (.builtin "math.gcd") := bf_ok X G (c.b ("gcd", "math.gcd") (by simp [bs]))
  obtain ⟨fd0, F0⟩ := c.d.def_ 0 (d := d_Llaps) rfl
  have m0 : mg ("_law_laps" : Str) = some (.ref _) := He.glo_ok X G (c.d.fact 0 (f := .glo "_law_laps") rfl)
  obtain ⟨fd1, F1⟩ := c.d.def_ 1 (d := d_Ldraw) rfl
  have m1 : mg ("_law_draw" : Str) = some (.ref _) := He.glo_ok X G (c.d.fact 1 (f := .glo "_law_draw") rfl)
  obtain ⟨fd2, F2⟩ := c.d.def_ 2 (d := d_Lpick) rfl
  have m2 : mg ("_law_pick" : Str) = some (.ref _) := He.glo_ok X G (c.d.fact 2 (f := .glo "_law_pick") rfl)
  obtain ⟨fd3, F3⟩ := c.d.def_ 3 (d := d_Lmany) rfl
  have m3 : mg ("_law_many" : Str) = some (.ref _) := He.glo_ok X G (c.d.fact 3 (f := .glo "_law_many") rfl)
  obtain ⟨fd4, F4⟩ := c.d.def_ 4 (d := d_Lcommon) rfl
  have m4 : mg ("_law_common" : Str) = some (.ref _) := He.glo_ok X G (c.d.fact 4 (f := .glo "_law_common") rfl)
  obtain ⟨fd5, F5⟩ := c.d.def_ 5 (d := d_Lcut) rfl
  have m5 : mg ("_law_cut" : Str) = some (.ref _) := He.glo_ok X G (c.d.fact 5 (f := .glo "_law_cut") rfl)
  obtain ⟨fd6, F6⟩ := c.d.def_ 6 (d := d_Lsmall) rfl
  have m6 : mg ("_law_small" : Str) = some (.ref _) := He.glo_ok X G (c.d.fact 6 (f := .glo "_law_small") rfl)
  obtain ⟨fd7, F7⟩ := c.d.def_ 7 (d := d_Lpositive) rfl
  have m7 : mg ("_law_positive" : Str) = some (.ref _) := He.glo_ok X G (c.d.fact 7 (f := .glo "_law_positive") rfl)
  obtain ⟨fd8, F8⟩ := c.d.def_ 8 (d := d_Lsteps) rfl
  have m8 : mg ("_law_steps" : Str) = some (.ref _) := He.glo_ok X G (c.d.fact 8 (f := .glo "_law_steps") rfl)
  obtain ⟨fd9, F9⟩ := c.d.def_ 9 (d := d_Lfraction) rfl
  have m9 : mg ("_law_fraction" : Str) = some (.ref _) := He.glo_ok X G (c.d.fact 9 (f := .glo "_law_fraction") rfl)
  obtain ⟨fd10, F10⟩ := c.d.def_ 10 (d := d_Lnumber) rfl
  have m10 : mg ("_law_number" : Str) = some (.ref _) := He.glo_ok X G (c.d.fact 10 (f := .glo "_law_number") rfl)
  obtain ⟨fd11, F11⟩ := c.d.def_ 11 (d := d_Lline) rfl
  have m11 : mg ("_law_line" : Str) = some (.ref _) := He.glo_ok X G (c.d.fact 11 (f := .glo "_law_line") rfl)
  obtain ⟨fd12, F12⟩ := c.d.def_ 12 (d := d_Ltab) rfl
  have m12 : mg ("_law_tab" : Str) = some (.ref _) := He.glo_ok X G (c.d.fact 12 (f := .glo "_law_tab") rfl)
  obtain ⟨fd13, F13⟩ := c.d.def_ 13 (d := d_Lis_nought) rfl
  have m13 : mg ("_law_is_nought" : Str) = some (.ref _) := He.glo_ok X G (c.d.fact 13 (f := .glo "_law_is_nought") rfl)
  obtain ⟨fd14, F14⟩ := c.d.def_ 14 (d := d_Lother_than_nought) rfl
  have m14 : mg ("_law_other_than_nought" : Str) = some (.ref _) := He.glo_ok X G (c.d.fact 14 (f := .glo "_law_other_than_nought") rfl)
  obtain ⟨fd15, F15⟩ := c.d.def_ 15 (d := d_Lreal) rfl
  have m15 : mg ("_law_real" : Str) = some (.ref _) := He.glo_ok X G (c.d.fact 15 (f := .glo "_law_real") rfl)
  obtain ⟨fd16, F16⟩ := c.d.def_ 16 (d := d_Lread) rfl
  have m16 : mg ("_law_read" : Str) = some (.ref _) := He.glo_ok X G (c.d.fact 16 (f := .glo "_law_read") rfl)
  obtain ⟨fd17, F17⟩ := c.d.def_ 17 (d := d_Lover) rfl
  have m17 : mg ("_law_over" : Str) = some (.ref _) := He.glo_ok X G (c.d.fact 17 (f := .glo "_law_over") rfl)
  obtain ⟨fd18, F18⟩ := c.d.def_ 18 (d := d_Ltimes) rfl
  have m18 : mg ("_law_times" : Str) = some (.ref _) := He.glo_ok X G (c.d.fact 18 (f := .glo "_law_times") rfl)
  obtain ⟨fd19, F19⟩ := c.d.def_ 19 (d := d_Lsize) rfl
  have m19 : mg ("_law_size" : Str) = some (.ref _) := He.glo_ok X G (c.d.fact 19 (f := .glo "_law_size") rfl)
  obtain ⟨fd20, F20⟩ := c.d.def_ 20 (d := d_Lplus) rfl
  have m20 : mg ("_law_plus" : Str) = some (.ref _) := He.glo_ok X G (c.d.fact 20 (f := .glo "_law_plus") rfl)
  obtain ⟨fd21, F21⟩ := c.d.def_ 21 (d := d_Lchanged) rfl
  have m21 : mg ("_law_changed" : Str) = some (.ref _) := He.glo_ok X G (c.d.fact 21 (f := .glo "_law_changed") rfl)
  obtain ⟨fd22, F22⟩ := c.d.def_ 22 (d := d_Lthings) rfl
  have m22 : mg ("_law_things" : Str) = some (.ref _) := He.glo_ok X G (c.d.fact 22 (f := .glo "_law_things") rfl)
  obtain ⟨fd23, F23⟩ := c.d.def_ 23 (d := d_Lmirror) rfl
  have m23 : mg ("_law_mirror" : Str) = some (.ref _) := He.glo_ok X G (c.d.fact 23 (f := .glo "_law_mirror") rfl)
  obtain ⟨fd24, F24⟩ := c.d.def_ 24 (d := d_Lmade) rfl
  have m24 : mg ("_law_made" : Str) = some (.ref _) := He.glo_ok X G (c.d.fact 24 (f := .glo "_law_made") rfl)
  obtain ⟨fd25, F25⟩ := c.d.def_ 25 (d := d_Lsquares) rfl
  have m25 : mg ("_law_squares" : Str) = some (.ref _) := He.glo_ok X G (c.d.fact 25 (f := .glo "_law_squares") rfl)
  obtain ⟨fd26, F26⟩ := c.d.def_ 26 (d := d_num_mirrored) rfl
  have m26 : mg ("num_mirrored" : Str) = some (.ref _) := He.glo_ok X G (c.d.fact 26 (f := .glo "num_mirrored") rfl)
  obtain ⟨fd27, F27⟩ := c.d.def_ 27 (d := d_is_whole) rfl
  have m27 : mg ("is_whole" : Str) = some (.ref _) := He.glo_ok X G (c.d.fact 27 (f := .glo "is_whole") rfl)
  obtain ⟨fd28, F28⟩ := c.d.def_ 28 (d := d_is_frac) rfl
  have m28 : mg ("is_frac" : Str) = some (.ref _) := He.glo_ok X G (c.d.fact 28 (f := .glo "is_frac") rfl)
  obtain ⟨fd29, F29⟩ := c.d.def_ 29 (d := d_is_num) rfl
  have m29 : mg ("is_num" : Str) = some (.ref _) := He.glo_ok X G (c.d.fact 29 (f := .glo "is_num") rfl)
  obtain ⟨fd30, F30⟩ := c.d.def_ 30 (d := d_fits_as_row) rfl
  have m30 : mg ("fits_as_row" : Str) = some (.ref _) := He.glo_ok X G (c.d.fact 30 (f := .glo "fits_as_row") rfl)
  obtain ⟨fd31, F31⟩ := c.d.def_ 31 (d := d_wrong_in_table) rfl
  have m31 : mg ("wrong_in_table" : Str) = some (.ref _) := He.glo_ok X G (c.d.fact 31 (f := .glo "wrong_in_table") rfl)
  obtain ⟨fd32, F32⟩ := c.d.def_ 32 (d := d_check_table) rfl
  have m32 : mg ("check_table" : Str) = some (.ref _) := He.glo_ok X G (c.d.fact 32 (f := .glo "check_table") rfl)
  obtain ⟨fd33, F33⟩ := c.d.def_ 33 (d := d_frac_reduced) rfl
  have m33 : mg ("frac_reduced" : Str) = some (.ref _) := He.glo_ok X G (c.d.fact 33 (f := .glo "frac_reduced") rfl)
  obtain ⟨fd34, F34⟩ := c.d.def_ 34 (d := d_frac_product) rfl
  have m34 : mg ("frac_product" : Str) = some (.ref _) := He.glo_ok X G (c.d.fact 34 (f := .glo "frac_product") rfl)
  obtain ⟨fd35, F35⟩ := c.d.def_ 35 (d := d_num_scaled) rfl
  have m35 : mg ("num_scaled" : Str) = some (.ref _) := He.glo_ok X G (c.d.fact 35 (f := .glo "num_scaled") rfl)
  obtain ⟨fd36, F36⟩ := c.d.def_ 36 (d := d_num_product) rfl
  have m36 : mg ("num_product" : Str) = some (.ref _) := He.glo_ok X G (c.d.fact 36 (f := .glo "num_product") rfl)
  obtain ⟨fd37, F37⟩ := c.d.def_ 37 (d := d_frac_over) rfl
  have m37 : mg ("frac_over" : Str) = some (.ref _) := He.glo_ok X G (c.d.fact 37 (f := .glo "frac_over") rfl)
  obtain ⟨fd38, F38⟩ := c.d.def_ 38 (d := d_num_size) rfl
  have m38 : mg ("num_size" : Str) = some (.ref _) := He.glo_ok X G (c.d.fact 38 (f := .glo "num_size") rfl)
  obtain ⟨fd39, F39⟩ := c.d.def_ 39 (d := d_num_over) rfl
  have m39 : mg ("num_over" : Str) = some (.ref _) := He.glo_ok X G (c.d.fact 39 (f := .glo "num_over") rfl)
  obtain ⟨fd40, F40⟩ := c.d.def_ 40 (d := d_lead_square) rfl
  have m40 : mg ("lead_square" : Str) = some (.ref _) := He.glo_ok X G (c.d.fact 40 (f := .glo "lead_square") rfl)
  obtain ⟨fd41, F41⟩ := c.d.def_ 41 (d := d_frac_less) rfl
  have m41 : mg ("frac_less" : Str) = some (.ref _) := He.glo_ok X G (c.d.fact 41 (f := .glo "frac_less") rfl)
  obtain ⟨fd42, F42⟩ := c.d.def_ 42 (d := d_num_less) rfl
  have m42 : mg ("num_less" : Str) = some (.ref _) := He.glo_ok X G (c.d.fact 42 (f := .glo "num_less") rfl)
  obtain ⟨fd43, F43⟩ := c.d.def_ 43 (d := d_mix_less) rfl
  have m43 : mg ("mix_less" : Str) = some (.ref _) := He.glo_ok X G (c.d.fact 43 (f := .glo "mix_less") rfl)
  obtain ⟨fd44, F44⟩ := c.d.def_ 44 (d := d_tables_minus) rfl
  have m44 : mg ("tables_minus" : Str) = some (.ref _) := He.glo_ok X G (c.d.fact 44 (f := .glo "tables_minus") rfl)
  obtain ⟨fd45, F45⟩ := c.d.def_ 45 (d := d_first_other) rfl
  have m45 : mg ("first_other" : Str) = some (.ref _) := He.glo_ok X G (c.d.fact 45 (f := .glo "first_other") rfl)
  obtain ⟨fd46, F46⟩ := c.d.def_ 46 (d := d_frac_sign) rfl
  have m46 : mg ("frac_sign" : Str) = some (.ref _) := He.glo_ok X G (c.d.fact 46 (f := .glo "frac_sign") rfl)
  obtain ⟨fd47, F47⟩ := c.d.def_ 47 (d := d_mix_mirrored) rfl
  have m47 : mg ("mix_mirrored" : Str) = some (.ref _) := He.glo_ok X G (c.d.fact 47 (f := .glo "mix_mirrored") rfl)
  obtain ⟨fd48, F48⟩ := c.d.def_ 48 (d := d_square_table) rfl
  have m48 : mg ("square_table" : Str) = some (.ref _) := He.glo_ok X G (c.d.fact 48 (f := .glo "square_table") rfl)
  obtain ⟨fd49, F49⟩ := c.d.def_ 49 (d := d_clearing) rfl
  have m49 : mg ("clearing" : Str) = some (.ref _) := He.glo_ok X G (c.d.fact 49 (f := .glo "clearing") rfl)
  obtain ⟨fd50, F50⟩ := c.d.def_ 50 (d := d_squares_by) rfl
  have m50 : mg ("squares_by" : Str) = some (.ref _) := He.glo_ok X G (c.d.fact 50 (f := .glo "squares_by") rfl)
  obtain ⟨fd51, F51⟩ := c.d.def_ 51 (d := d_is_nonnegative) rfl
  have m51 : mg ("is_nonnegative" : Str) = some (.ref _) := He.glo_ok X G (c.d.fact 51 (f := .glo "is_nonnegative") rfl)
  obtain ⟨fd52, F52⟩ := c.d.def_ 52 (d := d_frac_sum) rfl
  have m52 : mg ("frac_sum" : Str) = some (.ref _) := He.glo_ok X G (c.d.fact 52 (f := .glo "frac_sum") rfl)
  obtain ⟨fd53, F53⟩ := c.d.def_ 53 (d := d_num_sum) rfl
  have m53 : mg ("num_sum" : Str) = some (.ref _) := He.glo_ok X G (c.d.fact 53 (f := .glo "num_sum") rfl)
  obtain ⟨fd54, F54⟩ := c.d.def_ 54 (d := d_mix_sum) rfl
  have m54 : mg ("mix_sum" : Str) = some (.ref _) := He.glo_ok X G (c.d.fact 54 (f := .glo "mix_sum") rfl)
  obtain ⟨fd55, F55⟩ := c.d.def_ 55 (d := d_tables_plus) rfl
  have m55 : mg ("tables_plus" : Str) = some (.ref _) := He.glo_ok X G (c.d.fact 55 (f := .glo "tables_plus") rfl)
  obtain ⟨fd56, F56⟩ := c.d.def_ 56 (d := d_unit_mix) rfl
  have m56 : mg ("unit_mix" : Str) = some (.ref _) := He.glo_ok X G (c.d.fact 56 (f := .glo "unit_mix") rfl)
  obtain ⟨fd57, F57⟩ := c.d.def_ 57 (d := d_wrong_in_mix) rfl
  have m57 : mg ("wrong_in_mix" : Str) = some (.ref _) := He.glo_ok X G (c.d.fact 57 (f := .glo "wrong_in_mix") rfl)
  obtain ⟨fd58, F58⟩ := c.d.def_ 58 (d := d_is_square) rfl
  have m58 : mg ("is_square" : Str) = some (.ref _) := He.glo_ok X G (c.d.fact 58 (f := .glo "is_square") rfl)
  obtain ⟨fd59, F59⟩ := c.d.def_ 59 (d := d_makes_by) rfl
  have m59 : mg ("makes_by" : Str) = some (.ref _) := He.glo_ok X G (c.d.fact 59 (f := .glo "makes_by") rfl)
  obtain ⟨fd60, F60⟩ := c.d.def_ 60 (d := d_do_make) rfl
  have m60 : mg ("do_make" : Str) = some (.ref _) := He.glo_ok X G (c.d.fact 60 (f := .glo "do_make") rfl)
  obtain ⟨fd61, F61⟩ := c.d.def_ 61 (d := d_squares_of) rfl
  have m61 : mg ("squares_of" : Str) = some (.ref _) := He.glo_ok X G (c.d.fact 61 (f := .glo "squares_of") rfl)
  obtain ⟨fd62, F62⟩ := c.d.def_ 62 (d := d_null_by) rfl
  have m62 : mg ("null_by" : Str) = some (.ref _) := He.glo_ok X G (c.d.fact 62 (f := .glo "null_by") rfl)
  obtain ⟨fd63, F63⟩ := c.d.def_ 63 (d := d_rank_of) rfl
  have m63 : mg ("rank_of" : Str) = some (.ref _) := He.glo_ok X G (c.d.fact 63 (f := .glo "rank_of") rfl)
  obtain ⟨fd64, F64⟩ := c.d.def_ 64 (d := d_Lis_fraction) rfl
  have m64 : mg ("_law_is_fraction" : Str) = some (.ref _) := He.glo_ok X G (c.d.fact 64 (f := .glo "_law_is_fraction") rfl)
  obtain ⟨fd65, F65⟩ := c.d.def_ 65 (d := d_Lis_number) rfl
  have m65 : mg ("_law_is_number" : Str) = some (.ref _) := He.glo_ok X G (c.d.fact 65 (f := .glo "_law_is_number") rfl)
  obtain ⟨fd66, F66⟩ := c.d.def_ 66 (d := d_Lis_line) rfl
  have m66 : mg ("_law_is_line" : Str) = some (.ref _) := He.glo_ok X G (c.d.fact 66 (f := .glo "_law_is_line") rfl)
  obtain ⟨fd67, F67⟩ := c.d.def_ 67 (d := d_Lmakes) rfl
  have m67 : mg ("_law_makes" : Str) = some (.ref _) := He.glo_ok X G (c.d.fact 67 (f := .glo "_law_makes") rfl)
  obtain ⟨fd68, F68⟩ := c.d.def_ 68 (d := d_Lright) rfl
  have m68 : mg ("_law_right" : Str) = some (.ref _) := He.glo_ok X G (c.d.fact 68 (f := .glo "_law_right") rfl)
  obtain ⟨fd69, F69⟩ := c.d.def_ 69 (d := d_Lpot) rfl
  have m69 : mg ("_law_pot" : Str) = some (.ref _) := He.glo_ok X G (c.d.fact 69 (f := .glo "_law_pot") rfl)
  obtain ⟨fd70, F70⟩ := c.d.def_ 70 (d := d_law) rfl
  have m70 : mg ("law" : Str) = some (.ref _) := He.glo_ok X G (c.d.fact 70 (f := .glo "law") rfl)
  have e := hfa.symm.trans m70
  cases e
  have bl := FunD.bindsA (ps := P_law) F70 fun _ _ _ _ _ _ us hl => match us, hl with | [_], _ => rfl
  obtain ⟨_, y_e_Llaps_1⟩ := kbn0 (ps := P_Llaps) F0 1 [] [0] fun _ _ _ _ _ _ us ws hu hw => match us, ws, hu, hw with | [_], [], _, _ => rfl
  obtain ⟨_, y_e_Ldraw_2⟩ := kbn0 (ps := P_Ldraw) F1 2 [] [0, 1] fun _ _ _ _ _ _ us ws hu hw => match us, ws, hu, hw with | [_, _], [], _, _ => rfl
  obtain ⟨_, y_e_Lpick_2⟩ := kbn0 (ps := P_Lpick) F2 2 [] [0, 1] fun _ _ _ _ _ _ us ws hu hw => match us, ws, hu, hw with | [_, _], [], _, _ => rfl
  obtain ⟨_, y_e_Lmany_1⟩ := kbn0 (ps := P_Lmany) F3 1 [] [0] fun _ _ _ _ _ _ us ws hu hw => match us, ws, hu, hw with | [_], [], _, _ => rfl
  obtain ⟨_, y_e_Lcommon_2⟩ := kbn0 (ps := P_Lcommon) F4 2 [] [0, 1] fun _ _ _ _ _ _ us ws hu hw => match us, ws, hu, hw with | [_, _], [], _, _ => rfl
  obtain ⟨_, y_e_Lcut_3⟩ := kbn0 (ps := P_Lcut) F5 3 [] [0, 1, 2] fun _ _ _ _ _ _ us ws hu hw => match us, ws, hu, hw with | [_, _, _], [], _, _ => rfl
  obtain ⟨_, y_e_Lsmall_1⟩ := kbn0 (ps := P_Lsmall) F6 1 [] [0] fun _ _ _ _ _ _ us ws hu hw => match us, ws, hu, hw with | [_], [], _, _ => rfl
  obtain ⟨_, y_e_Lpositive_1⟩ := kbn0 (ps := P_Lpositive) F7 1 [] [0] fun _ _ _ _ _ _ us ws hu hw => match us, ws, hu, hw with | [_], [], _, _ => rfl
  obtain ⟨_, y_e_Lsteps_2⟩ := kbn0 (ps := P_Lsteps) F8 2 [] [0, 1] fun _ _ _ _ _ _ us ws hu hw => match us, ws, hu, hw with | [_, _], [], _, _ => rfl
  obtain ⟨_, y_e_Lfraction_2⟩ := kbn0 (ps := P_Lfraction) F9 2 [] [0, 1] fun _ _ _ _ _ _ us ws hu hw => match us, ws, hu, hw with | [_, _], [], _, _ => rfl
  obtain ⟨_, y_e_Lnumber_1⟩ := kbn0 (ps := P_Lnumber) F10 1 [] [0] fun _ _ _ _ _ _ us ws hu hw => match us, ws, hu, hw with | [_], [], _, _ => rfl
  obtain ⟨_, y_e_Lline_1⟩ := kbn0 (ps := P_Lline) F11 1 [] [0] fun _ _ _ _ _ _ us ws hu hw => match us, ws, hu, hw with | [_], [], _, _ => rfl
  obtain ⟨_, y_e_Ltab_1⟩ := kbn0 (ps := P_Ltab) F12 1 [] [0] fun _ _ _ _ _ _ us ws hu hw => match us, ws, hu, hw with | [_], [], _, _ => rfl
  obtain ⟨_, y_e_Lis_nought_1⟩ := kbn0 (ps := P_Lis_nought) F13 1 [] [0] fun _ _ _ _ _ _ us ws hu hw => match us, ws, hu, hw with | [_], [], _, _ => rfl
  obtain ⟨_, y_e_Lother_than_nought_1⟩ := kbn0 (ps := P_Lother_than_nought) F14 1 [] [0] fun _ _ _ _ _ _ us ws hu hw => match us, ws, hu, hw with | [_], [], _, _ => rfl
  obtain ⟨_, y_e_Lreal_1⟩ := kbn0 (ps := P_Lreal) F15 1 [] [0] fun _ _ _ _ _ _ us ws hu hw => match us, ws, hu, hw with | [_], [], _, _ => rfl
  obtain ⟨_, y_e_Lread_1⟩ := kbn0 (ps := P_Lread) F16 1 [] [0] fun _ _ _ _ _ _ us ws hu hw => match us, ws, hu, hw with | [_], [], _, _ => rfl
  obtain ⟨_, y_e_Lover_2⟩ := kbn0 (ps := P_Lover) F17 2 [] [0, 1] fun _ _ _ _ _ _ us ws hu hw => match us, ws, hu, hw with | [_, _], [], _, _ => rfl
  obtain ⟨_, y_e_Ltimes_2⟩ := kbn0 (ps := P_Ltimes) F18 2 [] [0, 1] fun _ _ _ _ _ _ us ws hu hw => match us, ws, hu, hw with | [_, _], [], _, _ => rfl
  obtain ⟨_, y_e_Lsize_1⟩ := kbn0 (ps := P_Lsize) F19 1 [] [0] fun _ _ _ _ _ _ us ws hu hw => match us, ws, hu, hw with | [_], [], _, _ => rfl
  obtain ⟨_, y_e_Lplus_2⟩ := kbn0 (ps := P_Lplus) F20 2 [] [0, 1] fun _ _ _ _ _ _ us ws hu hw => match us, ws, hu, hw with | [_, _], [], _, _ => rfl
  obtain ⟨_, y_e_Lchanged_3⟩ := kbn0 (ps := P_Lchanged) F21 3 [] [0, 1, 2] fun _ _ _ _ _ _ us ws hu hw => match us, ws, hu, hw with | [_, _, _], [], _, _ => rfl
  obtain ⟨_, y_e_Lthings_3⟩ := kbn0 (ps := P_Lthings) F22 3 [] [0, 1, 2] fun _ _ _ _ _ _ us ws hu hw => match us, ws, hu, hw with | [_, _, _], [], _, _ => rfl
  obtain ⟨_, y_e_Lmirror_1⟩ := kbn0 (ps := P_Lmirror) F23 1 [] [0] fun _ _ _ _ _ _ us ws hu hw => match us, ws, hu, hw with | [_], [], _, _ => rfl
  obtain ⟨_, y_e_Lmade_2_S⟩ := kbn0 (ps := P_Lmade) F24 2 [] [0, 1] fun _ _ _ _ _ _ us ws hu hw => match us, ws, hu, hw with | [_, _], [], _, _ => rfl
  obtain ⟨_, y_e_Lsquares_1⟩ := kbn0 (ps := P_Lsquares) F25 1 [] [0] fun _ _ _ _ _ _ us ws hu hw => match us, ws, hu, hw with | [_], [], _, _ => rfl
  obtain ⟨_, y_e_num_mirrored_1⟩ := kbn0 (ps := P_num_mirrored) F26 1 [] [0] fun _ _ _ _ _ _ us ws hu hw => match us, ws, hu, hw with | [_], [], _, _ => rfl
  obtain ⟨_, y_e_is_whole_1⟩ := kbn0 (ps := P_is_whole) F27 1 [] [0] fun _ _ _ _ _ _ us ws hu hw => match us, ws, hu, hw with | [_], [], _, _ => rfl
  obtain ⟨_, y_e_is_frac_1⟩ := kbn0 (ps := P_is_frac) F28 1 [] [0] fun _ _ _ _ _ _ us ws hu hw => match us, ws, hu, hw with | [_], [], _, _ => rfl
  obtain ⟨_, y_e_is_num_1⟩ := kbn0 (ps := P_is_num) F29 1 [] [0] fun _ _ _ _ _ _ us ws hu hw => match us, ws, hu, hw with | [_], [], _, _ => rfl
  obtain ⟨_, y_e_fits_as_row_3⟩ := kbn0 (ps := P_fits_as_row) F30 3 [] [0, 1, 2] fun _ _ _ _ _ _ us ws hu hw => match us, ws, hu, hw with | [_, _, _], [], _, _ => rfl
  obtain ⟨_, y_e_wrong_in_table_1⟩ := kbn0 (ps := P_wrong_in_table) F31 1 [] [0] fun _ _ _ _ _ _ us ws hu hw => match us, ws, hu, hw with | [_], [], _, _ => rfl
  obtain ⟨_, y_e_check_table_1⟩ := kbn0 (ps := P_check_table) F32 1 [] [0] fun _ _ _ _ _ _ us ws hu hw => match us, ws, hu, hw with | [_], [], _, _ => rfl
  obtain ⟨_, y_e_frac_reduced_2⟩ := kbn0 (ps := P_frac_reduced) F33 2 [] [0, 1] fun _ _ _ _ _ _ us ws hu hw => match us, ws, hu, hw with | [_, _], [], _, _ => rfl
  obtain ⟨_, y_e_frac_product_2⟩ := kbn0 (ps := P_frac_product) F34 2 [] [0, 1] fun _ _ _ _ _ _ us ws hu hw => match us, ws, hu, hw with | [_, _], [], _, _ => rfl
  obtain ⟨_, y_e_num_scaled_2⟩ := kbn0 (ps := P_num_scaled) F35 2 [] [0, 1] fun _ _ _ _ _ _ us ws hu hw => match us, ws, hu, hw with | [_, _], [], _, _ => rfl
  obtain ⟨_, y_e_num_product_2⟩ := kbn0 (ps := P_num_product) F36 2 [] [0, 1] fun _ _ _ _ _ _ us ws hu hw => match us, ws, hu, hw with | [_, _], [], _, _ => rfl
  obtain ⟨_, y_e_frac_over_2⟩ := kbn0 (ps := P_frac_over) F37 2 [] [0, 1] fun _ _ _ _ _ _ us ws hu hw => match us, ws, hu, hw with | [_, _], [], _, _ => rfl
  obtain ⟨_, y_e_num_size_1⟩ := kbn0 (ps := P_num_size) F38 1 [] [0] fun _ _ _ _ _ _ us ws hu hw => match us, ws, hu, hw with | [_], [], _, _ => rfl
  obtain ⟨_, y_e_num_over_2⟩ := kbn0 (ps := P_num_over) F39 2 [] [0, 1] fun _ _ _ _ _ _ us ws hu hw => match us, ws, hu, hw with | [_, _], [], _, _ => rfl
  obtain ⟨_, y_e_lead_square_2⟩ := kbn0 (ps := P_lead_square) F40 2 [] [0, 1] fun _ _ _ _ _ _ us ws hu hw => match us, ws, hu, hw with | [_, _], [], _, _ => rfl
  obtain ⟨_, y_e_frac_less_2⟩ := kbn0 (ps := P_frac_less) F41 2 [] [0, 1] fun _ _ _ _ _ _ us ws hu hw => match us, ws, hu, hw with | [_, _], [], _, _ => rfl
  obtain ⟨_, y_e_num_less_2⟩ := kbn0 (ps := P_num_less) F42 2 [] [0, 1] fun _ _ _ _ _ _ us ws hu hw => match us, ws, hu, hw with | [_, _], [], _, _ => rfl
  obtain ⟨_, y_e_mix_less_3⟩ := kbn0 (ps := P_mix_less) F43 3 [] [0, 1, 2] fun _ _ _ _ _ _ us ws hu hw => match us, ws, hu, hw with | [_, _, _], [], _, _ => rfl
  obtain ⟨_, y_e_tables_minus_2⟩ := kbn0 (ps := P_tables_minus) F44 2 [] [0, 1] fun _ _ _ _ _ _ us ws hu hw => match us, ws, hu, hw with | [_, _], [], _, _ => rfl
  obtain ⟨_, y_e_first_other_1⟩ := kbn0 (ps := P_first_other) F45 1 [] [0] fun _ _ _ _ _ _ us ws hu hw => match us, ws, hu, hw with | [_], [], _, _ => rfl
  obtain ⟨_, y_e_frac_sign_1⟩ := kbn0 (ps := P_frac_sign) F46 1 [] [0] fun _ _ _ _ _ _ us ws hu hw => match us, ws, hu, hw with | [_], [], _, _ => rfl
  obtain ⟨_, y_e_mix_mirrored_1⟩ := kbn0 (ps := P_mix_mirrored) F47 1 [] [0] fun _ _ _ _ _ _ us ws hu hw => match us, ws, hu, hw with | [_], [], _, _ => rfl
  obtain ⟨_, y_e_square_table_1⟩ := kbn0 (ps := P_square_table) F48 1 [] [0] fun _ _ _ _ _ _ us ws hu hw => match us, ws, hu, hw with | [_], [], _, _ => rfl
  obtain ⟨_, y_e_clearing_1_S⟩ := kbn0 (ps := P_clearing) F49 1 [] [0] fun _ _ _ _ _ _ us ws hu hw => match us, ws, hu, hw with | [_], [], _, _ => rfl
  obtain ⟨_, y_e_squares_by_1⟩ := kbn0 (ps := P_squares_by) F50 1 [] [0] fun _ _ _ _ _ _ us ws hu hw => match us, ws, hu, hw with | [_], [], _, _ => rfl
  obtain ⟨_, y_e_is_nonnegative_1⟩ := kbn0 (ps := P_is_nonnegative) F51 1 [] [0] fun _ _ _ _ _ _ us ws hu hw => match us, ws, hu, hw with | [_], [], _, _ => rfl
  obtain ⟨_, y_e_frac_sum_2⟩ := kbn0 (ps := P_frac_sum) F52 2 [] [0, 1] fun _ _ _ _ _ _ us ws hu hw => match us, ws, hu, hw with | [_, _], [], _, _ => rfl
  obtain ⟨_, y_e_num_sum_2⟩ := kbn0 (ps := P_num_sum) F53 2 [] [0, 1] fun _ _ _ _ _ _ us ws hu hw => match us, ws, hu, hw with | [_, _], [], _, _ => rfl
  obtain ⟨_, y_e_mix_sum_2⟩ := kbn0 (ps := P_mix_sum) F54 2 [] [0, 1] fun _ _ _ _ _ _ us ws hu hw => match us, ws, hu, hw with | [_, _], [], _, _ => rfl
  obtain ⟨_, y_e_tables_plus_2⟩ := kbn0 (ps := P_tables_plus) F55 2 [] [0, 1] fun _ _ _ _ _ _ us ws hu hw => match us, ws, hu, hw with | [_, _], [], _, _ => rfl
  obtain ⟨_, y_e_unit_mix_2⟩ := kbn1 (ps := P_unit_mix) F56 (List.cons_ne_nil _ _) 2 [] [0, 1, 2] fun _ _ _ _ _ _ _ us its ws hu hi hw => match us, its, ws, hu, hi, hw with | [_, _], [_], [], _, _, _ => ⟨_, rfl, rfl⟩
  obtain ⟨_, y_e_wrong_in_mix_2⟩ := kbn0 (ps := P_wrong_in_mix) F57 2 [] [0, 1] fun _ _ _ _ _ _ us ws hu hw => match us, ws, hu, hw with | [_, _], [], _, _ => rfl
  obtain ⟨_, y_e_is_square_2⟩ := kbn0 (ps := P_is_square) F58 2 [] [0, 1] fun _ _ _ _ _ _ us ws hu hw => match us, ws, hu, hw with | [_, _], [], _, _ => rfl
  obtain ⟨_, y_e_makes_by_2⟩ := kbn0 (ps := P_makes_by) F59 2 [] [0, 1] fun _ _ _ _ _ _ us ws hu hw => match us, ws, hu, hw with | [_, _], [], _, _ => rfl
  obtain ⟨_, y_e_do_make_0_squares_table⟩ := kbn0 (ps := P_do_make) F60 0 ["squares", "table"] [1, 0] fun _ _ _ _ _ _ us ws hu hw => match us, ws, hu, hw with | [], [_, _], _, _ => rfl
  obtain ⟨_, y_e_do_make_2⟩ := kbn0 (ps := P_do_make) F60 2 [] [0, 1] fun _ _ _ _ _ _ us ws hu hw => match us, ws, hu, hw with | [_, _], [], _, _ => rfl
  obtain ⟨_, y_e_squares_of_1⟩ := kbn0 (ps := P_squares_of) F61 1 [] [0] fun _ _ _ _ _ _ us ws hu hw => match us, ws, hu, hw with | [_], [], _, _ => rfl
  obtain ⟨_, y_e_squares_of_0_table⟩ := kbn0 (ps := P_squares_of) F61 0 ["table"] [0] fun _ _ _ _ _ _ us ws hu hw => match us, ws, hu, hw with | [], [_], _, _ => rfl
  obtain ⟨_, y_e_null_by_1_S⟩ := kbn0 (ps := P_null_by) F62 1 [] [0] fun _ _ _ _ _ _ us ws hu hw => match us, ws, hu, hw with | [_], [], _, _ => rfl
  obtain ⟨_, y_e_rank_of_1⟩ := kbn0 (ps := P_rank_of) F63 1 [] [0] fun _ _ _ _ _ _ us ws hu hw => match us, ws, hu, hw with | [_], [], _, _ => rfl
  obtain ⟨_, y_e_Lis_fraction_1⟩ := kbn0 (ps := P_Lis_fraction) F64 1 [] [0] fun _ _ _ _ _ _ us ws hu hw => match us, ws, hu, hw with | [_], [], _, _ => rfl
  obtain ⟨_, y_e_Lis_number_1⟩ := kbn0 (ps := P_Lis_number) F65 1 [] [0] fun _ _ _ _ _ _ us ws hu hw => match us, ws, hu, hw with | [_], [], _, _ => rfl
  obtain ⟨_, y_e_Lis_line_2⟩ := kbn0 (ps := P_Lis_line) F66 2 [] [0, 1] fun _ _ _ _ _ _ us ws hu hw => match us, ws, hu, hw with | [_, _], [], _, _ => rfl
  obtain ⟨_, y_e_Lmakes_2⟩ := kbn0 (ps := P_Lmakes) F67 2 [] [0, 1] fun _ _ _ _ _ _ us ws hu hw => match us, ws, hu, hw with | [_, _], [], _, _ => rfl
  obtain ⟨_, y_e_Lright_1⟩ := kbn0 (ps := P_Lright) F68 1 [] [0] fun _ _ _ _ _ _ us ws hu hw => match us, ws, hu, hw with | [_], [], _, _ => rfl
  obtain ⟨_, y_e_Lpot_2⟩ := kbn0 (ps := P_Lpot) F69 2 [] [0, 1] fun _ _ _ _ _ _ us ws hu hw => match us, ws, hu, hw with | [_, _], [], _, _ => rfl
  refine ⟨fd70, fun s v => bl s [v] rfl, fun base _ _ => ?_⟩
  have g0 : FnG P w K mg base 1 _ fd0 P_Llaps (spD K G_Llaps 1 b_Llaps P_Llaps) := fnG_of (N := N_Llaps) F0 s_Llaps k_Llaps ⟨(fa_cons r_max (fa_cons r_min (fa_cons r_len fa_nil))), fa_nil, fa_nil⟩ ents_nil
  have t_e_Llaps_1 : EntOk P w K mg base 1 e_Llaps_1 := ent_of m0 F0.kp g0 y_e_Llaps_1 (fun g H => .nil) rfl rfl
  have g1 : FnG P w K mg base 2 _ fd1 P_Ldraw (spD K G_Ldraw 3 b_Ldraw P_Ldraw) := fnG_of (N := N_Ldraw) F1 s_Ldraw k_Ldraw ⟨(fa_cons r_divmod (fa_cons r_int fa_nil)), fa_nil, fa_nil⟩ ents_nil
  have t_e_Ldraw_2 : EntOk P w K mg base 2 e_Ldraw_2 := ent_of m1 F1.kp g1 y_e_Ldraw_2 (fun g H => .nil) rfl rfl
  have g2 : FnG P w K mg base 3 _ fd2 P_Lpick (spD K G_Lpick 2 b_Lpick P_Lpick) := fnG_of (N := N_Lpick) F2 s_Lpick k_Lpick ⟨(fa_cons r_len fa_nil), fa_nil, fa_nil⟩ (ents_cons t_e_Ldraw_2 (by decide) ents_nil)
  have t_e_Lpick_2 : EntOk P w K mg base 3 e_Lpick_2 := ent_of m2 F2.kp g2 y_e_Lpick_2 (fun g H => .nil) rfl rfl
  have g3 : FnG P w K mg base 4 _ fd3 P_Lmany (spD K G_Lmany 1 b_Lmany P_Lmany) := fnG_of (N := N_Lmany) F3 s_Lmany k_Lmany ⟨fa_nil, fa_nil, fa_nil⟩ (ents_cons t_e_Lpick_2 (by decide) ents_nil)
  have t_e_Lmany_1 : EntOk P w K mg base 4 e_Lmany_1 := ent_of m3 F3.kp g3 y_e_Lmany_1 (fun g H => .nil) rfl rfl
  have g4 : FnG P w K mg base 5 _ fd4 P_Lcommon (spD K G_Lcommon 2 b_Lcommon P_Lcommon) := fnG_of (N := N_Lcommon) F4 s_Lcommon k_Lcommon ⟨(fa_cons r_abs (fa_cons r_int fa_nil)), fa_nil, fa_nil⟩ ents_nil
  have t_e_Lcommon_2 : EntOk P w K mg base 5 e_Lcommon_2 := ent_of m4 F4.kp g4 y_e_Lcommon_2 (fun g H => .nil) rfl rfl
  have g5 : FnG P w K mg base 6 _ fd5 P_Lcut (spD K G_Lcut 4 b_Lcut P_Lcut) := fnG_of (N := N_Lcut) F5 s_Lcut k_Lcut ⟨fa_nil, fa_nil, fa_nil⟩ (ents_cons t_e_Lcommon_2 (by decide) ents_nil)
  have t_e_Lcut_3 : EntOk P w K mg base 6 e_Lcut_3 := ent_of m5 F5.kp g5 y_e_Lcut_3 (fun g H => .nil) rfl rfl
  have g6 : FnG P w K mg base 7 _ fd6 P_Lsmall (spD K G_Lsmall 1 b_Lsmall P_Lsmall) := fnG_of (N := N_Lsmall) F6 s_Lsmall k_Lsmall ⟨fa_nil, fa_nil, fa_nil⟩ (ents_cons t_e_Ldraw_2 (by decide) (ents_cons t_e_Lcut_3 (by decide) ents_nil))
  have t_e_Lsmall_1 : EntOk P w K mg base 7 e_Lsmall_1 := ent_of m6 F6.kp g6 y_e_Lsmall_1 (fun g H => .nil) rfl rfl
  have g7 : FnG P w K mg base 8 _ fd7 P_Lpositive (spD K G_Lpositive 1 b_Lpositive P_Lpositive) := fnG_of (N := N_Lpositive) F7 s_Lpositive k_Lpositive ⟨fa_nil, fa_nil, fa_nil⟩ (ents_cons t_e_Lcut_3 (by decide) (ents_cons t_e_Ldraw_2 (by decide) (ents_cons t_e_Lpick_2 (by decide) ents_nil)))
  have t_e_Lpositive_1 : EntOk P w K mg base 8 e_Lpositive_1 := ent_of m7 F7.kp g7 y_e_Lpositive_1 (fun g H => .nil) rfl rfl
  have g8 : FnG P w K mg base 9 _ fd8 P_Lsteps (spD K G_Lsteps 6 b_Lsteps P_Lsteps) := fnG_of (N := N_Lsteps) F8 s_Lsteps k_Lsteps ⟨(fa_cons r_range fa_nil), fa_nil, fa_nil⟩ (ents_cons t_e_Ldraw_2 (by decide) (ents_cons t_e_Lsmall_1 (by decide) (ents_cons t_e_Lpositive_1 (by decide) ents_nil)))
  have t_e_Lsteps_2 : EntOk P w K mg base 9 e_Lsteps_2 := ent_of m8 F8.kp g8 y_e_Lsteps_2 (fun g H => .nil) rfl rfl
  have g9 : FnG P w K mg base 10 _ fd9 P_Lfraction (spD K G_Lfraction 3 b_Lfraction P_Lfraction) := fnG_of (N := N_Lfraction) F9 s_Lfraction k_Lfraction ⟨fa_nil, fa_nil, fa_nil⟩ (ents_cons t_e_Lcommon_2 (by decide) ents_nil)
  have t_e_Lfraction_2 : EntOk P w K mg base 10 e_Lfraction_2 := ent_of m9 F9.kp g9 y_e_Lfraction_2 (fun g H => .nil) rfl rfl
  have g10 : FnG P w K mg base 11 _ fd10 P_Lnumber (spD K G_Lnumber 1 b_Lnumber P_Lnumber) := fnG_of (N := N_Lnumber) F10 s_Lnumber k_Lnumber ⟨fa_nil, fa_nil, fa_nil⟩ (ents_cons t_e_Lfraction_2 (by decide) ents_nil)
  have t_e_Lnumber_1 : EntOk P w K mg base 11 e_Lnumber_1 := ent_of m10 F10.kp g10 y_e_Lnumber_1 (fun g H => .nil) rfl rfl
  have g11 : FnG P w K mg base 12 _ fd11 P_Lline (spD K G_Lline 2 b_Lline P_Lline) := fnG_of (N := N_Lline) F11 s_Lline k_Lline ⟨(fa_cons r_tuple fa_nil), fa_nil, fa_nil⟩ (ents_cons t_e_Lnumber_1 (by decide) ents_nil)
  have t_e_Lline_1 : EntOk P w K mg base 12 e_Lline_1 := ent_of m11 F11.kp g11 y_e_Lline_1 (fun g H => .nil) rfl rfl
  have g12 : FnG P w K mg base 13 _ fd12 P_Ltab (spD K G_Ltab 2 b_Ltab P_Ltab) := fnG_of (N := N_Ltab) F12 s_Ltab k_Ltab ⟨(fa_cons r_tuple fa_nil), fa_nil, fa_nil⟩ (ents_cons t_e_Lline_1 (by decide) ents_nil)
  have t_e_Ltab_1 : EntOk P w K mg base 13 e_Ltab_1 := ent_of m12 F12.kp g12 y_e_Ltab_1 (fun g H => .nil) rfl rfl
  have g13 : FnG P w K mg base 14 _ fd13 P_Lis_nought (spD K G_Lis_nought 1 b_Lis_nought P_Lis_nought) := fnG_of (N := N_Lis_nought) F13 s_Lis_nought k_Lis_nought ⟨fa_nil, fa_nil, fa_nil⟩ ents_nil
  have t_e_Lis_nought_1 : EntOk P w K mg base 14 e_Lis_nought_1 := ent_of m13 F13.kp g13 y_e_Lis_nought_1 (fun g H => .nil) rfl rfl
  have g14 : FnG P w K mg base 15 _ fd14 P_Lother_than_nought (spD K G_Lother_than_nought 2 b_Lother_than_nought P_Lother_than_nought) := fnG_of (N := N_Lother_than_nought) F14 s_Lother_than_nought k_Lother_than_nought ⟨fa_nil, fa_nil, fa_nil⟩ (ents_cons t_e_Lsmall_1 (by decide) (ents_cons t_e_Lis_nought_1 (by decide) (ents_cons t_e_Ldraw_2 (by decide) ents_nil)))
  have t_e_Lother_than_nought_1 : EntOk P w K mg base 15 e_Lother_than_nought_1 := ent_of m14 F14.kp g14 y_e_Lother_than_nought_1 (fun g H => .nil) rfl rfl
  have g15 : FnG P w K mg base 16 _ fd15 P_Lreal (spD K G_Lreal 1 b_Lreal P_Lreal) := fnG_of (N := N_Lreal) F15 s_Lreal k_Lreal ⟨fa_nil, fa_nil, fa_nil⟩ ents_nil
  have t_e_Lreal_1 : EntOk P w K mg base 16 e_Lreal_1 := ent_of m15 F15.kp g15 y_e_Lreal_1 (fun g H => .nil) rfl rfl
  have g16 : FnG P w K mg base 17 _ fd16 P_Lread (spD K G_Lread 1 b_Lread P_Lread) := fnG_of (N := N_Lread) F16 s_Lread k_Lread ⟨fa_nil, fa_nil, fa_nil⟩ (ents_cons t_e_Lcut_3 (by decide) ents_nil)
  have t_e_Lread_1 : EntOk P w K mg base 17 e_Lread_1 := ent_of m16 F16.kp g16 y_e_Lread_1 (fun g H => .nil) rfl rfl
  have g17 : FnG P w K mg base 18 _ fd17 P_Lover (spD K G_Lover 3 b_Lover P_Lover) := fnG_of (N := N_Lover) F17 s_Lover k_Lover ⟨fa_nil, fa_nil, fa_nil⟩ (ents_cons t_e_Lcut_3 (by decide) ents_nil)
  have t_e_Lover_2 : EntOk P w K mg base 18 e_Lover_2 := ent_of m17 F17.kp g17 y_e_Lover_2 (fun g H => .nil) rfl rfl
  have g18 : FnG P w K mg base 19 _ fd18 P_Ltimes (spD K G_Ltimes 2 b_Ltimes P_Ltimes) := fnG_of (N := N_Ltimes) F18 s_Ltimes k_Ltimes ⟨fa_nil, fa_nil, fa_nil⟩ (ents_cons t_e_Lcut_3 (by decide) ents_nil)
  have t_e_Ltimes_2 : EntOk P w K mg base 19 e_Ltimes_2 := ent_of m18 F18.kp g18 y_e_Ltimes_2 (fun g H => .nil) rfl rfl
  have g19 : FnG P w K mg base 20 _ fd19 P_Lsize (spD K G_Lsize 1 b_Lsize P_Lsize) := fnG_of (N := N_Lsize) F19 s_Lsize k_Lsize ⟨fa_nil, fa_nil, fa_nil⟩ (ents_cons t_e_Lcut_3 (by decide) ents_nil)
  have t_e_Lsize_1 : EntOk P w K mg base 20 e_Lsize_1 := ent_of m19 F19.kp g19 y_e_Lsize_1 (fun g H => .nil) rfl rfl
  have g20 : FnG P w K mg base 21 _ fd20 P_Lplus (spD K G_Lplus 2 b_Lplus P_Lplus) := fnG_of (N := N_Lplus) F20 s_Lplus k_Lplus ⟨fa_nil, fa_nil, fa_nil⟩ (ents_cons t_e_Lcut_3 (by decide) ents_nil)
  have t_e_Lplus_2 : EntOk P w K mg base 21 e_Lplus_2 := ent_of m20 F20.kp g20 y_e_Lplus_2 (fun g H => .nil) rfl rfl
  have g21 : FnG P w K mg base 22 _ fd21 P_Lchanged (spD K G_Lchanged 12 b_Lchanged P_Lchanged) := fnG_of (N := N_Lchanged) F21 s_Lchanged k_Lchanged ⟨(fa_cons r_len (fa_cons r_list fa_nil)), fa_nil, fa_nil⟩ (ents_cons t_e_Ldraw_2 (by decide) (ents_cons t_e_Lother_than_nought_1 (by decide) (ents_cons t_e_Lreal_1 (by decide) (ents_cons t_e_Lread_1 (by decide) (ents_cons t_e_Lnumber_1 (by decide) (ents_cons t_e_Lover_2 (by decide) (ents_cons t_e_Lsize_1 (by decide) (ents_cons t_e_Lline_1 (by decide) (ents_cons t_e_Ltimes_2 (by decide) (ents_cons t_e_Lplus_2 (by decide) (ents_cons t_e_Lpositive_1 (by decide) (ents_cons t_e_Lsmall_1 (by decide) ents_nil))))))))))))
  have t_e_Lchanged_3 : EntOk P w K mg base 22 e_Lchanged_3 := ent_of m21 F21.kp g21 y_e_Lchanged_3 (fun g H => .nil) rfl rfl
  have g22 : FnG P w K mg base 23 _ fd22 P_Lthings (spD K G_Lthings 8 b_Lthings P_Lthings) := fnG_of (N := N_Lthings) F22 s_Lthings k_Lthings ⟨(fa_cons r_range (fa_cons r_list fa_nil)), fa_nil, fa_nil⟩ (ents_cons t_e_Lother_than_nought_1 (by decide) (ents_cons t_e_Lsmall_1 (by decide) (ents_cons t_e_Lline_1 (by decide) (ents_cons t_e_Lchanged_3 (by decide) (ents_cons t_e_Lpick_2 (by decide) ents_nil)))))
  have t_e_Lthings_3 : EntOk P w K mg base 23 e_Lthings_3 := ent_of m22 F22.kp g22 y_e_Lthings_3 (fun g H => .nil) rfl rfl
  have g23 : FnG P w K mg base 24 _ fd23 P_Lmirror (spD K G_Lmirror 1 b_Lmirror P_Lmirror) := fnG_of (N := N_Lmirror) F23 s_Lmirror k_Lmirror ⟨fa_nil, fa_nil, fa_nil⟩ ents_nil
  have t_e_Lmirror_1 : EntOk P w K mg base 24 e_Lmirror_1 := ent_of m23 F23.kp g23 y_e_Lmirror_1 (fun g H => .nil) rfl rfl
  have g24 : FnG P w K mg base 25 _ fd24 P_Lmade (spD K G_Lmade 8 b_Lmade P_Lmade) := fnG_of (N := N_Lmade) F24 s_Lmade k_Lmade ⟨(fa_cons r_range fa_nil), fa_nil, fa_nil⟩ (ents_cons t_e_Lplus_2 (by decide) (ents_cons t_e_Ltimes_2 (by decide) (ents_cons t_e_Lmirror_1 (by decide) ents_nil)))
  have t_e_Lmade_2_S : EntOk P w K mg base 25 e_Lmade_2_S := ent_seal (ent_of m24 F24.kp g24 y_e_Lmade_2_S (fun g H => .nil) rfl rfl)
  have g25 : FnG P w K mg base 26 _ fd25 P_Lsquares (spD K G_Lsquares 2 b_Lsquares P_Lsquares) := fnG_of (N := N_Lsquares) F25 s_Lsquares k_Lsquares ⟨(fa_cons r_tuple fa_nil), fa_nil, fa_nil⟩ (ents_cons t_e_Lnumber_1 (by decide) (ents_cons t_e_Lline_1 (by decide) ents_nil))
  have t_e_Lsquares_1 : EntOk P w K mg base 26 e_Lsquares_1 := ent_of m25 F25.kp g25 y_e_Lsquares_1 (fun g H => .nil) rfl rfl
  have g26 : FnG P w K mg base 27 _ fd26 P_num_mirrored (spD K G_num_mirrored 1 b_num_mirrored P_num_mirrored) := fnG_of (N := N_num_mirrored) F26 s_num_mirrored k_num_mirrored ⟨fa_nil, fa_nil, fa_nil⟩ ents_nil
  have t_e_num_mirrored_1 : EntOk P w K mg base 27 e_num_mirrored_1 := ent_of m26 F26.kp g26 y_e_num_mirrored_1 (fun g H => .nil) rfl rfl
  have g27 : FnG P w K mg base 28 _ fd27 P_is_whole (spD K G_is_whole 1 b_is_whole P_is_whole) := fnG_of (N := N_is_whole) F27 s_is_whole k_is_whole ⟨(fa_cons r_isinstance (fa_cons r_bool (fa_cons r_int fa_nil))), fa_nil, fa_nil⟩ ents_nil
  have t_e_is_whole_1 : EntOk P w K mg base 28 e_is_whole_1 := ent_of m27 F27.kp g27 y_e_is_whole_1 (fun g H => .nil) rfl rfl
  have g28 : FnG P w K mg base 29 _ fd28 P_is_frac (spD K G_is_frac 1 b_is_frac P_is_frac) := fnG_of (N := N_is_frac) F28 s_is_frac k_is_frac ⟨(fa_cons r_isinstance (fa_cons r_tuple (fa_cons r_len fa_nil))), fa_nil, (fa_cons u_gcd fa_nil)⟩ (ents_cons t_e_is_whole_1 (by decide) ents_nil)
  have t_e_is_frac_1 : EntOk P w K mg base 29 e_is_frac_1 := ent_of m28 F28.kp g28 y_e_is_frac_1 (fun g H => .nil) rfl rfl
  have g29 : FnG P w K mg base 30 _ fd29 P_is_num (spD K G_is_num 1 b_is_num P_is_num) := fnG_of (N := N_is_num) F29 s_is_num k_is_num ⟨(fa_cons r_isinstance (fa_cons r_tuple (fa_cons r_len fa_nil))), fa_nil, fa_nil⟩ (ents_cons t_e_is_frac_1 (by decide) ents_nil)
  have t_e_is_num_1 : EntOk P w K mg base 30 e_is_num_1 := ent_of m29 F29.kp g29 y_e_is_num_1 (fun g H => .nil) rfl rfl
  have g30 : FnG P w K mg base 31 _ fd30 P_fits_as_row (spD K G_fits_as_row 5 b_fits_as_row P_fits_as_row) := fnG_of (N := N_fits_as_row) F30 s_fits_as_row k_fits_as_row ⟨(fa_cons r_all (fa_cons r_isinstance (fa_cons r_tuple (fa_cons r_len (fa_cons r_range fa_nil))))), fa_nil, fa_nil⟩ (ents_cons t_e_is_num_1 (by decide) (ents_cons t_e_num_mirrored_1 (by decide) ents_nil))
  have t_e_fits_as_row_3 : EntOk P w K mg base 31 e_fits_as_row_3 := ent_of m30 F30.kp g30 y_e_fits_as_row_3 (fun g H => .nil) rfl rfl
  have g31 : FnG P w K mg base 32 _ fd31 P_wrong_in_table (spD K G_wrong_in_table 3 b_wrong_in_table P_wrong_in_table) := fnG_of (N := N_wrong_in_table) F31 s_wrong_in_table k_wrong_in_table ⟨(fa_cons r_len (fa_cons r_isinstance (fa_cons r_tuple (fa_cons r_enumerate fa_nil)))), (fa_cons q_MOST_ROWS fa_nil), fa_nil⟩ (ents_cons t_e_fits_as_row_3 (by decide) ents_nil)
  have t_e_wrong_in_table_1 : EntOk P w K mg base 32 e_wrong_in_table_1 := ent_of m31 F31.kp g31 y_e_wrong_in_table_1 (fun g H => .nil) rfl rfl
  have g32 : FnG P w K mg base 33 _ fd32 P_check_table (spD K G_check_table 2 b_check_table P_check_table) := fnG_of (N := N_check_table) F32 s_check_table k_check_table ⟨fa_nil, fa_nil, fa_nil⟩ (ents_cons t_e_wrong_in_table_1 (by decide) ents_nil)
  have t_e_check_table_1 : EntOk P w K mg base 33 e_check_table_1 := ent_of m32 F32.kp g32 y_e_check_table_1 (fun g H => .nil) rfl rfl
  have g33 : FnG P w K mg base 34 _ fd33 P_frac_reduced (spD K G_frac_reduced 3 b_frac_reduced P_frac_reduced) := fnG_of (N := N_frac_reduced) F33 s_frac_reduced k_frac_reduced ⟨fa_nil, fa_nil, (fa_cons u_gcd fa_nil)⟩ ents_nil
  have t_e_frac_reduced_2 : EntOk P w K mg base 34 e_frac_reduced_2 := ent_of m33 F33.kp g33 y_e_frac_reduced_2 (fun g H => .nil) rfl rfl
  have g34 : FnG P w K mg base 35 _ fd34 P_frac_product (spD K G_frac_product 2 b_frac_product P_frac_product) := fnG_of (N := N_frac_product) F34 s_frac_product k_frac_product ⟨fa_nil, fa_nil, fa_nil⟩ (ents_cons t_e_frac_reduced_2 (by decide) ents_nil)
  have t_e_frac_product_2 : EntOk P w K mg base 35 e_frac_product_2 := ent_of m34 F34.kp g34 y_e_frac_product_2 (fun g H => .nil) rfl rfl
  have g35 : FnG P w K mg base 36 _ fd35 P_num_scaled (spD K G_num_scaled 2 b_num_scaled P_num_scaled) := fnG_of (N := N_num_scaled) F35 s_num_scaled k_num_scaled ⟨fa_nil, fa_nil, fa_nil⟩ (ents_cons t_e_frac_product_2 (by decide) ents_nil)
  have t_e_num_scaled_2 : EntOk P w K mg base 36 e_num_scaled_2 := ent_of m35 F35.kp g35 y_e_num_scaled_2 (fun g H => .nil) rfl rfl
  have g36 : FnG P w K mg base 37 _ fd36 P_num_product (spD K G_num_product 11 b_num_product P_num_product) := fnG_of (N := N_num_product) F36 s_num_product k_num_product ⟨fa_nil, fa_nil, fa_nil⟩ (ents_cons t_e_frac_reduced_2 (by decide) ents_nil)
  have t_e_num_product_2 : EntOk P w K mg base 37 e_num_product_2 := ent_of m36 F36.kp g36 y_e_num_product_2 (fun g H => .nil) rfl rfl
  have g37 : FnG P w K mg base 38 _ fd37 P_frac_over (spD K G_frac_over 2 b_frac_over P_frac_over) := fnG_of (N := N_frac_over) F37 s_frac_over k_frac_over ⟨fa_nil, fa_nil, fa_nil⟩ (ents_cons t_e_frac_reduced_2 (by decide) ents_nil)
  have t_e_frac_over_2 : EntOk P w K mg base 38 e_frac_over_2 := ent_of m37 F37.kp g37 y_e_frac_over_2 (fun g H => .nil) rfl rfl
  have g38 : FnG P w K mg base 39 _ fd38 P_num_size (spD K G_num_size 5 b_num_size P_num_size) := fnG_of (N := N_num_size) F38 s_num_size k_num_size ⟨fa_nil, fa_nil, fa_nil⟩ (ents_cons t_e_frac_reduced_2 (by decide) ents_nil)
  have t_e_num_size_1 : EntOk P w K mg base 39 e_num_size_1 := ent_of m38 F38.kp g38 y_e_num_size_1 (fun g H => .nil) rfl rfl
  have g39 : FnG P w K mg base 40 _ fd39 P_num_over (spD K G_num_over 2 b_num_over P_num_over) := fnG_of (N := N_num_over) F39 s_num_over k_num_over ⟨fa_nil, (fa_cons q_FRAC_ONE fa_nil), fa_nil⟩ (ents_cons t_e_num_scaled_2 (by decide) (ents_cons t_e_num_product_2 (by decide) (ents_cons t_e_num_mirrored_1 (by decide) (ents_cons t_e_frac_over_2 (by decide) (ents_cons t_e_num_size_1 (by decide) ents_nil)))))
  have t_e_num_over_2 : EntOk P w K mg base 40 e_num_over_2 := ent_of m39 F39.kp g39 y_e_num_over_2 (fun g H => .nil) rfl rfl
  have g40 : FnG P w K mg base 41 _ fd40 P_lead_square (spD K G_lead_square 4 b_lead_square P_lead_square) := fnG_of (N := N_lead_square) F40 s_lead_square k_lead_square ⟨(fa_cons r_tuple fa_nil), fa_nil, fa_nil⟩ (ents_cons t_e_num_over_2 (by decide) ents_nil)
  have t_e_lead_square_2 : EntOk P w K mg base 41 e_lead_square_2 := ent_of m40 F40.kp g40 y_e_lead_square_2 (fun g H => .nil) rfl rfl
  have g41 : FnG P w K mg base 42 _ fd41 P_frac_less (spD K G_frac_less 2 b_frac_less P_frac_less) := fnG_of (N := N_frac_less) F41 s_frac_less k_frac_less ⟨fa_nil, fa_nil, fa_nil⟩ (ents_cons t_e_frac_reduced_2 (by decide) ents_nil)
  have t_e_frac_less_2 : EntOk P w K mg base 42 e_frac_less_2 := ent_of m41 F41.kp g41 y_e_frac_less_2 (fun g H => .nil) rfl rfl
  have g42 : FnG P w K mg base 43 _ fd42 P_num_less (spD K G_num_less 2 b_num_less P_num_less) := fnG_of (N := N_num_less) F42 s_num_less k_num_less ⟨fa_nil, fa_nil, fa_nil⟩ (ents_cons t_e_frac_less_2 (by decide) ents_nil)
  have t_e_num_less_2 : EntOk P w K mg base 43 e_num_less_2 := ent_of m42 F42.kp g42 y_e_num_less_2 (fun g H => .nil) rfl rfl
  have g43 : FnG P w K mg base 44 _ fd43 P_mix_less (spD K G_mix_less 5 b_mix_less P_mix_less) := fnG_of (N := N_mix_less) F43 s_mix_less k_mix_less ⟨(fa_cons r_tuple (fa_cons r_zip fa_nil)), fa_nil, fa_nil⟩ (ents_cons t_e_num_less_2 (by decide) (ents_cons t_e_num_product_2 (by decide) ents_nil))
  have t_e_mix_less_3 : EntOk P w K mg base 44 e_mix_less_3 := ent_of m43 F43.kp g43 y_e_mix_less_3 (fun g H => .nil) rfl rfl
  have g44 : FnG P w K mg base 45 _ fd44 P_tables_minus (spD K G_tables_minus 4 b_tables_minus P_tables_minus) := fnG_of (N := N_tables_minus) F44 s_tables_minus k_tables_minus ⟨(fa_cons r_tuple (fa_cons r_zip fa_nil)), (fa_cons q_ONE fa_nil), fa_nil⟩ (ents_cons t_e_mix_less_3 (by decide) ents_nil)
  have t_e_tables_minus_2 : EntOk P w K mg base 45 e_tables_minus_2 := ent_of m44 F44.kp g44 y_e_tables_minus_2 (fun g H => .nil) rfl rfl
  have g45 : FnG P w K mg base 46 _ fd45 P_first_other (spD K G_first_other 3 b_first_other P_first_other) := fnG_of (N := N_first_other) F45 s_first_other k_first_other ⟨(fa_cons r_enumerate fa_nil), (fa_cons q_NOUGHT fa_nil), fa_nil⟩ ents_nil
  have t_e_first_other_1 : EntOk P w K mg base 46 e_first_other_1 := ent_of m45 F45.kp g45 y_e_first_other_1 (fun g H => .nil) rfl rfl
  have g46 : FnG P w K mg base 47 _ fd46 P_frac_sign (spD K G_frac_sign 1 b_frac_sign P_frac_sign) := fnG_of (N := N_frac_sign) F46 s_frac_sign k_frac_sign ⟨fa_nil, fa_nil, fa_nil⟩ ents_nil
  have t_e_frac_sign_1 : EntOk P w K mg base 47 e_frac_sign_1 := ent_of m46 F46.kp g46 y_e_frac_sign_1 (fun g H => .nil) rfl rfl
  have g47 : FnG P w K mg base 48 _ fd47 P_mix_mirrored (spD K G_mix_mirrored 2 b_mix_mirrored P_mix_mirrored) := fnG_of (N := N_mix_mirrored) F47 s_mix_mirrored k_mix_mirrored ⟨(fa_cons r_tuple fa_nil), fa_nil, fa_nil⟩ (ents_cons t_e_num_mirrored_1 (by decide) ents_nil)
  have t_e_mix_mirrored_1 : EntOk P w K mg base 48 e_mix_mirrored_1 := ent_of m47 F47.kp g47 y_e_mix_mirrored_1 (fun g H => .nil) rfl rfl
  have g48 : FnG P w K mg base 49 _ fd48 P_square_table (spD K G_square_table 5 b_square_table P_square_table) := fnG_of (N := N_square_table) F48 s_square_table k_square_table ⟨(fa_cons r_tuple fa_nil), fa_nil, fa_nil⟩ (ents_cons t_e_mix_mirrored_1 (by decide) (ents_cons t_e_num_scaled_2 (by decide) (ents_cons t_e_num_product_2 (by decide) ents_nil)))
  have t_e_square_table_1 : EntOk P w K mg base 49 e_square_table_1 := ent_of m48 F48.kp g48 y_e_square_table_1 (fun g H => .nil) rfl rfl
  have g49 : FnG P w K mg base 50 _ fd49 P_clearing (spD K G_clearing 5 b_clearing P_clearing) := fnG_of (N := N_clearing) F49 s_clearing k_clearing ⟨(fa_cons r_range (fa_cons r_len (fa_cons r_tuple fa_nil))), fa_nil, fa_nil⟩ (ents_cons t_e_first_other_1 (by decide) (ents_cons t_e_frac_sign_1 (by decide) (ents_cons t_e_lead_square_2 (by decide) (ents_cons t_e_tables_minus_2 (by decide) (ents_cons t_e_square_table_1 (by decide) ents_nil)))))
  have t_e_clearing_1_S : EntOk P w K mg base 50 e_clearing_1_S := ent_seal (ent_of m49 F49.kp g49 y_e_clearing_1_S (fun g H => .nil) rfl rfl)
  have g50 : FnG P w K mg base 51 _ fd50 P_squares_by (spD K G_squares_by 4 b_squares_by P_squares_by) := fnG_of (N := N_squares_by) F50 s_squares_by k_squares_by ⟨fa_nil, fa_nil, fa_nil⟩ (ents_cons t_e_clearing_1_S (by decide) ents_nil)
  have t_e_squares_by_1 : EntOk P w K mg base 51 e_squares_by_1 := ent_of m50 F50.kp g50 y_e_squares_by_1 (fun g H => .nil) rfl rfl
  have g51 : FnG P w K mg base 52 _ fd51 P_is_nonnegative (spD K G_is_nonnegative 1 b_is_nonnegative P_is_nonnegative) := fnG_of (N := N_is_nonnegative) F51 s_is_nonnegative k_is_nonnegative ⟨fa_nil, fa_nil, fa_nil⟩ (ents_cons t_e_check_table_1 (by decide) (ents_cons t_e_squares_by_1 (by decide) ents_nil))
  have t_e_is_nonnegative_1 : EntOk P w K mg base 52 e_is_nonnegative_1 := ent_of m51 F51.kp g51 y_e_is_nonnegative_1 (fun g H => .nil) rfl rfl
  have g52 : FnG P w K mg base 53 _ fd52 P_frac_sum (spD K G_frac_sum 2 b_frac_sum P_frac_sum) := fnG_of (N := N_frac_sum) F52 s_frac_sum k_frac_sum ⟨fa_nil, fa_nil, fa_nil⟩ (ents_cons t_e_frac_reduced_2 (by decide) ents_nil)
  have t_e_frac_sum_2 : EntOk P w K mg base 53 e_frac_sum_2 := ent_of m52 F52.kp g52 y_e_frac_sum_2 (fun g H => .nil) rfl rfl
  have g53 : FnG P w K mg base 54 _ fd53 P_num_sum (spD K G_num_sum 2 b_num_sum P_num_sum) := fnG_of (N := N_num_sum) F53 s_num_sum k_num_sum ⟨fa_nil, fa_nil, fa_nil⟩ (ents_cons t_e_frac_sum_2 (by decide) ents_nil)
  have t_e_num_sum_2 : EntOk P w K mg base 54 e_num_sum_2 := ent_of m53 F53.kp g53 y_e_num_sum_2 (fun g H => .nil) rfl rfl
  have g54 : FnG P w K mg base 55 _ fd54 P_mix_sum (spD K G_mix_sum 4 b_mix_sum P_mix_sum) := fnG_of (N := N_mix_sum) F54 s_mix_sum k_mix_sum ⟨(fa_cons r_tuple (fa_cons r_zip fa_nil)), fa_nil, fa_nil⟩ (ents_cons t_e_num_sum_2 (by decide) ents_nil)
  have t_e_mix_sum_2 : EntOk P w K mg base 55 e_mix_sum_2 := ent_of m54 F54.kp g54 y_e_mix_sum_2 (fun g H => .nil) rfl rfl
  have g55 : FnG P w K mg base 56 _ fd55 P_tables_plus (spD K G_tables_plus 4 b_tables_plus P_tables_plus) := fnG_of (N := N_tables_plus) F55 s_tables_plus k_tables_plus ⟨(fa_cons r_tuple (fa_cons r_zip fa_nil)), fa_nil, fa_nil⟩ (ents_cons t_e_mix_sum_2 (by decide) ents_nil)
  have t_e_tables_plus_2 : EntOk P w K mg base 56 e_tables_plus_2 := ent_of m55 F55.kp g55 y_e_tables_plus_2 (fun g H => .nil) rfl rfl
  have g56 : FnG P w K mg base 57 _ fd56 P_unit_mix (spD K G_unit_mix 4 b_unit_mix P_unit_mix) := fnG_of (N := N_unit_mix) F56 s_unit_mix k_unit_mix ⟨(fa_cons r_tuple (fa_cons r_range fa_nil)), (fa_cons q_NOUGHT fa_nil), fa_nil⟩ ents_nil
  have t_e_unit_mix_2 : EntOk P w K mg base 57 e_unit_mix_2 := ent_of m56 F56.kp g56 y_e_unit_mix_2 (fun g H => .cons (w_z_unit_mix_0 g H) .nil) rfl rfl
  have g57 : FnG P w K mg base 58 _ fd57 P_wrong_in_mix (spD K G_wrong_in_mix 4 b_wrong_in_mix P_wrong_in_mix) := fnG_of (N := N_wrong_in_mix) F57 s_wrong_in_mix k_wrong_in_mix ⟨(fa_cons r_len (fa_cons r_isinstance (fa_cons r_tuple (fa_cons r_enumerate fa_nil)))), fa_nil, fa_nil⟩ (ents_cons t_e_is_num_1 (by decide) ents_nil)
  have t_e_wrong_in_mix_2 : EntOk P w K mg base 58 e_wrong_in_mix_2 := ent_of m57 F57.kp g57 y_e_wrong_in_mix_2 (fun g H => .nil) rfl rfl
  have g58 : FnG P w K mg base 59 _ fd58 P_is_square (spD K G_is_square 2 b_is_square P_is_square) := fnG_of (N := N_is_square) F58 s_is_square k_is_square ⟨(fa_cons r_isinstance (fa_cons r_tuple (fa_cons r_len fa_nil))), fa_nil, fa_nil⟩ (ents_cons t_e_is_frac_1 (by decide) (ents_cons t_e_first_other_1 (by decide) (ents_cons t_e_wrong_in_mix_2 (by decide) ents_nil)))
  have t_e_is_square_2 : EntOk P w K mg base 59 e_is_square_2 := ent_of m58 F58.kp g58 y_e_is_square_2 (fun g H => .nil) rfl rfl
  have g59 : FnG P w K mg base 60 _ fd59 P_makes_by (spD K G_makes_by 7 b_makes_by P_makes_by) := fnG_of (N := N_makes_by) F59 s_makes_by k_makes_by ⟨(fa_cons r_len (fa_cons r_all (fa_cons r_isinstance (fa_cons r_tuple (fa_cons r_range fa_nil))))), fa_nil, fa_nil⟩ (ents_cons t_e_is_square_2 (by decide) (ents_cons t_e_unit_mix_2 (by decide) (ents_cons t_e_tables_plus_2 (by decide) (ents_cons t_e_square_table_1 (by decide) ents_nil))))
  have t_e_makes_by_2 : EntOk P w K mg base 60 e_makes_by_2 := ent_of m59 F59.kp g59 y_e_makes_by_2 (fun g H => .nil) rfl rfl
  have g60 : FnG P w K mg base 61 _ fd60 P_do_make (spD K G_do_make 2 b_do_make P_do_make) := fnG_of (N := N_do_make) F60 s_do_make k_do_make ⟨fa_nil, fa_nil, fa_nil⟩ (ents_cons t_e_check_table_1 (by decide) (ents_cons t_e_makes_by_2 (by decide) ents_nil))
  have t_e_do_make_0_squares_table : EntOk P w K mg base 61 e_do_make_0_squares_table := ent_of m60 F60.kp g60 y_e_do_make_0_squares_table (fun g H => .nil) rfl rfl
  have t_e_do_make_2 : EntOk P w K mg base 61 e_do_make_2 := ent_of m60 F60.kp g60 y_e_do_make_2 (fun g H => .nil) rfl rfl
  have g61 : FnG P w K mg base 62 _ fd61 P_squares_of (spD K G_squares_of 1 b_squares_of P_squares_of) := fnG_of (N := N_squares_of) F61 s_squares_of k_squares_of ⟨fa_nil, fa_nil, fa_nil⟩ (ents_cons t_e_check_table_1 (by decide) (ents_cons t_e_squares_by_1 (by decide) ents_nil))
  have t_e_squares_of_1 : EntOk P w K mg base 62 e_squares_of_1 := ent_of m61 F61.kp g61 y_e_squares_of_1 (fun g H => .nil) rfl rfl
  have t_e_squares_of_0_table : EntOk P w K mg base 62 e_squares_of_0_table := ent_of m61 F61.kp g61 y_e_squares_of_0_table (fun g H => .nil) rfl rfl
  have g62 : FnG P w K mg base 63 _ fd62 P_null_by (spD K G_null_by 11 b_null_by P_null_by) := fnG_of (N := N_null_by) F62 s_null_by k_null_by ⟨(fa_cons r_range (fa_cons r_len (fa_cons r_tuple fa_nil))), fa_nil, fa_nil⟩ (ents_cons t_e_unit_mix_2 (by decide) (ents_cons t_e_num_over_2 (by decide) (ents_cons t_e_mix_less_3 (by decide) (ents_cons t_e_first_other_1 (by decide) ents_nil))))
  have t_e_null_by_1_S : EntOk P w K mg base 63 e_null_by_1_S := ent_seal (ent_of m62 F62.kp g62 y_e_null_by_1_S (fun g H => .nil) rfl rfl)
  have g63 : FnG P w K mg base 64 _ fd63 P_rank_of (spD K G_rank_of 1 b_rank_of P_rank_of) := fnG_of (N := N_rank_of) F63 s_rank_of k_rank_of ⟨(fa_cons r_len fa_nil), fa_nil, fa_nil⟩ (ents_cons t_e_check_table_1 (by decide) (ents_cons t_e_null_by_1_S (by decide) ents_nil))
  have t_e_rank_of_1 : EntOk P w K mg base 64 e_rank_of_1 := ent_of m63 F63.kp g63 y_e_rank_of_1 (fun g H => .nil) rfl rfl
  have g64 : FnG P w K mg base 65 _ fd64 P_Lis_fraction (spD K G_Lis_fraction 2 b_Lis_fraction P_Lis_fraction) := fnG_of (N := N_Lis_fraction) F64 s_Lis_fraction k_Lis_fraction ⟨(fa_cons r_len (fa_cons r_isinstance (fa_cons r_tuple (fa_cons r_bool (fa_cons r_int fa_nil))))), fa_nil, fa_nil⟩ (ents_cons t_e_Lcommon_2 (by decide) ents_nil)
  have t_e_Lis_fraction_1 : EntOk P w K mg base 65 e_Lis_fraction_1 := ent_of m64 F64.kp g64 y_e_Lis_fraction_1 (fun g H => .nil) rfl rfl
  have g65 : FnG P w K mg base 66 _ fd65 P_Lis_number (spD K G_Lis_number 1 b_Lis_number P_Lis_number) := fnG_of (N := N_Lis_number) F65 s_Lis_number k_Lis_number ⟨(fa_cons r_len (fa_cons r_isinstance (fa_cons r_tuple fa_nil))), fa_nil, fa_nil⟩ (ents_cons t_e_Lis_fraction_1 (by decide) ents_nil)
  have t_e_Lis_number_1 : EntOk P w K mg base 66 e_Lis_number_1 := ent_of m65 F65.kp g65 y_e_Lis_number_1 (fun g H => .nil) rfl rfl
  have g66 : FnG P w K mg base 67 _ fd66 P_Lis_line (spD K G_Lis_line 3 b_Lis_line P_Lis_line) := fnG_of (N := N_Lis_line) F66 s_Lis_line k_Lis_line ⟨(fa_cons r_len (fa_cons r_isinstance (fa_cons r_tuple fa_nil))), fa_nil, fa_nil⟩ (ents_cons t_e_Lis_number_1 (by decide) ents_nil)
  have t_e_Lis_line_2 : EntOk P w K mg base 67 e_Lis_line_2 := ent_of m66 F66.kp g66 y_e_Lis_line_2 (fun g H => .nil) rfl rfl
  have g67 : FnG P w K mg base 68 _ fd67 P_Lmakes (spD K G_Lmakes 6 b_Lmakes P_Lmakes) := fnG_of (N := N_Lmakes) F67 s_Lmakes k_Lmakes ⟨(fa_cons r_isinstance (fa_cons r_tuple (fa_cons r_len fa_nil))), fa_nil, fa_nil⟩ (ents_cons t_e_Lis_fraction_1 (by decide) (ents_cons t_e_Lis_line_2 (by decide) (ents_cons t_e_Lread_1 (by decide) (ents_cons t_e_Lis_nought_1 (by decide) (ents_cons t_e_Lreal_1 (by decide) (ents_cons t_e_Lmade_2_S (by decide) ents_nil))))))
  have t_e_Lmakes_2 : EntOk P w K mg base 68 e_Lmakes_2 := ent_of m67 F67.kp g67 y_e_Lmakes_2 (fun g H => .nil) rfl rfl
  have g68 : FnG P w K mg base 69 _ fd68 P_Lright (spD K G_Lright 7 b_Lright P_Lright) := fnG_of (N := N_Lright) F68 s_Lright k_Lright ⟨(fa_cons r_repr (fa_cons r_len fa_nil)), fa_nil, fa_nil⟩ (ents_cons t_e_Lmany_1 (by decide) (ents_cons t_e_Lsteps_2 (by decide) (ents_cons t_e_Lmade_2_S (by decide) (ents_cons t_e_Lsquares_1 (by decide) (ents_cons t_e_Ltab_1 (by decide) (ents_cons t_e_squares_of_1 (by decide) (ents_cons t_e_squares_of_0_table (by decide) (ents_cons t_e_rank_of_1 (by decide) (ents_cons t_e_is_nonnegative_1 (by decide) (ents_cons t_e_do_make_0_squares_table (by decide) (ents_cons t_e_do_make_2 (by decide) (ents_cons t_e_Lthings_3 (by decide) (ents_cons t_e_Lmakes_2 (by decide) ents_nil)))))))))))))
  have t_e_Lright_1 : EntOk P w K mg base 69 e_Lright_1 := ent_of m68 F68.kp g68 y_e_Lright_1 (fun g H => .nil) rfl rfl
  have g69 : FnG P w K mg base 70 _ fd69 P_Lpot (spD K G_Lpot 6 b_Lpot P_Lpot) := fnG_of (N := N_Lpot) F69 s_Lpot k_Lpot ⟨(fa_cons r_enumerate (fa_cons r_int (fa_cons r_len (fa_cons r_abs fa_nil)))), fa_nil, fa_nil⟩ ents_nil
  have t_e_Lpot_2 : EntOk P w K mg base 70 e_Lpot_2 := ent_of m69 F69.kp g69 y_e_Lpot_2 (fun g H => .nil) rfl rfl
  have g70 : FnG P w K mg base 71 _ fd70 P_law (spD K G_law 2 b_law P_law) := fnG_of (N := N_law) F70 s_law k_law ⟨(fa_cons r_range fa_nil), fa_nil, fa_nil⟩ (ents_cons t_e_Llaps_1 (by decide) (ents_cons t_e_Lright_1 (by decide) (ents_cons t_e_Lpot_2 (by decide) ents_nil)))
  exact g70
end
end W
open PySem PySem.W PySem.Calls PyProof.Rows
theorem THELAW (main : ∀ ns : List Int, ns.length ≤ 63 → (∀ z ∈ ns, Builtin.Int.intBits z ≤ 1048576) → ∃ S, PD.runF W.G_law 2 W.b_law [.lst (ns.map PD.D.int)] [] = some (.bl true, S)) : PySem.Challenge.rw_withinrim_k33_whole_stepped_squares_told.Holds := by
  w_on; o_law
  refine HandSHeadRun.head_imp (r := OpenLaw.row PySem.Challenge.rw_withinrim_k33_whole_stepped_squares_told) (q := view (OpenLaw.row PySem.Challenge.rw_withinrim_k33_whole_stepped_squares_told).prog [0, 84]) (H := W.hk) (ob := W.ob) (M := 6000) (loose := W.loose) (d := HandSHeadRun.topDef (OpenLaw.row PySem.Challenge.rw_withinrim_k33_whole_stepped_squares_told).prog 84) (kwd := []) W.ob_eq
    W.run (by kernel_rfl) (by kernel_rfl) (by kernel_rfl) (by rfl) (by first | assumption | decide +kernel) (by decide +kernel) ⟨rfl, rfl, rfl, rfl, rfl, by decide +kernel⟩ ?hw ?hc
  case hw => w_witness2
  case hc =>
    refine PD.walkGB (l := PySem.Challenge.rw_withinrim_k33_whole_stepped_squares_told) (k := 71) (x := "_law_script") (G := W.G_law) (m := 2) (b := W.b_law) rfl (by kernel_rfl) ⟨rfl, by decide, by decide⟩ ?F main
    intro w mg fa h Y G hmg0
    obtain ⟨K, KX, c⟩ := Y
    have hmg : mg ("law" : PySem.Str) = some (.ref fa) := by
      have e : (HandSHeadRun.topDef (OpenLaw.row PySem.Challenge.rw_withinrim_k33_whole_stepped_squares_told).prog 84).name = ("law" : PySem.Str) := by kernel_rfl
      rw [← e]
      exact hmg0
    obtain ⟨fd, hb, hF⟩ := W.facts (P := (PySem.Challenge.rw_withinrim_k33_whole_stepped_squares_told).prog) (w := w) KX G hmg c
    exact ⟨K, fd, KX, hb, hF⟩

set_option Elab.async false
set_option linter.all false
set_option autoImplicit false
set_option maxRecDepth 100000
set_option maxHeartbeats 2000000
namespace PD
open PySem PySem.Spec PyProof.Rows L2
def Sms.hd : Sms → Sm | .cons s _ => s | .nil => .pass
def Sms.tl : Sms → Sms | .cons _ ss => ss | .nil => .nil
def Sm.body : Sm → Sms | .for_ _ _ b => b | .wh _ b => b | _ => .nil
def Sms.nth : Sms → Nat → Sm | .cons s _, 0 => s | .cons _ ss, n + 1 => ss.nth n | .nil, _ => .pass
def Sms.drp : Sms → Nat → Sms | ss, 0 => ss | .cons _ ss, n + 1 => ss.drp n | .nil, _ => .nil
theorem st_nx {G : Gam} {s : Sm} {ss : Sms} {L L2 : Loc} {S S2 : Store} {r : Option ((Fl × Loc) × Store)} (h : evS G s L S = some ((.nx, L2), S2)) (t : evSs G ss L2 S2 = r) : evSs G (.cons s ss) L S = r := by
  rw [evSs_cons, h]
  exact t
theorem st_ret {G : Gam} {s : Sm} {ss : Sms} {L L2 : Loc} {S S2 : Store} {d : D} (h : evS G s L S = some ((.ret d, L2), S2)) : evSs G (.cons s ss) L S = some ((.ret d, L2), S2) := by
  rw [evSs_cons, h]
  rfl
theorem okSh_N {k : Nat} {p : Cq} (h : hb k p) (hk : k ≤ 1900) : (Nm p).okSh := okSh_Nm (h.szn.1.mono hk) (h.szn.2.mono hk)
theorem okShs_map {k : Nat} (hk : k ≤ 1900) : ∀ {ps : List Cq}, (∀ p ∈ ps, hb k p) → D.okShs (ps.map Nm)
  | [], _ => trivial
  | p :: ps, h => ⟨okSh_N (h p (by simp)) hk, okShs_map hk fun q hq => h q (by simp [hq])⟩
@[simp] theorem isN_n : cmpV .isN (.d .non) (.d .non) = some true := rfl
@[simp] theorem notN_n : cmpV .notN (.d .non) (.d .non) = some false := rfl
@[simp] theorem isN_t {xs : List D} : cmpV .isN (.d (.tup xs)) (.d .non) = some false := rfl
@[simp] theorem notN_t {xs : List D} : cmpV .notN (.d (.tup xs)) (.d .non) = some true := rfl
@[simp] theorem isN_l {xs : List D} : cmpV .isN (.d (.lst xs)) (.d .non) = some false := rfl
@[simp] theorem notN_l {xs : List D} : cmpV .notN (.d (.lst xs)) (.d .non) = some true := rfl
@[simp] theorem isN_i {i : Int} : cmpV .isN (.d (.int i)) (.d .non) = some false := rfl
@[simp] theorem isN_T (p : Cq) : cmpV .isN (.d (T p)) (.d .non) = some false := rfl
@[simp] theorem isN_N (p : Cq) : cmpV .isN (.d (Nm p)) (.d .non) = some false := rfl
@[simp] theorem notN_T (p : Cq) : cmpV .notN (.d (T p)) (.d .non) = some true := rfl
@[simp] theorem notN_N (p : Cq) : cmpV .notN (.d (Nm p)) (.d .non) = some true := rfl
@[simp] theorem evF_rep {G : Gam} {f : Fx} {b : Xp} {L : Loc} {S : Store} : evF G (.rep f b) L S = bnd (evF G f L S) fun l S1 => bnd (evX G b L S1) fun y S2 => lft (match y with
      | .d (.int k) => if 0 ≤ k ∧ k < 2 ^ 63 ∧ l.length * k.toNat ≤ line then some (List.replicate k.toNat l).flatten else none
      | _ => none) S2 := rfl
theorem rep2 (d : D) : (List.replicate (2 : Int).toNat [d]).flatten = [d, d] := rfl
end PD

set_option Elab.async false
set_option linter.all false
set_option autoImplicit false
set_option maxRecDepth 100000
set_option maxHeartbeats 2000000
namespace PD
open PySem PySem.Spec PyProof.Rows L2
section
variable {i : Int} {b : Bool} {xs : List D} {z : Str}
@[simp] theorem isi1 : isiV (.d (.int i)) "int" = some true := rfl
@[simp] theorem isi2 : isiV (.d (.int i)) "bool" = some false := rfl
@[simp] theorem isi3 : isiV (.d (.bl b)) "int" = some true := rfl
@[simp] theorem isi4 : isiV (.d (.bl b)) "bool" = some true := rfl
@[simp] theorem isi5 : isiV (.d (.tup xs)) "tuple" = some true := rfl
@[simp] theorem isi6 : isiV (.d (.int i)) "tuple" = some false := rfl
@[simp] theorem isi7 : isiV (.d (.lst xs)) "tuple" = some false := rfl
@[simp] theorem isi8 : isiV (.d .non) "tuple" = some false := rfl
@[simp] theorem isi9 : isiV (.d (.str z)) "tuple" = some false := rfl
@[simp] theorem isi10 : isiV (.d (.tup xs)) "int" = some false := rfl
@[simp] theorem isi11 : isiV (.d (.bl b)) "tuple" = some false := rfl
end
theorem mulN_1 (p q : Cq) : Rat.divInt (p.1.num * q.1.num * p.2.den * q.2.den - p.2.num * q.2.num * p.1.den * q.1.den) (p.1.den * p.2.den * q.1.den * q.2.den) = (mulN p q).1 := by
  refine divInt_eq (Int.mul_ne_zero (Int.mul_ne_zero (Int.mul_ne_zero (den_ne _) (den_ne _)) (den_ne _)) (den_ne _)) ?_
  simp only [Rat.intCast_mul, Rat.intCast_sub, nd p.1, nd p.2, nd q.1, nd q.2, mulN]
  grind
theorem mulN_2 (p q : Cq) : Rat.divInt (p.1.num * q.2.num * p.2.den * q.1.den + p.2.num * q.1.num * p.1.den * q.2.den) (p.1.den * p.2.den * q.1.den * q.2.den) = (mulN p q).2 := by
  refine divInt_eq (Int.mul_ne_zero (Int.mul_ne_zero (Int.mul_ne_zero (den_ne _) (den_ne _)) (den_ne _)) (den_ne _)) ?_
  simp only [Rat.intCast_mul, Rat.intCast_add, nd p.1, nd p.2, nd q.1, nd q.2, mulN]
  grind
theorem sizN_1 (p : Cq) : Rat.divInt (p.1.num * p.1.num * p.2.den * p.2.den + p.2.num * p.2.num * p.1.den * p.1.den) (p.1.den * p.1.den * p.2.den * p.2.den) = sizN p := by
  refine divInt_eq (Int.mul_ne_zero (Int.mul_ne_zero (Int.mul_ne_zero (den_ne _) (den_ne _)) (den_ne _)) (den_ne _)) ?_
  simp only [Rat.intCast_mul, Rat.intCast_add, nd p.1, nd p.2, sizN]
  grind
theorem ok2 {k : Nat} {a b : Int} (ha : sz k a) (hb : sz k b) (h : k ≤ 9000) : okMul a b = true := okMul_sz ha hb (by omega)
theorem ok3 {k : Nat} {a b c : Int} (ha : sz k a) (hb : sz k b) (hc : sz k c) (h : k ≤ 9000) : okMul (a * b) c = true := okMul_sz (ha.mul hb) hc (by omega)
theorem ok4 {k : Nat} {a b c d : Int} (ha : sz k a) (hb : sz k b) (hc : sz k c) (hd : sz k d) (h : k ≤ 9000) : okMul (a * b * c) d = true := okMul_sz ((ha.mul hb).mul hc) hd (by omega)
theorem sz4 {k : Nat} {a b c d : Int} (ha : sz k a) (hb : sz k b) (hc : sz k c) (hd : sz k d) : sz (4 * k) (a * b * c * d) := (((ha.mul hb).mul hc).mul hd).mono (by omega)
theorem one_sz : Sz 1 (1 : Rat) := ⟨by unfold sz; decide, by unfold sz; decide⟩
theorem F_one : F 1 = .tup [.int 1, .int 1] := rfl
theorem F_zero : F 0 = .tup [.int 0, .int 1] := rfl
theorem Nm_c0 : Nm c0 = .tup [.tup [.int 0, .int 1], .tup [.int 0, .int 1]] := rfl
theorem Nm_c1 : Nm c1 = .tup [.tup [.int 1, .int 1], .tup [.int 0, .int 1]] := rfl
theorem Sz.neg {k : Nat} {r : Rat} (h : Sz k r) : Sz k (-r) := ⟨by rw [Rat.neg_num]; exact h.n.neg, by rw [Rat.neg_den]; exact h.d⟩
theorem Sz.mul {k l : Nat} {x y : Rat} (h : Sz k x) (h' : Sz l y) : Sz (k + l) (x * y) := by
  rw [← mul_eq]
  exact Sz.div (h.n.mul h'.n) (h.d.mul h'.d) (Int.mul_ne_zero (den_ne _) (den_ne _))
theorem Sz.add {k l : Nat} {x y : Rat} (h : Sz k x) (h' : Sz l y) : Sz (k + l + 1) (x + y) := by
  rw [← add_eq]
  refine Sz.div ((h.n.mul h'.d).add ((h'.n.mul h.d).mono (by omega))) ((h.d.mul h'.d).mono (by omega)) (Int.mul_ne_zero (den_ne _) (den_ne _))
theorem Sz.sub {k l : Nat} {x y : Rat} (h : Sz k x) (h' : Sz l y) : Sz (k + l + 1) (x - y) := by
  rw [← sub_eq]
  refine Sz.div ((h.n.mul h'.d).sub ((h'.n.mul h.d).mono (by omega))) ((h.d.mul h'.d).mono (by omega)) (Int.mul_ne_zero (den_ne _) (den_ne _))
theorem Sz.over {k l : Nat} {x y : Rat} (h : Sz k x) (h' : Sz l y) (h0 : y ≠ 0) : Sz (k + l) (x / y) := by
  rw [← over_eq x y h0]
  exact Sz.div (h.n.mul h'.d) (h.d.mul h'.n) (Int.mul_ne_zero (den_ne _) (num_ne h0))
/-- fractions are alike exactly if the numbers are -/
theorem F_inj {x y : Rat} : (x.num = y.num ∧ (x.den : Int) = y.den) ↔ x = y := by
  constructor
  · rintro ⟨h1, h2⟩
    exact Rat.ext h1 (by omega)
  · rintro rfl
    exact ⟨rfl, rfl⟩
theorem eqOk_F {x : Rat} : eqOk (F x) = true := rfl
theorem eqOk_Nm {q : Cq} : eqOk (Nm q) = true := rfl
theorem eqOk_T {q : Cq} : eqOk (T q) = true := rfl
theorem eqD_F {x y : Rat} : eqD (F x) (F y) = decide (x = y) := by
  have e : eqD (F x) (F y) = (x.num == y.num && ((x.den : Int) == y.den && true)) := by simp [eqD, F, D.py, D.pys, PySem.PyData.eqv, PySem.PyData.eqvAll]
  rw [e]
  by_cases h : x = y
  · subst h; simp
  · rw [decide_eq_false h]
    cases q : (x.num == y.num && ((x.den : Int) == y.den && true)) with
    | false => rfl
    | true =>
      exfalso
      simp only [Bool.and_true, Bool.and_eq_true, beq_iff_eq] at q
      exact h (F_inj.mp q)
theorem eqD_Nm {p q : Cq} : eqD (Nm p) (Nm q) = decide (p = q) := by
  have e : eqD (Nm p) (Nm q) = (eqD (F p.1) (F q.1) && (eqD (F p.2) (F q.2) && true)) := by simp [eqD, Nm, F, D.py, D.pys, PySem.PyData.eqv, PySem.PyData.eqvAll]
  rw [e, eqD_F, eqD_F, Bool.and_true]
  by_cases h : p = q
  · subst h; simp
  · rw [decide_eq_false h]
    cases z : (decide (p.1 = q.1) && decide (p.2 = q.2)) with
    | false => rfl
    | true =>
      simp only [Bool.and_eq_true, decide_eq_true_eq] at z
      exact absurd (Prod.ext z.1 z.2) h
theorem eqD_T {p q : Cq} : eqD (T p) (T q) = decide (p = q) := by
  have e : eqD (T p) (T q) = ((t3 p).1 == (t3 q).1 && ((t3 p).2.1 == (t3 q).2.1 && ((t3 p).2.2 == (t3 q).2.2 && true))) := by simp [eqD, T, D.py, D.pys, PySem.PyData.eqv, PySem.PyData.eqvAll]
  rw [e]
  by_cases h : p = q
  · subst h; simp
  · rw [decide_eq_false h]
    cases z : ((t3 p).1 == (t3 q).1 && ((t3 p).2.1 == (t3 q).2.1 && ((t3 p).2.2 == (t3 q).2.2 && true))) with
    | false => rfl
    | true =>
      simp only [Bool.and_true, Bool.and_eq_true, beq_iff_eq] at z
      exact absurd (t3_inj (Prod.ext z.1 (Prod.ext z.2.1 z.2.2))) h
theorem cmp_F {x y : Rat} : cmpV .eq (.d (F x)) (.d (F y)) = some (decide (x = y)) := by
  show (if (eqOk (F x) && eqOk (F y)) = true then some (eqD (F x) (F y)) else none) = _
  rw [eqOk_F, eqOk_F, eqD_F]; rfl
theorem cmpn_F {x y : Rat} : cmpV .ne (.d (F x)) (.d (F y)) = some (!decide (x = y)) := by
  show (if (eqOk (F x) && eqOk (F y)) = true then some (!eqD (F x) (F y)) else none) = _
  rw [eqOk_F, eqOk_F, eqD_F]; rfl
theorem cmp_Nm {x y : Cq} : cmpV .eq (.d (Nm x)) (.d (Nm y)) = some (decide (x = y)) := by
  show (if (eqOk (Nm x) && eqOk (Nm y)) = true then some (eqD (Nm x) (Nm y)) else none) = _
  rw [eqOk_Nm, eqOk_Nm, eqD_Nm]; rfl
theorem cmpn_Nm {x y : Cq} : cmpV .ne (.d (Nm x)) (.d (Nm y)) = some (!decide (x = y)) := by
  show (if (eqOk (Nm x) && eqOk (Nm y)) = true then some (!eqD (Nm x) (Nm y)) else none) = _
  rw [eqOk_Nm, eqOk_Nm, eqD_Nm]; rfl
theorem cmp_Tr {x y : Cq} : cmpV .eq (.d (T x)) (.d (T y)) = some (decide (x = y)) := by
  show (if (eqOk (T x) && eqOk (T y)) = true then some (eqD (T x) (T y)) else none) = _
  rw [eqOk_T, eqOk_T, eqD_T]; rfl
theorem cmpn_Tr {x y : Cq} : cmpV .ne (.d (T x)) (.d (T y)) = some (!decide (x = y)) := by
  show (if (eqOk (T x) && eqOk (T y)) = true then some (!eqD (T x) (T y)) else none) = _
  rw [eqOk_T, eqOk_T, eqD_T]; rfl
theorem cmp_Nm0 {x : Cq} : cmpV .eq (.d (Nm x)) (.d (.tup [.tup [.int 0, .int 1], .tup [.int 0, .int 1]])) = some (decide (x = 0)) := cmp_Nm (y := c0)
theorem cmp_Nm1 {x : Cq} : cmpV .eq (.d (Nm x)) (.d (.tup [.tup [.int 1, .int 1], .tup [.int 0, .int 1]])) = some (decide (x = 1)) := cmp_Nm (y := c1)
theorem cmp_F1 {x : Rat} : cmpV .eq (.d (F x)) (.d (.tup [.int 1, .int 1])) = some (decide (x = 1)) := cmp_F (y := 1)
theorem sgn_sub (x y : Rat) : (y.num * x.den < x.num * y.den ↔ y < x) ∧ (x.num * y.den - y.num * x.den < 0 ↔ x < y) := by
  constructor
  · rw [Rat.lt_iff]
  · rw [Rat.lt_iff]; omega
theorem num_pos {x : Rat} (h : 0 < x) : 0 < x.num := by
  have := (Rat.lt_iff 0 x).mp h
  simpa using this
end PD
namespace W
open PySem PySem.Spec PyProof.Rows L2 PD
section
variable {S : Store} {k l : Nat} {p q : Cq} {x y : Rat} {i j : Int} {b : Bool} {xs : List D} {z : Str}
theorem r_red {n m : Int} {k : Nat} {S : Store} (h : m ≠ 0) (hm : sz k m) (hk : k < 9000) : runF G_frac_reduced 3 b_frac_reduced [.int n, .int m] S = some (F (Rat.divInt n m), S) := by
  obtain ⟨g1, g2⟩ := gcd_sz (n := n) h
  have ok : okDiv (if 0 < m then ((Nat.gcd n.natAbs m.natAbs : Nat) : Int) else -((Nat.gcd n.natAbs m.natAbs : Nat) : Int)) = true := by
    refine okDiv_sz (k := k) ?_ ?_ hk
    · refine hm.le ?_
      split <;> omega
    · split <;> omega
  rw [runF_eq]
  by_cases hp : 0 < m
  · have e := red_F (n := n) h
    simp only [hp, if_true] at e ok
    simp [b_frac_reduced, G_frac_reduced, hp, ok]
    exact e
  · have e := red_F (n := n) h
    simp only [hp, if_false] at e ok
    simp [b_frac_reduced, G_frac_reduced, hp, ok]
    exact e
theorem r_frac_sum (hx : Sz k x) (hy : Sz l y) (h : k + l < 9000) : runF G_frac_sum 2 b_frac_sum [F x, F y] S = some (F (x + y), S) := by
  rw [runF_eq]
  have o1 := okMul_sz hx.n hy.d (by omega)
  have o2 := okMul_sz hy.n hx.d (by omega)
  have o3 := okMul_sz hx.d hy.d (by omega)
  have e := r_red (n := x.num * y.den + y.num * x.den) (S := S) (Int.mul_ne_zero (den_ne x) (den_ne y)) (hx.d.mul hy.d) h
  rw [add_eq] at e
  simp only [F] at e ⊢
  simp [b_frac_sum, G_frac_sum, o1, o2, o3, e_frac_reduced_2, pick, e]
theorem r_frac_less (hx : Sz k x) (hy : Sz l y) (h : k + l < 9000) : runF G_frac_less 2 b_frac_less [F x, F y] S = some (F (x - y), S) := by
  rw [runF_eq]
  have o1 := okMul_sz hx.n hy.d (by omega)
  have o2 := okMul_sz hy.n hx.d (by omega)
  have o3 := okMul_sz hx.d hy.d (by omega)
  have e := r_red (n := x.num * y.den - y.num * x.den) (S := S) (Int.mul_ne_zero (den_ne x) (den_ne y)) (hx.d.mul hy.d) h
  rw [sub_eq] at e
  simp only [F] at e ⊢
  simp [b_frac_less, G_frac_less, o1, o2, o3, e_frac_reduced_2, pick, e]
theorem r_frac_product (hx : Sz k x) (hy : Sz l y) (h : k + l < 9000) : runF G_frac_product 2 b_frac_product [F x, F y] S = some (F (x * y), S) := by
  rw [runF_eq]
  have o1 := okMul_sz hx.n hy.n (by omega)
  have o3 := okMul_sz hx.d hy.d (by omega)
  have e := r_red (n := x.num * y.num) (S := S) (Int.mul_ne_zero (den_ne x) (den_ne y)) (hx.d.mul hy.d) h
  rw [mul_eq] at e
  simp only [F] at e ⊢
  simp [b_frac_product, G_frac_product, o1, o3, e_frac_reduced_2, pick, e]
theorem r_frac_over (hx : Sz k x) (hy : Sz l y) (hy0 : y ≠ 0) (h : k + l < 9000) : runF G_frac_over 2 b_frac_over [F x, F y] S = some (F (x / y), S) := by
  rw [runF_eq]
  have o1 := okMul_sz hx.n hy.d (by omega)
  have o3 := okMul_sz hx.d hy.n (by omega)
  have e := r_red (n := x.num * y.den) (S := S) (Int.mul_ne_zero (den_ne x) (num_ne hy0)) (hx.d.mul hy.n) h
  rw [over_eq x y hy0] at e
  simp only [F] at e ⊢
  simp [b_frac_over, G_frac_over, o1, o3, e_frac_reduced_2, pick, e]
theorem r_is_whole_i : runF G_is_whole 1 b_is_whole [.int i] S = some (.bl true, S) := by
  rw [runF_eq]; simp [b_is_whole, G_is_whole]
theorem r_is_frac_ij : runF G_is_frac 1 b_is_frac [.tup [.int i, .int j]] S = some (.bl (decide (0 < j) && decide (Nat.gcd i.natAbs j.natAbs = 1)), S) := by
  rw [runF_eq]
  simp [b_is_frac, G_is_frac, e_is_whole_1, pick, r_is_whole_i]
  by_cases h : 0 < j
  · simp [h]
    omega
  · simp [h]
theorem r_is_frac_F : runF G_is_frac 1 b_is_frac [F x] S = some (.bl true, S) := by
  have h := x.reduced
  have e : F x = .tup [.int x.num, .int x.den] := rfl
  rw [e, r_is_frac_ij, decide_eq_true (den_pos x)]
  have h2 : Nat.gcd x.num.natAbs (x.den : Int).natAbs = 1 := by rw [Int.natAbs_natCast]; exact h
  rw [decide_eq_true h2]
  rfl
theorem r_is_num_N : runF G_is_num 1 b_is_num [Nm p] S = some (.bl true, S) := by
  rw [runF_eq]
  simp [b_is_num, G_is_num, e_is_frac_1, pick, Nm, r_is_frac_F]
theorem r_num_sum (hp : hb k p) (hq : hb l q) (h : k + l < 9000) : runF G_num_sum 2 b_num_sum [Nm p, Nm q] S = some (Nm (p + q), S) := by
  show _ = some (Nm (addN p q), S)
  rw [runF_eq]
  simp [b_num_sum, G_num_sum, Nm, e_frac_sum_2, pick, r_frac_sum hp.szn.1 hq.szn.1 h, r_frac_sum hp.szn.2 hq.szn.2 h, addN]
theorem r_num_less (hp : hb k p) (hq : hb l q) (h : k + l < 9000) : runF G_num_less 2 b_num_less [Nm p, Nm q] S = some (Nm (p - q), S) := by
  show _ = some (Nm (subN p q), S)
  rw [runF_eq]
  simp [b_num_less, G_num_less, Nm, e_frac_less_2, pick, r_frac_less hp.szn.1 hq.szn.1 h, r_frac_less hp.szn.2 hq.szn.2 h, subN]
theorem r_num_mirrored : runF G_num_mirrored 1 b_num_mirrored [Nm p] S = some (Nm (conN p), S) := by
  rw [runF_eq]
  simp [b_num_mirrored, G_num_mirrored, Nm, F, conN, Rat.neg_num, Rat.neg_den]
theorem r_num_product (hp' : hb k p) (hq' : hb l q) (h : k + l < 2200) : runF G_num_product 11 b_num_product [Nm p, Nm q] S = some (Nm (p * q), S) := by
  show _ = some (Nm (mulN p q), S)
  obtain ⟨⟨a, b⟩, c, d⟩ := hp'.szn.mono (show k ≤ k + l by omega)
  obtain ⟨⟨e, f⟩, g, h'⟩ := hq'.szn.mono (show l ≤ k + l by omega)
  have hk : k + l ≤ 9000 := by omega
  have nz : ((p.1.den : Int) * p.2.den * q.1.den * q.2.den) ≠ 0 := Int.mul_ne_zero (Int.mul_ne_zero (Int.mul_ne_zero (den_ne _) (den_ne _)) (den_ne _)) (den_ne _)
  have hu := sz4 b d f h'
  have e1 := r_red (n := p.1.num * q.1.num * p.2.den * q.2.den - p.2.num * q.2.num * p.1.den * q.1.den) (S := S) nz hu (by omega)
  have e2 := r_red (n := p.1.num * q.2.num * p.2.den * q.1.den + p.2.num * q.1.num * p.1.den * q.2.den) (S := S) nz hu (by omega)
  rw [mulN_1] at e1
  rw [mulN_2] at e2
  rw [runF_eq]
  simp [b_num_product, G_num_product, Nm, F, e_frac_reduced_2, pick, ok2 b d hk, ok3 b d f hk, ok4 b d f h' hk, ok2 a e hk, ok3 a e d hk, ok4 a e d h' hk, ok2 c g hk, ok3 c g b hk, ok4 c g b f hk,
    ok2 a g hk, ok3 a g d hk, ok4 a g d f hk, ok2 c e hk, ok3 c e b hk, ok4 c e b h' hk]
  simp only [F] at e1 e2
  simp [e1, e2]
theorem r_num_size (hp' : hb k p) (h : k < 2200) : runF G_num_size 5 b_num_size [Nm p] S = some (F (sizN p), S) := by
  obtain ⟨⟨a, b⟩, c, d⟩ := hp'.szn
  have hk : k ≤ 9000 := by omega
  have nz : ((p.1.den : Int) * p.1.den * p.2.den * p.2.den) ≠ 0 := Int.mul_ne_zero (Int.mul_ne_zero (Int.mul_ne_zero (den_ne _) (den_ne _)) (den_ne _)) (den_ne _)
  have e1 := r_red (n := p.1.num * p.1.num * p.2.den * p.2.den + p.2.num * p.2.num * p.1.den * p.1.den) (S := S) nz (sz4 b b d d) (by omega)
  rw [sizN_1] at e1
  rw [runF_eq]
  simp [b_num_size, G_num_size, Nm, F, e_frac_reduced_2, pick, ok2 b b hk, ok3 b b d hk, ok4 b b d d hk, ok2 a a hk, ok3 a a d hk, ok4 a a d d hk, ok2 c c hk, ok3 c c b hk, ok4 c c b b hk]
  simp only [F] at e1
  simp [e1]
theorem r_num_scaled (hp : hb k p) (hx : Sz l x) (h : k + l < 9000) : runF G_num_scaled 2 b_num_scaled [Nm p, F x] S = some (Nm (p * re x), S) := by
  rw [← scl_eq]
  rw [runF_eq]
  simp [b_num_scaled, G_num_scaled, Nm, e_frac_product_2, pick, r_frac_product hp.szn.1 hx h, r_frac_product hp.szn.2 hx h, sclN]
theorem r_num_over (hp : hb k p) (hq : hb l q) (hq0 : q ≠ 0) (h : k + 3 * l < 2100) : runF G_num_over 2 b_num_over [Nm p, Nm q] S = some (Nm (p / q), S) := by
  have h1 := r_num_product (S := S) hp hq.con (by omega)
  have h2 := r_num_size (S := S) hq (by omega)
  have sq := hq.siz
  have h3 := r_frac_over (S := S) one_sz sq (sizN_ne hq0) (by omega)
  have h4 := r_num_scaled (S := S) (show hb _ (p * conN q) from hp.mul hq.con) (one_sz.over sq (sizN_ne hq0)) (by omega)
  have e : p * conN q * re (1 / sizN q) = p / q := by rw [← scl_eq, ← ovr_eq]; rfl
  rw [e] at h4
  rw [F_one] at h3
  rw [runF_eq]
  simp [b_num_over, G_num_over, c_FRAC_ONE, e_num_scaled_2, e_num_product_2, e_num_mirrored_1, e_frac_over_2, e_num_size_1, pick, r_num_mirrored, h1, h2, h3, h4]
end
end W

set_option Elab.async false
set_option linter.all false
set_option autoImplicit false
set_option maxRecDepth 100000
set_option maxHeartbeats 2000000
namespace PD
open PySem PySem.Spec PyProof.Rows L2
/-- the pot of draws stands in cell n, N draws at most were made -/
def Pl (Bs : Store) (N : Nat) (S : Store) (n : Nat) : Prop := (∃ a b c : Int, S[n]? = some [.int a, .int b, .int c] ∧ 0 ≤ a ∧ 0 ≤ b ∧ b < 2147483629 ∧ 0 ≤ c ∧ c ≤ N) ∧ S.length = Bs.length ∧ ∀ i, i ≠ n → S[i]? = Bs[i]?
theorem Pl.mono {Bs : Store} {N M : Nat} {S : Store} {n : Nat} (h : Pl Bs N S n) (le : N ≤ M) : Pl Bs M S n := by
  obtain ⟨⟨a, b, c, h1, h2, h3, h4, h5, h6⟩, h7⟩ := h
  exact ⟨⟨a, b, c, h1, h2, h3, h4, h5, by omega⟩, h7⟩
theorem Pl.base {Bs : Store} {N : Nat} {S : Store} {n : Nat} (h : Pl Bs N S n) : Pl S N S n := ⟨h.1, rfl, fun _ _ => rfl⟩
theorem Pl.at {Bs : Store} {N : Nat} {S : Store} {n : Nat} (h : Pl Bs N S n) {i : Nat} (hi : i ≠ n) : S[i]? = Bs[i]? := h.2.2 i hi
theorem Pl.len {Bs : Store} {N : Nat} {S : Store} {n : Nat} (h : Pl Bs N S n) : S.length = Bs.length := h.2.1
theorem Pl.lt {Bs : Store} {N : Nat} {S : Store} {n : Nat} (h : Pl Bs N S n) : n < S.length := by
  obtain ⟨⟨a, b, c, h1, _⟩, _⟩ := h
  exact (List.getElem?_eq_some_iff.mp h1).1
theorem Pl.trans {Bs S T : Store} {N M : Nat} {n : Nat} (h : Pl Bs N S n) (h' : Pl S M T n) : Pl Bs M T n := ⟨h'.1, h'.2.1.trans h.2.1, fun i hi => (h'.2.2 i hi).trans (h.2.2 i hi)⟩
/-- another cell is written -/
theorem Pl.wrote {Bs S : Store} {N n c : Nat} {row : List D} (h : Pl Bs N S n) (hc : c ≠ n) : Pl (S.set c row) N (S.set c row) n := by
  obtain ⟨⟨a, b, d, h1, r⟩, _⟩ := h
  exact ⟨⟨a, b, d, by rw [List.getElem?_set_ne hc]; exact h1, r⟩, rfl, fun _ _ => rfl⟩
/-- new cells -/
theorem Pl.more {Bs S T : Store} {N n : Nat} (h : Pl Bs N S n) : Pl (S ++ T) N (S ++ T) n := by
  obtain ⟨⟨a, b, d, h1, r⟩, _⟩ := h
  exact ⟨⟨a, b, d, by rw [List.getElem?_append_left (List.getElem?_eq_some_iff.mp h1).1]; exact h1, r⟩, rfl, fun _ _ => rfl⟩
theorem fm_nn (a : Int) {b : Int} (h : 0 < b) : 0 ≤ a.fmod b := by
  rw [Int.fmod_eq_emod_of_nonneg _ (by omega)]
  exact Int.emod_nonneg _ (by omega)
theorem fm_lt (a : Int) {b : Int} (h : 0 < b) : a.fmod b < b := by
  rw [Int.fmod_eq_emod_of_nonneg _ (by omega)]
  exact Int.emod_lt_of_pos _ h
theorem sz_of {k : Nat} {i : Int} (h1 : -(2 ^ k : Nat) < i) (h2 : i < (2 ^ k : Nat)) : sz k i := by
  unfold sz
  omega
@[simp] theorem ixN30 : ixN 3 0 = some 0 := rfl
@[simp] theorem ixN31 : ixN 3 1 = some 1 := rfl
@[simp] theorem ixN32 : ixN 3 2 = some 2 := rfl
theorem atI_mem {α : Type} {xs : List α} {i : Int} (h0 : 0 ≤ i) (h : i < xs.length) : ∃ x ∈ xs, atI xs i = some x := by
  unfold atI ixN
  have hi : i.toNat < xs.length := by omega
  refine ⟨xs[i.toNat], List.getElem_mem _, ?_⟩
  simp [h0, h, hi]
@[simp] theorem biV_reprL {xs : List D} : biV .repr [.d (.lst xs)] = if shOk (.lst xs) then some (.str (D.lst xs).py.shown) else none := rfl
@[simp] theorem biV_reprT {xs : List D} : biV .repr [.d (.tup xs)] = if shOk (.tup xs) then some (.str (D.tup xs).py.shown) else none := rfl
theorem forL_nil {step : D → Loc → Store → Option ((Fl × Loc) × Store)} {L : Loc} {S : Store} : forL step [] L S = some ((.nx, L), S) := rfl
theorem forL_cons {step : D → Loc → Store → Option ((Fl × Loc) × Store)} {d : D} {ds : List D} {L : Loc} {S : Store} : forL step (d :: ds) L S = bnd (step d L S) fun r S1 => match r.1 with
    | .nx => forL step ds r.2 S1
    | .cnt => forL step ds r.2 S1
    | .brk => some ((.nx, r.2), S1)
    | .ret x => some ((.ret x, r.2), S1) := rfl
end PD
namespace W
open PySem PySem.Spec PyProof.Rows L2 PD
section
variable {Bs S : Store} {k l N n : Nat} {p q : Cq} {x y : Rat}
def gcdW : Sm := .wh (.cmp .gt (.nm 1) (.lit (.int 0))) (.cons (.par [0, 1] (.cons (.nm 1) (.cons (.bin .mod (.bi .int1 (.cons (.nm 0) .nil)) (.nm 1)) .nil))) .nil)
theorem gcd_loop (b : Nat) : ∀ (a : Nat), evS G_Lcommon gcdW [.dat (.int a), .dat (.int b)] S = some ((.nx, [.dat (.int (Nat.gcd a b : Nat)), .dat (.int 0)]), S) := by
  induction b using Nat.strongRecOn with
  | _ b ih =>
    intro a
    by_cases h : b = 0
    · subst h
      unfold gcdW
      rw [wh_stop (S1 := S) (by simp)]
      simp
    · have hb : (0 : Int) < b := by omega
      have hb1 : 0 < b := by omega
      have e : Int.fmod (a : Int) (b : Int) = ((a % b : Nat) : Int) := by rw [Int.fmod_eq_emod_of_nonneg _ (by omega)]; rfl
      have z := ih (a % b) (Nat.mod_lt _ (by omega)) b
      rw [show Nat.gcd b (a % b) = Nat.gcd a b by rw [Nat.gcd_comm a b, Nat.gcd_rec b a, Nat.gcd_comm]] at z
      rw [← z]
      unfold gcdW
      refine wh_go (S1 := S) ?_ ?_
      · simp [hb1]
      · simp [h, e]
theorem r_Lcommon {a b : Int} : runF G_Lcommon 2 b_Lcommon [.int a, .int b] S = some (.int ((Nat.gcd a.natAbs b.natAbs : Nat) : Int), S) := by
  have ab : ∀ i : Int, (if i < 0 then -i else i) = (i.natAbs : Int) := fun i => by split <;> omega
  have z := gcd_loop (S := S) b.natAbs a.natAbs
  rw [runF_eq]
  unfold gcdW at z
  simp [b_Lcommon, ab, z]
theorem r_Lfraction {n m : Int} (h : 0 < m) (hm : sz k m) (hk : k < 9000) : runF G_Lfraction 3 b_Lfraction [.int n, .int m] S = some (F (Rat.divInt n m), S) := by
  obtain ⟨g1, g2⟩ := gcd_sz (n := n) (by omega : m ≠ 0)
  have ok : okDiv ((Nat.gcd n.natAbs m.natAbs : Nat) : Int) = true := okDiv_sz (k := k) (hm.le (by omega)) (by omega) hk
  have e := red_F (n := n) (by omega : m ≠ 0)
  simp only [h, if_true] at e
  rw [runF_eq]
  simp [b_Lfraction, G_Lfraction, e_Lcommon_2, pick, r_Lcommon, ok]
  exact e
theorem r_Lcut {a b d : Int} (h : 0 < d) (hd : sz k d) (hk : k < 9000) : runF G_Lcut 4 b_Lcut [.int a, .int b, .int d] S = some (T (q3 a b d), S) := by
  have g0 : 0 < Nat.gcd (Nat.gcd a.natAbs b.natAbs) d.natAbs := Nat.gcd_pos_of_pos_right _ (by omega)
  have gl : Nat.gcd (Nat.gcd a.natAbs b.natAbs) d.natAbs ≤ d.natAbs := Nat.le_of_dvd (by omega) (Nat.gcd_dvd_right _ _)
  have ok : okDiv ((Nat.gcd (Nat.gcd a.natAbs b.natAbs) d.natAbs : Nat) : Int) = true := okDiv_sz (k := k) (hd.le (by omega)) (by omega) hk
  rw [runF_eq]
  have f : ∀ z : Int, z.fdiv ((Nat.gcd (Nat.gcd a.natAbs b.natAbs) d.natAbs : Nat) : Int) = z / ((Nat.gcd (Nat.gcd a.natAbs b.natAbs) d.natAbs : Nat) : Int) := fun z => Int.fdiv_eq_ediv_of_nonneg _ (by omega)
  rw [T_q3 h]
  simp [b_Lcut, G_Lcut, e_Lcommon_2, pick, r_Lcommon, ok, f, red3]
theorem r_Lnumber (h : hb k p) (hk : k < 9000) : runF G_Lnumber 1 b_Lnumber [T p] S = some (Nm p, S) := by
  have e1 := r_Lfraction (n := (t3 p).1) (S := S) (t3_pos p) h.2.2 hk
  have e2 := r_Lfraction (n := (t3 p).2.1) (S := S) (t3_pos p) h.2.2 hk
  have e := t3_q3 p
  rw [runF_eq]
  simp [b_Lnumber, G_Lnumber, e_Lfraction_2, pick, T, e1, e2, Nm]
  exact ⟨by rw [show p.1 = _ from (congrArg Prod.fst e).symm]; rfl, by rw [show p.2 = _ from (congrArg Prod.snd e).symm]; rfl⟩
theorem r_Ltimes (hp : hb k p) (hq : hb l q) (h : k + l < 9000) : runF G_Ltimes 2 b_Ltimes [T p, T q] S = some (T (p * q), S) := by
  show _ = some (T (mulN p q), S)
  have e := q3_mul (a := (t3 p).1) (b := (t3 p).2.1) (a' := (t3 q).1) (b' := (t3 q).2.1) (by have := t3_pos p; omega : (t3 p).2.2 ≠ 0) (by have := t3_pos q; omega : (t3 q).2.2 ≠ 0)
  rw [t3_q3, t3_q3] at e
  obtain ⟨x1, x2, x3⟩ := hp
  obtain ⟨y1, y2, y3⟩ := hq
  have c := r_Lcut (a := (t3 p).1 * (t3 q).1 - (t3 p).2.1 * (t3 q).2.1) (b := (t3 p).1 * (t3 q).2.1 + (t3 p).2.1 * (t3 q).1) (S := S) (Int.mul_pos (t3_pos p) (t3_pos q)) (x3.mul y3) h
  rw [e] at c
  rw [runF_eq]
  have o : ∀ {i j : Int}, sz k i → sz l j → okMul i j = true := fun h1 h2 => okMul_sz h1 h2 (by omega)
  simp [b_Ltimes, G_Ltimes, e_Lcut_3, pick, o x1 y1, o x2 y2, o x1 y2, o x2 y1, o x3 y3, T] at c ⊢
  simp [c]
theorem r_Lover (hp : hb k p) (hq : hb l q) (h0 : q ≠ 0) (h : k + 2 * l < 8900) : runF G_Lover 3 b_Lover [T p, T q] S = some (T (p / q), S) := by
  rw [← ovr_eq]
  have n := sq_pos (t3_ne h0)
  have e := q3_ovr (a := (t3 p).1) (b := (t3 p).2.1) (a' := (t3 q).1) (b' := (t3 q).2.1) (by have := t3_pos p; omega : (t3 p).2.2 ≠ 0) (by have := t3_pos q; omega : (t3 q).2.2 ≠ 0) (by omega)
  rw [t3_q3, t3_q3] at e
  obtain ⟨x1, x2, x3⟩ := hp
  obtain ⟨y1, y2, y3⟩ := hq
  have c := r_Lcut (a := ((t3 p).1 * (t3 q).1 + (t3 p).2.1 * (t3 q).2.1) * (t3 q).2.2) (b := ((t3 p).2.1 * (t3 q).1 - (t3 p).1 * (t3 q).2.1) * (t3 q).2.2) (S := S) (Int.mul_pos (t3_pos p) n) (x3.mul ((y1.mul y1).add (y2.mul y2))) (by omega)
  rw [e] at c
  rw [runF_eq]
  have o : ∀ {i j : Int}, sz k i → sz l j → okMul i j = true := fun h1 h2 => okMul_sz h1 h2 (by omega)
  have o' : ∀ {i j : Int}, sz l i → sz l j → okMul i j = true := fun h1 h2 => okMul_sz h1 h2 (by omega)
  have o3 := okMul_sz ((x1.mul y1).add (x2.mul y2)) y3 (by omega)
  have o4 := okMul_sz ((x2.mul y1).sub (x1.mul y2)) y3 (by omega)
  have o5 := okMul_sz x3 ((y1.mul y1).add (y2.mul y2)) (by omega)
  simp [b_Lover, G_Lover, e_Lcut_3, pick, o x1 y1, o x2 y2, o x1 y2, o x2 y1, o' y1 y1, o' y2 y2, o3, o4, o5, T] at c ⊢
  simp [c]
theorem r_Lmirror : runF G_Lmirror 1 b_Lmirror [T p] S = some (T (conN p), S) := by
  rw [runF_eq, ← T_con]
  simp [b_Lmirror, G_Lmirror, T]
theorem sizT (p : Cq) : q3 ((t3 p).1 * (t3 p).1 + (t3 p).2.1 * (t3 p).2.1) 0 ((t3 p).2.2 * (t3 p).2.2) = (sizN p, 0) := by
  have e := q3_siz (a := (t3 p).1) (b := (t3 p).2.1) (by have := t3_pos p; omega : (t3 p).2.2 ≠ 0)
  rw [t3_q3] at e
  unfold q3
  rw [e, Rat.zero_divInt]
theorem r_Lsize (hp : hb k p) (h : 2 * k < 9000) : runF G_Lsize 1 b_Lsize [T p] S = some (T (re (sizN p)), S) := by
  show _ = some (T (sizN p, 0), S)
  obtain ⟨x1, x2, x3⟩ := hp
  have c := r_Lcut (a := (t3 p).1 * (t3 p).1 + (t3 p).2.1 * (t3 p).2.1) (b := 0) (S := S) (Int.mul_pos (t3_pos p) (t3_pos p)) (x3.mul x3) (by omega)
  rw [sizT] at c
  rw [runF_eq]
  have o : ∀ {i j : Int}, sz k i → sz k j → okMul i j = true := fun h1 h2 => okMul_sz h1 h2 (by omega)
  simp [b_Lsize, G_Lsize, e_Lcut_3, pick, o x1 x1, o x2 x2, o x3 x3, T] at c ⊢
  simp [c]
theorem r_Lis_nought : runF G_Lis_nought 1 b_Lis_nought [T p] S = some (.bl (decide (p = 0)), S) := by
  rw [runF_eq]
  simp [b_Lis_nought, G_Lis_nought, T]
  have e := t3_zero p
  by_cases h : p = (0 : Cq)
  · rw [h] at e ⊢
    obtain ⟨h1, h2⟩ := e.mpr rfl
    simp [h1, h2]
  · simp only [decide_eq_false h]
    by_cases h1 : (t3 p).1 = 0
    · simp [h1]
      intro h2
      exact h (e.mp ⟨h1, h2⟩)
    · simp [h1]
theorem r_Lreal : runF G_Lreal 1 b_Lreal [F x] S = some (T (re x), S) := by
  show _ = some (T (x, 0), S)
  have e : ((x, 0) : Cq) = q3 x.num 0 x.den := by unfold q3; rw [Rat.num_divInt_den, Rat.zero_divInt]
  rw [runF_eq, e]
  have g : Nat.gcd (Nat.gcd x.num.natAbs (0 : Int).natAbs) (x.den : Int).natAbs = 1 := by
    rw [show (0 : Int).natAbs = 0 from rfl, Nat.gcd_zero_right, Int.natAbs_natCast]
    exact x.reduced
  unfold T
  rw [t3_of (den_pos x) g]
  simp [b_Lreal, G_Lreal, F]
theorem r_Ldraw {m : Int} (h : Pl Bs N S n) (hN : N ≤ 1000000) (hm : 0 < m) (hm2 : m < 1073741824) : ∃ v S', runF G_Ldraw 3 b_Ldraw [.cell n, .int m] S = some (.int v, S') ∧ 0 ≤ v ∧ v < m ∧ Pl Bs (N + 1) S' n := by
  obtain ⟨⟨a, b, c, e, h1, h2, h3, h4, h5⟩, hl, hb'⟩ := h
  have hn : n < S.length := (List.getElem?_eq_some_iff.mp e).1
  by_cases ha : 0 < a
  · refine ⟨a % m, S.set n [.int (a / m), .int b, .int c], ?_, Int.emod_nonneg _ (by omega), Int.emod_lt_of_pos _ hm, ⟨a / m, b, c, ?_, Int.ediv_nonneg h1 (by omega), h2, h3, h4, by omega⟩, by rw [List.length_set]; exact hl, fun i hi => by rw [List.getElem?_set_ne (Ne.symm hi)]; exact hb' i hi⟩
    · rw [runF_eq]
      simp [b_Ldraw, G_Ldraw, e, ha, hm, hm2]
    · rw [List.getElem?_set_self hn]
  · have o1 : okMul b 48271 = true := okMul_sz (k := 31) (l := 16) (by unfold sz; omega) (by unfold sz; decide) (by decide)
    have o2 : okMul 37 (c + 1) = true := okMul_sz (k := 6) (l := 31) (by unfold sz; decide) (by unfold sz; omega) (by decide)
    obtain ⟨b', hbb⟩ : ∃ b', (b * 48271 + 37 * (c + 1) + 11).fmod 2147483629 = b' := ⟨_, rfl⟩
    have p1 : 0 ≤ b' := by rw [← hbb]; exact fm_nn _ (by decide)
    have p2 : b' < 2147483629 := by rw [← hbb]; exact fm_lt _ (by decide)
    have o3 : okMul 2 (c + 1) = true := okMul_sz (k := 2) (l := 31) (by unfold sz; decide) (by unfold sz; omega) (by decide)
    have d1 : okDiv 65537 = true := by decide
    have d2 : okDiv 509 = true := by decide
    have f1 : b'.fdiv 65537 = b' / 65537 := Int.fdiv_eq_ediv_of_nonneg _ (by decide)
    have o4 : okMul b' (b'.fdiv 65537 + 2 * (c + 1) + 1) = true := okMul_sz (k := 31) (l := 32) (by unfold sz; omega) (by unfold sz; omega) (by decide)
    refine ⟨((b' * (b'.fdiv 65537 + 2 * (c + 1) + 1)).fdiv 509).fmod m, (S.set n [.int a, .int b, .int (c + 1)]).set n [.int a, .int b', .int (c + 1)], ?_, fm_nn _ hm, fm_lt _ hm, ⟨a, b', c + 1, List.getElem?_set_self (by simpa using hn), h1, p1, p2, by omega, by omega⟩, by rw [List.length_set, List.length_set]; exact hl, fun i hi => by rw [List.getElem?_set_ne (Ne.symm hi), List.getElem?_set_ne (Ne.symm hi)]; exact hb' i hi⟩
    have ne : m ≠ 0 := by omega
    rw [runF_eq]
    have g1 : ∀ xs, (S.set n xs)[n]? = some xs := fun xs => List.getElem?_set_self hn
    have g2 : ∀ xs ys, ((S.set n xs).set n ys)[n]? = some ys := fun xs ys => List.getElem?_set_self (by simpa using hn)
    clear hn
    simp [b_Ldraw, G_Ldraw, e, g1, g2, ha, o1, o2, o3, o4, d1, d2, hbb, ne]
theorem r_Lpick {xs : List D} (h : Pl Bs N S n) (hN : N ≤ 1000000) (h0 : 0 < xs.length) (h1 : xs.length < 1000) : ∃ x S', x ∈ xs ∧ runF G_Lpick 2 b_Lpick [.cell n, .tup xs] S = some (x, S') ∧ Pl Bs (N + 1) S' n := by
  obtain ⟨v, S', e, v0, v1, h'⟩ := r_Ldraw (m := (xs.length : Int)) h hN (by omega) (by omega)
  obtain ⟨x, hx, ex⟩ := atI_mem v0 v1
  refine ⟨x, S', hx, ?_, h'⟩
  rw [runF_eq]
  simp [b_Lpick, G_Lpick, e_Ldraw_2, pick, e, ex]
end
end W

set_option Elab.async false
set_option linter.all false
set_option autoImplicit false
set_option maxRecDepth 100000
set_option maxHeartbeats 2000000
namespace PD
open PySem PySem.Spec PyProof.Rows L2
/-- the told form of a turn -/
def Tn (u c : Cq) : D := .tup [Nm u, Nm c]
def NmO : Option Cq → D
  | none => .non | some p => Nm p
def TOp : Option Cq → D
  | none => .non | some p => T p
theorem sz_real {k : Nat} {x : Rat} (h : Sz k x) : hb (k + 1) (re x) := hb_real h
theorem hb_inv {k : Nat} {x : Rat} (h : Sz k x) (h0 : x ≠ 0) : Sz (k + 1) (1 / x) := (one_sz.over h h0).mono (by omega)
theorem hb_low {k l : Nat} {c : Cq} {t : Rat} (hc : hb k c) (ht : Sz l t) (h0 : t ≠ 0) : hb (k + l + 3) (lowN c t) :=
  (hc.con.mul (sz_real (hb_inv ht h0))).mono (by omega)
theorem hb_1 : hb 1 (1 : Cq) := hb_c1
theorem hb_0 : hb 1 (0 : Cq) := hb_c0
theorem hb.mul' {k l : Nat} {p q : Cq} (h : hb k p) (h' : hb l q) : hb (k + l + 1) (p * q) := h.mul h'
theorem hb.add' {k l : Nat} {p q : Cq} (h : hb k p) (h' : hb l q) : hb (k + l + 1) (p + q) := h.add h'
theorem hb.sub' {k l : Nat} {p q : Cq} (h : hb k p) (h' : hb l q) : hb (k + l + 1) (p - q) := h.sub h'
theorem hb.neg' {k : Nat} {p : Cq} (h : hb k p) : hb k (-p) := h.neg
theorem hb.div' {k l : Nat} {p q : Cq} (h : hb k p) (h' : hb l q) (h0 : q ≠ 0) : hb (k + 2 * l + 1) (p / q) := by
  rw [← ovr_eq]; exact h.ovr h' h0
end PD
namespace W
open PySem PySem.Spec PyProof.Rows L2 PD
section
variable {S : Store} {k l m N n : Nat} {p q u c v d z : Cq} {x y t : Rat}
theorem hb_led (hu : hb m u) (hc : hb k c) (ht : Sz l t) (hz : hb n z) (h0 : t ≠ 0) {w : Cq} (h : ledN u c t z = some w) : hb (m + 3 * n + 3 * k + 2 * l + 15) w := by
  unfold ledN at h
  split at h
  · cases h
  · rename_i e
    cases h
    exact ((hu.mul' (hz.sub' hc)).div' (hb_1.sub' ((hb_low hc ht h0).mul' hz)) e).mono (by omega)
theorem hb_along (hu : hb m u) (hc : hb k c) (hd : hb n d) (ht : Sz l t) (h0 : t ≠ 0) : hb (m + n + k + l + 5) (alongN u c d t) :=
  (hu.add' (hd.mul' (hb_low hc ht h0))).mono (by omega)
theorem hb_rnd (hu : hb m u) (hc : hb k c) (hd : hb n d) (hv : hb N v) (ht : Sz l t) (h0 : t ≠ 0) (ha : alongN u c d t ≠ 0) (hu0 : u ≠ 0) : hb (5 * m + N + 3 * (n + k + l) + 20) (rndN u c v d t) := by
  have a := hb_along hu hc hd ht h0
  refine ((hv.mul' a).div' (hu.mul' a.con) ?_).mono (by omega)
  have : conN (alongN u c d t) ≠ 0 := fun z => ha (con_z z)
  grind
theorem hb_ctr (hu : hb m u) (hc : hb k c) (hd : hb n d) (ht : Sz l t) (h0 : t ≠ 0) (ha : alongN u c d t ≠ 0) : hb (3 * m + 3 * n + 3 * k + 2 * l + 14) (ctrN u c d t) :=
  (((hu.mul' hc).add' hd).div' (hb_along hu hc hd ht h0) ha).mono (by omega)
/-! the law's own -/
theorem r_Lread (h : hb k p) (hk : 3 * k < 4000) : runF G_Lread 1 b_Lread [Nm p] S = some (T p, S) := by
  obtain ⟨⟨a, b⟩, c, d⟩ := h.szn
  have e := r_Lcut (a := p.1.num * p.2.den) (b := p.2.num * p.1.den) (S := S) (dd_pos p) (b.mul d) (by omega)
  rw [q3_self] at e
  have o1 := okMul_sz a d (by omega)
  have o2 := okMul_sz c b (by omega)
  have o3 := okMul_sz b d (by omega)
  rw [runF_eq]
  simp [b_Lread, G_Lread, Nm, F, e_Lcut_3, pick, o1, o2, o3, e]
theorem cmpn_nil : cmpV .ne (.d (.lst [])) (.d (.lst [])) = some false := rfl
theorem r_Lis_fraction : runF G_Lis_fraction 2 b_Lis_fraction [F x] S = some (.bl true, S) := by
  have h := x.reduced
  have h2 : Nat.gcd x.num.natAbs (x.den : Int).natAbs = 1 := by rw [Int.natAbs_natCast]; exact h
  have h3 := den_pos x
  have h4 : 0 < x.den := x.den_pos
  rw [runF_eq]
  simp [b_Lis_fraction, G_Lis_fraction, F, compL, line, e_Lcommon_2, pick, r_Lcommon, h, h4, cmpn_nil]
theorem t3_re (r : Rat) : t3 (re r) = (r.num, 0, (r.den : Int)) := by
  have e : (re r : Cq) = q3 r.num 0 r.den := by unfold q3 re; rw [Rat.num_divInt_den, Rat.zero_divInt]
  have g : Nat.gcd (Nat.gcd r.num.natAbs (0 : Int).natAbs) (r.den : Int).natAbs = 1 := by
    rw [show (0 : Int).natAbs = 0 from rfl, Nat.gcd_zero_right, Int.natAbs_natCast]
    exact r.reduced
  rw [e, t3_of (den_pos r) g]
theorem num_neg' {r : Rat} : r.num < 0 ↔ r < 0 := by
  rw [Rat.lt_iff]
  simp
theorem r_Lis_number : runF G_Lis_number 1 b_Lis_number [Nm p] S = some (.bl true, S) := by
  rw [runF_eq]
  simp [b_Lis_number, G_Lis_number, Nm, e_Lis_fraction_1, pick, r_Lis_fraction]
theorem cmp_nil : cmpV .eq (.d (.lst [])) (.d (.lst [])) = some true := rfl
theorem r_Lis_line2 : runF G_Lis_line 3 b_Lis_line [.tup [Nm u, Nm c], .int 2] S = some (.bl true, S) := by
  rw [runF_eq]
  simp [b_Lis_line, G_Lis_line, e_Lis_number_1, pick, r_Lis_number, compL, line, cmp_nil]
end
end W

set_option Elab.async false
set_option linter.all false
set_option autoImplicit false
set_option maxRecDepth 100000
set_option maxHeartbeats 2000000
namespace PD
open PySem PySem.Spec PyProof.Rows L2
theorem oks {i j : Int} (h : i.natAbs < 2 ^ 40) (h' : j.natAbs < 2 ^ 40) : okMul i j = true := okMul_sz (k := 40) (l := 40) h h' (by decide)
theorem okd {j : Int} (h : j.natAbs < 2 ^ 40) (h0 : j ≠ 0) : okDiv j = true := okDiv_sz (k := 40) h h0 (by decide)
theorem sq_le {a c : Int} (h : a.natAbs ≤ c.natAbs) : a * a ≤ c * c := by
  have e : ∀ z : Int, z * z = ((z.natAbs * z.natAbs : Nat) : Int) := fun z => by rw [← Int.natAbs_mul_self (a := z)]
  rw [e, e c]
  exact_mod_cast Nat.mul_le_mul h h
theorem sq_nn' (a : Int) : 0 ≤ a * a := by
  rcases Int.le_total 0 a with z | z
  · exact Int.mul_nonneg z z
  · exact Int.mul_nonneg_of_nonpos_of_nonpos z z
theorem divInt_lt {a b c d : Int} (hb : 0 < b) (hd : 0 < d) (h : a * d < c * b) : Rat.divInt a b < Rat.divInt c d := by
  have e1 := di (a := a) (d := b) (by omega)
  have e2 := di (a := c) (d := d) (by omega)
  have h' : (a : Rat) * (d : Rat) < (c : Rat) * (b : Rat) := by exact_mod_cast h
  rw [e1, e2] at h'
  have hp : (0 : Rat) < (b : Rat) * (d : Rat) := Rat.mul_pos (by exact_mod_cast hb) (by exact_mod_cast hd)
  generalize Rat.divInt a b = X at *
  generalize Rat.divInt c d = Y at *
  refine Rat.lt_of_mul_lt_mul_right (c := (b : Rat) * d) ?_ (by grind)
  grind
theorem divInt_le {a b c d : Int} (hb : 0 < b) (hd : 0 < d) (h : a * d ≤ c * b) : Rat.divInt a b ≤ Rat.divInt c d := by
  have e1 := di (a := a) (d := b) (by omega)
  have e2 := di (a := c) (d := d) (by omega)
  have h' : (a : Rat) * (d : Rat) ≤ (c : Rat) * (b : Rat) := by exact_mod_cast h
  rw [e1, e2] at h'
  have hp : (0 : Rat) < (b : Rat) * (d : Rat) := Rat.mul_pos (by exact_mod_cast hb) (by exact_mod_cast hd)
  generalize Rat.divInt a b = X at *
  generalize Rat.divInt c d = Y at *
  by_cases q : X ≤ Y
  · exact q
  · exfalso
    have := Rat.mul_lt_mul_of_pos_right (show Y < X by grind) hp
    grind
theorem unit_q3 {m n : Int} (hm : m ≠ 0) : sizN (q3 (m * m - n * n) (2 * m * n) (m * m + n * n)) = 1 := by
  have h := sq_pos (a := m) (b := n) (.inl hm)
  rw [← q3_siz (by omega)]
  refine divInt_eq (Int.mul_ne_zero (by omega) (by omega)) ?_
  rw [show (m * m - n * n) * (m * m - n * n) + 2 * m * n * (2 * m * n) = (m * m + n * n) * (m * m + n * n) by grind]
  grind
theorem q3_lt {a b d : Int} (hd : 0 < d) (h : a * a + b * b < d * d) : sizN (q3 a b d) < 1 := by
  rw [← q3_siz (by omega)]
  have hp : 0 < d * d := Int.mul_pos hd hd
  rw [show (1 : Rat) = Rat.divInt 1 1 by decide +kernel]
  exact divInt_lt hp (by decide) (by omega)
end PD
namespace W
open PySem PySem.Spec PyProof.Rows L2 PD
section
variable {Bs S : Store} {k l m N n : Nat} {p q u c v d z : Cq} {x y t : Rat}
def rootW : Sm := .wh (.cmp .lt (.nm 2) (.nm 1)) (.cons (.par [1, 2] (.cons (.nm 2) (.cons (.bin .fdiv (.bin .add (.nm 2) (.bin .fdiv (.nm 0) (.nm 2))) (.lit (.int 2))) .nil))) .nil)
end
end W

set_option Elab.async false
set_option linter.all false
set_option autoImplicit false
set_option maxRecDepth 100000
set_option maxHeartbeats 2000000
namespace PD
open PySem PySem.Spec PyProof.Rows L2
theorem bits_log {z : Int} (h : Builtin.Int.intBits z ≤ 1048576) : z.natAbs.log2 ≤ 1048576 := by
  unfold Builtin.Int.intBits at h
  split at h
  · rename_i e
    rw [eq_of_beq e]
    decide
  · omega
theorem cut_ints (zs : List Int) (lo hi : Option Int) : PD.cutD (zs.map D.int) lo hi = ((zs.drop (HT.sIx zs.length 0 lo)).take (HT.sIx zs.length zs.length hi - HT.sIx zs.length 0 lo)).map D.int := by
  unfold cutD
  rw [List.length_map, List.map_take, List.map_drop]
theorem atI_ints {zs : List Int} {i : Int} (h0 : 0 ≤ i) (h : i < zs.length) : ∃ z ∈ zs, atI (zs.map D.int) i = some (.int z) := by
  obtain ⟨x, hx, e⟩ := atI_mem (xs := zs) h0 h
  refine ⟨x, hx, ?_⟩
  unfold atI at *
  rw [List.length_map]
  cases q : ixN zs.length i with
  | none => rw [q] at e; cases e
  | some j =>
    rw [q] at e
    have e : zs[j]? = some x := e
    show (zs.map D.int)[j]? = some (.int x)
    rw [List.getElem?_map, e]; rfl
end PD
namespace W
open PySem PySem.Spec PyProof.Rows L2 PD
section
variable {Bs S : Store}
def potB : Sms := .cons (.asg (.nm 2) (.bin .mod (.bi .int1 (.cons (.bin .add (.bin .add (.bin .mul (.nm 2) (.lit (.int 69621))) (.bin .mul (.bi .int1 (.cons (.nm 4) .nil)) (.bin .add (.bin .mul (.lit (.int 2)) (.nm 3)) (.lit (.int 5))))) (.lit (.int 40487))) .nil)) (.lit (.int 2147483629)))) .nil
theorem pot_loop {G : Gam} {A B R : Lv} : ∀ (ds : List D) (j : Nat) (m : Int) (C E : Lv), 0 ≤ m → m < 2147483648 → j + ds.length ≤ 100 → (∀ d ∈ ds, ∃ z : Int, d = .int z ∧ z.natAbs.log2 ≤ 1048576) →
    ∃ m' C' E', forL (fun d L S => bnd (evG G (.tup (.cons (.nm 3) (.cons (.nm 4) .nil))) d L S) fun L2 S2 => evSs G potB L2 S2) (ds.mapIdx fun i d => D.tup [.int ((j + i : Nat) : Int), d]) [A, B, .dat (.int m), C, E, R] S =
      some ((.nx, [A, B, .dat (.int m'), C', E', R]), S) ∧ 0 ≤ m' ∧ m' < 2147483648
  | [], j, m, C, E, h0, h1, _, _ => ⟨m, C, E, rfl, h0, h1⟩
  | d :: ds, j, m, C, E, h0, h1, hj, hd => by
    obtain ⟨z, rfl, hz⟩ := hd d (by simp)
    have o1 : okMul m 69621 = true := okMul_sz (k := 32) (l := 20) (by unfold sz; omega) (by unfold sz; decide) (by decide)
    have lj : (2 * (j : Int) + 5).natAbs.log2 ≤ 10 := (show sz 10 (2 * (j : Int) + 5) by unfold sz; simp only [List.length_cons] at hj; omega).log
    have o2 : okMul z (2 * (j : Int) + 5) = true := by unfold okMul; exact decide_eq_true (by omega)
    have o3 : okMul 2 (j : Int) = true := okMul_sz (k := 2) (l := 10) (by unfold sz; decide) (by unfold sz; simp only [List.length_cons] at hj; omega) (by decide)
    obtain ⟨m1, hm1⟩ : ∃ m1, (m * 69621 + z * (2 * (j : Int) + 5) + 40487).fmod 2147483629 = m1 := ⟨_, rfl⟩
    have p0 : 0 ≤ m1 := by rw [← hm1]; exact fm_nn _ (by decide)
    have p1 : m1 < 2147483629 := by rw [← hm1]; exact fm_lt _ (by decide)
    obtain ⟨m', C', E', e, r⟩ := pot_loop (G := G) (A := A) (B := B) (R := R) ds (j + 1) m1 (.dat (.int j)) (.dat (.int z)) p0 (by omega) (by simp only [List.length_cons] at hj; omega) fun d h => hd d (by simp [h])
    refine ⟨m', C', E', ?_, r⟩
    rw [← e, List.mapIdx_cons]
    have f : (fun (i : Nat) (d : D) => D.tup [.int ((j + (i + 1) : Nat) : Int), d]) = fun (i : Nat) (d : D) => D.tup [.int ((j + 1 + i : Nat) : Int), d] := by
      funext i d
      rw [show j + (i + 1) = j + 1 + i by omega]
    rw [f, forL_cons]
    simp [potB, o1, o2, o3, hm1]
theorem r_Lpot {zs : List Int} {t : Int} (h0 : 0 ≤ t) (h1 : t < 100) (hz : ∀ z ∈ zs, Builtin.Int.intBits z ≤ 1048576) : ∃ S', runF G_Lpot 6 b_Lpot [.lst (zs.map D.int), .int t] S = some (.cell S.length, S') ∧ Pl S' 0 S' S.length := by
  have o1 : okMul 6361 t = true := oks (by decide) (by omega)
  have o2 : okMul 91 t = true := oks (by decide) (by omega)
  have q1 : okPow 10 18 = true := by decide
  obtain ⟨m0, hm0⟩ : ∃ m0, 8117 + 6361 * t = m0 := ⟨_, rfl⟩
  have ds63 : (PD.cutD (zs.map D.int) none (some 63)).length ≤ 63 := by
    unfold PD.cutD HT.sIx
    rw [List.length_take]
    simp
    omega
  obtain ⟨m', C', E', e, p0, p1⟩ := pot_loop (G := G_Lpot) (S := S) (A := .dat (.lst (zs.map D.int))) (B := .dat (.int t)) (R := .un) (PD.cutD (zs.map D.int) none (some 63)) 0 m0 .un .un (by omega) (by omega) (by omega) (by
    intro d hd
    rw [cut_ints] at hd
    obtain ⟨z, hz1, rfl⟩ := List.mem_map.mp hd
    exact ⟨z, rfl, bits_log (hz z (List.mem_of_mem_drop (List.mem_of_mem_take hz1)))⟩)
  have o3 : okMul m' 16807 = true := okMul_sz (k := 32) (l := 20) (by unfold sz; omega) (by unfold sz; decide) (by decide)
  have f : (enumD (PD.cutD (zs.map D.int) none (some 63))) = (PD.cutD (zs.map D.int) none (some 63)).mapIdx fun i d => D.tup [.int ((0 + i : Nat) : Int), d] := by
    unfold enumD
    congr 1
    funext i d
    rw [Nat.zero_add]
  have fin : ∀ own : Int, 0 ≤ own → Pl (S ++ [[D.int (if 1000000000000000000 ≤ own then own else 0), .int ((m' * 16807 + own + 91 * t).fmod 2147483629), .int 0]]) 0 (S ++ [[D.int (if 1000000000000000000 ≤ own then own else 0), .int ((m' * 16807 + own + 91 * t).fmod 2147483629), .int 0]]) S.length := fun own h => by
    refine ⟨⟨_, _, 0, List.getElem?_concat_length, ?_, fm_nn _ (by decide), fm_lt _ (by decide), by decide, by decide⟩, rfl, fun _ _ => rfl⟩
    split <;> omega
  rw [← f] at e
  have e3 : evS G_Lpot (.for_ (.tup (.cons (.nm 3) (.cons (.nm 4) .nil))) (.enum (.fr (.slc (.nm 0) .none (.some (.lit (.int 63)))))) potB) [.dat (.lst (zs.map D.int)), .dat (.int t), .dat (.int m0), .un, .un, .un] S = some ((.nx, [.dat (.lst (zs.map D.int)), .dat (.int t), .dat (.int m'), C', E', .un]), S) := by
    refine ev_for (S1 := S) rfl ?_ e
    simp [slcL, asL, optI, evF_slc]
  rw [runF_eq]
  unfold potB at e3
  by_cases hl : t < zs.length
  · obtain ⟨z, hz1, ez⟩ := atI_ints h0 hl
    have own0 : 0 ≤ (if z < 0 then -z else z) := by split <;> omega
    generalize hown : (if z < 0 then -z else z) = own at own0
    by_cases c : 1000000000000000000 ≤ own
    · refine ⟨_, ?_, fin own own0⟩
      simp [b_Lpot, hm0, o1, o2, o3, q1, e3, hl, ez, hown, c]
    · refine ⟨_, ?_, fin own own0⟩
      simp [b_Lpot, hm0, o1, o2, o3, q1, e3, hl, ez, hown, c]
  · refine ⟨_, ?_, fin 0 (by decide)⟩
    simp [b_Lpot, hm0, o1, o2, o3, q1, e3, hl]
end
end W

set_option Elab.async false
set_option linter.all false
set_option autoImplicit false
set_option maxRecDepth 100000
set_option maxHeartbeats 2000000
namespace PD
open PySem PySem.Spec PyProof.Rows L2
/-- how many numbers stand before the noughts at the end of the first m -/
def trN (ps : List Cq) : Nat → Nat
  | 0 => 0 | m + 1 => if ps[m]? = some 0 then trN ps m else m + 1
def trimN (ps : List Cq) : List Cq := ps.take (trN ps ps.length)
theorem trN_le (ps : List Cq) : ∀ m, trN ps m ≤ m
  | 0 => Nat.le_refl _
  | m + 1 => by
    unfold trN
    split
    · exact Nat.le_succ_of_le (trN_le ps m)
    · exact Nat.le_refl _
theorem atI_natE {α : Type} (xs : List α) (n : Nat) : atI xs (n : Int) = xs[n]? := by
  unfold atI ixN
  by_cases h : n < xs.length
  · simp [h]
  · simp [h]
theorem atI_ofNat {α : Type} (xs : List α) (n : Nat) : atI xs (OfNat.ofNat n : Int) = xs[(OfNat.ofNat n : Nat)]? := atI_natE xs n
theorem cut_take (xs : List D) (m : Nat) (h : m ≤ xs.length) : PD.cutD xs none (some (m : Int)) = xs.take m := by
  unfold PD.cutD HT.sIx
  have e1 : ¬ ((m : Int) < 0) := by omega
  have e2 : min (m : Int) xs.length = m := by omega
  simp [e1]
theorem compL_map {α : Type} {turn : D → Store → Option (Option D × Store)} {S : Store} {g f : α → D} : ∀ (as : List α), (∀ a ∈ as, turn (g a) S = some (some (f a), S)) → compL turn (as.map g) S = some (as.map f, S)
  | [], _ => rfl
  | a :: as, h => by
    rw [List.map_cons, List.map_cons]
    show bnd (turn (g a) S) _ = _
    rw [h a (by simp), bnd_some, compL_map as fun b hb => h b (by simp [hb])]
    rfl
/-- a list or a tuple of these -/
def SeqOf (X : D) (ds : List D) : Prop := X = .tup ds ∨ X = .lst ds
theorem seq_tup {ds : List D} : SeqOf (.tup ds) ds := .inl rfl
theorem seq_lst {ds : List D} : SeqOf (.lst ds) ds := .inr rfl
theorem trN_sub {ps : List Cq} : ∀ {m : Nat} {q : Cq}, ps[m]? = some q → q ≠ 0 → trN ps (m + 1) = m + 1 := fun {m q} h h0 => by
  unfold trN
  rw [h, if_neg fun e => h0 (by cases e; rfl)]
theorem trim_last {ps : List Cq} {q : Cq} (h0 : q ≠ 0) : trimN (ps ++ [q]) = ps ++ [q] := by
  unfold trimN
  rw [List.length_append, List.length_singleton, trN_sub (q := q) (by simp) h0]
  rw [List.take_of_length_le (by simp)]
end PD
namespace W
open PySem PySem.Spec PyProof.Rows L2 PD
section
variable {S : Store} {k l m N n : Nat} {p q u c v d z : Cq} {x y t : Rat} {X : D} {ps : List Cq}
def trimW : Sm := .wh (.and (.cmp .gt (.nm 1) (.lit (.int 0))) (.cmp .eq (.ix (.nm 0) (.bin .sub (.nm 1) (.lit (.int 1)))) (.gc 0))) (.cons (.aug 1 .sub (.lit (.int 1))) .nil)
end
end W

set_option Elab.async false
set_option linter.all false
set_option autoImplicit false
set_option maxRecDepth 100000
set_option maxHeartbeats 2000000
namespace W
open PySem PySem.Spec PyProof.Rows L2 PD
section
variable {S : Store} {i j k l m n c : Nat} {p q u : Cq} {ps qs cs ds : List Cq} {M : List (List Cq)} {X Y : D} {A : Lv}
theorem lt_line {m : Nat} (h : m ≤ 1000) : m < line := Nat.lt_of_le_of_lt h (by decide)
theorem big_ok {m : Nat} (h : m ≤ 1000) : (m : Int) < 2 ^ 62 := Int.lt_of_le_of_lt (Int.ofNat_le.mpr h) (by decide)
theorem range1_nat {G : Gam} {L : PD.Loc} {e : Xp} {m : Nat} {S S1 : Store} (he : evX G e L S = some (.d (.int (m : Nat)), S1)) (hm : m ≤ 1000) : evW G (.range1 e) L S = some ((List.range m).map fun i => D.int (i : Nat), S1) := by
  rw [evW_range1, he, bnd_some]
  have := big_ok hm
  show lft (if ((m : Nat) : Int) < 2 ^ 62 ∧ -(2 ^ 62) ≤ ((m : Nat) : Int) then _ else none) S1 = _
  rw [if_pos ⟨this, by omega⟩]
  rfl
theorem comp_nm {α : Type} {G : Gam} {elt : Xp} {t : Nat} {w : Wk} {own : List Nat} {L : PD.Loc} {S S1 : Store} {as : List α} {g f : α → D} (hw : evW G w L S = some (as.map g, S1)) (hl : as.length ≤ 1000) (h : ∀ a ∈ as, evX G elt ((wipeL L own).set t (.dat (g a))) S1 = some (.d (f a), S1)) :
    evF G (.comp elt (.nm t) w .none own) L S = some (as.map f, S1) := by
  rw [evF_comp, hw, bnd_some, List.length_map, if_pos (lt_line hl)]
  refine compL_map as fun a ha => ?_
  rw [evG_nm, bnd_some, evC_none, bnd_some, if_pos rfl, h a ha]
  rfl
theorem en_nx {G : Gam} {s : Sm} {ss : Sms} {L L2 : PD.Loc} {S S2 S' : Store} {d : D} (h : evS G s L S = some ((.nx, L2), S2)) (t : ∃ L', evSs G ss L2 S2 = some ((.ret d, L'), S')) : ∃ L', evSs G (.cons s ss) L S = some ((.ret d, L'), S') := by
  obtain ⟨L', t⟩ := t
  exact ⟨L', st_nx h t⟩
theorem en_ret {G : Gam} {s : Sm} {ss : Sms} {L L2 : PD.Loc} {S S2 : Store} {d : D} (h : evS G s L S = some ((.ret d, L2), S2)) : ∃ L', evSs G (.cons s ss) L S = some ((.ret d, L'), S2) := ⟨L2, st_ret h⟩
theorem run_en {G : Gam} {n : Nat} {b : Sms} {args : List D} {S S' : Store} {d : D} (h : ∃ L', evSs G b (args.map .dat ++ List.replicate (n - args.length) .un) S = some ((.ret d, L'), S')) : runF G n b args S = some (d, S') := by
  obtain ⟨L', h⟩ := h
  rw [runF_eq, h]
  rfl
theorem call1 {G G' : Gam} {j m : Nat} {nm : Str} {b : Sms} {e1 : Xp} {L : PD.Loc} {S S1 S2 : Store} {x d : D} (hE : G.ents[j]? = some (mkEnt nm 1 [] [] [0] G' m b)) (_ : 0 = 0) (_ : 0 = 0) (h1 : evX G e1 L S = some (.d x, S1)) (hs : runF G' m b [x] S1 = some (d, S2)) : evX G (.call j (.cons e1 .nil) .nil) L S = some (.d d, S2) := by
  have hs : (mkEnt nm 1 [] [] [0] G' m b).sem [x] S1 = some (d, S2) := hs
  rw [evX_call, hE]
  simp [-mk_sem, h1, hs]
theorem call2 {G G' : Gam} {j m : Nat} {nm : Str} {b : Sms} {e1 e2 : Xp} {L : PD.Loc} {S S1 S2 S3 : Store} {x y d : D} (hE : G.ents[j]? = some (mkEnt nm 2 [] [] [0, 1] G' m b)) (_ : 0 = 0) (_ : 0 = 0) (h1 : evX G e1 L S = some (.d x, S1)) (h2 : evX G e2 L S1 = some (.d y, S2)) (hs : runF G' m b [x, y] S2 = some (d, S3)) : evX G (.call j (.cons e1 (.cons e2 .nil)) .nil) L S = some (.d d, S3) := by
  have hs : (mkEnt nm 2 [] [] [0, 1] G' m b).sem [x, y] S2 = some (d, S3) := hs
  rw [evX_call, hE]
  simp [-mk_sem, h1, h2, hs]
theorem call3 {G G' : Gam} {j m : Nat} {nm : Str} {b : Sms} {e1 e2 e3 : Xp} {L : PD.Loc} {S S1 S2 S3 S4 : Store} {x y z d : D} (hE : G.ents[j]? = some (mkEnt nm 3 [] [] [0, 1, 2] G' m b)) (_ : 0 = 0) (_ : 0 = 0) (h1 : evX G e1 L S = some (.d x, S1)) (h2 : evX G e2 L S1 = some (.d y, S2)) (h3 : evX G e3 L S2 = some (.d z, S3)) (hs : runF G' m b [x, y, z] S3 = some (d, S4)) : evX G (.call j (.cons e1 (.cons e2 (.cons e3 .nil))) .nil) L S = some (.d d, S4) := by
  have hs : (mkEnt nm 3 [] [] [0, 1, 2] G' m b).sem [x, y, z] S3 = some (d, S4) := hs
  rw [evX_call, hE]
  simp [-mk_sem, h1, h2, h3, hs]
theorem frx {G : Gam} {f : Fx} {L : PD.Loc} {S S1 : Store} {xs : List D} (h : evF G f L S = some (xs, S1)) : evX G (.fr f) L S = some (.d (.lst xs), S1) := by rw [evX_fr, h]; rfl
theorem tupx {G : Gam} {f : Fx} {L : PD.Loc} {S S1 : Store} {xs : List D} (h : evF G f L S = some (xs, S1)) : evX G (.bi .tuple (.cons (.fr f) .nil)) L S = some (.d (.tup xs), S1) := by
  rw [evX_bi, evXs_cons, frx h]; rfl
theorem run_ret {G : Gam} {n : Nat} {e : Xp} {ss : Sms} {args : List D} {S S' : Store} {d : D} (h : evX G e (args.map .dat ++ List.replicate (n - args.length) .un) S = some (.d d, S')) : runF G n (.cons (.ret e) ss) args S = some (d, S') := by
  rw [runF_eq, evSs_cons, evS_ret, h]; rfl
/-- the pairs -/
def zpL : List Cq → List Cq → List D
  | p :: ps, q :: qs => .tup [Nm p, Nm q] :: zpL ps qs | _, _ => []
theorem zip_zp : ∀ ps qs : List Cq, zipD (ps.map Nm) (qs.map Nm) = zpL ps qs
  | [], qs => rfl
  | p :: ps, [] => rfl
  | p :: ps, q :: qs => by
    show D.tup [Nm p, Nm q] :: zipD (ps.map Nm) (qs.map Nm) = _
    rw [zip_zp ps qs]; rfl
theorem r_mix_mirrored (hl : ps.length ≤ 1000) : runF G_mix_mirrored 2 b_mix_mirrored [RN ps] S = some (RN (ps.map conN), S) := by
  have c : evF G_mix_mirrored (.comp (.call 0 (.cons (.nm 1) .nil) .nil) (.nm 1) (.seq (.nm 0)) .none [1]) [.dat (RN ps), .un] S = some (ps.map fun p => Nm (conN p), S) := by
    refine comp_nm (g := Nm) (by rfl) hl fun p _ => ?_
    have e1 := r_num_mirrored (p := p) (S := S)
    simp [G_mix_mirrored, e_num_mirrored_1, pick, e1]
  have e2 : (ps.map fun p => Nm (conN p)) = (ps.map conN).map Nm := by rw [List.map_map]; rfl
  rw [e2] at c
  exact run_ret (tupx c)
end
end W

set_option Elab.async false
set_option linter.all false
set_option autoImplicit false
set_option maxRecDepth 100000
set_option maxHeartbeats 2000000
namespace W
open PySem PySem.Spec PyProof.Rows L2 PD
section
variable {G : Gam} {L : PD.Loc} {S S1 S2 : Store} {i j k l m n c : Nat} {p q u : Cq} {ps qs cs ds : List Cq} {M : List (List Cq)} {X Y d : D} {A : Lv} {a b : Xp}
theorem nmx {i : Nat} {d : D} (h : L[i]? = some (.dat d)) : evX G (.nm i) L S = some (.d d, S) := by rw [evX_nm, h]
theorem ixT {ds : List D} {i : Nat} (ha : evX G a L S = some (.d (.tup ds), S1)) (hb : evX G b L S1 = some (.d (.int (i : Nat)), S2)) (h : ds[i]? = some d) : evX G (.ix a b) L S = some (.d d, S2) := by
  rw [evX_ix, ha, bnd_some, hb, bnd_some, ixV_tup, atI_natE, h]; rfl
theorem ixL {ds : List D} {i : Nat} (ha : evX G a L S = some (.d (.lst ds), S1)) (hb : evX G b L S1 = some (.d (.int (i : Nat)), S2)) (h : ds[i]? = some d) : evX G (.ix a b) L S = some (.d d, S2) := by
  rw [evX_ix, ha, bnd_some, hb, bnd_some, ixV_lst, atI_natE, h]; rfl
theorem ixC {ds : List D} {i n : Nat} (ha : evX G a L S = some (.d (.cell n), S1)) (hb : evX G b L S1 = some (.d (.int (i : Nat)), S2)) (hS : S2[n]? = some ds) (h : ds[i]? = some d) : evX G (.ix a b) L S = some (.d d, S2) := by
  rw [evX_ix, ha, bnd_some, hb, bnd_some, ixV_cell, hS]
  show lft ((atI ds ((i : Nat) : Int)).map Va.d) S2 = _
  rw [atI_natE, h]; rfl
theorem lenT {ds : List D} (ha : evX G a L S = some (.d (.tup ds), S1)) : evX G (.bi .len (.cons a .nil)) L S = some (.d (.int (ds.length : Nat)), S1) := by
  rw [evX_bi, evXs_cons, ha]; rfl
theorem lenL {ds : List D} (ha : evX G a L S = some (.d (.lst ds), S1)) : evX G (.bi .len (.cons a .nil)) L S = some (.d (.int (ds.length : Nat)), S1) := by
  rw [evX_bi, evXs_cons, ha]; rfl
theorem bools_true {α : Type} (as : List α) : boolsOf (as.map fun _ => D.bl true) = some (as.map fun _ => true) := by
  induction as with
  | nil => rfl
  | cons a as ih =>
    show (match boolsOf (as.map fun _ => D.bl true) with | some l => some (true :: l) | none => none) = _
    rw [ih]; rfl
theorem allx {α : Type} {f : Fx} {as : List α} (h : evF G f L S = some (as.map fun _ => D.bl true, S1)) : evX G (.bi .all (.cons (.fr f) .nil)) L S = some (.d (.bl true), S1) := by
  rw [evX_bi, evXs_cons, frx h]
  show lft (((boolsOf (as.map fun _ => D.bl true)).map fun l => D.bl (l.all id)).map Va.d) S1 = _
  rw [bools_true]
  have : (as.map fun _ => true).all id = true := by simp
  show some (Va.d (D.bl ((as.map fun _ => true).all id)), S1) = _
  rw [this]
def enG (i : Nat) : List D → List D
  | [] => [] | d :: ds => .tup [.int (i : Nat), d] :: enG (i + 1) ds
theorem enG_at : ∀ (ds : List D) (i : Nat), ds.mapIdx (fun j d => D.tup [.int ((i + j : Nat) : Int), d]) = enG i ds
  | [], i => rfl
  | d :: ds, i => by
    rw [List.mapIdx_cons]
    show D.tup [.int ((i : Nat) : Int), d] :: _ = D.tup [.int ((i : Nat) : Int), d] :: enG (i + 1) ds
    refine congrArg _ ?_
    rw [← enG_at ds (i + 1)]
    refine congrArg (fun g => ds.mapIdx g) (funext fun j => funext fun d => ?_)
    rw [show i + (j + 1) = i + 1 + j by omega]
theorem enumD_eq (ds : List D) : enumD ds = enG 0 ds := by
  rw [← enG_at ds 0]
  unfold enumD
  refine congrArg (fun g => ds.mapIdx g) (funext fun j => funext fun d => ?_)
  rw [Nat.zero_add]
theorem row_len (r : List Cq) : (r.map Nm).length = r.length := List.length_map _
theorem r_fits_as_row (hM : IsM n M) (hh : Herm n M) (hn : n ≤ 100) {t : Nat} (ht : t < n) {r : List Cq} (hr : M[t]? = some r) : runF G_fits_as_row 5 b_fits_as_row [MN M, .int (t : Nat), RN r] S = some (.bl true, S) := by
  have lr : r.length = n := hM.2 r (List.mem_of_getElem? hr)
  have c1 : evF G_fits_as_row (.comp (.call 0 (.cons (.nm 4) .nil) .nil) (.nm 4) (.seq (.nm 2)) .none [4]) [.dat (MN M), .dat (.int (t : Nat)), .dat (RN r), .un, .un] S = some (r.map fun _ => D.bl true, S) :=
    comp_nm (g := Nm) rfl (by omega) fun p _ => call1 rfl rfl rfl rfl r_is_num_N
  have c2 : evF G_fits_as_row (.comp (.cmp .eq (.ix (.nm 2) (.nm 3)) (.call 1 (.cons (.ix (.ix (.nm 0) (.nm 3)) (.nm 1)) .nil) .nil)) (.nm 3) (.range1 (.bin .add (.nm 1) (.lit (.int 1)))) .none [3]) [.dat (MN M), .dat (.int (t : Nat)), .dat (RN r), .un, .un] S = some ((List.range (t + 1)).map fun _ => D.bl true, S) := by
    refine comp_nm (g := fun i : Nat => D.int (i : Nat)) (range1_nat (m := t + 1) rfl (by omega)) (by rw [List.length_range]; omega) fun i hi => ?_
    have hi := List.mem_range.mp hi
    obtain ⟨r', e1, e2, _⟩ := ent_lt hM (show i < n by omega) ht
    obtain ⟨r2, e3, e4, _⟩ := ent_lt hM ht (show i < n by omega)
    rw [hr] at e3
    cases e3
    have h1 : evX G_fits_as_row (.ix (.nm 2) (.nm 3)) [.dat (MN M), .dat (.int (t : Nat)), .dat (RN r), .dat (.int (i : Nat)), .un] S = some (.d (Nm (ent M t i)), S) := ixT rfl rfl (by rw [List.getElem?_map, e4]; rfl)
    have h2 : evX G_fits_as_row (.ix (.ix (.nm 0) (.nm 3)) (.nm 1)) [.dat (MN M), .dat (.int (t : Nat)), .dat (RN r), .dat (.int (i : Nat)), .un] S = some (.d (Nm (ent M i t)), S) := ixT (ixT rfl rfl (by rw [List.getElem?_map, e1]; rfl)) rfl (by rw [List.getElem?_map, e2]; rfl)
    have h3 := call1 (G := G_fits_as_row) (j := 1) rfl rfl rfl h2 (r_num_mirrored (p := ent M i t) (S := S))
    show evX G_fits_as_row _ [.dat (MN M), .dat (.int (t : Nat)), .dat (RN r), .dat (.int (i : Nat)), .un] S = _
    rw [evX_cmp, h1, bnd_some, h3, bnd_some, cmp_Nm, decide_eq_true (hh t i ht (by omega))]
    rfl
  have hb : b_fits_as_row = .cons (b_fits_as_row.nth 0) (.cons (.ret (.bi .all (.cons (.fr (.comp (.cmp .eq (.ix (.nm 2) (.nm 3)) (.call 1 (.cons (.ix (.ix (.nm 0) (.nm 3)) (.nm 1)) .nil) .nil)) (.nm 3) (.range1 (.bin .add (.nm 1) (.lit (.int 1)))) .none [3])) .nil))) .nil) := rfl
  refine run_en ?_
  rw [hb]
  refine en_nx (L2 := [.dat (MN M), .dat (.int (t : Nat)), .dat (RN r), .un, .un]) (S2 := S) ?_ (en_ret (by rw [evS_ret]; show bnd (evX G_fits_as_row (.bi .all (.cons (.fr (.comp (.cmp .eq (.ix (.nm 2) (.nm 3)) (.call 1 (.cons (.ix (.ix (.nm 0) (.nm 3)) (.nm 1)) .nil) .nil)) (.nm 3) (.range1 (.bin .add (.nm 1) (.lit (.int 1)))) .none [3])) .nil)) [.dat (MN M), .dat (.int (t : Nat)), .dat (RN r), .un, .un] S) _ = _; rw [allx c2]; rfl))
  have a1 := allx c1
  obtain ⟨MM, hMM, hl⟩ : ∃ MM, MN M = .tup MM ∧ MM.length = n := ⟨M.map RN, rfl, by rw [List.length_map, hM.1]⟩
  obtain ⟨rr, hrr, hl2⟩ : ∃ rr, RN r = .tup rr ∧ rr.length = n := ⟨r.map Nm, rfl, by rw [List.length_map, lr]⟩
  show evS G_fits_as_row (b_fits_as_row.nth 0) [.dat (MN M), .dat (.int (t : Nat)), .dat (RN r), .un, .un] S = _
  rw [hMM, hrr] at a1 ⊢
  generalize ((t : Nat) : Int) = tt at a1 ⊢
  have l1 : evX G_fits_as_row (.bi .len (.cons (.nm 2) .nil)) [.dat (.tup MM), .dat (.int tt), .dat (.tup rr), .un, .un] S = some (.d (.int rr.length), S) := lenT rfl
  have l2 : evX G_fits_as_row (.bi .len (.cons (.nm 0) .nil)) [.dat (.tup MM), .dat (.int tt), .dat (.tup rr), .un, .un] S = some (.d (.int MM.length), S) := lenT rfl
  simp [b_fits_as_row, Sms.nth, -evF_comp, -evX_bi, -evX_fr, a1, l1, l2, hl, hl2, isiV, tyN, kitB]
def wtB : Sms := (b_wrong_in_table.nth 1).body
theorem wt_loop (hM : IsM n M) (hh : Herm n M) (hn : n ≤ 100) : ∀ (rest : List (List Cq)) (t : Nat) (e1 e2 : Lv), M.drop t = rest → ∃ e1' e2', forL (fun d L S => bnd (evG G_wrong_in_table (.tup (.cons (.nm 1) (.cons (.nm 2) .nil))) d L S) fun L2 S2 => evSs G_wrong_in_table wtB L2 S2) (enG t (rest.map RN)) [.dat (MN M), e1, e2] S = some ((.nx, [.dat (MN M), e1', e2']), S)
  | [], t, e1, e2, _ => ⟨e1, e2, rfl⟩
  | r :: rest, t, e1, e2, hd => by
    have ht : t < M.length := by
      rcases Nat.lt_or_ge t M.length with h | h
      · exact h
      · rw [List.drop_eq_nil_of_le h] at hd; cases hd
    rw [List.drop_eq_getElem_cons ht] at hd
    injection hd with hd1 hd2
    have hr : M[t]? = some r := by rw [List.getElem?_eq_getElem ht, hd1]
    have f := r_fits_as_row (S := S) hM hh hn (by rw [← hM.1]; exact ht) hr
    obtain ⟨a1, a2, e⟩ := wt_loop hM hh hn rest (t + 1) (.dat (.int (t : Nat))) (.dat (RN r)) hd2
    refine ⟨a1, a2, ?_⟩
    show forL _ (D.tup [.int ((t : Nat) : Int), RN r] :: enG (t + 1) (rest.map RN)) _ _ = _
    have st : (bnd (evG G_wrong_in_table (.tup (.cons (.nm 1) (.cons (.nm 2) .nil))) (.tup [.int (t : Nat), RN r]) [.dat (MN M), e1, e2] S) fun L2 S2 => evSs G_wrong_in_table wtB L2 S2) = some ((.nx, [.dat (MN M), .dat (.int (t : Nat)), .dat (RN r)]), S) := by
      generalize ((t : Nat) : Int) = tt at f ⊢
      generalize RN r = R at f ⊢
      generalize MN M = MM at f ⊢
      simp [wtB, Sms.nth, Sm.body, b_wrong_in_table, G_wrong_in_table, e_fits_as_row_3, pick, f]
    rw [forL_cons, st, bnd_some]
    exact e
theorem r_wrong_in_table (hM : IsM n M) (hh : Herm n M) (hn : n ≤ 6) : runF G_wrong_in_table 3 b_wrong_in_table [MN M] S = some (.lst [], S) := by
  obtain ⟨a1, a2, e⟩ := wt_loop (S := S) hM hh (by omega) M 0 .un .un rfl
  rw [← enumD_eq] at e
  have cw : evW G_wrong_in_table (.enum (.nm 0)) [.dat (MN M), .un, .un] S = some (enumD (M.map RN), S) := rfl
  have hl : (M.map RN).length ≤ 6 := by rw [List.length_map, hM.1]; exact hn
  refine run_en ?_
  have hb : b_wrong_in_table = .cons (b_wrong_in_table.nth 0) (.cons (.for_ (.tup (.cons (.nm 1) (.cons (.nm 2) .nil))) (.enum (.nm 0)) wtB) (.cons (.ret (.fr (.disp .nil))) .nil)) := rfl
  rw [hb]
  refine en_nx (L2 := [.dat (MN M), .un, .un]) (S2 := S) ?_ ?_
  · have h6 : ¬ (6 : Int) < ((M.map RN).length : Int) := by omega
    show evS G_wrong_in_table (b_wrong_in_table.nth 0) [.dat (MN M), .un, .un] S = _
    unfold MN
    generalize M.map RN = MM at *
    simp [b_wrong_in_table, Sms.nth, G_wrong_in_table, c_MOST_ROWS, isiV, tyN, kitB, h6]
  exact en_nx (ev_for rfl cw e) (en_ret rfl)
theorem r_check_table (hM : IsM n M) (hh : Herm n M) (hn : n ≤ 6) : runF G_check_table 2 b_check_table [MN M] S = some (.non, S) := by
  have w := r_wrong_in_table (S := S) hM hh hn
  have cw : evW G_check_table (.seq (.call 0 (.cons (.nm 0) .nil) .nil)) [.dat (MN M), .un] S = some ([], S) := by
    rw [evW_seq, call1 (x := MN M) rfl rfl rfl rfl w]; rfl
  have e := ev_for (G := G_check_table) (t := .nm 1) (b := .cons .never .nil) (S1 := S) rfl cw rfl
  rw [runF_eq]
  show bnd (evSs G_check_table (.cons (.for_ (.nm 1) (.seq (.call 0 (.cons (.nm 0) .nil) .nil)) (.cons .never .nil)) .nil) [.dat (MN M), .un] S) _ = _
  rw [st_nx e rfl]
  rfl
end
end W

set_option Elab.async false
set_option linter.all false
set_option autoImplicit false
set_option maxRecDepth 100000
set_option maxHeartbeats 2000000
namespace W
open PySem PySem.Spec PyProof.Rows L2 PD
section
variable {G : Gam} {L : PD.Loc} {S S1 S2 : Store} {i j k l m n c : Nat} {p q u : Cq} {x : Rat} {ps qs cs ds : List Cq} {M N CS : List (List Cq)} {X Y d : D} {A : Lv} {a b : Xp}
theorem comp_zip {α β : Type} {elt : Xp} {ta tb : Nat} {w : Wk} {own : List Nat} {as : List α} {bs : List β} {g : α → D} {h : β → D} {f : α → β → D} (hw : evW G w L S = some (zipD (as.map g) (bs.map h), S1)) (hl : as.length ≤ 1000) (hh : ∀ a ∈ as, ∀ b ∈ bs, evX G elt (((wipeL L own).set ta (.dat (g a))).set tb (.dat (h b))) S1 = some (.d (f a b), S1)) :
    evF G (.comp elt (.tup (.cons (.nm ta) (.cons (.nm tb) .nil))) w .none own) L S = some (List.zipWith f as bs, S1) := by
  have hl2 : (zipD (as.map g) (bs.map h)).length ≤ 1000 := by unfold zipD; rw [List.length_zipWith, List.length_map]; omega
  rw [evF_comp, hw, bnd_some, if_pos (lt_line hl2)]
  clear hw hl hl2
  induction as generalizing bs with
  | nil => rfl
  | cons a as ih => cases bs with
    | nil => rfl
    | cons b bs =>
      show compL _ (D.tup [g a, h b] :: zipD (as.map g) (bs.map h)) S1 = some (f a b :: List.zipWith f as bs, S1)
      have st := hh a (List.mem_cons_self ..) b (List.mem_cons_self ..)
      rw [compL_cons, evG_tup, evGs_cons, evG_nm, bnd_some, evGs_cons, evG_nm, bnd_some, evGs_nil, bnd_some, evC_none, bnd_some, if_pos rfl, st, bnd_some]
      show bnd (some (some (f a b), S1)) _ = _
      rw [bnd_some, ih fun a' ha b' hb => hh a' (List.mem_cons_of_mem _ ha) b' (List.mem_cons_of_mem _ hb)]
      rfl
theorem comp_drop {elt : Xp} {t : Tg} {w : Wk} {cc : Xp} {own : List Nat} {ds : List D} (hw : evW G w L S = some (ds, S1)) (hl : ds.length ≤ 1000) (hh : ∀ d ∈ ds, ∃ L2, evG G t d (wipeL L own) S1 = some (L2, S1) ∧ evX G cc L2 S1 = some (.d (.bl false), S1)) :
    evF G (.comp elt t w (.some cc) own) L S = some ([], S1) := by
  rw [evF_comp, hw, bnd_some, if_pos (lt_line hl)]
  clear hw hl
  induction ds with
  | nil => rfl
  | cons d ds ih =>
    obtain ⟨L2, h1, h2⟩ := hh d (List.mem_cons_self ..)
    rw [compL_cons, h1, bnd_some, evC_some, h2, bnd_some]
    show bnd (bnd (some (false, S1)) _) _ = _
    rw [bnd_some, if_neg Bool.false_ne_true, bnd_some, ih fun d hd => hh d (List.mem_cons_of_mem _ hd)]
    rfl
theorem mem_enG {d : D} : ∀ {ds : List D} {i : Nat}, d ∈ enG i ds → ∃ (j : Nat) (x : D), x ∈ ds ∧ d = .tup [.int (j : Nat), x]
  | [], _, h => by cases h
  | x :: ds, i, h => by
    rcases List.mem_cons.mp h with rfl | h
    · exact ⟨i, x, List.mem_cons_self .., rfl⟩
    · obtain ⟨j, y, h1, h2⟩ := mem_enG h
      exact ⟨j, y, List.mem_cons_of_mem _ h1, h2⟩
theorem enG_len : ∀ (ds : List D) (i : Nat), (enG i ds).length = ds.length
  | [], _ => rfl
  | _ :: ds, i => by show (enG (i + 1) ds).length + 1 = _; rw [enG_len ds]; rfl
theorem cut0 {lo hi : Option Int} : PD.cutD [] lo hi = [] := by unfold PD.cutD; simp
theorem r_wrong_in_mix (hc : cs.length = n) (hn : n ≤ 1000) : runF G_wrong_in_mix 4 b_wrong_in_mix [RN cs, .int (n : Nat)] S = some (.lst [], S) := by
  have c1 : evF G_wrong_in_mix (.comp (.nm 2) (.tup (.cons (.nm 2) (.cons (.nm 3) .nil))) (.enum (.nm 0)) (.some (.not (.call 0 (.cons (.nm 3) .nil) .nil))) [2, 3]) [.dat (RN cs), .dat (.int (n : Nat)), .un, .un] S = some ([], S) := by
    refine comp_drop (ds := enG 0 (cs.map Nm)) (by rw [← enumD_eq]; rfl) (by rw [enG_len, List.length_map]; omega) fun d hd => ?_
    obtain ⟨j, x, hx, rfl⟩ := mem_enG hd
    obtain ⟨p, _, rfl⟩ := List.mem_map.mp hx
    refine ⟨[.dat (RN cs), .dat (.int (n : Nat)), .dat (.int (j : Nat)), .dat (Nm p)], rfl, ?_⟩
    have e := call1 (G := G_wrong_in_mix) (j := 0) (L := [.dat (RN cs), .dat (.int (n : Nat)), .dat (.int (j : Nat)), .dat (Nm p)]) (e1 := .nm 3) (x := Nm p) rfl rfl rfl rfl (r_is_num_N (p := p) (S := S))
    rw [evX_not, e]; rfl
  have hl : (cs.map Nm).length = n := by rw [List.length_map, hc]
  have hb : b_wrong_in_mix = .cons (b_wrong_in_mix.nth 0) (.cons (.ret (.fr (.slc (.fr (.comp (.nm 2) (.tup (.cons (.nm 2) (.cons (.nm 3) .nil))) (.enum (.nm 0)) (.some (.not (.call 0 (.cons (.nm 3) .nil) .nil))) [2, 3])) .none (.some (.lit (.int 1)))))) .nil) := rfl
  refine run_en ?_
  rw [hb]
  refine en_nx (L2 := [.dat (RN cs), .dat (.int (n : Nat)), .un, .un]) (S2 := S) ?_ ?_
  · show evS G_wrong_in_mix (b_wrong_in_mix.nth 0) [.dat (RN cs), .dat (.int (n : Nat)), .un, .un] S = _
    unfold RN
    generalize cs.map Nm = rr at *
    simp [b_wrong_in_mix, Sms.nth, isiV, tyN, kitB, hl]
  · refine en_ret (L2 := [.dat (RN cs), .dat (.int (n : Nat)), .un, .un]) ?_
    show evS G_wrong_in_mix _ [.dat (RN cs), .dat (.int (n : Nat)), .un, .un] S = _
    rw [evS_ret, evX_fr, evF_slc, frx c1]
    show bnd (bnd (lft ((asL (.d (.lst []))).map fun xs => PD.cutD xs none (some 1)) S) _) _ = _
    show bnd (bnd (some (PD.cutD [] none (some 1), S)) _) _ = _
    rw [cut0]; rfl
theorem cmp_ne_nil : cmpV .ne (.d (.lst [])) (.d (.lst [])) = some false := by decide +kernel
theorem exx {e : Xp} {x : Va} (h : evX G e L S = some (x, S1)) : evS G (.ex e) L S = some ((.nx, L), S1) := by rw [evS_ex, h]; rfl
theorem retx {e : Xp} {d : D} (h : evX G e L S = some (.d d, S1)) : evS G (.ret e) L S = some ((.ret d, L), S1) := by rw [evS_ret, h]; rfl
theorem zw_map {f : Cq → Cq → Cq} : ∀ ps qs : List Cq, List.zipWith (fun p q => Nm (f p q)) ps qs = (List.zipWith f ps qs).map Nm
  | [], _ => rfl
  | _ :: _, [] => rfl
  | p :: ps, q :: qs => by rw [List.zipWith_cons_cons, List.zipWith_cons_cons, List.map_cons, zw_map ps qs]
theorem zw_mapR {f : List Cq → List Cq → List Cq} : ∀ M N : List (List Cq), List.zipWith (fun p q => RN (f p q)) M N = (List.zipWith f M N).map RN
  | [], _ => rfl
  | _ :: _, [] => rfl
  | p :: ps, q :: qs => by rw [List.zipWith_cons_cons, List.zipWith_cons_cons, List.map_cons, zw_mapR ps qs]
theorem r_mix_sum (hp : ∀ p ∈ ps, hb k p) (hq : ∀ p ∈ qs, hb k p) (hk : k + k < 9000) (hl : ps.length ≤ 1000) : runF G_mix_sum 4 b_mix_sum [RN ps, RN qs] S = some (RN (addR ps qs), S) := by
  have c := comp_zip (G := G_mix_sum) (L := [.dat (RN ps), .dat (RN qs), .un, .un]) (S := S) (S1 := S) (as := ps) (bs := qs) (g := Nm) (h := Nm) (f := fun p q => Nm (p + q)) (w := .zip (.nm 0) (.nm 1)) (elt := .call 0 (.cons (.nm 2) (.cons (.nm 3) .nil)) .nil) (ta := 2) (tb := 3) (own := [2, 3]) rfl hl fun p hp' q hq' =>
    call2 (x := Nm p) (y := Nm q) rfl rfl rfl rfl rfl (r_num_sum (hp p hp') (hq q hq') hk)
  rw [zw_map] at c
  exact run_ret (tupx c)
theorem r_tables_plus (hM : Mg j k M) (hN : Mg j k N) (hk : k ≤ 4000) (hj : 12 * j + 1 ≤ 4000) (hl : M.length ≤ 1000) (hr : ∀ r ∈ M, r.length ≤ 1000) : runF G_tables_plus 4 b_tables_plus [MN M, MN N] S = some (MN (addM M N), S) := by
  have c := comp_zip (G := G_tables_plus) (L := [.dat (MN M), .dat (MN N), .un, .un]) (S := S) (S1 := S) (as := M) (bs := N) (g := RN) (h := RN) (f := fun p q => RN (addR p q)) (w := .zip (.nm 0) (.nm 1)) (elt := .call 0 (.cons (.nm 2) (.cons (.nm 3) .nil)) .nil) (ta := 2) (tb := 3) (own := [2, 3]) rfl hl fun p hp' q hq' =>
    call2 (x := RN p) (y := RN q) rfl rfl rfl rfl rfl (r_mix_sum (k := 4000) (fun z hz => (hM p hp' z hz).hb hk hj) (fun z hz => (hN q hq' z hz).hb hk hj) (by decide) (hr p hp'))
  rw [zw_mapR] at c
  exact run_ret (tupx c)
end
end W

set_option Elab.async false
set_option linter.all false
set_option autoImplicit false
set_option maxRecDepth 100000
set_option maxHeartbeats 2000000
namespace W
open PySem PySem.Spec PyProof.Rows L2 PD
section
variable {G : Gam} {L : PD.Loc} {S S1 S2 : Store} {i j k l m n c : Nat} {p q u : Cq} {x : Rat} {ps qs cs ds : List Cq} {M N CS : List (List Cq)} {X Y d : D} {A : Lv} {a b : Xp}
theorem appx {e : Xp} {d : D} {i : Nat} {xs : List D} (h : evX G e L S = some (.d d, S1)) (hL : L[i]? = some (.own xs)) (hl : xs.length ≤ 1000) : evS G (.app i e) L S = some ((.nx, L.set i (.own (xs ++ [d]))), S1) := by
  rw [evS_app, h, bnd_some, unV_d, lft_some, bnd_some, hL]
  show (if xs.length < line then some ((Fl.nx, L.set i (.own (xs ++ [d]))), S1) else none) = _
  rw [if_pos (lt_line hl)]
theorem asgx {e : Xp} {d : D} {i : Nat} (h : evX G e L S = some (.d d, S1)) : evS G (.asg (.nm i) e) L S = some ((.nx, L.set i (.dat d)), S1) := by
  rw [evS_asg, h]; rfl
/-! ### the law's own hand -/
theorem r_Lplus (hp : hb k p) (hq : hb l q) (h : k + l < 9000) : runF G_Lplus 2 b_Lplus [T p, T q] S = some (T (p + q), S) := by
  show _ = some (T (addN p q), S)
  have e := q3_add (a := (t3 p).1) (b := (t3 p).2.1) (a' := (t3 q).1) (b' := (t3 q).2.1) (by have := t3_pos p; omega : (t3 p).2.2 ≠ 0) (by have := t3_pos q; omega : (t3 q).2.2 ≠ 0)
  rw [t3_q3, t3_q3] at e
  obtain ⟨x1, x2, x3⟩ := hp
  obtain ⟨y1, y2, y3⟩ := hq
  have c := r_Lcut (a := (t3 p).1 * (t3 q).2.2 + (t3 q).1 * (t3 p).2.2) (b := (t3 p).2.1 * (t3 q).2.2 + (t3 q).2.1 * (t3 p).2.2) (S := S) (Int.mul_pos (t3_pos p) (t3_pos q)) (x3.mul y3) h
  rw [e] at c
  rw [runF_eq]
  have o : ∀ {i j : Int}, sz k i → sz l j → okMul i j = true := fun h1 h2 => okMul_sz h1 h2 (by omega)
  have o' : ∀ {i j : Int}, sz l i → sz k j → okMul i j = true := fun h1 h2 => okMul_sz h1 h2 (by omega)
  simp [b_Lplus, G_Lplus, e_Lcut_3, pick, o x1 y3, o' y1 x3, o x2 y3, o' y2 x3, o x3 y3, T] at c ⊢
  simp [c]
theorem r_Lline (hp : ∀ p ∈ ps, hb k p) (hk : k < 9000) (hl : ps.length ≤ 1000) : runF G_Lline 2 b_Lline [RT ps] S = some (RN ps, S) :=
  run_ret (tupx (comp_nm (g := T) (f := Nm) rfl hl fun p h => call1 (x := T p) rfl rfl rfl rfl (r_Lnumber (hp p h) hk)))
theorem r_Ltab (hp : ∀ r ∈ M, ∀ p ∈ r, hb k p) (hk : k < 9000) (hl : M.length ≤ 1000) (hr : ∀ r ∈ M, r.length ≤ 1000) : runF G_Ltab 2 b_Ltab [MT M] S = some (MN M, S) :=
  run_ret (tupx (comp_nm (g := RT) (f := RN) rfl hl fun r h => call1 (x := RT r) rfl rfl rfl rfl (r_Lline (hp r h) hk (hr r h))))
theorem T_zero : T (0 : Cq) = .tup [.int 0, .int 0, .int 1] := T_c0
end
end W

set_option Elab.async false
set_option linter.all false
set_option autoImplicit false
set_option maxRecDepth 100000
set_option maxHeartbeats 2000000
namespace W
open PySem PySem.Spec PyProof.Rows L2 PD
section
variable {G : Gam} {L : PD.Loc} {Bs S S0 S1 S2 S3 : Store} {i j k l m n N c : Nat} {p q u w : Cq} {x : Rat} {ps qs cs ds : List Cq} {M CS : List (List Cq)} {X Y d : D} {A : Lv} {a b : Xp}
theorem Pl.split {R : List (List D)} {S' : Store} (h0 : Pl Bs N S0 n) (h : Pl (S0 ++ R) m S' n) : ∃ S0', S' = S0' ++ R ∧ S0'.length = S0.length ∧ Pl Bs m S0' n := by
  have hl := h.len
  have hn := h0.lt
  rw [List.length_append] at hl
  refine ⟨S'.take S0.length, ?_, by rw [List.length_take]; omega, ?_⟩
  · refine List.ext_getElem? fun i => ?_
    by_cases hi : i < S0.length
    · rw [List.getElem?_append_left (by rw [List.length_take]; omega), List.getElem?_take_of_lt hi]
    · rw [List.getElem?_append_right (by rw [List.length_take]; omega), h.at (i := i) (by omega), List.getElem?_append_right (by omega)]
      rw [List.length_take, show min S0.length S'.length = S0.length by omega]
  · obtain ⟨⟨a, b, c, e, r⟩, _⟩ := h
    refine ⟨⟨a, b, c, by rw [List.getElem?_take_of_lt hn]; exact e, r⟩, by rw [List.length_take]; have := h0.len; omega, fun i hi => ?_⟩
    by_cases hl2 : i < S0.length
    · have z := h0.at hi
      rw [← z, List.getElem?_take_of_lt hl2]
      rename_i z2
      have := z2.2 i hi
      rw [this, List.getElem?_append_left hl2]
    · rw [List.getElem?_eq_none (by rw [List.length_take]; omega), List.getElem?_eq_none (by have := h0.len; omega)]
theorem at_more {run : Store → Option (D × Store)} {P : D → Prop} {R : List (List D)} (f : ∀ Bs S, Pl Bs N S n → ∃ v S', run S = some (v, S') ∧ P v ∧ Pl Bs m S' n) (h : Pl Bs N S0 n) : ∃ v S0', run (S0 ++ R) = some (v, S0' ++ R) ∧ P v ∧ Pl Bs m S0' n ∧ S0'.length = S0.length := by
  obtain ⟨v, S', e, hp, h'⟩ := f (S0 ++ R) (S0 ++ R) h.more
  obtain ⟨S0', rfl, hl, h2⟩ := Pl.split h h'
  exact ⟨v, S0', e, hp, h2, hl⟩
theorem r_Lpositive (h : Pl Bs N S n) (hN : N ≤ 900000) : ∃ p S', runF G_Lpositive 1 b_Lpositive [.cell n] S = some (T p, S') ∧ (conN p = p ∧ gq 1 15 p ∧ p = re p.1 ∧ 0 < p.1) ∧ Pl Bs (N + 2) S' n := by
  obtain ⟨v, S1, e1, v0, v1, h1⟩ := r_Ldraw (m := 6) h (by omega) (by decide) (by decide)
  obtain ⟨x, S2, hx, e2, h2⟩ := r_Lpick (xs := [.int 1, .int 1, .int 2, .int 3, .int 7]) h1 (by omega) (by decide) (by decide)
  obtain ⟨d, rfl, d1, d5⟩ : ∃ d : Int, x = .int d ∧ 1 ≤ d ∧ d ≤ 7 := by
    simp only [List.mem_cons, List.not_mem_nil, or_false] at hx
    rcases hx with rfl | rfl | rfl | rfl | rfl <;> exact ⟨_, rfl, by decide, by decide⟩
  have ec := r_Lcut (a := 1 + v) (b := 0) (d := d) (k := 3) (S := S2) (by omega) (by unfold sz; omega) (by decide)
  obtain ⟨c, hc⟩ := div2520 d1 (by omega)
  have dz : q3 (1 + v) 0 d = re (Rat.divInt (1 + v) d) := by unfold q3 re; rw [Rat.zero_divInt]
  refine ⟨q3 (1 + v) 0 d, S2, ?_, ⟨by rw [dz]; unfold conN re; simp, gq_of (k := 3) hc (by unfold sz; omega) (by unfold sz; decide), by rw [dz]; rfl, ?_⟩, h2⟩
  · rw [runF_eq]
    simp [b_Lpositive, G_Lpositive, e_Ldraw_2, e_Lpick_2, e_Lcut_3, pick, e1, e2, ec]
  · rw [dz]
    show (0 : Rat) < Rat.divInt (1 + v) d
    have := divInt_lt (a := 0) (b := 1) (c := 1 + v) (d := d) (by decide) (by omega) (by omega)
    rw [Rat.zero_divInt] at this
    exact this
theorem r_Lsmall (h : Pl Bs N S n) (hN : N ≤ 900000) : ∃ p S', runF G_Lsmall 1 b_Lsmall [.cell n] S = some (T p, S') ∧ gq 1 15 p ∧ Pl Bs (N + 5) S' n := by
  obtain ⟨v, S1, e1, v0, v1, h1⟩ := r_Ldraw (m := 3) h (by omega) (by decide) (by decide)
  by_cases hv : v = 0
  · refine ⟨0, S1, ?_, (gq_zero 1).mono (by decide), h1.mono (by omega)⟩
    rw [runF_eq, T_zero]
    simp [b_Lsmall, G_Lsmall, e_Ldraw_2, pick, e1, hv]
  · obtain ⟨a, S2, e2, a0, a1, h2⟩ := r_Ldraw (m := 7) h1 (by omega) (by decide) (by decide)
    obtain ⟨z, S3, e3, z0, z1, h3⟩ := r_Ldraw (m := 2) h2 (by omega) (by decide) (by decide)
    by_cases hz : z = 0
    · obtain ⟨b, S4, e4, b0, b1, h4⟩ := r_Ldraw (m := 7) h3 (by omega) (by decide) (by decide)
      obtain ⟨t, S5, e5, t0, t1, h5⟩ := r_Ldraw (m := 2) h4 (by omega) (by decide) (by decide)
      have ec := r_Lcut (a := a - 3) (b := b - 3) (d := 1 + t) (k := 3) (S := S5) (by omega) (by unfold sz; omega) (by decide)
      obtain ⟨c, hc⟩ := div2520 (d := 1 + t) (by omega) (by omega)
      refine ⟨q3 (a - 3) (b - 3) (1 + t), S5, ?_, gq_of (k := 3) hc (by unfold sz; omega) (by unfold sz; omega), h5⟩
      rw [runF_eq]
      simp [b_Lsmall, G_Lsmall, e_Ldraw_2, e_Lcut_3, pick, e1, hv, e2, e3, hz, e4, e5, ec]
    · obtain ⟨t, S5, e5, t0, t1, h5⟩ := r_Ldraw (m := 2) h3 (by omega) (by decide) (by decide)
      have ec := r_Lcut (a := a - 3) (b := 0) (d := 1 + t) (k := 3) (S := S5) (by omega) (by unfold sz; omega) (by decide)
      obtain ⟨c, hc⟩ := div2520 (d := 1 + t) (by omega) (by omega)
      refine ⟨q3 (a - 3) 0 (1 + t), S5, ?_, gq_of (k := 3) hc (by unfold sz; omega) (by unfold sz; decide), h5.mono (by omega)⟩
      rw [runF_eq]
      simp [b_Lsmall, G_Lsmall, e_Ldraw_2, e_Lcut_3, pick, e1, hv, e2, e3, hz, e5, ec]
/-- a list of lists of noughts, in new cells -/
theorem zero_cells {t : Nat} {own : List Nat} {wk : Wk} {nx : Xp} {ds : List D} (hn : n ≤ 100) (hx : ∀ d ∈ ds, ∀ S, evX G nx ((wipeL L own).set t (.dat d)) S = some (.d (.int (n : Nat)), S)) (hw : evW G wk L S = some (ds, S)) (hd : ds.length = n) :
    evF G (.comp (.nwc (.rep (.disp (.cons (.tup (.cons (.lit (.int 0)) (.cons (.lit (.int 0)) (.cons (.lit (.int 1)) .nil)))) .nil)) nx)) (.nm t) wk .none own) L S = some ((List.range n).map fun r => .cell (S.length + r), S ++ rowsT (zerM n)) := by
  rw [evF_comp, hw, bnd_some, if_pos (lt_line (by omega))]
  have go : ∀ (ds' : List D) (S : Store), (∀ d ∈ ds', d ∈ ds) → compL (fun d S => bnd (evG G (.nm t) d (wipeL L own) S) fun L2 S => bnd (evC G .none L2 S) fun k S => if k = true then bnd (evX G (.nwc (.rep (.disp (.cons (.tup (.cons (.lit (.int 0)) (.cons (.lit (.int 0)) (.cons (.lit (.int 1)) .nil)))) .nil)) nx)) L2 S) fun x S => bnd (lft (unV x) S) fun y S => some (some y, S) else some (none, S)) ds' S =
      some ((List.range' S.length ds'.length).map fun r => .cell r, S ++ List.replicate ds'.length (List.replicate n (T 0))) := by
    intro ds'
    induction ds' with
    | nil => intro S _; show some ([], S) = _; simp
    | cons d ds' ih =>
      intro S hs
      have e0 : evF G (.rep (.disp (.cons (.tup (.cons (.lit (.int 0)) (.cons (.lit (.int 0)) (.cons (.lit (.int 1)) .nil)))) .nil)) nx) ((wipeL L own).set t (.dat d)) S = some (List.replicate n (T 0), S) := by
        rw [evF_rep]
        have e1 : evF G (.disp (.cons (.tup (.cons (.lit (.int 0)) (.cons (.lit (.int 0)) (.cons (.lit (.int 1)) .nil)))) .nil)) ((wipeL L own).set t (.dat d)) S = some ([T 0], S) := by rw [T_zero]; rfl
        rw [e1, bnd_some, hx d (hs d (List.mem_cons_self ..)), bnd_some]
        show lft (if 0 ≤ ((n : Nat) : Int) ∧ ((n : Nat) : Int) < 2 ^ 63 ∧ [T 0].length * ((n : Nat) : Int).toNat ≤ line then some (List.replicate ((n : Nat) : Int).toNat [T 0]).flatten else none) S = _
        rw [if_pos ⟨by omega, by omega, by show 1 * n ≤ line; rw [Nat.one_mul]; exact Nat.le_of_lt (lt_line (by omega))⟩, List.flatten_replicate_singleton]
        rfl
      rw [compL_cons, evG_nm, bnd_some, evC_none, bnd_some, if_pos rfl, evX_nwc, e0, bnd_some, bnd_some, unV_d, lft_some, bnd_some, bnd_some, ih _ fun d hd => hs d (List.mem_cons_of_mem _ hd), bnd_some]
      rw [List.length_cons, List.range'_succ, List.map_cons, List.length_append, List.replicate_succ, List.append_assoc]
      rfl
  rw [go ds S fun _ h => h, hd]
  have e1 : ((List.range' S.length n).map fun r => D.cell r) = (List.range n).map fun r => D.cell (S.length + r) := by
    rw [List.range_eq_range', List.range'_eq_map_range, List.map_map, List.range'_eq_map_range, List.map_map]
    refine List.map_congr_left fun r _ => ?_
    show D.cell (S.length + r) = D.cell (S.length + (0 + r))
    rw [Nat.zero_add]
  have e2 : rowsT (zerM n) = List.replicate n (List.replicate n (T 0)) := by unfold rowsT zerM; rw [List.map_replicate, List.map_replicate]
  rw [e1, e2]
theorem sbxx {e : Xp} {c : Nat} {row : List D} (he : evX G e L S = some (.d d, S1)) (ha : evX G a L S1 = some (.d (.cell c), S2)) (hb : evX G b L S2 = some (.d (.int (j : Nat)), S3)) (hS : S3[c]? = some row) (hj : j < row.length) : evS G (.asg (.sbx a b) e) L S = some ((.nx, L), S3.set c (row.set j d)) := by
  rw [evS_asg, he, bnd_some, unV_d, lft_some, bnd_some, evG_sbx, ha, bnd_some, hb, bnd_some]
  have : ixN row.length ((j : Nat) : Int) = some j := by unfold ixN; simp [hj]
  simp [hS, this]
/-- a cell of the list of cells -/
theorem cellx {i : Nat} {c0 : Nat} (ha : evX G a L S = some (.d (cellL c0 n), S1)) (hb : evX G b L S1 = some (.d (.int (i : Nat)), S2)) (hi : i < n) : evX G (.ix a b) L S = some (.d (.cell (c0 + i)), S2) :=
  ixL ha hb (by rw [List.getElem?_map, List.getElem?_range hi]; rfl)
/-- an element of the table in cells -/
theorem celx {i j : Nat} {e : Xp} (hM : IsM n M) (ha : evX G a L (S0 ++ rowsT M) = some (.d (cellL S0.length n), S0 ++ rowsT M)) (hb : evX G b L (S0 ++ rowsT M) = some (.d (.int (i : Nat)), S0 ++ rowsT M)) (he : evX G e L (S0 ++ rowsT M) = some (.d (.int (j : Nat)), S0 ++ rowsT M)) (hi : i < n) (hj : j < n) : evX G (.ix (.ix a b) e) L (S0 ++ rowsT M) = some (.d (T (ent M i j)), S0 ++ rowsT M) := by
  obtain ⟨r, h1, h2, _⟩ := ent_lt hM hi hj
  exact ixC (cellx ha hb hi) he (rows_at h1) (by rw [List.getElem?_map, h2]; rfl)
/-- an element is stored -/
theorem setx {i j : Nat} {e : Xp} {z : Cq} (hM : IsM n M) (he : evX G e L S = some (.d (T z), S0 ++ rowsT M)) (ha : evX G a L (S0 ++ rowsT M) = some (.d (cellL S0.length n), S0 ++ rowsT M)) {bi : Xp} (hb : evX G bi L (S0 ++ rowsT M) = some (.d (.int (i : Nat)), S0 ++ rowsT M)) (hbj : evX G b L (S0 ++ rowsT M) = some (.d (.int (j : Nat)), S0 ++ rowsT M)) (hi : i < n) (hj : j < n) : evS G (.asg (.sbx (.ix a bi) b) e) L S = some ((.nx, L), S0 ++ rowsT (setM M i j z)) := by
  obtain ⟨r, h1, h2, h3⟩ := ent_lt hM hi hj
  rw [← rows_set (n := n) h1]
  exact sbxx he (cellx ha hb hi) hbj (rows_at h1) (by rw [List.length_map, h3]; exact hj)
end
end W

set_option Elab.async false
set_option linter.all false
set_option autoImplicit false
set_option maxRecDepth 100000
set_option maxHeartbeats 2000000
namespace W
open PySem PySem.Spec PyProof.Rows L2 PD
section
variable {G : Gam} {L : PD.Loc} {Bs S S0 S1 S2 S3 : Store} {i j k l m n N c K : Nat} {p q u w : Cq} {x : Rat} {ps qs cs ds ms : List Cq} {M CS : List (List Cq)} {X Y d : D} {A v0 v1 v2 v3 v4 v5 v6 v7 : Lv} {a b : Xp}
def mdB : Sms := (b_Lmade.nth 1).body
def mdI : Sms := (mdB.nth 0).body
def mdJ : Sms := (mdI.nth 0).body
theorem md_turn (hn : n ≤ 100) (hM : IsM n M) (hg : Mg 3 K M) (hK : K ≤ 3000) (hK2 : 46 ≤ K) (lm : ms.length = n) (hw : gq 1 15 w) (hm : ∀ p ∈ ms, gq 1 15 p) (hi : i < n) (hj : j < n) :
    (bnd (evG G_Lmade (.nm 6) (.int (j : Nat)) [v0, v1, .dat (cellL S0.length n), .dat (T w), .dat (RT ms), .dat (.int (i : Nat)), v6, v7] (S0 ++ rowsT M)) fun L2 S2 => evSs G_Lmade mdJ L2 S2) = some ((.nx, [v0, v1, .dat (cellL S0.length n), .dat (T w), .dat (RT ms), .dat (.int (i : Nat)), .dat (.int (j : Nat)), v7]), S0 ++ rowsT (setM M i j (ent M i j + w * (cf ms i * conN (cf ms j))))) := by
  have hB : mdJ = .cons (.asg (.sbx (.ix (.nm 2) (.nm 5)) (.nm 6)) (.call 0 (.cons (.ix (.ix (.nm 2) (.nm 5)) (.nm 6)) (.cons (.call 1 (.cons (.nm 3) (.cons (.call 1 (.cons (.ix (.nm 4) (.nm 5)) (.cons (.call 2 (.cons (.ix (.nm 4) (.nm 6)) .nil) .nil) .nil)) .nil) .nil)) .nil) .nil)) .nil)) .nil := rfl
  rw [evG_nm, bnd_some, hB]
  have gi : gq 1 15 (cf ms i) := gq_cf hm (by decide) i
  have gj : gq 1 15 (cf ms j) := gq_cf hm (by decide) j
  have ge : gq 3 K (ent M i j) := Mg_ent hM hg hi hj
  have h15 : ∀ {z : Cq}, gq 1 15 z → hb 100 z := fun h => h.hb (by decide) (by decide)
  have m1 := r_Lmirror (p := cf ms j) (S := S0 ++ rowsT M)
  have m2 := r_Ltimes (S := S0 ++ rowsT M) (h15 gi) (h15 gj).con (by decide)
  have g2 : gq 2 31 (cf ms i * conN (cf ms j)) := gi.mul gj.con
  have m3 := r_Ltimes (S := S0 ++ rowsT M) (h15 hw) (g2.hb (l := 100) (by decide) (by decide)) (by decide)
  have g3 : gq 3 47 (w * (cf ms i * conN (cf ms j))) := hw.mul g2
  have m4 := r_Lplus (S := S0 ++ rowsT M) (ge.hb (l := 3000) hK (by decide)) (g3.hb (l := 100) (by decide) (by decide)) (by decide)
  have x1 : ∀ (t : Nat) (z : Nat), t < n → ((List.set [v0, v1, .dat (cellL S0.length n), .dat (T w), .dat (RT ms), .dat (.int (i : Nat)), v6, v7] 6 (.dat (.int (j : Nat))))[z]? = some (.dat (.int (t : Nat)))) → evX G_Lmade (.ix (.nm 4) (.nm z)) (List.set [v0, v1, .dat (cellL S0.length n), .dat (T w), .dat (RT ms), .dat (.int (i : Nat)), v6, v7] 6 (.dat (.int (j : Nat)))) (S0 ++ rowsT M) = some (.d (T (cf ms t)), S0 ++ rowsT M) := fun t z ht hz =>
    ixL (ds := ms.map T) rfl (nmx hz) (by rw [List.getElem?_map, List.getElem?_eq_getElem (by omega : t < ms.length)]; unfold cf; rw [List.getElem?_eq_getElem (by omega : t < ms.length)]; rfl)
  have y1 := celx (G := G_Lmade) (L := List.set [v0, v1, .dat (cellL S0.length n), .dat (T w), .dat (RT ms), .dat (.int (i : Nat)), v6, v7] 6 (.dat (.int (j : Nat)))) (S0 := S0) (a := .nm 2) (b := .nm 5) (e := .nm 6) hM rfl rfl rfl hi hj
  have e := call2 (G := G_Lmade) (j := 0) (x := T (ent M i j)) (y := T (w * (cf ms i * conN (cf ms j)))) rfl rfl rfl y1 (call2 (G := G_Lmade) (j := 1) (e1 := .nm 3) (x := T w) (y := T (cf ms i * conN (cf ms j))) rfl rfl rfl rfl (call2 (G := G_Lmade) (j := 1) (x := T (cf ms i)) (y := T (conN (cf ms j))) rfl rfl rfl (x1 i 5 hi rfl) (call1 (G := G_Lmade) (j := 2) (x := T (cf ms j)) rfl rfl rfl (x1 j 6 hj rfl) m1) m2) m3) m4
  exact st_nx (setx hM e rfl rfl rfl hi hj) rfl
theorem md_in (hn : n ≤ 100) (lm : ms.length = n) (hw : gq 1 15 w) (hm : ∀ p ∈ ms, gq 1 15 p) (hi : i < n) : ∀ (r j : Nat) (M : List (List Cq)) (K : Nat) (v6 : Lv), j + r = n → IsM n M → Mg 3 K M → 47 ≤ K → K + r ≤ 3000 → ∃ (M' : List (List Cq)) (v6' : Lv), forL (fun d L S => bnd (evG G_Lmade (.nm 6) d L S) fun L2 S2 => evSs G_Lmade mdJ L2 S2) ((List.range' j r).map fun i => D.int (i : Nat)) [v0, v1, .dat (cellL S0.length n), .dat (T w), .dat (RT ms), .dat (.int (i : Nat)), v6, v7] (S0 ++ rowsT M) = some ((.nx, [v0, v1, .dat (cellL S0.length n), .dat (T w), .dat (RT ms), .dat (.int (i : Nat)), v6', v7]), S0 ++ rowsT M') ∧
    IsM n M' ∧ Mg 3 (K + r) M' ∧ ∀ a b, a < n → b < n → ent M' a b = if a = i ∧ j ≤ b then ent M a b + w * (cf ms a * conN (cf ms b)) else ent M a b
  | 0, j, M, K, v6, hj, hM, hg, _, _ => ⟨M, v6, rfl, hM, hg, fun a b ha hb => by rw [if_neg (by omega)]⟩
  | r + 1, j, M, K, v6, hj, hM, hg, hK, hB => by
    have hjn : j < n := by omega
    have st := md_turn (S0 := S0) (v0 := v0) (v1 := v1) (v6 := v6) (v7 := v7) hn hM hg (by omega) (by omega) lm hw hm hi hjn
    have gi : gq 1 15 (cf ms i) := gq_cf hm (by decide) i
    have gj : gq 1 15 (cf ms j) := gq_cf hm (by decide) j
    have g3 : gq 3 47 (w * (cf ms i * conN (cf ms j))) := hw.mul (gi.mul gj.con)
    have hM1 : IsM n (setM M i j (ent M i j + w * (cf ms i * conN (cf ms j)))) := IsM_set hM hi
    have hg1 : Mg 3 (K + 1) (setM M i j (ent M i j + w * (cf ms i * conN (cf ms j)))) := Mg_set hM (hg.mono (by omega)) hi hjn ((Mg_ent hM hg hi hjn).add (g3.mono hK))
    obtain ⟨M', v6', e, hM', hg', hs⟩ := md_in hn lm hw hm hi r (j + 1) _ (K + 1) (.dat (.int (j : Nat))) (by omega) hM1 hg1 (by omega) (by omega)
    refine ⟨M', v6', ?_, hM', hg'.mono (by omega), fun a b ha hb => ?_⟩
    · rw [List.range'_succ, List.map_cons, forL_cons, st, bnd_some]
      exact e
    · rw [hs a b ha hb, ent_set hM hi hjn]
      by_cases hai : a = i
      · subst hai
        by_cases hbj : b = j
        · subst hbj
          rw [if_neg (by omega), if_pos ⟨rfl, rfl⟩, if_pos ⟨rfl, Nat.le_refl _⟩]
        · by_cases hle : j + 1 ≤ b
          · rw [if_pos ⟨rfl, hle⟩, if_neg (by omega), if_pos ⟨rfl, by omega⟩]
          · rw [if_neg (by omega), if_neg (by omega), if_neg (by omega)]
      · rw [if_neg (by omega), if_neg (by omega), if_neg (by omega)]
theorem md_mid (hn : n ≤ 10) (lm : ms.length = n) (hw : gq 1 15 w) (hm : ∀ p ∈ ms, gq 1 15 p) (hv : v0 = .dat (.int (n : Nat))) : ∀ (r i : Nat) (M : List (List Cq)) (K : Nat) (v5 v6 : Lv), i + r = n → IsM n M → Mg 3 K M → 47 ≤ K → K + r * n ≤ 3000 → ∃ (M' : List (List Cq)) (v5' v6' : Lv), forL (fun d L S => bnd (evG G_Lmade (.nm 5) d L S) fun L2 S2 => evSs G_Lmade mdI L2 S2) ((List.range' i r).map fun i => D.int (i : Nat)) [v0, v1, .dat (cellL S0.length n), .dat (T w), .dat (RT ms), v5, v6, v7] (S0 ++ rowsT M) = some ((.nx, [v0, v1, .dat (cellL S0.length n), .dat (T w), .dat (RT ms), v5', v6', v7]), S0 ++ rowsT M') ∧
    IsM n M' ∧ Mg 3 (K + r * n) M' ∧ ∀ a b, a < n → b < n → ent M' a b = if i ≤ a then ent M a b + w * (cf ms a * conN (cf ms b)) else ent M a b
  | 0, i, M, K, v5, v6, hi, hM, hg, _, _ => ⟨M, v5, v6, rfl, hM, by rw [Nat.zero_mul]; exact hg, fun a b ha hb => by rw [if_neg (by omega)]⟩
  | r + 1, i, M, K, v5, v6, hi, hM, hg, hK, hB => by
    rw [Nat.add_mul, Nat.one_mul] at hB
    obtain ⟨M1, v6', e, hM1, hg1, hs1⟩ := md_in (S0 := S0) (v0 := v0) (v1 := v1) (v7 := v7) (w := w) (ms := ms) (i := i) (n := n) (by omega) lm hw hm (by omega) n 0 M K v6 (by omega) hM hg hK (by omega)
    have cw : evW G_Lmade (.range1 (.nm 0)) [v0, v1, .dat (cellL S0.length n), .dat (T w), .dat (RT ms), .dat (.int (i : Nat)), v6, v7] (S0 ++ rowsT M) = some ((List.range' 0 n).map fun i => D.int (i : Nat), S0 ++ rowsT M) := by
      rw [← List.range_eq_range', hv]
      exact range1_nat rfl (by omega)
    obtain ⟨M', v5'', v6'', e', hM', hg', hs'⟩ := md_mid hn lm hw hm hv r (i + 1) M1 (K + n) (.dat (.int (i : Nat))) v6' (by omega) hM1 hg1 (by omega) (by omega)
    refine ⟨M', v5'', v6'', ?_, hM', hg'.mono (by rw [Nat.add_mul, Nat.one_mul]; omega), fun a b ha hb => ?_⟩
    · have hB : mdI = .cons (.for_ (.nm 6) (.range1 (.nm 0)) mdJ) .nil := rfl
      rw [List.range'_succ, List.map_cons, forL_cons, evG_nm, bnd_some]
      have st : evSs G_Lmade mdI [v0, v1, .dat (cellL S0.length n), .dat (T w), .dat (RT ms), .dat (.int (i : Nat)), v6, v7] (S0 ++ rowsT M) = some ((.nx, [v0, v1, .dat (cellL S0.length n), .dat (T w), .dat (RT ms), .dat (.int (i : Nat)), v6', v7]), S0 ++ rowsT M1) := by
        rw [hB]
        exact st_nx (ev_for rfl cw e) rfl
      show bnd (evSs G_Lmade mdI [v0, v1, .dat (cellL S0.length n), .dat (T w), .dat (RT ms), .dat (.int (i : Nat)), v6, v7] (S0 ++ rowsT M)) _ = _
      rw [st, bnd_some]
      exact e'
    · rw [hs' a b ha hb, hs1 a b ha hb]
      by_cases h1 : a = i
      · rw [if_neg (by omega), if_pos ⟨h1, Nat.zero_le _⟩, if_pos (by omega)]
      · by_cases h2 : i + 1 ≤ a
        · rw [if_pos h2, if_neg (by omega), if_pos (by omega)]
        · rw [if_neg h2, if_neg (by omega), if_neg (by omega)]
def sqD (s : Cq × List Cq) : D := .tup [T s.1, RT s.2]
def SqOk (n : Nat) (s : Cq × List Cq) : Prop := gq 1 15 s.1 ∧ conN s.1 = s.1 ∧ s.2.length = n ∧ ∀ p ∈ s.2, gq 1 15 p
theorem md_out (hn : n ≤ 10) (hv : v0 = .dat (.int (n : Nat))) : ∀ (ss : List (Cq × List Cq)) (M : List (List Cq)) (K : Nat) (v3 v4 v5 v6 : Lv), (∀ s ∈ ss, SqOk n s) → IsM n M → Mg 3 K M → 47 ≤ K → K + ss.length * (n * n) ≤ 3000 → ∃ (M' : List (List Cq)) (v3' v4' v5' v6' : Lv), forL (fun d L S => bnd (evG G_Lmade (.tup (.cons (.nm 3) (.cons (.nm 4) .nil))) d L S) fun L2 S2 => evSs G_Lmade mdB L2 S2) (ss.map sqD) [v0, v1, .dat (cellL S0.length n), v3, v4, v5, v6, v7] (S0 ++ rowsT M) = some ((.nx, [v0, v1, .dat (cellL S0.length n), v3', v4', v5', v6', v7]), S0 ++ rowsT M') ∧
    IsM n M' ∧ Mg 3 (K + ss.length * (n * n)) M' ∧ ∀ a b, a < n → b < n → ent M' a b = sqF a b (ent M a b) ss
  | [], M, K, v3, v4, v5, v6, _, hM, hg, _, _ => ⟨M, v3, v4, v5, v6, rfl, hM, by rw [List.length_nil, Nat.zero_mul]; exact hg, fun a b _ _ => rfl⟩
  | s :: ss, M, K, v3, v4, v5, v6, hs, hM, hg, hK, hB => by
    rw [List.length_cons, Nat.add_mul, Nat.one_mul] at hB
    obtain ⟨h1, _, h3, h4⟩ := hs s (List.mem_cons_self ..)
    obtain ⟨M1, v5', v6', e, hM1, hg1, hs1⟩ := md_mid (S0 := S0) (v0 := v0) (v1 := v1) (v7 := v7) (w := s.1) (ms := s.2) hn h3 h1 h4 hv n 0 M K v5 v6 (by omega) hM hg hK (by omega)
    have cw : evW G_Lmade (.range1 (.nm 0)) [v0, v1, .dat (cellL S0.length n), .dat (T s.1), .dat (RT s.2), v5, v6, v7] (S0 ++ rowsT M) = some ((List.range' 0 n).map fun i => D.int (i : Nat), S0 ++ rowsT M) := by
      rw [← List.range_eq_range', hv]
      exact range1_nat rfl (by omega)
    obtain ⟨M', w3, w4, w5, w6, e', hM', hg', hs'⟩ := md_out hn hv ss M1 (K + n * n) (.dat (T s.1)) (.dat (RT s.2)) v5' v6' (fun z hz => hs z (List.mem_cons_of_mem _ hz)) hM1 hg1 (by omega) (by omega)
    refine ⟨M', w3, w4, w5, w6, ?_, hM', hg'.mono (by rw [List.length_cons, Nat.add_mul, Nat.one_mul]; omega), fun a b ha hb => ?_⟩
    · have hB : mdB = .cons (.for_ (.nm 5) (.range1 (.nm 0)) mdI) .nil := rfl
      have st : evSs G_Lmade mdB [v0, v1, .dat (cellL S0.length n), .dat (T s.1), .dat (RT s.2), v5, v6, v7] (S0 ++ rowsT M) = some ((.nx, [v0, v1, .dat (cellL S0.length n), .dat (T s.1), .dat (RT s.2), v5', v6', v7]), S0 ++ rowsT M1) := by
        rw [hB]
        exact st_nx (ev_for rfl cw e) rfl
      rw [List.map_cons, forL_cons]
      show bnd (evSs G_Lmade mdB [v0, v1, .dat (cellL S0.length n), .dat (T s.1), .dat (RT s.2), v5, v6, v7] (S0 ++ rowsT M)) _ = _
      rw [st, bnd_some]
      exact e'
    · rw [hs' a b ha hb, hs1 a b ha hb, if_pos (Nat.zero_le _)]
      rfl
theorem r_Lmade {ss : List (Cq × List Cq)} (hn : n ≤ 6) (hs : ∀ s ∈ ss, SqOk n s) (hl : ss.length ≤ 6) : ∃ M, runF G_Lmade 8 b_Lmade [.int (n : Nat), .lst (ss.map sqD)] S = some (cellL S.length n, S ++ rowsT M) ∧ IsM n M ∧ Herm n M ∧ Mg 3 300 M ∧ ∀ a b, a < n → b < n → ent M a b = sqF a b 0 ss := by
  have hB : ss.length * (n * n) ≤ 6 * (6 * 6) := Nat.mul_le_mul hl (Nat.mul_le_mul hn hn)
  obtain ⟨M, w3, w4, w5, w6, e, hM, hg, hsp⟩ := md_out (S0 := S) (v0 := .dat (.int (n : Nat))) (v1 := .dat (.lst (ss.map sqD))) (v7 := .un) (n := n) (by omega) rfl ss (zerM n) 47 .un .un .un .un hs (IsM_zer n) (Mg_of (IsM_zer n) fun a b _ _ => by rw [ent_zer]; exact (gq_zero 3).mono (by decide)) (Nat.le_refl _) (by omega)
  refine ⟨M, ?_, hM, fun a b ha hb => ?_, hg.mono (by omega), fun a b ha hb => by rw [hsp a b ha hb, ent_zer]⟩
  · have c := zero_cells (G := G_Lmade) (L := [.dat (.int (n : Nat)), .dat (.lst (ss.map sqD)), .un, .un, .un, .un, .un, .un]) (S := S) (n := n) (t := 7) (own := [7]) (wk := .range1 (.nm 0)) (nx := .nm 0) (ds := (List.range n).map fun i => D.int (i : Nat)) (by omega) (fun d _ S => rfl) (range1_nat rfl (by omega)) (by rw [List.length_map, List.length_range])
    have cw : evW G_Lmade (.seq (.nm 1)) [.dat (.int (n : Nat)), .dat (.lst (ss.map sqD)), .dat (cellL S.length n), .un, .un, .un, .un, .un] (S ++ rowsT (zerM n)) = some (ss.map sqD, S ++ rowsT (zerM n)) := rfl
    refine run_en ?_
    have hb : b_Lmade = .cons (b_Lmade.nth 0) (.cons (.for_ (.tup (.cons (.nm 3) (.cons (.nm 4) .nil))) (.seq (.nm 1)) mdB) (.cons (.ret (.nm 2)) .nil)) := rfl
    rw [hb]
    exact en_nx (asgx (frx c)) (en_nx (ev_for rfl cw e) (en_ret rfl))
  · rw [hsp a b ha hb, hsp b a hb ha, ent_zer, ent_zer, con_sqF ss 0 0 (fun s hs' => (hs s hs').2.1) con_zero]
end
end W

set_option Elab.async false
set_option linter.all false
set_option autoImplicit false
set_option maxRecDepth 100000
set_option maxHeartbeats 2000000
namespace W
open PySem PySem.Spec PyProof.Rows L2 PD
section
variable {G : Gam} {L : PD.Loc} {Bs S S0 S1 S2 S3 : Store} {i j k l m n N c K nn : Nat} {p q u w z : Cq} {x : Rat} {ps qs cs ds ms : List Cq} {M CS : List (List Cq)} {X Y d : D} {A v0 v1 v2 v3 v4 v5 v6 v7 : Lv} {a b : Xp}
theorem Herm_set2 (hM : IsM n M) (h : Herm n M) (hi : i < n) (hj : j < n) (ne : i ≠ j) : Herm n (setM (setM M i j z) j i (conN z)) := fun a b ha hb => by
  have h1 := IsM_set (j := j) (z := z) hM hi
  rw [ent_set h1 hj hi, ent_set h1 hj hi, ent_set hM hi hj, ent_set hM hi hj]
  by_cases c1 : a = i
  · by_cases c2 : b = j
    · subst c1 c2
      rw [if_neg (by omega), if_pos ⟨rfl, rfl⟩, if_pos ⟨rfl, rfl⟩, con_con]
    · rw [if_neg (by omega), if_neg (by omega)]
      by_cases c3 : b = i
      · rw [if_neg (by omega), if_neg (by omega)]
        exact h a b ha hb
      · rw [if_neg (by omega), if_neg (by omega)]
        exact h a b ha hb
  · by_cases c4 : a = j
    · by_cases c5 : b = i
      · subst c4 c5
        rw [if_pos ⟨rfl, rfl⟩, if_neg (by omega), if_pos ⟨rfl, rfl⟩]
      · rw [if_neg (by omega), if_neg (by omega), if_neg (by omega), if_neg (by omega)]
        exact h a b ha hb
    · rw [if_neg (by omega), if_neg (by omega), if_neg (by omega), if_neg (by omega)]
      exact h a b ha hb
theorem Herm_set1 (hM : IsM n M) (h : Herm n M) (hi : i < n) (hz : conN z = z) : Herm n (setM M i i z) := fun a b ha hb => by
  rw [ent_set hM hi hi, ent_set hM hi hi]
  by_cases c1 : a = i ∧ b = i
  · rw [if_pos c1, if_pos ⟨c1.2, c1.1⟩, hz]
  · rw [if_neg c1, if_neg fun e => c1 ⟨e.2, e.1⟩]
    exact h a b ha hb
/-- a draw while tables stand behind -/
theorem draw_more {R : List (List D)} {m : Int} (h : Pl Bs N S0 nn) (hN : N ≤ 1000000) (hm : 0 < m) (hm2 : m < 1073741824) : ∃ v S0', runF G_Ldraw 3 b_Ldraw [.cell nn, .int m] (S0 ++ R) = some (.int v, S0' ++ R) ∧ (0 ≤ v ∧ v < m) ∧ Pl Bs (N + 1) S0' nn ∧ S0'.length = S0.length := by
  obtain ⟨v, S0', e, ⟨z, rfl, hz⟩, r⟩ := at_more (run := runF G_Ldraw 3 b_Ldraw [.cell nn, .int m]) (P := fun v => ∃ z : Int, v = .int z ∧ 0 ≤ z ∧ z < m) (R := R) (fun Bs S h => by
    obtain ⟨v, S', e, v0, v1, h'⟩ := r_Ldraw h hN hm hm2
    exact ⟨.int v, S', e, ⟨v, rfl, v0, v1⟩, h'⟩) h
  exact ⟨z, S0', e, hz, r⟩
theorem small_more {R : List (List D)} (h : Pl Bs N S0 nn) (hN : N ≤ 900000) : ∃ p S0', runF G_Lsmall 1 b_Lsmall [.cell nn] (S0 ++ R) = some (T p, S0' ++ R) ∧ gq 1 15 p ∧ Pl Bs (N + 5) S0' nn ∧ S0'.length = S0.length := by
  obtain ⟨v, S0', e, ⟨z, rfl, hz⟩, r⟩ := at_more (run := runF G_Lsmall 1 b_Lsmall [.cell nn]) (P := fun v => ∃ z : Cq, v = T z ∧ gq 1 15 z) (R := R) (fun Bs S h => by
    obtain ⟨p, S', e, hp, h'⟩ := r_Lsmall h hN
    exact ⟨T p, S', e, ⟨p, rfl, hp⟩, h'⟩) h
  exact ⟨z, S0', e, hz, r⟩
/-- no cell of before holds a new one: but for the pot nothing is written -/
theorem seal_pot {S0 : Store} {R : List (List D)} (h : Pl S N S0 nn) : SealOk S (S0 ++ R) := fun i row hi he => by
  have hl := h.len
  rw [List.getElem?_append_left (by omega)] at he
  by_cases hn : i = nn
  · subst hn
    obtain ⟨⟨a, b, c, e, _⟩, _⟩ := h
    rw [e] at he
    cases he
    exact .inr rfl
  · rw [h.at hn] at he
    exact .inl he
end
end W

set_option Elab.async false
set_option linter.all false
set_option autoImplicit false
set_option maxRecDepth 100000
set_option maxHeartbeats 2000000
namespace W
open PySem PySem.Spec PyProof.Rows L2 PD
section
variable {G : Gam} {L : PD.Loc} {Bs S S0 S1 S2 S3 : Store} {i j k l m n N c K nn : Nat} {p q u w z : Cq} {x : Rat} {ps qs cs ms : List Cq} {M CS : List (List Cq)} {X Y d : D} {A v0 v1 v2 v3 v4 v5 v6 v7 : Lv} {a b : Xp}
theorem comp_pl {α : Type} {enc : α → D} {P : α → Prop} {turn : D → Store → Option (Option D × Store)} {w B : Nat} : ∀ (ds : List D) (S : Store) (N : Nat), (∀ d ∈ ds, ∀ S N, Pl Bs N S nn → N ≤ B → ∃ (a : α) (S' : Store), turn d S = some (some (enc a), S') ∧ P a ∧ Pl Bs (N + w) S' nn) → Pl Bs N S nn → N + w * ds.length ≤ B →
    ∃ (as : List α) (S' : Store), compL turn ds S = some (as.map enc, S') ∧ (∀ a ∈ as, P a) ∧ as.length = ds.length ∧ Pl Bs (N + w * ds.length) S' nn
  | [], S, N, _, h, _ => ⟨[], S, rfl, fun p hp => (by cases hp), rfl, h⟩
  | d :: ds, S, N, step, h, hN => by
    have e0 : w * (d :: ds).length = w + w * ds.length := by show w * (ds.length + 1) = _; rw [Nat.mul_add]; omega
    rw [e0] at hN
    obtain ⟨p, S1, e1, p1, h1⟩ := step d (List.mem_cons_self ..) S N h (by omega)
    obtain ⟨ps, S2, e2, p2, l2, h2⟩ := comp_pl ds S1 (N + w) (fun z hz => step z (List.mem_cons_of_mem _ hz)) h1 (by omega)
    refine ⟨p :: ps, S2, ?_, ?_, by simp [l2], by rw [e0]; exact h2.mono (by omega)⟩
    · rw [compL_cons, e1, bnd_some, e2, bnd_some]; rfl
    · intro z hz
      rcases List.mem_cons.mp hz with rfl | hz
      · exact p1
      · exact p2 z hz
/-- a comprehension that draws -/
theorem comp_dr {α : Type} {enc : α → D} {P : α → Prop} {w B t : Nat} {wk : Wk} {own : List Nat} {elt : Xp} {ds : List D} (hw : evW G wk L S = some (ds, S1)) (hl : ds.length ≤ 1000) (step : ∀ d ∈ ds, ∀ S N, Pl Bs N S nn → N ≤ B → ∃ (a : α) (S' : Store), evX G elt ((wipeL L own).set t (.dat d)) S = some (.d (enc a), S') ∧ P a ∧ Pl Bs (N + w) S' nn) (h : Pl Bs N S1 nn) (hN : N + w * ds.length ≤ B) :
    ∃ (as : List α) (S' : Store), evF G (.comp elt (.nm t) wk .none own) L S = some (as.map enc, S') ∧ (∀ a ∈ as, P a) ∧ as.length = ds.length ∧ Pl Bs (N + w * ds.length) S' nn := by
  rw [evF_comp, hw, bnd_some, if_pos (lt_line hl)]
  refine comp_pl ds S1 N (fun d hd S N h hN => ?_) h hN
  obtain ⟨a, S', e, hp, h'⟩ := step d hd S N h hN
  refine ⟨a, S', ?_, hp, h'⟩
  rw [evG_nm, bnd_some, evC_none, bnd_some, if_pos rfl, e]; rfl
end
end W

set_option Elab.async false
set_option linter.all false
set_option autoImplicit false
set_option maxRecDepth 100000
set_option maxHeartbeats 2000000
namespace W
open PySem PySem.Spec PyProof.Rows L2 PD
section
variable {G : Gam} {L : PD.Loc} {Bs S S0 S1 S2 S3 : Store} {i j k l m n N c K nn : Nat} {p q u w z : Cq} {x : Rat} {ps qs cs ds ms : List Cq} {M M2 CS : List (List Cq)} {X Y d : D} {A v0 v1 v2 v3 v4 v5 v6 v7 : Lv} {a b : Xp}
theorem callS2 {G G' : Gam} {j m : Nat} {nm : Str} {b : Sms} {e1 e2 : Xp} {L : PD.Loc} {S S1 S2 S3 : Store} {x y d : D} (hE : G.ents[j]? = some (sealE (mkEnt nm 2 [] [] [0, 1] G' m b))) (h1 : evX G e1 L S = some (.d x, S1)) (h2 : evX G e2 L S1 = some (.d y, S2)) (hs : sealR S2 (runF G' m b [x, y] S2) = some (d, S3)) : evX G (.call j (.cons e1 (.cons e2 .nil)) .nil) L S = some (.d d, S3) := by
  have hs : (sealE (mkEnt nm 2 [] [] [0, 1] G' m b)).sem [x, y] S2 = some (d, S3) := hs
  rw [evX_call, hE]
  simp [-mk_sem, -se_sem, h1, h2, hs]
theorem pureMT (M : List (List Cq)) : D.pure (MT M) = true := by
  show D.pures (M.map RT) = true
  induction M with
  | nil => rfl
  | cons r M ih => show (D.pures (r.map T) && D.pures (M.map RT)) = true; rw [puresT, ih]; rfl
end
end W

set_option Elab.async false
set_option linter.all false
set_option autoImplicit false
set_option maxRecDepth 100000
set_option maxHeartbeats 2000000
namespace W
open PySem PySem.Spec PyProof.Rows L2 PD
section
variable {G : Gam} {L : PD.Loc} {Bs S S0 S1 S2 S3 : Store} {i j k l m n N c nn : Nat} {p q : Cq} {M M2 CS LS : List (List Cq)} {a b : Xp}
theorem parx3 {e1 e2 e3 : Xp} {x y z : D} (h1 : evX G e1 L S = some (.d x, S1)) (h2 : evX G e2 L S1 = some (.d y, S2)) (h3 : evX G e3 L S2 = some (.d z, S3)) : evS G (.par [i, j, k] (.cons e1 (.cons e2 (.cons e3 .nil)))) L S = some ((.nx, ((L.set k (.dat z)).set j (.dat y)).set i (.dat x)), S3) := by
  rw [evS_par, evXs_cons, h1, bnd_some, evXs_cons, h2, bnd_some, evXs_cons, h3]
  rfl
theorem cut_two (xs : List D) : PD.cutD xs none (some 2) = xs.take 2 := by
  match xs with
  | [] => rfl
  | [_] => rfl
  | _ :: _ :: r => exact cut_take (_ :: _ :: r) 2 (by simp)
theorem r_Lmany (h : Pl Bs N S nn) (hN : N ≤ 900000) : ∃ (m : Nat) (S' : Store), runF G_Lmany 1 b_Lmany [.cell nn] S = some (.int (m : Nat), S') ∧ m ≤ 6 ∧ Pl Bs (N + 1) S' nn := by
  obtain ⟨x, S1, hx, e, h1⟩ := r_Lpick (xs := [.int 0, .int 1, .int 1, .int 2, .int 2, .int 2, .int 3, .int 3, .int 3, .int 3, .int 4, .int 4, .int 5]) h (by omega) (by decide) (by decide)
  obtain ⟨m, rfl, hm⟩ : ∃ m : Nat, x = .int (m : Nat) ∧ m ≤ 6 := by
    simp only [List.mem_cons, List.not_mem_nil, or_false] at hx
    rcases hx with rfl | rfl | rfl | rfl | rfl | rfl | rfl | rfl | rfl | rfl | rfl | rfl | rfl
    · exact ⟨0, rfl, by decide⟩
    · exact ⟨1, rfl, by decide⟩
    · exact ⟨1, rfl, by decide⟩
    · exact ⟨2, rfl, by decide⟩
    · exact ⟨2, rfl, by decide⟩
    · exact ⟨2, rfl, by decide⟩
    · exact ⟨3, rfl, by decide⟩
    · exact ⟨3, rfl, by decide⟩
    · exact ⟨3, rfl, by decide⟩
    · exact ⟨3, rfl, by decide⟩
    · exact ⟨4, rfl, by decide⟩
    · exact ⟨4, rfl, by decide⟩
    · exact ⟨5, rfl, by decide⟩
  refine ⟨m, S1, run_ret (call2 (x := .cell nn) rfl rfl rfl rfl rfl e), hm, h1⟩
/-! ### led lines -/
theorem gq_led (hM : IsM n M) (hn : n ≤ 6) (hg : Mg 3 301 M) (hC : ∀ c ∈ CS, (∀ p ∈ c, gq 1 32 p) ∧ c.length = n) : ∀ r ∈ ledM M CS, ∀ p ∈ r, hb 500 p := fun r hr p hp => by
  obtain ⟨c, hc, rfl⟩ := List.mem_map.mp hr
  obtain ⟨d, hd, rfl⟩ := List.mem_map.mp hp
  have g := gq_tog hg (by decide) (hC c hc).1 (hC d hd).1
  exact g.hb (by have := (hC c hc).2; have := hM.1; omega) (by decide)
theorem led_len : (ledM M CS).length = CS.length := by unfold ledM; rw [List.length_map]
theorem led_row : ∀ r ∈ ledM M CS, r.length = CS.length := fun r hr => by
  obtain ⟨c, hc, rfl⟩ := List.mem_map.mp hr
  rw [List.length_map]
/-! the end of a turn: what is led, shown twice -/
end
end W

set_option Elab.async false
set_option linter.all false
set_option autoImplicit false
set_option maxRecDepth 100000
set_option maxHeartbeats 2000000
namespace W
open PySem PySem.Spec PyProof.Rows L2 PD
section
variable {G : Gam} {L : PD.Loc} {Bs S S0 S1 S2 S3 : Store} {i j k l m n N c K : Nat} {p q u w z : Cq} {x : Rat} {ps qs cs ds ms : List Cq} {M M2 CS : List (List Cq)} {X Y d : D} {a b : Xp}
theorem call2d {G G' : Gam} {j m : Nat} {nm : Str} {b : Sms} {e1 e2 : Xp} {L : PD.Loc} {S S1 S2 S3 : Store} {x y z d : D} (hE : G.ents[j]? = some (mkEnt nm 2 [] [z] [0, 1, 2] G' m b)) (h1 : evX G e1 L S = some (.d x, S1)) (h2 : evX G e2 L S1 = some (.d y, S2)) (hs : runF G' m b [x, y, z] S2 = some (d, S3)) : evX G (.call j (.cons e1 (.cons e2 .nil)) .nil) L S = some (.d d, S3) := by
  rw [evX_call, hE]
  simp [h1, h2, pick, hs]
theorem cmpn_Nm0 {x : Cq} : cmpV .ne (.d (Nm x)) (.d (.tup [.tup [.int 0, .int 1], .tup [.int 0, .int 1]])) = some (!decide (x = 0)) := cmpn_Nm (y := c0)
/-! ### the first that is not nought -/
def foB : Sms := (b_first_other.nth 0).body
theorem fo_loop {X : Lv} : ∀ (rest : List Cq) (t : Nat) (e1 e2 : Lv), ∃ e1' e2', forL (fun d L S => bnd (evG G_first_other (.tup (.cons (.nm 1) (.cons (.nm 2) .nil))) d L S) fun L2 S2 => evSs G_first_other foB L2 S2) (enG t (rest.map Nm)) [X, e1, e2] S = some ((match fstO rest with | none => .nx | some i => .ret (.int ((t + i : Nat) : Int)), [X, e1', e2']), S)
  | [], t, e1, e2 => ⟨e1, e2, rfl⟩
  | p :: rest, t, e1, e2 => by
    have st : (bnd (evG G_first_other (.tup (.cons (.nm 1) (.cons (.nm 2) .nil))) (.tup [.int (t : Nat), Nm p]) [X, e1, e2] S) fun L2 S2 => evSs G_first_other foB L2 S2) = some ((if p = 0 then .nx else .ret (.int (t : Nat)), [X, .dat (.int (t : Nat)), .dat (Nm p)]), S) := by
      generalize ((t : Nat) : Int) = tt
      by_cases h : p = 0
      · simp [foB, Sms.nth, Sm.body, b_first_other, G_first_other, c_NOUGHT, cmpn_Nm0, h]
      · simp [foB, Sms.nth, Sm.body, b_first_other, G_first_other, c_NOUGHT, cmpn_Nm0, h]
    show ∃ e1' e2', forL _ (D.tup [.int ((t : Nat) : Int), Nm p] :: enG (t + 1) (rest.map Nm)) _ _ = _
    rw [forL_cons, st, bnd_some]
    unfold fstO
    by_cases h : p = 0
    · rw [if_pos h, if_pos h]
      obtain ⟨a1, a2, e⟩ := fo_loop rest (t + 1) (.dat (.int (t : Nat))) (.dat (Nm p))
      refine ⟨a1, a2, ?_⟩
      refine Eq.trans e ?_
      cases fstO rest with
      | none => rfl
      | some i => show some ((Fl.ret (.int ((t + 1 + i : Nat) : Int)), _), S) = some ((Fl.ret (.int ((t + (i + 1) : Nat) : Int)), _), S); rw [show t + 1 + i = t + (i + 1) by omega]
    · rw [if_neg h, if_neg h]
      exact ⟨_, _, rfl⟩
def FoD (o : Option Nat) : D := match o with | none => .non | some i => .int (i : Nat)
theorem r_first_other : runF G_first_other 3 b_first_other [RN ps] S = some (FoD (fstO ps), S) := by
  obtain ⟨e1, e2, e⟩ := fo_loop (S := S) (X := .dat (RN ps)) ps 0 .un .un
  rw [← enumD_eq] at e
  have cw : evW G_first_other (.enum (.nm 0)) [.dat (RN ps), .un, .un] S = some (enumD (ps.map Nm), S) := rfl
  refine run_en ?_
  have hb : b_first_other = .cons (.for_ (.tup (.cons (.nm 1) (.cons (.nm 2) .nil))) (.enum (.nm 0)) foB) (.cons (.ret (.lit .non)) .nil) := rfl
  rw [hb]
  have f := ev_for (G := G_first_other) (t := .tup (.cons (.nm 1) (.cons (.nm 2) .nil))) (b := foB) rfl cw e
  cases h : fstO ps with
  | none => rw [h] at f; exact en_nx f (en_ret rfl)
  | some i =>
    rw [h] at f
    refine en_ret (L2 := [.dat (RN ps), e1, e2]) (Eq.trans f ?_)
    show some ((Fl.ret (D.int ((0 + i : Nat) : Int)), _), S) = _
    rw [Nat.zero_add]; rfl
/-! ### rows -/
theorem r_unit_mix {t : Int} (hn : n ≤ 1000) : runF G_unit_mix 4 b_unit_mix [.int (n : Nat), .int t, .tup [.tup [.int 1, .int 1], .tup [.int 0, .int 1]]] S = some (RN (unitR n t), S) := by
  refine run_ret (tupx ?_)
  show evF _ _ [.dat (.int (n : Nat)), .dat (.int t), .dat (Nm 1), .un] S = some ((unitR n t).map Nm, S)
  unfold unitR
  rw [List.map_map]
  refine comp_nm (g := fun i : Nat => D.int (i : Nat)) (range1_nat rfl hn) (by rw [List.length_range]; exact hn) fun i _ => ?_
  show evX G_unit_mix _ [.dat (.int (n : Nat)), .dat (.int t), .dat (Nm 1), .dat (.int ((i : Nat) : Int))] S = some (.d (Nm (if ((i : Nat) : Int) = t then 1 else 0)), S)
  generalize ((i : Nat) : Int) = ii
  generalize ((n : Nat) : Int) = ni
  have h0 : Nm 0 = .tup [.tup [.int 0, .int 1], .tup [.int 0, .int 1]] := Nm_c0
  by_cases h : ii = t
  · simp [G_unit_mix, c_NOUGHT, h]
  · simp [G_unit_mix, c_NOUGHT, h, h0]
theorem r_mix_less (hp : ∀ p ∈ ps, hb k p) (hq : ∀ p ∈ qs, hb l p) (hu : hb m u) (h1 : m + l < 2200) (h2 : k + m + l + 1 < 9000) (hl : ps.length ≤ 1000) : runF G_mix_less 5 b_mix_less [RN ps, RN qs, Nm u] S = some (RN (lesR ps qs u), S) := by
  refine run_ret (tupx ?_)
  show evF _ _ _ S = some ((lesR ps qs u).map Nm, S)
  unfold lesR
  rw [← zw_map]
  exact comp_zip (g := Nm) (h := Nm) rfl hl fun p hp' q hq' => call2 (x := Nm p) (y := Nm (u * q)) rfl rfl rfl rfl (call2 (x := Nm u) (y := Nm q) rfl rfl rfl rfl rfl (r_num_product hu (hq q hq') h1)) (r_num_less (hp p hp') (hu.mul (hq q hq')) (by omega))
theorem r_tables_minus (hM : BdM k n M) (hN : BdM l n M2) (h1 : 1 + l < 2200) (h2 : k + l + 2 < 9000) (hn : n ≤ 1000) : runF G_tables_minus 4 b_tables_minus [MN M, MN M2] S = some (MN (minM M M2), S) := by
  refine run_ret (tupx ?_)
  show evF _ _ _ S = some ((minM M M2).map RN, S)
  unfold minM
  rw [← zw_mapR]
  exact comp_zip (g := RN) (h := RN) rfl (by rw [hM.1]; exact hn) fun r hr s hs => call3 (x := RN r) (y := RN s) (z := Nm 1) rfl rfl rfl rfl rfl rfl (r_mix_less (k := k) (l := l) (m := 1) (hM.2 r hr).2 (hN.2 s hs).2 hb_1 h1 (by omega) (by rw [(hM.2 r hr).1]; exact hn))
theorem r_frac_sign : runF G_frac_sign 1 b_frac_sign [F x] S = some (.int ((if 0 < x.num then 1 else 0) - (if x.num < 0 then 1 else 0)), S) := by
  rw [runF_eq]
  by_cases h1 : 0 < x.num
  · have h2 : ¬ x.num < 0 := by omega
    simp [b_frac_sign, G_frac_sign, F, h1, h2]
  · by_cases h2 : x.num < 0
    · simp [b_frac_sign, G_frac_sign, F, h1, h2]
    · simp [b_frac_sign, G_frac_sign, F, h1, h2]
end
end W

set_option Elab.async false
set_option linter.all false
set_option autoImplicit false
set_option maxRecDepth 100000
set_option maxHeartbeats 2000000
namespace W
open PySem PySem.Spec PyProof.Rows L2 PD
section
variable {G : Gam} {L : PD.Loc} {Bs S S0 S1 S2 S3 : Store} {i j k l m n N c K t : Nat} {p q u z : Cq} {w x : Rat} {ps qs cs ds ms : List Cq} {M M2 CS left : List (List Cq)} {X Y d : D} {a b : Xp}
theorem BdR.hc (h : BdR K n ps) (hi : i < n) : hb K (PD.cf ps i) := by
  have : i < ps.length := by rw [h.1]; exact hi
  unfold PD.cf
  rw [List.getElem?_eq_getElem this]
  exact h.2 _ (List.getElem_mem this)
theorem BdM.row (h : BdM K n M) (hi : i < n) : ∃ r, M[i]? = some r ∧ BdR K n r := by
  have : i < M.length := by rw [h.1]; exact hi
  exact ⟨M[i], List.getElem?_eq_getElem this, h.2 _ (List.getElem_mem this)⟩
theorem BdM.isM (h : BdM K n M) : IsM n M := ⟨h.1, fun r hr => (h.2 r hr).1⟩
theorem BdM.he (h : BdM K n M) (hi : i < n) (hj : j < n) : hb K (PD.ent M i j) := by
  obtain ⟨r, h1, h2⟩ := h.row hi
  unfold PD.ent
  rw [h1]
  exact h2.hc hj
theorem cfx {e : Xp} (ha : evX G a L S = some (.d (RN ps), S1)) (hb : evX G e L S1 = some (.d (.int (i : Nat)), S2)) (h : i < ps.length) : evX G (.ix a e) L S = some (.d (Nm (cf ps i)), S2) :=
  ixT (ds := ps.map Nm) ha hb (by rw [List.getElem?_map, List.getElem?_eq_getElem h]; unfold cf; rw [List.getElem?_eq_getElem h]; rfl)
theorem rowx {e : Xp} (ha : evX G a L S = some (.d (MN M), S1)) (hb : evX G e L S1 = some (.d (.int (i : Nat)), S2)) (h : i < M.length) : evX G (.ix a e) L S = some (.d (RN ((M[i]?).getD [])), S2) :=
  ixT (ds := M.map RN) ha hb (by rw [List.getElem?_map, List.getElem?_eq_getElem h]; rfl)
theorem entx {e f : Xp} (ha : evX G a L S = some (.d (MN M), S1)) (hb : evX G e L S1 = some (.d (.int (i : Nat)), S2)) (hf : evX G f L S2 = some (.d (.int (j : Nat)), S3)) (hM : IsM n M) (hi : i < n) (hj : j < n) : evX G (.ix (.ix a e) f) L S = some (.d (Nm (ent M i j)), S3) := by
  have h : i < M.length := by rw [hM.1]; exact hi
  refine cfx (rowx ha hb h) hf ?_
  rw [List.getElem?_eq_getElem h]
  show j < (M[i]).length
  rw [hM.2 _ (List.getElem_mem h)]; exact hj
theorem isNx {e : Xp} {o : Option Nat} (he : evX G e L S = some (.d (FoD o), S1)) : evX G (.cmp .isN e (.lit .non)) L S = some (.d (.bl o.isNone), S1) := by
  rw [evX_cmp, he]
  cases o <;> rfl
theorem ifx {e : Xp} {x y : Sms} (hc : evX G e L S = some (.d (.bl true), S1)) : evS G (.ife e x y) L S = evSs G x L S1 := by
  rw [evS_ife, hc]; rfl
theorem ifn {e : Xp} {x y : Sms} (hc : evX G e L S = some (.d (.bl false), S1)) : evS G (.ife e x y) L S = evSs G y L S1 := by
  rw [evS_ife, hc]; rfl
theorem st_cnt {s : Sm} {ss : Sms} {L1 : PD.Loc} (h : evS G s L S = some ((.cnt, L1), S1)) : evSs G (.cons s ss) L S = some ((.cnt, L1), S1) := by
  rw [evSs_cons, h]; rfl
/-! ### the table of a square -/
def stB : Sms := (b_square_table.nth 2).body
theorem st_row (hm : ∀ p ∈ ms, hb k p) (hp : hb k p) (hw : Sz l w) (h1 : k + k < 2200) (h2 : k + k + 1 + l < 9000) (hl : ms.length ≤ 1000) {acc : List D} : evF G_square_table (.comp (.call 1 (.cons (.call 2 (.cons (.nm 3) (.cons (.nm 4) .nil)) .nil) (.cons (.ix (.nm 0) (.lit (.int 0))) .nil)) .nil) (.nm 4) (.seq (.nm 1)) .none [4]) [.dat (SqN (w, cs)), .dat (RN ms), .own acc, .dat (Nm p), .un] S = some ((ms.map fun b => p * b * re w).map Nm, S) := by
  rw [List.map_map]
  refine comp_nm (g := Nm) rfl hl fun b hb' => ?_
  exact call2 (x := Nm (p * b)) (y := F w) rfl rfl rfl (call2 (x := Nm p) (y := Nm b) rfl rfl rfl rfl rfl (r_num_product hp (hm b hb') h1)) (ixT (i := 0) rfl rfl rfl) (r_num_scaled (hp.mul (hm b hb')) hw (by omega))
theorem st_loop (hm : ∀ p ∈ ms, hb k p) (hw : Sz l w) (h1 : k + k < 2200) (h2 : k + k + 1 + l < 9000) (hl : ms.length ≤ 1000) : ∀ (rest : List Cq) (acc : List D) (e3 : Lv), (∀ p ∈ rest, hb k p) → acc.length + rest.length ≤ 1000 → ∃ e3', forL (fun d L S => bnd (evG G_square_table (.nm 3) d L S) fun L2 S2 => evSs G_square_table stB L2 S2) (rest.map Nm) [.dat (SqN (w, cs)), .dat (RN ms), .own acc, e3, .un] S = some ((.nx, [.dat (SqN (w, cs)), .dat (RN ms), .own (acc ++ rest.map fun a => RN (ms.map fun b => a * b * re w)), e3', .un]), S)
  | [], acc, e3, _, _ => ⟨e3, by show some _ = some _; simp⟩
  | p :: rest, acc, e3, hp, hc => by
    have l0 : (p :: rest).length = rest.length + 1 := rfl
    rw [l0] at hc
    obtain ⟨e3', e⟩ := st_loop hm hw h1 h2 hl rest (acc ++ [RN (ms.map fun b => p * b * re w)]) (.dat (Nm p)) (fun z hz => hp z (List.mem_cons_of_mem _ hz)) (by simp; omega)
    refine ⟨e3', ?_⟩
    have c := st_row (S := S) (cs := cs) (acc := acc) hm (hp p (List.mem_cons_self ..)) hw h1 h2 hl
    have st : (bnd (evG G_square_table (.nm 3) (Nm p) [.dat (SqN (w, cs)), .dat (RN ms), .own acc, e3, .un] S) fun L2 S2 => evSs G_square_table stB L2 S2) = some ((.nx, [.dat (SqN (w, cs)), .dat (RN ms), .own (acc ++ [RN (ms.map fun b => p * b * re w)]), .dat (Nm p), .un]), S) := by
      show evSs G_square_table (.cons (.app 2 (.bi .tuple (.cons (.fr (.comp (.call 1 (.cons (.call 2 (.cons (.nm 3) (.cons (.nm 4) .nil)) .nil) (.cons (.ix (.nm 0) (.lit (.int 0))) .nil)) .nil) (.nm 4) (.seq (.nm 1)) .none [4])) .nil))) .nil) [.dat (SqN (w, cs)), .dat (RN ms), .own acc, .dat (Nm p), .un] S = _
      refine st_nx (appx (tupx c) rfl (by omega)) rfl
    rw [List.map_cons, forL_cons, st, bnd_some]
    rw [List.map_cons, show acc ++ (RN (ms.map fun b => p * b * re w) :: rest.map fun a => RN (ms.map fun b => a * b * re w)) = acc ++ [RN (ms.map fun b => p * b * re w)] ++ rest.map fun a => RN (ms.map fun b => a * b * re w) by simp]
    exact e
theorem r_square_table (hm : BdR k n ms) (hw : Sz l w) (h1 : k + k < 2200) (h2 : k + k + 1 + l < 9000) (hn : n ≤ 1000) : runF G_square_table 5 b_square_table [SqN (w, ms)] S = some (MN (sqTab w ms), S) := by
  have hm2 : ∀ p ∈ ms.map conN, hb k p := fun p hp => by
    obtain ⟨q, hq, rfl⟩ := List.mem_map.mp hp
    exact (hm.2 q hq).con
  have hl : ms.length ≤ 1000 := by rw [hm.1]; exact hn
  obtain ⟨e3, e⟩ := st_loop (S := S) (cs := ms) hm2 hw h1 h2 (by rw [List.length_map]; exact hl) ms [] .un hm.2 (by simpa using hl)
  have cw : evW G_square_table (.seq (.ix (.nm 0) (.lit (.int 1)))) [.dat (SqN (w, ms)), .dat (RN (ms.map conN)), .own [], .un, .un] S = some (ms.map Nm, S) := rfl
  refine run_en ?_
  have hb' : b_square_table = .cons (.asg (.nm 1) (.call 0 (.cons (.ix (.nm 0) (.lit (.int 1))) .nil) .nil)) (.cons (.own 2 (.disp .nil)) (.cons (.for_ (.nm 3) (.seq (.ix (.nm 0) (.lit (.int 1)))) stB) (.cons (.ret (.bi .tuple (.cons (.nm 2) .nil))) .nil))) := rfl
  rw [hb']
  refine en_nx (asgx (call1 (x := RN ms) rfl rfl rfl (ixT (i := 1) rfl rfl rfl) (r_mix_mirrored hl))) ?_
  refine en_nx (L2 := [.dat (SqN (w, ms)), .dat (RN (ms.map conN)), .own [], .un, .un]) (S2 := S) rfl ?_
  have ee : MN (sqTab w ms) = .tup ([] ++ ms.map fun a => RN ((ms.map conN).map fun b => a * b * re w)) := by
    unfold MN sqTab
    rw [List.map_map]; rfl
  rw [ee]
  exact en_nx (ev_for rfl cw e) (en_ret rfl)
theorem r_lead_square (hM : BdM k n M) (ht : t < n) (h0 : ent M t t ≠ 0) (h : 4 * k < 2100) (hn : n ≤ 1000) : runF G_lead_square 4 b_lead_square [MN M, .int (t : Nat)] S = some (SqN ((ent M t t).1, ldM M t), S) := by
  refine run_en ?_
  have hb' : b_lead_square = .cons (.asg (.nm 2) (.ix (.ix (.nm 0) (.nm 1)) (.nm 1))) (.cons (.ret (.tup (.cons (.ix (.nm 2) (.lit (.int 0))) (.cons (.bi .tuple (.cons (.fr (.comp (.call 0 (.cons (.ix (.nm 3) (.nm 1)) (.cons (.nm 2) .nil)) .nil) (.nm 3) (.seq (.nm 0)) .none [3])) .nil)) .nil)))) .nil) := rfl
  rw [hb']
  refine en_nx (asgx (entx (n := n) (i := t) (j := t) rfl rfl rfl hM.isM ht ht)) (en_ret (retx ?_))
  have c : evF G_lead_square (.comp (.call 0 (.cons (.ix (.nm 3) (.nm 1)) (.cons (.nm 2) .nil)) .nil) (.nm 3) (.seq (.nm 0)) .none [3]) [.dat (MN M), .dat (.int (t : Nat)), .dat (Nm (ent M t t)), .un] S = some ((ldM M t).map Nm, S) := by
    unfold ldM
    rw [List.map_map]
    refine comp_nm (g := RN) rfl (by rw [hM.1]; exact hn) fun r hr => ?_
    exact call2 (x := Nm (cf r t)) (y := Nm (ent M t t)) rfl rfl rfl (cfx rfl rfl (by rw [(hM.2 r hr).1]; exact ht)) rfl (r_num_over (k := k) (l := k) ((hM.2 r hr).hc ht) (hM.he ht ht) h0 (by omega))
  show evX _ _ [.dat (MN M), .dat (.int (t : Nat)), .dat (Nm (ent M t t)), .un] S = _
  rw [evX_tup, evXs_cons, ixT (i := 0) (ds := [F (ent M t t).1, F (ent M t t).2]) (L := [.dat (MN M), .dat (.int (t : Nat)), .dat (Nm (ent M t t)), .un]) (S := S) rfl rfl rfl, bnd_some, evXs_cons, tupx c]
  rfl
end
end W

set_option Elab.async false
set_option linter.all false
set_option autoImplicit false
set_option maxRecDepth 100000
set_option maxHeartbeats 2000000
namespace W
open PySem PySem.Spec PyProof.Rows L2 PD
section
variable {G : Gam} {L : PD.Loc} {Bs S S0 S1 S2 S3 : Store} {i j k l m n N c K t : Nat} {p q u z : Cq} {w x : Rat} {ps qs cs ds ms : List Cq} {M M2 CS left fin : List (List Cq)} {X Y d : D} {a b : Xp} {sqs : List (Rat × List Cq)} {stop : Option Nat}
theorem cell_at {S0 : Store} {xs : List D} {R : List (List D)} : (S0 ++ xs :: R)[S0.length]? = some xs := by simp
theorem cell_set {S0 : Store} {xs ys : List D} {R : List (List D)} : (S0 ++ xs :: R).set S0.length ys = S0 ++ ys :: R := by simp
theorem appcx {e : Xp} {d : D} {i : Nat} {xs : List D} {R : List (List D)} (h : evX G e L (S0 ++ xs :: R) = some (.d d, S0 ++ xs :: R)) (hL : L[i]? = some (.dat (.cell S0.length))) (hl : xs.length ≤ 1000) : evS G (.app i e) L (S0 ++ xs :: R) = some ((.nx, L), S0 ++ (xs ++ [d]) :: R) := by
  rw [evS_app, h, bnd_some]
  show (match L[i]? with
    | some (.own xs) => _
    | some (.dat (.cell n)) => _
    | _ => none) = _
  rw [hL]
  show (match (S0 ++ xs :: R)[S0.length]? with
    | some ys => if ys.length < line then some ((Fl.nx, L), (S0 ++ xs :: R).set S0.length (ys ++ [d])) else none
    | none => none) = _
  rw [cell_at]
  show (if xs.length < line then some ((Fl.nx, L), (S0 ++ xs :: R).set S0.length (xs ++ [d])) else none) = _
  rw [if_pos (lt_line hl), cell_set]
theorem tupcx {i c : Nat} {xs : List D} (hL : L[i]? = some (.dat (.cell c))) (hS : S[c]? = some xs) : evX G (.bic .tuple (.cons (.nm i) .nil)) L S = some (.d (.tup xs), S) := by
  have hb : bicV .tuple [.d (.cell c)] S = some (.tup xs) := by
    show (S[c]?).map D.tup = _
    rw [hS]; rfl
  rw [evX_bic, evXs_cons, nmx hL, bnd_some, evXs_nil, bnd_some, bnd_some, hb]
  rfl
/-! ### signs -/
theorem num_pos' {r : Rat} : 0 < r.num ↔ 0 < r := by
  have h := num_neg' (r := -r)
  rw [Rat.neg_num] at h
  constructor
  · intro z
    have := h.mp (by omega)
    grind
  · intro z
    have := h.mpr (by grind)
    omega
theorem sgn_pos (h : 0 < x) : runF G_frac_sign 1 b_frac_sign [F x] S = some (.int 1, S) := by
  have h1 : 0 < x.num := num_pos'.mpr h
  have h2 : ¬ x.num < 0 := by omega
  have e := r_frac_sign (S := S) (x := x)
  rw [if_pos h1, if_neg h2] at e
  exact e
theorem sgn_not (h : x ≤ 0) : ∃ s : Int, s ≤ 0 ∧ runF G_frac_sign 1 b_frac_sign [F x] S = some (.int s, S) := by
  have h1 : ¬ 0 < x.num := fun z => Rat.not_lt.mpr h (num_pos'.mp z)
  refine ⟨_, ?_, r_frac_sign⟩
  rw [if_neg h1]
  split <;> decide
/-! ### clearing -/
def clB : Sms := (b_clearing.nth 1).body
def clF (stop : Option Nat) (acc : List D) (fin : List (List Cq)) : Fl := match stop with
  | none => .nx
  | some t => .ret (.tup [.tup acc, .int (t : Nat), MN fin])
theorem clB_eq : clB = .cons (.ife (.cmp .isN (.call 0 (.cons (.ix (.nm 2) (.nm 3)) .nil) .nil) (.lit (.non))) (.cons .cnt .nil) .nil) (.cons (.ife (.cmp .le (.call 1 (.cons (.ix (.ix (.ix (.nm 2) (.nm 3)) (.nm 3)) (.lit (.int 0))) .nil) .nil) (.lit (.int 0))) (.cons (.ret (.tup (.cons (.bic .tuple (.cons (.nm 1) .nil)) (.cons (.nm 3) (.cons (.nm 2) .nil))))) .nil) .nil) (.cons (.asg (.nm 4) (.call 2 (.cons (.nm 2) (.cons (.nm 3) .nil)) .nil)) (.cons (.app 1 (.nm 4)) (.cons (.asg (.nm 2) (.call 3 (.cons (.nm 2) (.cons (.call 4 (.cons (.nm 4) .nil) .nil) .nil)) .nil)) .nil)))) := rfl
theorem BdM_sq (hm : BdR k n ms) (hw : Sz l w) : BdM (k + k + l + 3) n (sqTab w ms) := by
  refine ⟨by unfold sqTab; rw [List.length_map, hm.1], fun r hr => ?_⟩
  obtain ⟨a, ha, rfl⟩ := List.mem_map.mp hr
  refine ⟨by rw [List.length_map, List.length_map, hm.1], fun p hp => ?_⟩
  obtain ⟨b, hb, rfl⟩ := List.mem_map.mp hp
  obtain ⟨c, hc, rfl⟩ := List.mem_map.mp hb
  exact (((hm.2 a ha).mul (hm.2 c hc).con).mul (hb_real hw)).mono (by omega)
theorem cl_loop {A : Lv} (hn : n ≤ 100) (hK : K ≤ 500) : ∀ (r t : Nat) (left : List (List Cq)) (acc : List D) (sqs : List (Rat × List Cq)) (stop : Option Nat) (fin : List (List Cq)) (e3 e4 : Lv), t + r ≤ n → ClRun K n r t left sqs stop fin → acc.length + r ≤ 900 → ∃ e3' e4' l', forL (fun d L S => bnd (evG G_clearing (.nm 3) d L S) fun L2 S2 => evSs G_clearing clB L2 S2) ((List.range' t r).map fun i => D.int (i : Nat)) [A, .dat (.cell S0.length), .dat (MN left), e3, e4] (S0 ++ [acc]) = some ((clF stop (acc ++ sqs.map SqN) fin, [A, .dat (.cell S0.length), .dat (MN l'), e3', e4']), S0 ++ [acc ++ sqs.map SqN]) ∧ (stop = none → l' = fin)
  | 0, t, left, acc, sqs, stop, fin, e3, e4, _, h, _ => by
    obtain ⟨rfl, rfl, rfl⟩ := h
    exact ⟨e3, e4, fin, by show some _ = some _; simp [clF], fun _ => rfl⟩
  | r + 1, t, left, acc, sqs, stop, fin, e3, e4, htn, h, hc => by
    have ht : t < n := by omega
    obtain ⟨hbm, h⟩ := h
    have hlen : t < left.length := by rw [hbm.1]; exact ht
    have first : evX G_clearing (.cmp .isN (.call 0 (.cons (.ix (.nm 2) (.nm 3)) .nil) .nil) (.lit (.non))) [A, .dat (.cell S0.length), .dat (MN left), .dat (.int (t : Nat)), e4] (S0 ++ [acc]) = some (.d (.bl (fstO ((left[t]?).getD [])).isNone), S0 ++ [acc]) :=
      isNx (call1 (x := RN ((left[t]?).getD [])) rfl rfl rfl (rowx rfl rfl hlen) r_first_other)
    have wid : evX G_clearing (.ix (.ix (.ix (.nm 2) (.nm 3)) (.nm 3)) (.lit (.int 0))) [A, .dat (.cell S0.length), .dat (MN left), .dat (.int (t : Nat)), e4] (S0 ++ [acc]) = some (.d (F (ent left t t).1), S0 ++ [acc]) :=
      ixT (i := 0) (ds := [F (ent left t t).1, F (ent left t t).2]) (entx (n := n) (i := t) (j := t) rfl rfl rfl hbm.isM ht ht) rfl rfl
    rw [List.range'_succ, List.map_cons, forL_cons, evG_nm, bnd_some]
    show ∃ e3' e4' l', bnd (evSs G_clearing clB [A, .dat (.cell S0.length), .dat (MN left), .dat (.int (t : Nat)), e4] (S0 ++ [acc])) _ = _ ∧ _
    rw [clB_eq]
    rcases h with ⟨hz, h⟩ | ⟨hz, hs, rfl, rfl, rfl⟩ | ⟨hz, hp, rest, rfl, hbl, h⟩
    · rw [hz] at first
      rw [st_cnt (Eq.trans (ifx first) rfl), bnd_some]
      obtain ⟨a3, a4, l', e, q⟩ := cl_loop hn hK r (t + 1) left acc sqs stop fin (.dat (.int (t : Nat))) e4 (by omega) h (by omega)
      exact ⟨a3, a4, l', e, q⟩
    · have f0 : (fstO ((fin[t]?).getD [])).isNone = false := by
        cases k : fstO ((fin[t]?).getD []) with
        | none => exact absurd k hz
        | some _ => rfl
      rw [f0] at first
      obtain ⟨s, hs0, es⟩ := sgn_not (S := S0 ++ [acc]) hs
      have cond : evX G_clearing (.cmp .le (.call 1 (.cons (.ix (.ix (.ix (.nm 2) (.nm 3)) (.nm 3)) (.lit (.int 0))) .nil) .nil) (.lit (.int 0))) [A, .dat (.cell S0.length), .dat (MN fin), .dat (.int (t : Nat)), e4] (S0 ++ [acc]) = some (.d (.bl true), S0 ++ [acc]) := by
        rw [evX_cmp, call1 (x := F (ent fin t t).1) rfl rfl rfl wid es, bnd_some, evX_lit, bnd_some]
        show lft ((some (decide (s ≤ 0))).map _) _ = _
        rw [decide_eq_true hs0]; rfl
      have rr : evX G_clearing (.tup (.cons (.bic .tuple (.cons (.nm 1) .nil)) (.cons (.nm 3) (.cons (.nm 2) .nil)))) [A, .dat (.cell S0.length), .dat (MN fin), .dat (.int (t : Nat)), e4] (S0 ++ [acc]) = some (.d (.tup [.tup acc, .int (t : Nat), MN fin]), S0 ++ [acc]) := by
        rw [evX_tup, evXs_cons, tupcx (xs := acc) rfl cell_at]; rfl
      have go : evSs G_clearing (.cons (.ife (.cmp .isN (.call 0 (.cons (.ix (.nm 2) (.nm 3)) .nil) .nil) (.lit (.non))) (.cons .cnt .nil) .nil) (.cons (.ife (.cmp .le (.call 1 (.cons (.ix (.ix (.ix (.nm 2) (.nm 3)) (.nm 3)) (.lit (.int 0))) .nil) .nil) (.lit (.int 0))) (.cons (.ret (.tup (.cons (.bic .tuple (.cons (.nm 1) .nil)) (.cons (.nm 3) (.cons (.nm 2) .nil))))) .nil) .nil) (.cons (.asg (.nm 4) (.call 2 (.cons (.nm 2) (.cons (.nm 3) .nil)) .nil)) (.cons (.app 1 (.nm 4)) (.cons (.asg (.nm 2) (.call 3 (.cons (.nm 2) (.cons (.call 4 (.cons (.nm 4) .nil) .nil) .nil)) .nil)) .nil))))) [A, .dat (.cell S0.length), .dat (MN fin), .dat (.int (t : Nat)), e4] (S0 ++ [acc]) = some ((.ret (.tup [.tup acc, .int (t : Nat), MN fin]), [A, .dat (.cell S0.length), .dat (MN fin), .dat (.int (t : Nat)), e4]), S0 ++ [acc]) := by
        refine st_nx (Eq.trans (ifn first) rfl) (st_ret (Eq.trans (ifx cond) (st_ret (retx rr))))
      rw [go, bnd_some]
      refine ⟨.dat (.int (t : Nat)), e4, fin, ?_, fun _ => rfl⟩
      show some ((Fl.ret (.tup [.tup acc, .int (t : Nat), MN fin]), [A, .dat (.cell S0.length), .dat (MN fin), .dat (.int (t : Nat)), e4]), S0 ++ [acc]) = _
      simp [clF]
    · have f0 : (fstO ((left[t]?).getD [])).isNone = false := by
        cases k : fstO ((left[t]?).getD []) with
        | none => exact absurd k hz
        | some _ => rfl
      rw [f0] at first
      have hb0 : hb K (ent left t t) := hbm.he ht ht
      have ne0 : ent left t t ≠ 0 := fun z => by rw [z] at hp; exact Rat.lt_irrefl hp
      have cond : evX G_clearing (.cmp .le (.call 1 (.cons (.ix (.ix (.ix (.nm 2) (.nm 3)) (.nm 3)) (.lit (.int 0))) .nil) .nil) (.lit (.int 0))) [A, .dat (.cell S0.length), .dat (MN left), .dat (.int (t : Nat)), e4] (S0 ++ [acc]) = some (.d (.bl false), S0 ++ [acc]) := by
        rw [evX_cmp, call1 (x := F (ent left t t).1) rfl rfl rfl wid (sgn_pos hp), bnd_some, evX_lit, bnd_some]
        rfl
      have ls := r_lead_square (S := S0 ++ [acc]) hbm ht ne0 (by omega) (by omega)
      have sq := r_square_table (S := S0 ++ [acc ++ [SqN ((ent left t t).1, ldM left t)]]) hbl (hb0.szn.1) (by omega) (by omega) (by omega)
      have tm := r_tables_minus (S := S0 ++ [acc ++ [SqN ((ent left t t).1, ldM left t)]]) (k := K) (l := K + K + K + 3) hbm (BdM_sq hbl hb0.szn.1) (by omega) (by omega) (by omega)
      obtain ⟨a3, a4, l', e, q⟩ := cl_loop hn hK r (t + 1) _ (acc ++ [SqN ((ent left t t).1, ldM left t)]) rest stop fin (.dat (.int (t : Nat))) (.dat (SqN ((ent left t t).1, ldM left t))) (by omega) h (by simp; omega)
      have go : evSs G_clearing (.cons (.ife (.cmp .isN (.call 0 (.cons (.ix (.nm 2) (.nm 3)) .nil) .nil) (.lit (.non))) (.cons .cnt .nil) .nil) (.cons (.ife (.cmp .le (.call 1 (.cons (.ix (.ix (.ix (.nm 2) (.nm 3)) (.nm 3)) (.lit (.int 0))) .nil) .nil) (.lit (.int 0))) (.cons (.ret (.tup (.cons (.bic .tuple (.cons (.nm 1) .nil)) (.cons (.nm 3) (.cons (.nm 2) .nil))))) .nil) .nil) (.cons (.asg (.nm 4) (.call 2 (.cons (.nm 2) (.cons (.nm 3) .nil)) .nil)) (.cons (.app 1 (.nm 4)) (.cons (.asg (.nm 2) (.call 3 (.cons (.nm 2) (.cons (.call 4 (.cons (.nm 4) .nil) .nil) .nil)) .nil)) .nil))))) [A, .dat (.cell S0.length), .dat (MN left), .dat (.int (t : Nat)), e4] (S0 ++ [acc]) = some ((.nx, [A, .dat (.cell S0.length), .dat (MN (minM left (sqTab (ent left t t).1 (ldM left t)))), .dat (.int (t : Nat)), .dat (SqN ((ent left t t).1, ldM left t))]), S0 ++ [acc ++ [SqN ((ent left t t).1, ldM left t)]]) := by
        refine st_nx (Eq.trans (ifn first) rfl) (st_nx (Eq.trans (ifn cond) rfl) ?_)
        refine st_nx (asgx (call2 (x := MN left) (y := .int (t : Nat)) rfl rfl rfl rfl rfl ls)) ?_
        refine st_nx (appcx rfl rfl (by omega)) ?_
        refine st_nx (asgx (call2 (x := MN left) (y := MN (sqTab (ent left t t).1 (ldM left t))) rfl rfl rfl rfl (call1 (x := SqN ((ent left t t).1, ldM left t)) rfl rfl rfl rfl sq) tm)) rfl
      rw [go, bnd_some]
      refine ⟨a3, a4, l', ?_, q⟩
      have ea : acc ++ (((ent left t t).1, ldM left t) :: rest).map SqN = acc ++ [SqN ((ent left t t).1, ldM left t)] ++ rest.map SqN := by simp
      rw [ea]
      exact e
theorem r_clearing (hn : n ≤ 100) (hK : K ≤ 500) (hM : M.length = n) (h : ClRun K n n 0 M sqs stop fin) : runF G_clearing 5 b_clearing [MN M] S = some (.tup [.tup (sqs.map SqN), FoD stop, MN fin], S ++ [sqs.map SqN]) := by
  obtain ⟨e3, e4, l', e, q⟩ := cl_loop (S0 := S) (A := .dat (MN M)) hn hK n 0 M [] sqs stop fin .un .un (by omega) h (by simp; omega)
  rw [← List.range_eq_range', List.nil_append] at e
  have cw : evW G_clearing (.range1 (.bi .len (.cons (.nm 0) .nil))) [.dat (MN M), .dat (.cell S.length), .dat (MN M), .un, .un] (S ++ [[]]) = some ((List.range n).map fun i => D.int (i : Nat), S ++ [[]]) :=
    range1_nat (by rw [lenT (ds := M.map RN) rfl, List.length_map, hM]) (by omega)
  have f := ev_for (G := G_clearing) (t := .nm 3) (b := clB) rfl cw e
  have hb : b_clearing = .cons (.par [1, 2] (.cons (.nwc (.disp .nil)) (.cons (.nm 0) .nil))) (.cons (.for_ (.nm 3) (.range1 (.bi .len (.cons (.nm 0) .nil))) clB) (.cons (.ret (.tup (.cons (.bic .tuple (.cons (.nm 1) .nil)) (.cons (.lit (.non)) (.cons (.nm 2) .nil))))) .nil)) := rfl
  refine run_en ?_
  rw [hb]
  refine en_nx (L2 := [.dat (MN M), .dat (.cell S.length), .dat (MN M), .un, .un]) (S2 := S ++ [[]]) rfl ?_
  cases stop with
  | some t => exact en_ret f
  | none =>
    obtain rfl := q rfl
    refine en_nx f (en_ret (retx ?_))
    rw [evX_tup, evXs_cons, tupcx (xs := sqs.map SqN) rfl cell_at]; rfl
end
end W

set_option Elab.async false
set_option linter.all false
set_option autoImplicit false
set_option maxRecDepth 100000
set_option maxHeartbeats 2000000
namespace W
open PySem PySem.Spec PyProof.Rows L2 PD
section
variable {G : Gam} {L : PD.Loc} {Bs S S0 S1 S2 S3 : Store} {i j k l m n N c K t : Nat} {p q u z : Cq} {w x : Rat} {ps qs cs ds ms : List Cq} {M M2 CS left fin : List (List Cq)} {X Y d : D} {a b : Xp} {ls : List Ld} {fs : List (List Cq)}
theorem parx2 {e1 e2 : Xp} {x y : D} (h1 : evX G e1 L S = some (.d x, S1)) (h2 : evX G e2 L S1 = some (.d y, S2)) : evS G (.par [i, j] (.cons e1 (.cons e2 .nil))) L S = some ((.nx, (L.set j (.dat y)).set i (.dat x)), S2) := by
  rw [evS_par, evXs_cons, h1, bnd_some, evXs_cons, h2]
  rfl
theorem appcx2 {e : Xp} {d : D} {i : Nat} {xs ys : List D} (h : evX G e L (S0 ++ [xs, ys]) = some (.d d, S0 ++ [xs, ys])) (hL : L[i]? = some (.dat (.cell (S0.length + 1)))) (hl : ys.length ≤ 1000) : evS G (.app i e) L (S0 ++ [xs, ys]) = some ((.nx, L), S0 ++ [xs, ys ++ [d]]) := by
  have e1 : ∀ zs : List D, S0 ++ [xs, zs] = (S0 ++ [xs]) ++ [zs] := fun zs => by simp
  have e2 : (S0 ++ [xs]).length = S0.length + 1 := by simp
  rw [e1, e1]
  rw [e1] at h
  exact appcx h (by rw [e2]; exact hL) hl
theorem cell_at2 {xs ys : List D} : (S0 ++ [xs, ys])[S0.length + 1]? = some ys := by
  have e1 : S0 ++ [xs, ys] = (S0 ++ [xs]) ++ [ys] := by simp
  have e2 : (S0 ++ [xs]).length = S0.length + 1 := by simp
  rw [e1, ← e2]
  exact cell_at
def nbB : Sms := (b_null_by.nth 1).body
def nbI : Sms := .cons (.asg (.nm 10) (.call 1 (.cons (.ix (.nm 4) (.nm 6)) (.cons (.ix (.nm 7) (.nm 6)) .nil)) .nil)) (.cons (.par [4, 5] (.cons (.call 2 (.cons (.nm 4) (.cons (.nm 7) (.cons (.nm 10) .nil))) .nil) (.cons (.call 2 (.cons (.nm 5) (.cons (.nm 8) (.cons (.nm 10) .nil))) .nil) .nil))) .nil)
theorem nbB_eq : nbB = .cons (.par [4, 5] (.cons (.ix (.nm 0) (.nm 3)) (.cons (.call 0 (.cons (.bi .len (.cons (.nm 0) .nil)) (.cons (.nm 3) .nil)) .nil) .nil))) (.cons (.forc (.tup (.cons (.nm 6) (.cons (.nm 7) (.cons (.nm 8) .nil)))) (.nm 1) nbI) (.cons (.asg (.nm 9) (.call 3 (.cons (.nm 4) .nil) .nil)) (.cons (.ife (.cmp .isN (.nm 9) (.lit (.non))) (.cons (.app 2 (.nm 5)) .nil) (.cons (.app 1 (.tup (.cons (.nm 9) (.cons (.nm 4) (.cons (.nm 5) .nil))))) .nil)) .nil))) := rfl
theorem nb_in {v0 v1 v2 v3 v9 : Lv} {c : Nat} {LDS : List D} (hS : S[c]? = some LDS) (hn : n ≤ 1000) (hK : K ≤ 500) : ∀ (ls : List Ld) (s : List Cq × List Cq) (v6 v7 v8 v10 : Lv), RedOk K n ls s → ∃ v6' v7' v8' v10', forL (fun d L S => if sameC S c LDS = true then bnd (evG G_null_by (.tup (.cons (.nm 6) (.cons (.nm 7) (.cons (.nm 8) .nil)))) d L S) fun L2 S2 => evSs G_null_by nbI L2 S2 else none) (ls.map LdD) [v0, v1, v2, v3, .dat (RN s.1), .dat (RN s.2), v6, v7, v8, v9, v10] S = some ((.nx, [v0, v1, v2, v3, .dat (RN (redF ls s).1), .dat (RN (redF ls s).2), v6', v7', v8', v9, v10']), S)
  | [], s, v6, v7, v8, v10, _ => ⟨v6, v7, v8, v10, rfl⟩
  | l :: ls, s, v6, v7, v8, v10, h => by
    obtain ⟨h1, h2, h3, h4, h5, h6, h7⟩ := h
    obtain ⟨a6, a7, a8, a10, e⟩ := nb_in hS hn hK ls _ (.dat (.int (l.1 : Nat))) (.dat (RN l.2.1)) (.dat (RN l.2.2)) (.dat (Nm (cf s.1 l.1 / cf l.2.1 l.1))) h7
    refine ⟨a6, a7, a8, a10, ?_⟩
    have hp := h1.hc h5
    have hq := h3.hc h5
    have no := r_num_over (S := S) (k := K) (l := K) hp hq h6 (by omega)
    have hu : hb (K + 2 * K + 1) (cf s.1 l.1 / cf l.2.1 l.1) := hp.div' hq h6
    have m1 := r_mix_less (S := S) h1.2 h3.2 hu (by omega) (by omega) (by rw [h1.1]; exact hn)
    have m2 := r_mix_less (S := S) h2.2 h4.2 hu (by omega) (by omega) (by rw [h2.1]; exact hn)
    have st : (if sameC S c LDS = true then bnd (evG G_null_by (.tup (.cons (.nm 6) (.cons (.nm 7) (.cons (.nm 8) .nil)))) (LdD l) [v0, v1, v2, v3, .dat (RN s.1), .dat (RN s.2), v6, v7, v8, v9, v10] S) fun L2 S2 => evSs G_null_by nbI L2 S2 else none) = some ((.nx, [v0, v1, v2, v3, .dat (RN (lesR s.1 l.2.1 (cf s.1 l.1 / cf l.2.1 l.1))), .dat (RN (lesR s.2 l.2.2 (cf s.1 l.1 / cf l.2.1 l.1))), .dat (.int (l.1 : Nat)), .dat (RN l.2.1), .dat (RN l.2.2), v9, .dat (Nm (cf s.1 l.1 / cf l.2.1 l.1))]), S) := by
      rw [if_pos (sameC_of hS)]
      show evSs G_null_by nbI [v0, v1, v2, v3, .dat (RN s.1), .dat (RN s.2), .dat (.int (l.1 : Nat)), .dat (RN l.2.1), .dat (RN l.2.2), v9, v10] S = _
      unfold nbI
      refine st_nx (asgx (call2 (x := Nm (cf s.1 l.1)) (y := Nm (cf l.2.1 l.1)) rfl rfl rfl (cfx rfl rfl (by rw [h1.1]; exact h5)) (cfx rfl rfl (by rw [h3.1]; exact h5)) no)) ?_
      exact st_nx (parx2 (call3 (x := RN s.1) (y := RN l.2.1) (z := Nm (cf s.1 l.1 / cf l.2.1 l.1)) rfl rfl rfl rfl rfl rfl m1) (call3 (x := RN s.2) (y := RN l.2.2) (z := Nm (cf s.1 l.1 / cf l.2.1 l.1)) rfl rfl rfl rfl rfl rfl m2)) rfl
    rw [List.map_cons, forL_cons, st, bnd_some]
    exact e
theorem RedOk.hd {s : List Cq × List Cq} : ∀ {ls : List Ld}, RedOk K n ls s → BdR K n s.1 ∧ BdR K n s.2
  | [], h => h
  | _ :: _, h => ⟨h.1, h.2.1⟩
theorem nb_out (hM : M.length = n) (hn : n ≤ 100) (hK : K ≤ 500) : ∀ (r t : Nat) (a : List Ld × List (List Cq)) (v3 v4 v5 v6 v7 v8 v9 v10 : Lv), t + r ≤ n → NulOk K M n r t a → a.1.length + a.2.length + r ≤ 900 → ∃ v3' v4' v5' v6' v7' v8' v9' v10', forL (fun d L S => bnd (evG G_null_by (.nm 3) d L S) fun L2 S2 => evSs G_null_by nbB L2 S2) ((List.range' t r).map fun i => D.int (i : Nat)) [.dat (MN M), .dat (.cell S0.length), .dat (.cell (S0.length + 1)), v3, v4, v5, v6, v7, v8, v9, v10] (S0 ++ [a.1.map LdD, a.2.map RN]) = some ((.nx, [.dat (MN M), .dat (.cell S0.length), .dat (.cell (S0.length + 1)), v3', v4', v5', v6', v7', v8', v9', v10']), S0 ++ [(nulF M n r t a).1.map LdD, (nulF M n r t a).2.map RN])
  | 0, t, a, v3, v4, v5, v6, v7, v8, v9, v10, _, _, _ => ⟨v3, v4, v5, v6, v7, v8, v9, v10, rfl⟩
  | r + 1, t, a, v3, v4, v5, v6, v7, v8, v9, v10, htn, h, hc => by
    have ht : t < M.length := by omega
    obtain ⟨ok, h⟩ := h
    obtain ⟨a6, a7, a8, a10, e1⟩ := nb_in (S := S0 ++ [a.1.map LdD, a.2.map RN]) (c := S0.length) (v0 := .dat (MN M)) (v1 := .dat (.cell S0.length)) (v2 := .dat (.cell (S0.length + 1))) (v3 := .dat (.int (t : Nat))) (v9 := v9) cell_at (by omega : n ≤ 1000) hK a.1 _ v6 v7 v8 v10 ok
    have hx := r_unit_mix (S := S0 ++ [a.1.map LdD, a.2.map RN]) (n := n) (t := (t : Nat)) (by omega)
    have fo := r_first_other (S := S0 ++ [a.1.map LdD, a.2.map RN]) (ps := (redF a.1 ((M[t]?).getD [], unitR n (t : Nat))).1)
    have p1 : evS G_null_by (.par [4, 5] (.cons (.ix (.nm 0) (.nm 3)) (.cons (.call 0 (.cons (.bi .len (.cons (.nm 0) .nil)) (.cons (.nm 3) .nil)) .nil) .nil))) [.dat (MN M), .dat (.cell S0.length), .dat (.cell (S0.length + 1)), .dat (.int (t : Nat)), v4, v5, v6, v7, v8, v9, v10] (S0 ++ [a.1.map LdD, a.2.map RN]) = some ((.nx, [.dat (MN M), .dat (.cell S0.length), .dat (.cell (S0.length + 1)), .dat (.int (t : Nat)), .dat (RN ((M[t]?).getD [])), .dat (RN (unitR n (t : Nat))), v6, v7, v8, v9, v10]), S0 ++ [a.1.map LdD, a.2.map RN]) :=
      parx2 (rowx rfl rfl ht) (call2d (x := .int (n : Nat)) (y := .int (t : Nat)) rfl (by rw [lenT (ds := M.map RN) rfl, List.length_map, hM]) rfl hx)
    have p2 := ev_forc (G := G_null_by) (L := [.dat (MN M), .dat (.cell S0.length), .dat (.cell (S0.length + 1)), .dat (.int (t : Nat)), .dat (RN ((M[t]?).getD [])), .dat (RN (unitR n (t : Nat))), v6, v7, v8, v9, v10]) (S := S0 ++ [a.1.map LdD, a.2.map RN]) (e := .nm 1) rfl cell_at e1 cell_at
    have st : ∃ l4 l5 l9, evSs G_null_by nbB [.dat (MN M), .dat (.cell S0.length), .dat (.cell (S0.length + 1)), .dat (.int (t : Nat)), v4, v5, v6, v7, v8, v9, v10] (S0 ++ [a.1.map LdD, a.2.map RN]) = some ((.nx, [.dat (MN M), .dat (.cell S0.length), .dat (.cell (S0.length + 1)), .dat (.int (t : Nat)), l4, l5, a6, a7, a8, l9, a10]), S0 ++ [(nstep M n a t).1.map LdD, (nstep M n a t).2.map RN]) := by
      rw [nbB_eq]
      refine ⟨.dat (RN (redF a.1 ((M[t]?).getD [], unitR n (t : Nat))).1), .dat (RN (redF a.1 ((M[t]?).getD [], unitR n (t : Nat))).2), .dat (FoD (fstO (redF a.1 ((M[t]?).getD [], unitR n (t : Nat))).1)), ?_⟩
      refine st_nx p1 (st_nx p2 (st_nx (asgx (call1 (x := RN (redF a.1 ((M[t]?).getD [], unitR n (t : Nat))).1) rfl rfl rfl rfl fo)) ?_))
      have cond := isNx (G := G_null_by) (L := [.dat (MN M), .dat (.cell S0.length), .dat (.cell (S0.length + 1)), .dat (.int (t : Nat)), .dat (RN (redF a.1 ((M[t]?).getD [], unitR n (t : Nat))).1), .dat (RN (redF a.1 ((M[t]?).getD [], unitR n (t : Nat))).2), a6, a7, a8, .dat (FoD (fstO (redF a.1 ((M[t]?).getD [], unitR n (t : Nat))).1)), a10]) (S := S0 ++ [a.1.map LdD, a.2.map RN]) (e := .nm 9) rfl
      unfold nstep
      cases hf : fstO (redF a.1 ((M[t]?).getD [], unitR n (t : Nat))).1 with
      | none =>
        rw [hf] at cond
        refine st_nx (Eq.trans (ifx cond) (st_nx (appcx2 (d := RN (redF a.1 ((M[t]?).getD [], unitR n (t : Nat))).2) rfl rfl (by rw [List.length_map]; omega)) rfl)) ?_
        show some _ = some _
        simp
      | some p =>
        rw [hf] at cond
        refine st_nx (Eq.trans (ifn cond) (st_nx (appcx (d := LdD (p, (redF a.1 ((M[t]?).getD [], unitR n (t : Nat))).1, (redF a.1 ((M[t]?).getD [], unitR n (t : Nat))).2)) rfl rfl (by rw [List.length_map]; omega)) rfl)) ?_
        show some _ = some _
        simp
    obtain ⟨l4, l5, l9, st⟩ := st
    have hlen : (nstep M n a t).1.length + (nstep M n a t).2.length = a.1.length + a.2.length + 1 := by
      unfold nstep
      split
      · simp; omega
      · simp; omega
    obtain ⟨b3, b4, b5, b6, b7, b8, b9, b10, e⟩ := nb_out hM hn hK r (t + 1) (nstep M n a t) (.dat (.int (t : Nat))) l4 l5 a6 a7 a8 l9 a10 (by omega) h (by omega)
    refine ⟨b3, b4, b5, b6, b7, b8, b9, b10, ?_⟩
    rw [List.range'_succ, List.map_cons, forL_cons, evG_nm, bnd_some]
    show bnd (evSs G_null_by nbB [.dat (MN M), .dat (.cell S0.length), .dat (.cell (S0.length + 1)), .dat (.int (t : Nat)), v4, v5, v6, v7, v8, v9, v10] _) _ = _
    rw [st, bnd_some]
    exact e
theorem pureRN (r : List Cq) : D.pure (RN r) = true := by
  show D.pures (r.map Nm) = true
  induction r with
  | nil => rfl
  | cons p r ih => show (D.pure (Nm p) && D.pures (r.map Nm)) = true; rw [ih]; rfl
theorem pureMN (M : List (List Cq)) : D.pure (MN M) = true := by
  show D.pures (M.map RN) = true
  induction M with
  | nil => rfl
  | cons r M ih => show (D.pure (RN r) && D.pures (M.map RN)) = true; rw [pureRN, ih]; rfl
theorem r_null_by (hM : M.length = n) (hn : n ≤ 100) (hK : K ≤ 500) (h : NulOk K M n n 0 ([], [])) : sealR S (runF G_null_by 11 b_null_by [MN M] S) = some (MN (nulF M n n 0 ([], [])).2, S) := by
  obtain ⟨b3, b4, b5, b6, b7, b8, b9, b10, e⟩ := nb_out (S0 := S) hM hn hK n 0 ([], []) .un .un .un .un .un .un .un .un (by omega) h (by simp; omega)
  rw [← List.range_eq_range'] at e
  have cw : evW G_null_by (.range1 (.bi .len (.cons (.nm 0) .nil))) [.dat (MN M), .dat (.cell S.length), .dat (.cell (S.length + 1)), .un, .un, .un, .un, .un, .un, .un, .un] (S ++ [[], []]) = some ((List.range n).map fun i => D.int (i : Nat), S ++ [[], []]) :=
    range1_nat (by rw [lenT (ds := M.map RN) rfl, List.length_map, hM]) (by omega)
  have f := ev_for (G := G_null_by) (t := .nm 3) (b := nbB) rfl cw e
  have hb : b_null_by = .cons (.par [1, 2] (.cons (.nwc (.disp .nil)) (.cons (.nwc (.disp .nil)) .nil))) (.cons (.for_ (.nm 3) (.range1 (.bi .len (.cons (.nm 0) .nil))) nbB) (.cons (.ret (.bic .tuple (.cons (.nm 2) .nil))) .nil)) := rfl
  have go : runF G_null_by 11 b_null_by [MN M] S = some (MN (nulF M n n 0 ([], [])).2, S ++ [(nulF M n n 0 ([], [])).1.map LdD, (nulF M n n 0 ([], [])).2.map RN]) := by
    refine run_en ?_
    rw [hb]
    have e1 : S ++ [[]] ++ [[]] = S ++ [[], ([] : List D)] := by simp
    have e2 : (S ++ [([] : List D)]).length = S.length + 1 := by simp
    refine en_nx (L2 := [.dat (MN M), .dat (.cell S.length), .dat (.cell (S.length + 1)), .un, .un, .un, .un, .un, .un, .un, .un]) (S2 := S ++ [[], []]) ?_ ?_
    · rw [← e1, ← e2]; rfl
    exact en_nx f (en_ret (retx (tupcx rfl cell_at2)))
  rw [go]
  exact sealR_low (low_pure (pureMN _))
end
end W

set_option Elab.async false
set_option linter.all false
set_option autoImplicit false
set_option maxRecDepth 100000
set_option maxHeartbeats 2000000
namespace W
open PySem PySem.Spec PyProof.Rows L2 PD
section
variable {G : Gam} {L : PD.Loc} {Bs S S0 S1 S2 S3 : Store} {i j k l m n N c K : Nat} {p q u w : Cq} {x : Rat} {ps qs cs ds ms : List Cq} {M CS : List (List Cq)} {X Y d : D} {A v0 v1 v2 v3 v4 v5 v6 v7 : Lv} {a b : Xp}
def SqH (k n : Nat) (s : Cq × List Cq) : Prop := hb k s.1 ∧ BdR k n s.2
theorem md_turnH (hn : n ≤ 100) (hM : IsM n M) (ge : hb K (ent M i j)) (hK : K ≤ 6000) (hw : hb k w) (hm : BdR k n ms) (hk : k ≤ 200) (hi : i < n) (hj : j < n) :
    (bnd (evG G_Lmade (.nm 6) (.int (j : Nat)) [v0, v1, .dat (cellL S0.length n), .dat (T w), .dat (RT ms), .dat (.int (i : Nat)), v6, v7] (S0 ++ rowsT M)) fun L2 S2 => evSs G_Lmade mdJ L2 S2) = some ((.nx, [v0, v1, .dat (cellL S0.length n), .dat (T w), .dat (RT ms), .dat (.int (i : Nat)), .dat (.int (j : Nat)), v7]), S0 ++ rowsT (setM M i j (ent M i j + w * (cf ms i * conN (cf ms j))))) := by
  have hB : mdJ = .cons (.asg (.sbx (.ix (.nm 2) (.nm 5)) (.nm 6)) (.call 0 (.cons (.ix (.ix (.nm 2) (.nm 5)) (.nm 6)) (.cons (.call 1 (.cons (.nm 3) (.cons (.call 1 (.cons (.ix (.nm 4) (.nm 5)) (.cons (.call 2 (.cons (.ix (.nm 4) (.nm 6)) .nil) .nil) .nil)) .nil) .nil)) .nil) .nil)) .nil)) .nil := rfl
  rw [evG_nm, bnd_some, hB]
  have lm := hm.1
  have gi : hb k (cf ms i) := hm.hc hi
  have gj : hb k (cf ms j) := hm.hc hj
  have m1 := r_Lmirror (p := cf ms j) (S := S0 ++ rowsT M)
  have m2 := r_Ltimes (S := S0 ++ rowsT M) gi gj.con (by omega)
  have m3 := r_Ltimes (S := S0 ++ rowsT M) hw (gi.mul' gj.con) (by omega)
  have m4 := r_Lplus (S := S0 ++ rowsT M) ge (hw.mul' (gi.mul' gj.con)) (by omega)
  have x1 : ∀ (t : Nat) (z : Nat), t < n → ((List.set [v0, v1, .dat (cellL S0.length n), .dat (T w), .dat (RT ms), .dat (.int (i : Nat)), v6, v7] 6 (.dat (.int (j : Nat))))[z]? = some (.dat (.int (t : Nat)))) → evX G_Lmade (.ix (.nm 4) (.nm z)) (List.set [v0, v1, .dat (cellL S0.length n), .dat (T w), .dat (RT ms), .dat (.int (i : Nat)), v6, v7] 6 (.dat (.int (j : Nat)))) (S0 ++ rowsT M) = some (.d (T (cf ms t)), S0 ++ rowsT M) := fun t z ht hz =>
    ixL (ds := ms.map T) rfl (nmx hz) (by rw [List.getElem?_map, List.getElem?_eq_getElem (by omega : t < ms.length)]; unfold cf; rw [List.getElem?_eq_getElem (by omega : t < ms.length)]; rfl)
  have y1 := celx (G := G_Lmade) (L := List.set [v0, v1, .dat (cellL S0.length n), .dat (T w), .dat (RT ms), .dat (.int (i : Nat)), v6, v7] 6 (.dat (.int (j : Nat)))) (S0 := S0) (a := .nm 2) (b := .nm 5) (e := .nm 6) hM rfl rfl rfl hi hj
  have e := call2 (G := G_Lmade) (j := 0) (x := T (ent M i j)) (y := T (w * (cf ms i * conN (cf ms j)))) rfl rfl rfl y1 (call2 (G := G_Lmade) (j := 1) (e1 := .nm 3) (x := T w) (y := T (cf ms i * conN (cf ms j))) rfl rfl rfl rfl (call2 (G := G_Lmade) (j := 1) (x := T (cf ms i)) (y := T (conN (cf ms j))) rfl rfl rfl (x1 i 5 hi rfl) (call1 (G := G_Lmade) (j := 2) (x := T (cf ms j)) rfl rfl rfl (x1 j 6 hj rfl) m1) m2) m3) m4
  exact st_nx (setx hM e rfl rfl rfl hi hj) rfl
theorem md_inH (hn : n ≤ 100) (hK : K ≤ 6000) (hw : hb k w) (hm : BdR k n ms) (hk : k ≤ 200) (hi : i < n) : ∀ (r j : Nat) (M : List (List Cq)) (v6 : Lv), j + r = n → IsM n M → (∀ b, j ≤ b → b < n → hb K (ent M i b)) → ∃ (M' : List (List Cq)) (v6' : Lv), forL (fun d L S => bnd (evG G_Lmade (.nm 6) d L S) fun L2 S2 => evSs G_Lmade mdJ L2 S2) ((List.range' j r).map fun i => D.int (i : Nat)) [v0, v1, .dat (cellL S0.length n), .dat (T w), .dat (RT ms), .dat (.int (i : Nat)), v6, v7] (S0 ++ rowsT M) = some ((.nx, [v0, v1, .dat (cellL S0.length n), .dat (T w), .dat (RT ms), .dat (.int (i : Nat)), v6', v7]), S0 ++ rowsT M') ∧
    IsM n M' ∧ ∀ a b, a < n → b < n → ent M' a b = if a = i ∧ j ≤ b then ent M a b + w * (cf ms a * conN (cf ms b)) else ent M a b
  | 0, j, M, v6, hj, hM, hg => ⟨M, v6, rfl, hM, fun a b ha hb => by rw [if_neg (by omega)]⟩
  | r + 1, j, M, v6, hj, hM, hg => by
    have hjn : j < n := by omega
    have st := md_turnH (S0 := S0) (v0 := v0) (v1 := v1) (v6 := v6) (v7 := v7) hn hM (hg j (Nat.le_refl _) hjn) hK hw hm hk hi hjn
    have hM1 : IsM n (setM M i j (ent M i j + w * (cf ms i * conN (cf ms j)))) := IsM_set hM hi
    have hg1 : ∀ b, j + 1 ≤ b → b < n → hb K (ent (setM M i j (ent M i j + w * (cf ms i * conN (cf ms j)))) i b) := fun b hb1 hb2 => by
      rw [ent_set hM hi hjn, if_neg (by omega)]
      exact hg b (by omega) hb2
    obtain ⟨M', v6', e, hM', hs⟩ := md_inH hn hK hw hm hk hi r (j + 1) _ (.dat (.int (j : Nat))) (by omega) hM1 hg1
    refine ⟨M', v6', ?_, hM', fun a b ha hb => ?_⟩
    · rw [List.range'_succ, List.map_cons, forL_cons, st, bnd_some]
      exact e
    · rw [hs a b ha hb, ent_set hM hi hjn]
      by_cases hai : a = i
      · subst hai
        by_cases hbj : b = j
        · subst hbj
          rw [if_neg (by omega), if_pos ⟨rfl, rfl⟩, if_pos ⟨rfl, Nat.le_refl _⟩]
        · by_cases hle : j + 1 ≤ b
          · rw [if_pos ⟨rfl, hle⟩, if_neg (by omega), if_pos ⟨rfl, by omega⟩]
          · rw [if_neg (by omega), if_neg (by omega), if_neg (by omega)]
      · rw [if_neg (by omega), if_neg (by omega), if_neg (by omega)]
theorem md_midH (hn : n ≤ 10) (hK : K ≤ 6000) (hw : hb k w) (hm : BdR k n ms) (hk : k ≤ 200) (hv : v0 = .dat (.int (n : Nat))) : ∀ (r i : Nat) (M : List (List Cq)) (v5 v6 : Lv), i + r = n → IsM n M → (∀ a b, i ≤ a → a < n → b < n → hb K (ent M a b)) → ∃ (M' : List (List Cq)) (v5' v6' : Lv), forL (fun d L S => bnd (evG G_Lmade (.nm 5) d L S) fun L2 S2 => evSs G_Lmade mdI L2 S2) ((List.range' i r).map fun i => D.int (i : Nat)) [v0, v1, .dat (cellL S0.length n), .dat (T w), .dat (RT ms), v5, v6, v7] (S0 ++ rowsT M) = some ((.nx, [v0, v1, .dat (cellL S0.length n), .dat (T w), .dat (RT ms), v5', v6', v7]), S0 ++ rowsT M') ∧
    IsM n M' ∧ ∀ a b, a < n → b < n → ent M' a b = if i ≤ a then ent M a b + w * (cf ms a * conN (cf ms b)) else ent M a b
  | 0, i, M, v5, v6, hi, hM, hg => ⟨M, v5, v6, rfl, hM, fun a b ha hb => by rw [if_neg (by omega)]⟩
  | r + 1, i, M, v5, v6, hi, hM, hg => by
    obtain ⟨M1, v6', e, hM1, hs1⟩ := md_inH (S0 := S0) (v0 := v0) (v1 := v1) (v7 := v7) (w := w) (ms := ms) (i := i) (n := n) (by omega) hK hw hm hk (by omega) n 0 M v6 (by omega) hM (fun b _ hb2 => hg i b (Nat.le_refl _) (by omega) hb2)
    have hg1 : ∀ a b, i + 1 ≤ a → a < n → b < n → hb K (ent M1 a b) := fun a b h1 h2 h3 => by
      rw [hs1 a b h2 h3, if_neg (by omega)]
      exact hg a b (by omega) h2 h3
    have cw : evW G_Lmade (.range1 (.nm 0)) [v0, v1, .dat (cellL S0.length n), .dat (T w), .dat (RT ms), .dat (.int (i : Nat)), v6, v7] (S0 ++ rowsT M) = some ((List.range' 0 n).map fun i => D.int (i : Nat), S0 ++ rowsT M) := by
      rw [← List.range_eq_range', hv]
      exact range1_nat rfl (by omega)
    obtain ⟨M', v5'', v6'', e', hM', hs'⟩ := md_midH hn hK hw hm hk hv r (i + 1) M1 (.dat (.int (i : Nat))) v6' (by omega) hM1 hg1
    refine ⟨M', v5'', v6'', ?_, hM', fun a b ha hb => ?_⟩
    · have hB : mdI = .cons (.for_ (.nm 6) (.range1 (.nm 0)) mdJ) .nil := rfl
      rw [List.range'_succ, List.map_cons, forL_cons, evG_nm, bnd_some]
      have st : evSs G_Lmade mdI [v0, v1, .dat (cellL S0.length n), .dat (T w), .dat (RT ms), .dat (.int (i : Nat)), v6, v7] (S0 ++ rowsT M) = some ((.nx, [v0, v1, .dat (cellL S0.length n), .dat (T w), .dat (RT ms), .dat (.int (i : Nat)), v6', v7]), S0 ++ rowsT M1) := by
        rw [hB]
        exact st_nx (ev_for rfl cw e) rfl
      show bnd (evSs G_Lmade mdI [v0, v1, .dat (cellL S0.length n), .dat (T w), .dat (RT ms), .dat (.int (i : Nat)), v6, v7] (S0 ++ rowsT M)) _ = _
      rw [st, bnd_some]
      exact e'
    · rw [hs' a b ha hb, hs1 a b ha hb]
      by_cases h1 : a = i
      · rw [if_neg (by omega), if_pos ⟨h1, Nat.zero_le _⟩, if_pos (by omega)]
      · by_cases h2 : i + 1 ≤ a
        · rw [if_pos h2, if_neg (by omega), if_pos (by omega)]
        · rw [if_neg h2, if_neg (by omega), if_neg (by omega)]
theorem md_outH (hn : n ≤ 10) (hk : k ≤ 200) (hv : v0 = .dat (.int (n : Nat))) : ∀ (ss : List (Cq × List Cq)) (M : List (List Cq)) (K : Nat) (v3 v4 v5 v6 : Lv), (∀ s ∈ ss, SqH k n s) → IsM n M → (∀ a b, a < n → b < n → hb K (ent M a b)) → K + ss.length * (3 * k + 3) ≤ 6000 → ∃ (M' : List (List Cq)) (v3' v4' v5' v6' : Lv), forL (fun d L S => bnd (evG G_Lmade (.tup (.cons (.nm 3) (.cons (.nm 4) .nil))) d L S) fun L2 S2 => evSs G_Lmade mdB L2 S2) (ss.map sqD) [v0, v1, .dat (cellL S0.length n), v3, v4, v5, v6, v7] (S0 ++ rowsT M) = some ((.nx, [v0, v1, .dat (cellL S0.length n), v3', v4', v5', v6', v7]), S0 ++ rowsT M') ∧
    IsM n M' ∧ ∀ a b, a < n → b < n → ent M' a b = sqF a b (ent M a b) ss
  | [], M, K, v3, v4, v5, v6, _, hM, hg, _ => ⟨M, v3, v4, v5, v6, rfl, hM, fun a b _ _ => rfl⟩
  | s :: ss, M, K, v3, v4, v5, v6, hs, hM, hg, hB => by
    rw [List.length_cons, Nat.add_mul, Nat.one_mul] at hB
    obtain ⟨h1, h3⟩ := hs s (List.mem_cons_self ..)
    obtain ⟨M1, v5', v6', e, hM1, hs1⟩ := md_midH (S0 := S0) (v0 := v0) (v1 := v1) (v7 := v7) (w := s.1) (ms := s.2) hn (by omega : K ≤ 6000) h1 h3 hk hv n 0 M v5 v6 (by omega) hM (fun a b _ h5 h6 => hg a b h5 h6)
    have hg1 : ∀ a b, a < n → b < n → hb (K + (3 * k + 3)) (ent M1 a b) := fun a b ha hb' => by
      rw [hs1 a b ha hb', if_pos (Nat.zero_le _)]
      exact ((hg a b ha hb').add' (h1.mul' ((h3.hc ha).mul' (h3.hc hb').con))).mono (by omega)
    have cw : evW G_Lmade (.range1 (.nm 0)) [v0, v1, .dat (cellL S0.length n), .dat (T s.1), .dat (RT s.2), v5, v6, v7] (S0 ++ rowsT M) = some ((List.range' 0 n).map fun i => D.int (i : Nat), S0 ++ rowsT M) := by
      rw [← List.range_eq_range', hv]
      exact range1_nat rfl (by omega)
    obtain ⟨M', w3, w4, w5, w6, e', hM', hs'⟩ := md_outH hn hk hv ss M1 (K + (3 * k + 3)) (.dat (T s.1)) (.dat (RT s.2)) v5' v6' (fun z hz => hs z (List.mem_cons_of_mem _ hz)) hM1 hg1 (by omega)
    refine ⟨M', w3, w4, w5, w6, ?_, hM', fun a b ha hb => ?_⟩
    · have hB : mdB = .cons (.for_ (.nm 5) (.range1 (.nm 0)) mdI) .nil := rfl
      have st : evSs G_Lmade mdB [v0, v1, .dat (cellL S0.length n), .dat (T s.1), .dat (RT s.2), v5, v6, v7] (S0 ++ rowsT M) = some ((.nx, [v0, v1, .dat (cellL S0.length n), .dat (T s.1), .dat (RT s.2), v5', v6', v7]), S0 ++ rowsT M1) := by
        rw [hB]
        exact st_nx (ev_for rfl cw e) rfl
      rw [List.map_cons, forL_cons]
      show bnd (evSs G_Lmade mdB [v0, v1, .dat (cellL S0.length n), .dat (T s.1), .dat (RT s.2), v5, v6, v7] (S0 ++ rowsT M)) _ = _
      rw [st, bnd_some]
      exact e'
    · rw [hs' a b ha hb, hs1 a b ha hb, if_pos (Nat.zero_le _)]
      rfl
theorem r_LmadeH {ss : List (Cq × List Cq)} (hn : n ≤ 6) (hs : ∀ s ∈ ss, SqH k n s) (hk : k ≤ 200) (hl : ss.length ≤ 8) : sealR S (runF G_Lmade 8 b_Lmade [.int (n : Nat), .lst (ss.map sqD)] S) = some (MT (tabM n fun a b => sqF a b 0 ss), S) := by
  have hB : ss.length * (3 * k + 3) ≤ 8 * 603 := Nat.mul_le_mul hl (by omega)
  obtain ⟨M, w3, w4, w5, w6, e, hM, hsp⟩ := md_outH (S0 := S) (v0 := .dat (.int (n : Nat))) (v1 := .dat (.lst (ss.map sqD))) (v7 := .un) (n := n) (by omega) hk rfl ss (zerM n) 1 .un .un .un .un hs (IsM_zer n) (fun a b _ _ => by rw [ent_zer]; exact hb_0) (by omega)
  have eM : tabM n (fun a b => sqF a b 0 ss) = M := tab_ext hM fun a b ha hb => by rw [hsp a b ha hb, ent_zer]
  rw [eM]
  have go : runF G_Lmade 8 b_Lmade [.int (n : Nat), .lst (ss.map sqD)] S = some (cellL S.length n, S ++ rowsT M) := by
    have c := zero_cells (G := G_Lmade) (L := [.dat (.int (n : Nat)), .dat (.lst (ss.map sqD)), .un, .un, .un, .un, .un, .un]) (S := S) (n := n) (t := 7) (own := [7]) (wk := .range1 (.nm 0)) (nx := .nm 0) (ds := (List.range n).map fun i => D.int (i : Nat)) (by omega) (fun d _ S => rfl) (range1_nat rfl (by omega)) (by rw [List.length_map, List.length_range])
    have cw : evW G_Lmade (.seq (.nm 1)) [.dat (.int (n : Nat)), .dat (.lst (ss.map sqD)), .dat (cellL S.length n), .un, .un, .un, .un, .un] (S ++ rowsT (zerM n)) = some (ss.map sqD, S ++ rowsT (zerM n)) := rfl
    refine run_en ?_
    have hb : b_Lmade = .cons (b_Lmade.nth 0) (.cons (.for_ (.tup (.cons (.nm 3) (.cons (.nm 4) .nil))) (.seq (.nm 1)) mdB) (.cons (.ret (.nm 2)) .nil)) := rfl
    rw [hb]
    exact en_nx (asgx (frx c)) (en_nx (ev_for rfl cw e) (en_ret rfl))
  rw [go, sealR_of sealOk_app (seal_cells hM rfl), List.take_left' rfl]
end
end W

set_option Elab.async false
set_option linter.all false
set_option autoImplicit false
set_option maxRecDepth 100000
set_option maxHeartbeats 2000000
namespace W
open PySem PySem.Spec PyProof.Rows L2 PD
section
variable {G : Gam} {L : PD.Loc} {Bs S S0 S1 S2 S3 : Store} {i j k l m n N c K t : Nat} {p q u z : Cq} {w x : Rat} {ps qs cs ds ms : List Cq} {M M2 CS left fin : List (List Cq)} {X Y d : D} {a b : Xp} {ls : List Ld} {fs : List (List Cq)} {sqs : List (Rat × List Cq)} {stop : Option Nat}
/-! ### data that may be compared -/
def CmpOk {α : Type} (dep : Nat) (enc : α → D) : Prop := (∀ a, D.pure (enc a) = true ∧ PyData.canLay0 (enc a).py = true ∧ PyData.depth (enc a).py ≤ dep) ∧ ∀ a b, eqD (enc a) (enc b) = true ↔ a = b
theorem CmpOk.all {α : Type} {dep : Nat} {enc : α → D} (h : CmpOk dep enc) : (∀ xs : List α, D.pures (xs.map enc) = true ∧ PyData.canLayAll0 (D.pys (xs.map enc)) = true ∧ PyData.depthAll (D.pys (xs.map enc)) ≤ dep) ∧ ∀ xs ys : List α, PyData.eqvAll (D.pys (xs.map enc)) (D.pys (ys.map enc)) = true ↔ xs = ys := by
  constructor
  · intro xs
    induction xs with
    | nil => exact ⟨rfl, rfl, Nat.zero_le _⟩
    | cons x xs ih =>
      obtain ⟨h1, h2, h3⟩ := h.1 x
      refine ⟨?_, ?_, ?_⟩
      · show (D.pure (enc x) && D.pures (xs.map enc)) = true
        rw [ih.1, h1]; rfl
      · show (PyData.canLay0 (D.py (enc x)) && PyData.canLayAll0 (D.pys (xs.map enc))) = true
        rw [ih.2.1, h2]; rfl
      · show max (PyData.depth (D.py (enc x))) (PyData.depthAll (D.pys (xs.map enc))) ≤ dep
        exact Nat.max_le.mpr ⟨h3, ih.2.2⟩
  · intro xs
    induction xs with
    | nil =>
      intro ys
      cases ys with
      | nil => exact ⟨fun _ => rfl, fun _ => rfl⟩
      | cons y ys => exact ⟨fun z => by simp [D.pys, PyData.eqvAll] at z, fun z => by cases z⟩
    | cons x xs ih =>
      intro ys
      cases ys with
      | nil => exact ⟨fun z => by simp [D.pys, PyData.eqvAll] at z, fun z => by cases z⟩
      | cons y ys =>
        have e : PyData.eqvAll (D.pys ((x :: xs).map enc)) (D.pys ((y :: ys).map enc)) = (eqD (enc x) (enc y) && PyData.eqvAll (D.pys (xs.map enc)) (D.pys (ys.map enc))) := by
          simp [D.pys, PyData.eqvAll, eqD]
        rw [e, Bool.and_eq_true, h.2 x y, ih ys]
        constructor
        · rintro ⟨rfl, rfl⟩; rfl
        · intro z; injection z with z1 z2; exact ⟨z1, z2⟩
theorem CmpOk.lst {α : Type} {dep : Nat} {enc : α → D} (h : CmpOk dep enc) : CmpOk (dep + 1) (fun xs : List α => .lst (xs.map enc)) := by
  obtain ⟨h1, h2⟩ := h.all
  refine ⟨fun xs => ⟨(h1 xs).1, (h1 xs).2.1, by show PyData.depthAll (D.pys (xs.map enc)) + 1 ≤ dep + 1; have := (h1 xs).2.2; omega⟩, fun xs ys => ?_⟩
  rw [← h2 xs ys]
  simp [eqD, D.py, PyData.eqv]
theorem CmpOk.tup {α : Type} {dep : Nat} {enc : α → D} (h : CmpOk dep enc) : CmpOk (dep + 1) (fun xs : List α => .tup (xs.map enc)) := by
  obtain ⟨h1, h2⟩ := h.all
  refine ⟨fun xs => ⟨(h1 xs).1, (h1 xs).2.1, by show PyData.depthAll (D.pys (xs.map enc)) + 1 ≤ dep + 1; have := (h1 xs).2.2; omega⟩, fun xs ys => ?_⟩
  rw [← h2 xs ys]
  simp [eqD, D.py, PyData.eqv]
theorem CmpOk.ok {α : Type} {dep : Nat} {enc : α → D} (h : CmpOk dep enc) (hd : dep ≤ 64) (a : α) : eqOk (enc a) = true := by
  obtain ⟨h1, h2, h3⟩ := h.1 a
  show (D.pure (enc a) && (PyData.canLay0 (enc a).py && decide (PyData.depth (enc a).py ≤ 64))) = true
  rw [h1, h2, decide_eq_true (by omega)]; rfl
theorem cmp_eq_of {u v : D} (hu : eqOk u = true) (hv : eqOk v = true) (hn : ∀ s, u ≠ .str s) : cmpV .eq (.d u) (.d v) = some (eqD u v) := by
  cases u with
  | str s => exact absurd rfl (hn s)
  | ty _ => cases hu
  | cell _ => cases hu
  | non => exact if_pos (show (eqOk D.non && eqOk v) = true by rw [hu, hv]; rfl)
  | bl b => exact if_pos (show (eqOk (D.bl b) && eqOk v) = true by rw [hu, hv]; rfl)
  | int i => exact if_pos (show (eqOk (D.int i) && eqOk v) = true by rw [hu, hv]; rfl)
  | tup xs => exact if_pos (show (eqOk (D.tup xs) && eqOk v) = true by rw [hu, hv]; rfl)
  | lst xs => exact if_pos (show (eqOk (D.lst xs) && eqOk v) = true by rw [hu, hv]; rfl)
theorem CmpOk.eq {α : Type} [DecidableEq α] {dep : Nat} {enc : α → D} (h : CmpOk dep enc) (hd : dep ≤ 64) (a b : α) (hn : ∀ s, enc a ≠ .str s) : cmpV .eq (.d (enc a)) (.d (enc b)) = some (decide (a = b)) := by
  rw [cmp_eq_of (h.ok hd a) (h.ok hd b) hn]
  by_cases z : a = b
  · rw [decide_eq_true z, (h.2 a b).mpr z]
  · rw [decide_eq_false z]
    cases y : eqD (enc a) (enc b) with
    | false => rfl
    | true => exact absurd ((h.2 a b).mp y) z
theorem cmpok_Nm : CmpOk 2 Nm := ⟨fun p => ⟨rfl, rfl, Nat.le_refl _⟩, fun p q => by rw [eqD_Nm]; exact decide_eq_true_iff⟩
theorem cmpok_T : CmpOk 1 T := ⟨fun p => ⟨rfl, rfl, Nat.le_refl _⟩, fun p q => by rw [eqD_T]; exact decide_eq_true_iff⟩
theorem cmp_MN : cmpV .eq (.d (MN M)) (.d (MN M2)) = some (decide (M = M2)) := cmpok_Nm.tup.tup.eq (by decide) M M2 fun s z => by cases z
theorem cmp_MT : cmpV .eq (.d (MT M)) (.d (MT M2)) = some (decide (M = M2)) := cmpok_T.lst.lst.eq (by decide) M M2 fun s z => by cases z
/-! ### squares told -/
theorem callS1 {G G' : Gam} {j m : Nat} {nm : Str} {b : Sms} {e1 : Xp} {L : PD.Loc} {S S1 S3 : Store} {x d : D} (hE : G.ents[j]? = some (sealE (mkEnt nm 1 [] [] [0] G' m b))) (h1 : evX G e1 L S = some (.d x, S1)) (hs : sealR S1 (runF G' m b [x] S1) = some (d, S3)) : evX G (.call j (.cons e1 .nil) .nil) L S = some (.d d, S3) := by
  have hs : (sealE (mkEnt nm 1 [] [] [0] G' m b)).sem [x] S1 = some (d, S3) := hs
  rw [evX_call, hE]
  simp [-mk_sem, -se_sem, h1, hs]
theorem pureSq : ∀ sqs : List (Rat × List Cq), D.pures (sqs.map SqN) = true
  | [] => rfl
  | s :: sqs => by
    show (D.pure (SqN s) && D.pures (sqs.map SqN)) = true
    have : D.pure (SqN s) = true := by
      show (D.pure (F s.1) && (D.pure (RN s.2) && true)) = true
      rw [pureRN]; rfl
    rw [this, pureSq sqs]; rfl
def SqO (sqs : List (Rat × List Cq)) (stop : Option Nat) : D := match stop with | none => .tup (sqs.map SqN) | some _ => .non
theorem sc_clearing (hn : n ≤ 100) (hK : K ≤ 500) (hM : M.length = n) (h : ClRun K n n 0 M sqs stop fin) : sealR S (runF G_clearing 5 b_clearing [MN M] S) = some (.tup [.tup (sqs.map SqN), FoD stop, MN fin], S) := by
  have e := r_clearing (S := S) hn hK hM h
  rw [e]
  refine sealR_low (low_pure ?_)
  show (D.pures (sqs.map SqN) && (D.pure (FoD stop) && (D.pure (MN fin) && true))) = true
  rw [pureSq, pureMN]
  cases stop <;> rfl
theorem r_squares_by (hn : n ≤ 100) (hK : K ≤ 500) (hM : M.length = n) (h : ClRun K n n 0 M sqs stop fin) : runF G_squares_by 4 b_squares_by [MN M] S = some (SqO sqs stop, S) := by
  have e := sc_clearing (S := S) hn hK hM h
  have st : evS G_squares_by (.asg (.tup (.cons (.nm 1) (.cons (.nm 2) (.cons (.nm 3) .nil)))) (.call 0 (.cons (.nm 0) .nil) .nil)) [.dat (MN M), .un, .un, .un] S = some ((.nx, [.dat (MN M), .dat (.tup (sqs.map SqN)), .dat (FoD stop), .dat (MN fin)]), S) := by
    rw [evS_asg, callS1 (G := G_squares_by) (j := 0) (e1 := .nm 0) (L := [.dat (MN M), .un, .un, .un]) (S := S) (x := MN M) rfl rfl e]; rfl
  refine run_en ?_
  have hb : b_squares_by = .cons (.asg (.tup (.cons (.nm 1) (.cons (.nm 2) (.cons (.nm 3) .nil)))) (.call 0 (.cons (.nm 0) .nil) .nil)) (.cons (.ret (.ife (.cmp .isN (.nm 2) (.lit (.non))) (.nm 1) (.lit (.non)))) .nil) := rfl
  rw [hb]
  refine en_nx st (en_ret (retx ?_))
  have c := isNx (G := G_squares_by) (L := [.dat (MN M), .dat (.tup (sqs.map SqN)), .dat (FoD stop), .dat (MN fin)]) (S := S) (e := .nm 2) (o := stop) rfl
  rw [evX_ife, c]
  cases stop <;> rfl
theorem r_squares_of (hn : n ≤ 6) (hK : K ≤ 500) (hM : IsM n M) (hh : Herm n M) (h : ClRun K n n 0 M sqs stop fin) : runF G_squares_of 1 b_squares_of [MN M] S = some (SqO sqs stop, S) := by
  refine run_en ?_
  refine en_nx (exx (call1 (x := MN M) rfl rfl rfl rfl (r_check_table hM hh hn))) ?_
  exact en_ret (retx (call1 (x := MN M) rfl rfl rfl rfl (r_squares_by (by omega) hK hM.1 h)))
theorem r_is_nonnegative (hn : n ≤ 6) (hK : K ≤ 500) (hM : IsM n M) (hh : Herm n M) (h : ClRun K n n 0 M sqs stop fin) : runF G_is_nonnegative 1 b_is_nonnegative [MN M] S = some (.bl stop.isNone, S) := by
  refine run_en ?_
  refine en_nx (exx (call1 (x := MN M) rfl rfl rfl rfl (r_check_table hM hh hn))) (en_ret (retx ?_))
  rw [evX_cmp, call1 (x := MN M) rfl rfl rfl rfl (r_squares_by (S := S) (by omega) hK hM.1 h)]
  cases stop <;> rfl
theorem r_rank_of (hn : n ≤ 6) (hK : K ≤ 500) (hM : IsM n M) (hh : Herm n M) (h : NulOk K M n n 0 ([], [])) : runF G_rank_of 1 b_rank_of [MN M] S = some (.int ((n : Int) - ((nulF M n n 0 ([], [])).2.length : Nat)), S) := by
  refine run_en ?_
  refine en_nx (exx (call1 (x := MN M) rfl rfl rfl rfl (r_check_table hM hh hn))) (en_ret (retx ?_))
  have e := callS1 (G := G_rank_of) (j := 1) (e1 := .nm 0) (L := [.dat (MN M)]) (S := S) (x := MN M) rfl rfl (r_null_by (S := S) hM.1 (by omega) hK h)
  have l1 : evX G_rank_of (.bi .len (.cons (.nm 0) .nil)) [.dat (MN M)] S = some (.d (.int (n : Nat)), S) := by rw [lenT (ds := M.map RN) rfl, List.length_map, hM.1]
  have l2 := lenT (G := G_rank_of) (L := [.dat (MN M)]) (ds := (nulF M n n 0 ([], [])).2.map RN) e
  rw [List.length_map] at l2
  show evX _ _ [.dat (MN M)] S = _
  rw [evX_bin, l1, bnd_some, l2]; rfl
end
end W

set_option Elab.async false
set_option linter.all false
set_option autoImplicit false
set_option maxRecDepth 100000
set_option maxHeartbeats 2000000
namespace W
open PySem PySem.Spec PyProof.Rows L2 PD
section
variable {G : Gam} {L : PD.Loc} {Bs S S0 S1 S2 S3 : Store} {i j k l m n N c K t : Nat} {p q u z : Cq} {w x : Rat} {ps qs cs ds ms : List Cq} {M M2 CS left fin : List (List Cq)} {X Y d : D} {a b : Xp}
theorem comp_flt {α : Type} {elt cc : Xp} {t : Nat} {wk : Wk} {own : List Nat} {as : List α} {g f : α → D} {P : α → Bool} (hw : evW G wk L S = some (as.map g, S1)) (hl : as.length ≤ 1000) (hc : ∀ a ∈ as, evX G cc ((wipeL L own).set t (.dat (g a))) S1 = some (.d (.bl (P a)), S1)) (he : ∀ a ∈ as, P a = true → evX G elt ((wipeL L own).set t (.dat (g a))) S1 = some (.d (f a), S1)) :
    evF G (.comp elt (.nm t) wk (.some cc) own) L S = some ((as.filter P).map f, S1) := by
  rw [evF_comp, hw, bnd_some, if_pos (lt_line (by rw [List.length_map]; exact hl))]
  clear hw hl
  induction as with
  | nil => rfl
  | cons a as ih =>
    have ih := ih (fun b hb => hc b (List.mem_cons_of_mem _ hb)) (fun b hb => he b (List.mem_cons_of_mem _ hb))
    rw [List.map_cons, compL_cons, evG_nm, bnd_some, evC_some, hc a (List.mem_cons_self ..), bnd_some]
    show bnd (bnd (some (P a, S1)) _) _ = _
    rw [bnd_some]
    cases h : P a with
    | false =>
      rw [if_neg Bool.false_ne_true, bnd_some, ih, List.filter_cons_of_neg (by rw [h]; exact Bool.false_ne_true)]
      rfl
    | true =>
      rw [if_pos rfl, he a (List.mem_cons_self ..) h, bnd_some]
      show bnd (some (some (f a), S1)) _ = _
      rw [bnd_some, ih, List.filter_cons_of_pos h]
      rfl
theorem it_tup {xs : List D} : isiV (.d (.tup xs)) "tuple" = some true := rfl
theorem it_non : isiV (.d .non) "tuple" = some false := by decide +kernel
theorem it_int {i : Int} : isiV (.d (.int i)) "tuple" = some false := by
  show kitB "int" "tuple" = _
  decide +kernel
theorem it_lst {xs : List D} : isiV (.d (.lst xs)) "tuple" = some false := by
  show kitB "list" "tuple" = _
  decide +kernel
theorem ii_bl {b : Bool} : isiV (.d (.bl b)) "int" = some true := by
  show kitB "bool" "int" = _
  decide +kernel
theorem ib_bl {b : Bool} : isiV (.d (.bl b)) "bool" = some true := by
  show kitB "bool" "bool" = _
  decide +kernel
theorem ii_int {i : Int} : isiV (.d (.int i)) "int" = some true := by
  show kitB "int" "int" = _
  decide +kernel
theorem ib_int {i : Int} : isiV (.d (.int i)) "bool" = some false := by
  show kitB "int" "bool" = _
  decide +kernel
/-! ### what is a square -/
theorem r_is_square (hc : ms.length = n) (hn : n ≤ 1000) : runF G_is_square 2 b_is_square [SqN (w, ms), .int (n : Nat)] S = some (.bl (decide (w ≠ 0) && (fstO ms).isSome), S) := by
  have wm := fun S => r_wrong_in_mix (S := S) hc hn
  have fo := fun S => r_first_other (S := S) (ps := ms)
  have fr := fun S => r_is_frac_F (S := S) (x := w)
  have i0 : ∀ S, ixV (.d (F w)) (.d (.int 0)) S = some (.int w.num) := fun S => rfl
  have hz : (w.num = 0) ↔ (w = 0) := Rat.num_eq_zero
  show runF G_is_square 2 b_is_square [.tup [F w, RN ms], .int (n : Nat)] S = _
  generalize ((n : Nat) : Int) = ni at *
  generalize RN ms = R at *
  generalize F w = FF at *
  rw [runF_eq]
  by_cases h : w = 0
  · have h2 := hz.mpr h
    simp [b_is_square, G_is_square, e_is_frac_1, e_first_other_1, e_wrong_in_mix_2, pick, it_tup, it_non, it_int, it_lst, ii_bl, ib_bl, ii_int, ib_int, fr, i0, wm, fo, cmp_nil, h, h2]
  · have h2 : ¬ w.num = 0 := fun z => h (hz.mp z)
    cases hf : fstO ms with
    | none =>
      rw [hf] at fo
      simp [b_is_square, G_is_square, e_is_frac_1, e_first_other_1, e_wrong_in_mix_2, pick, it_tup, it_non, it_int, it_lst, ii_bl, ib_bl, ii_int, ib_int, fr, i0, wm, fo, cmp_nil, h, h2, FoD]
    | some v =>
      rw [hf] at fo
      have fo : ∀ S, runF G_first_other 3 b_first_other [R] S = some (.int (v : Nat), S) := fo
      generalize ((v : Nat) : Int) = vi at *
      have nn : cmpV .notN (.d (.int vi)) (.d .non) = some true := rfl
      simp [b_is_square, G_is_square, e_is_frac_1, e_first_other_1, e_wrong_in_mix_2, pick, it_tup, it_non, it_int, it_lst, ii_bl, ib_bl, ii_int, ib_int, fr, i0, wm, fo, cmp_nil, h, h2, nn]
def lmB : Sms := (b_Lmakes.nth 2).body
def Bad (n : Nat) (d : D) : Prop := (∀ S, runF G_is_square 2 b_is_square [d, .int (n : Nat)] S = some (.bl false, S)) ∧ ∀ (M : List (List Cq)) (TH v4 v5 : Lv) (acc : List D) (S : Store), M.length = n → ∃ L', evSs G_Lmakes lmB [.dat (MT M), TH, .own acc, .dat d, v4, v5] S = some ((.ret (.bl false), L'), S)
theorem lmB_eq : lmB = .cons (.ife (.or (.not (.isi (.nm 3) "tuple")) (.or (.cmp .ne (.bi .len (.cons (.nm 3) .nil)) (.lit (.int 2))) (.or (.not (.call 0 (.cons (.ix (.nm 3) (.lit (.int 0))) .nil) .nil)) (.cmp .eq (.ix (.ix (.nm 3) (.lit (.int 0))) (.lit (.int 0))) (.lit (.int 0)))))) (.cons (.ret (.lit (.bl false))) .nil) .nil) (.cons (.ife (.not (.call 1 (.cons (.ix (.nm 3) (.lit (.int 1))) (.cons (.bi .len (.cons (.nm 0) .nil)) .nil)) .nil)) (.cons (.ret (.lit (.bl false))) .nil) .nil) (.cons (.asg (.nm 4) (.fr (.comp (.call 2 (.cons (.nm 5) .nil) .nil) (.nm 5) (.seq (.ix (.nm 3) (.lit (.int 1)))) .none [5]))) (.cons (.ife (.cmp .eq (.fr (.comp (.nm 5) (.nm 5) (.seq (.nm 4)) (.some (.not (.call 3 (.cons (.nm 5) .nil) .nil))) [5])) (.fr (.disp .nil))) (.cons (.ret (.lit (.bl false))) .nil) .nil) (.cons (.app 2 (.tup (.cons (.call 4 (.cons (.ix (.nm 3) (.lit (.int 0))) .nil) .nil) (.cons (.nm 4) .nil)))) .nil)))) := rfl
theorem bad1 {TH v4 v5 : Lv} {acc : List D} {o : D} (h : evX G_Lmakes (.or (.not (.isi (.nm 3) "tuple")) (.or (.cmp .ne (.bi .len (.cons (.nm 3) .nil)) (.lit (.int 2))) (.or (.not (.call 0 (.cons (.ix (.nm 3) (.lit (.int 0))) .nil) .nil)) (.cmp .eq (.ix (.ix (.nm 3) (.lit (.int 0))) (.lit (.int 0))) (.lit (.int 0)))))) [.dat o, TH, .own acc, .dat d, v4, v5] S = some (.d (.bl true), S)) : ∃ L', evSs G_Lmakes lmB [.dat o, TH, .own acc, .dat d, v4, v5] S = some ((.ret (.bl false), L'), S) := by
  rw [lmB_eq]
  exact en_ret (L2 := [.dat o, TH, .own acc, .dat d, v4, v5]) (Eq.trans (ifx h) rfl)
theorem bad_non : Bad n .non := by
  refine ⟨fun S => ?_, fun M TH v4 v5 acc S _ => bad1 ?_⟩
  · generalize ((n : Nat) : Int) = ni
    rw [runF_eq]
    simp [b_is_square, it_tup, it_non, it_int, it_lst, ii_bl, ib_bl, ii_int, ib_int]
  · generalize MT M = O
    simp [it_tup, it_non, it_int, it_lst, ii_bl, ib_bl, ii_int, ib_int]
theorem r_Lis_fraction_ij {i j : Int} : runF G_Lis_fraction 2 b_Lis_fraction [.tup [.int i, .int j]] S = some (.bl (decide (0 < j) && decide (Nat.gcd i.natAbs j.natAbs = 1)), S) := by
  rw [runF_eq]
  by_cases h : 0 < j
  · simp [b_Lis_fraction, G_Lis_fraction, compL, line, e_Lcommon_2, pick, r_Lcommon, h, cmpn_nil]
    norm_cast
  · simp [b_Lis_fraction, G_Lis_fraction, compL, line, e_Lcommon_2, pick, r_Lcommon, h, cmpn_nil]
theorem bad_one : Bad n (.tup [.int 1, .int 1]) := by
  refine ⟨fun S => ?_, fun M TH v4 v5 acc S _ => bad1 ?_⟩
  · have f : ∀ S, runF G_is_frac 1 b_is_frac [.int 1] S = some (.bl false, S) := fun S => by
      rw [runF_eq]
      simp [b_is_frac, it_tup, it_non, it_int, it_lst, ii_bl, ib_bl, ii_int, ib_int]
    generalize ((n : Nat) : Int) = ni
    rw [runF_eq]
    simp [b_is_square, G_is_square, e_is_frac_1, pick, it_tup, it_non, it_int, it_lst, ii_bl, ib_bl, ii_int, ib_int, f]
  · have f : ∀ S, runF G_Lis_fraction 2 b_Lis_fraction [.int 1] S = some (.bl false, S) := fun S => by
      rw [runF_eq]
      simp [b_Lis_fraction, it_tup, it_non, it_int, it_lst, ii_bl, ib_bl, ii_int, ib_int]
    generalize MT M = O
    simp [G_Lmakes, e_Lis_fraction_1, pick, it_tup, it_non, it_int, it_lst, ii_bl, ib_bl, ii_int, ib_int, f]
theorem bad_two {R : D} : Bad n (.tup [.tup [.int 2, .int 2], R]) := by
  refine ⟨fun S => ?_, fun M TH v4 v5 acc S _ => bad1 ?_⟩
  · have f : ∀ S, runF G_is_frac 1 b_is_frac [.tup [.int 2, .int 2]] S = some (.bl false, S) := fun S => r_is_frac_ij
    generalize ((n : Nat) : Int) = ni
    rw [runF_eq]
    simp [b_is_square, G_is_square, e_is_frac_1, pick, it_tup, it_non, it_int, it_lst, ii_bl, ib_bl, ii_int, ib_int, f]
  · have f : ∀ S, runF G_Lis_fraction 2 b_Lis_fraction [.tup [.int 2, .int 2]] S = some (.bl false, S) := fun S => r_Lis_fraction_ij
    generalize MT M = O
    simp [G_Lmakes, e_Lis_fraction_1, pick, it_tup, it_non, it_int, it_lst, ii_bl, ib_bl, ii_int, ib_int, f]
theorem bad_true {R : D} : Bad n (.tup [.tup [.bl true, .int 1], R]) := by
  refine ⟨fun S => ?_, fun M TH v4 v5 acc S _ => bad1 ?_⟩
  · have f : ∀ S, runF G_is_frac 1 b_is_frac [.tup [.bl true, .int 1]] S = some (.bl false, S) := fun S => by
      have g : ∀ S, runF G_is_whole 1 b_is_whole [.bl true] S = some (.bl false, S) := fun S => by
        rw [runF_eq]
        simp [b_is_whole, it_tup, it_non, it_int, it_lst, ii_bl, ib_bl, ii_int, ib_int]
      rw [runF_eq]
      simp [b_is_frac, G_is_frac, e_is_whole_1, pick, it_tup, it_non, it_int, it_lst, ii_bl, ib_bl, ii_int, ib_int, g]
    generalize ((n : Nat) : Int) = ni
    rw [runF_eq]
    simp [b_is_square, G_is_square, e_is_frac_1, pick, it_tup, it_non, it_int, it_lst, ii_bl, ib_bl, ii_int, ib_int, f]
  · have f : ∀ S, runF G_Lis_fraction 2 b_Lis_fraction [.tup [.bl true, .int 1]] S = some (.bl false, S) := fun S => by
      have g : cmpV .ne (.d (.lst [.bl true])) (.d (.lst [])) = some true := by decide +kernel
      rw [runF_eq]
      simp [b_Lis_fraction, compL, line, it_tup, it_non, it_int, it_lst, ii_bl, ib_bl, ii_int, ib_int, g]
    generalize MT M = O
    simp [G_Lmakes, e_Lis_fraction_1, pick, it_tup, it_non, it_int, it_lst, ii_bl, ib_bl, ii_int, ib_int, f]
theorem bad_zero (hc : ms.length = n) (hn : n ≤ 1000) : Bad n (SqN (0, ms)) := by
  refine ⟨fun S => by rw [r_is_square hc hn]; rfl, fun M TH v4 v5 acc S _ => bad1 ?_⟩
  have f := fun S => r_Lis_fraction (S := S) (x := 0)
  have i0 : ∀ S, ixV (.d (F 0)) (.d (.int 0)) S = some (.int 0) := fun S => rfl
  show evX _ _ [.dat (MT M), TH, .own acc, .dat (.tup [F 0, RN ms]), v4, v5] S = _
  generalize MT M = O
  generalize RN ms = R
  generalize F 0 = FF at *
  simp [G_Lmakes, e_Lis_fraction_1, pick, it_tup, it_non, it_int, it_lst, ii_bl, ib_bl, ii_int, ib_int, f, i0]
end
end W

set_option Elab.async false
set_option linter.all false
set_option autoImplicit false
set_option maxRecDepth 100000
set_option maxHeartbeats 2000000
namespace W
open PySem PySem.Spec PyProof.Rows L2 PD
section
variable {G : Gam} {L : PD.Loc} {Bs S S0 S1 S2 S3 : Store} {i j k l m n N c K t : Nat} {p q u z : Cq} {w x : Rat} {ps qs cs ds ms : List Cq} {M M2 CS left fin : List (List Cq)} {X Y d : D} {a b : Xp}
theorem r_Lis_line (hc : ms.length = n) (hn : n ≤ 1000) : runF G_Lis_line 3 b_Lis_line [RN ms, .int (n : Nat)] S = some (.bl true, S) := by
  have c1 : evF G_Lis_line (.comp (.nm 2) (.nm 2) (.seq (.nm 0)) (.some (.not (.call 0 (.cons (.nm 2) .nil) .nil))) [2]) [.dat (RN ms), .dat (.int (n : Nat)), .un] S = some ([], S) := by
    refine comp_drop (ds := ms.map Nm) rfl (by rw [List.length_map]; omega) fun d hd => ?_
    obtain ⟨p, _, rfl⟩ := List.mem_map.mp hd
    refine ⟨[.dat (RN ms), .dat (.int (n : Nat)), .dat (Nm p)], rfl, ?_⟩
    have e := call1 (G := G_Lis_line) (j := 0) (L := [.dat (RN ms), .dat (.int (n : Nat)), .dat (Nm p)]) (e1 := .nm 2) (x := Nm p) rfl rfl rfl rfl (r_Lis_number (p := p) (S := S))
    rw [evX_not, e]; rfl
  have hl : (ms.map Nm).length = n := by rw [List.length_map, hc]
  refine run_en ?_
  refine en_nx (L2 := [.dat (RN ms), .dat (.int (n : Nat)), .un]) (S2 := S) ?_ ?_
  · show evS G_Lis_line (b_Lis_line.nth 0) [.dat (RN ms), .dat (.int (n : Nat)), .un] S = _
    unfold RN
    generalize ms.map Nm = rr at *
    rw [← hl]
    have q : evX G_Lis_line (.or (.not (.isi (.nm 0) "tuple")) (.cmp .ne (.bi .len (.cons (.nm 0) .nil)) (.nm 1))) [.dat (.tup rr), .dat (.int (rr.length : Nat)), .un] S = some (.d (.bl false), S) := by
      generalize hh : ((rr.length : Nat) : Int) = ni
      simp [it_tup, hh]
    exact Eq.trans (ifn q) rfl
  · refine en_ret (retx ?_)
    rw [evX_cmp, frx c1, bnd_some]
    rfl
theorem r_Lis_line_lst {xs : List D} {ni : Int} : runF G_Lis_line 3 b_Lis_line [.lst xs, .int ni] S = some (.bl false, S) := by
  rw [runF_eq]
  simp [b_Lis_line, it_lst]
theorem c1f {TH v4 v5 : Lv} {acc : List D} {o R : D} (h : w ≠ 0) : evX G_Lmakes (.or (.not (.isi (.nm 3) "tuple")) (.or (.cmp .ne (.bi .len (.cons (.nm 3) .nil)) (.lit (.int 2))) (.or (.not (.call 0 (.cons (.ix (.nm 3) (.lit (.int 0))) .nil) .nil)) (.cmp .eq (.ix (.ix (.nm 3) (.lit (.int 0))) (.lit (.int 0))) (.lit (.int 0)))))) [.dat o, TH, .own acc, .dat (.tup [F w, R]), v4, v5] S = some (.d (.bl false), S) := by
  have f := fun S => r_Lis_fraction (S := S) (x := w)
  have i0 : ∀ S, ixV (.d (F w)) (.d (.int 0)) S = some (.int w.num) := fun S => rfl
  have h2 : ¬ w.num = 0 := fun z => h (Rat.num_eq_zero.mp z)
  generalize F w = FF at *
  simp [G_Lmakes, e_Lis_fraction_1, pick, it_tup, f, i0, h2]
theorem c2x {TH v4 v5 : Lv} {acc : List D} {R : D} {bb : Bool} (hM : M.length = n) (hr : runF G_Lis_line 3 b_Lis_line [R, .int (n : Nat)] S = some (.bl bb, S)) : evX G_Lmakes (.not (.call 1 (.cons (.ix (.nm 3) (.lit (.int 1))) (.cons (.bi .len (.cons (.nm 0) .nil)) .nil)) .nil)) [.dat (MT M), TH, .own acc, .dat (.tup [F w, R]), v4, v5] S = some (.d (.bl (!bb)), S) := by
  have e := call2 (G := G_Lmakes) (j := 1) (L := [.dat (MT M), TH, .own acc, .dat (.tup [F w, R]), v4, v5]) (e1 := .ix (.nm 3) (.lit (.int 1))) (e2 := .bi .len (.cons (.nm 0) .nil)) (x := R) (y := .int (n : Nat)) (S := S) (S1 := S) rfl rfl rfl (ixT (i := 1) (ds := [F w, R]) rfl rfl rfl) (by rw [lenL (ds := M.map RT) rfl, List.length_map, hM]) hr
  rw [evX_not, e]; rfl
theorem bad_list {xs : List D} : Bad n (.tup [F w, .lst xs]) := by
  by_cases h : w = 0
  · subst h
    refine ⟨fun S => ?_, fun M TH v4 v5 acc S _ => bad1 ?_⟩
    · have fr := fun S => r_is_frac_F (S := S) (x := 0)
      have i0 : ∀ S, ixV (.d (F 0)) (.d (.int 0)) S = some (.int 0) := fun S => rfl
      generalize ((n : Nat) : Int) = ni
      generalize F 0 = FF at *
      rw [runF_eq]
      simp [b_is_square, G_is_square, e_is_frac_1, pick, it_tup, fr, i0]
    · have f := fun S => r_Lis_fraction (S := S) (x := 0)
      have i0 : ∀ S, ixV (.d (F 0)) (.d (.int 0)) S = some (.int 0) := fun S => rfl
      generalize MT M = O
      generalize F 0 = FF at *
      simp [G_Lmakes, e_Lis_fraction_1, pick, it_tup, f, i0]
  · refine ⟨fun S => ?_, fun M TH v4 v5 acc S hM => ?_⟩
    · have wm : ∀ S, runF G_wrong_in_mix 4 b_wrong_in_mix [.lst xs, .int (n : Nat)] S = some (.lst [.non], S) := fun S => by
        generalize ((n : Nat) : Int) = ni
        rw [runF_eq]
        simp [b_wrong_in_mix, it_lst]
      have fr := fun S => r_is_frac_F (S := S) (x := w)
      have i0 : ∀ S, ixV (.d (F w)) (.d (.int 0)) S = some (.int w.num) := fun S => rfl
      have h2 : ¬ w.num = 0 := fun z => h (Rat.num_eq_zero.mp z)
      have g : cmpV .eq (.d (.lst [.non])) (.d (.lst [])) = some false := by decide +kernel
      generalize ((n : Nat) : Int) = ni at *
      generalize F w = FF at *
      rw [runF_eq]
      simp [b_is_square, G_is_square, e_is_frac_1, e_wrong_in_mix_2, pick, it_tup, fr, i0, h2, wm, g]
    · rw [lmB_eq]
      exact en_nx (Eq.trans (ifn (c1f h)) rfl) (en_ret (Eq.trans (ifx (c2x hM r_Lis_line_lst)) rfl))
theorem fst_flt : ∀ ms : List Cq, (ms.filter fun p => !decide (p = 0)) = [] ↔ fstO ms = none
  | [] => ⟨fun _ => rfl, fun _ => rfl⟩
  | p :: ms => by
    unfold fstO
    by_cases h : p = 0
    · rw [if_pos h, List.filter_cons_of_neg (by simp [h]), fst_flt ms]
      cases fstO ms <;> simp
    · rw [if_neg h, List.filter_cons_of_pos (by simp [h])]
      simp
theorem c3x {TH v5 : Lv} {acc : List D} {o E : D} (hl : ms.length ≤ 1000) : evX G_Lmakes (.cmp .eq (.fr (.comp (.nm 5) (.nm 5) (.seq (.nm 4)) (.some (.not (.call 3 (.cons (.nm 5) .nil) .nil))) [5])) (.fr (.disp .nil))) [.dat o, TH, .own acc, .dat E, .dat (RT ms), v5] S = some (.d (.bl (fstO ms).isNone), S) := by
  have c : evF G_Lmakes (.comp (.nm 5) (.nm 5) (.seq (.nm 4)) (.some (.not (.call 3 (.cons (.nm 5) .nil) .nil))) [5]) [.dat o, TH, .own acc, .dat E, .dat (RT ms), v5] S = some ((ms.filter fun p => !decide (p = 0)).map T, S) :=
    comp_flt (g := T) rfl hl (fun p _ => by
      have e := call1 (G := G_Lmakes) (j := 3) (L := [.dat o, TH, .own acc, .dat E, .dat (RT ms), .dat (T p)]) (e1 := .nm 5) (x := T p) (S := S) rfl rfl rfl rfl (r_Lis_nought (p := p) (S := S))
      show evX _ _ [.dat o, TH, .own acc, .dat E, .dat (RT ms), .dat (T p)] S = _
      rw [evX_not, e]; rfl) fun p _ _ => rfl
  rw [evX_cmp, frx c, bnd_some]
  show lft ((cmpV .eq (.d (.lst ((ms.filter fun p => !decide (p = 0)).map T))) (.d (.lst (([] : List Cq).map T)))).map _) S = _
  rw [cmpok_T.lst.eq (by decide) (ms.filter fun p => !decide (p = 0)) [] fun s z => by cases z]
  have f := fst_flt ms
  cases h : fstO ms with
  | none => rw [decide_eq_true (f.mpr h)]; rfl
  | some v => rw [decide_eq_false fun z => by rw [f.mp z] at h; cases h]; rfl
theorem lm_m {TH v4 v5 : Lv} {acc : List D} {o : D} (hb' : ∀ p ∈ ms, hb k p) (hk : 3 * k < 4000) (hl : ms.length ≤ 1000) : evS G_Lmakes (.asg (.nm 4) (.fr (.comp (.call 2 (.cons (.nm 5) .nil) .nil) (.nm 5) (.seq (.ix (.nm 3) (.lit (.int 1)))) .none [5]))) [.dat o, TH, .own acc, .dat (SqN (w, ms)), v4, v5] S = some ((.nx, [.dat o, TH, .own acc, .dat (SqN (w, ms)), .dat (RT ms), v5]), S) := by
  have c : evF G_Lmakes (.comp (.call 2 (.cons (.nm 5) .nil) .nil) (.nm 5) (.seq (.ix (.nm 3) (.lit (.int 1)))) .none [5]) [.dat o, TH, .own acc, .dat (SqN (w, ms)), v4, v5] S = some (ms.map T, S) :=
    comp_nm (g := Nm) rfl hl fun p hp => call1 (x := Nm p) rfl rfl rfl rfl (r_Lread (hb' p hp) hk)
  exact asgx (frx c)
theorem bad_void (hc : ms.length = n) (hn : n ≤ 1000) (hz : ∀ p ∈ ms, p = 0) : Bad n (SqN (w, ms)) := by
  by_cases h : w = 0
  · rw [h]; exact bad_zero hc hn
  · have f0 : fstO ms = none := fst_none hz
    refine ⟨fun S => by rw [r_is_square hc hn, f0]; simp, fun M TH v4 v5 acc S hM => ?_⟩
    rw [lmB_eq]
    refine en_nx (Eq.trans (ifn (c1f h)) rfl) (en_nx (Eq.trans (ifn (c2x hM (r_Lis_line hc hn))) rfl) ?_)
    refine en_nx (lm_m (k := 1) (fun p hp => by rw [hz p hp]; exact hb_0) (by decide) (by omega)) ?_
    refine en_ret (Eq.trans (ifx ?_) rfl)
    have := c3x (S := S) (ms := ms) (TH := TH) (v5 := v5) (acc := acc) (o := MT M) (E := SqN (w, ms)) (by omega)
    rw [f0] at this
    exact this
/-! ### good ones -/
def GoodSq (k n : Nat) (s : Cq × List Cq) : Prop := s.1 = re s.1.1 ∧ s.1.1 ≠ 0 ∧ SqH k n s ∧ fstO s.2 ≠ none
def enS (s : Cq × List Cq) : D := SqN (s.1.1, s.2)
theorem good_step {s : Cq × List Cq} {TH v4 v5 : Lv} {acc : List D} (h : GoodSq k n s) (hk : k ≤ 150) (hn : n ≤ 1000) (hM : M.length = n) (hl : acc.length ≤ 1000) : evSs G_Lmakes lmB [.dat (MT M), TH, .own acc, .dat (enS s), v4, v5] S = some ((.nx, [.dat (MT M), TH, .own (acc ++ [sqD s]), .dat (enS s), .dat (RT s.2), v5]), S) := by
  obtain ⟨h1, h2, ⟨h3, h4, h5⟩, h6⟩ := h
  rw [lmB_eq]
  refine st_nx (Eq.trans (ifn (c1f h2)) rfl) (st_nx (Eq.trans (ifn (c2x hM (r_Lis_line h4 hn))) rfl) ?_)
  refine st_nx (lm_m h5 (by omega) (by omega)) ?_
  have c3 := c3x (S := S) (ms := s.2) (TH := TH) (v5 := v5) (acc := acc) (o := MT M) (E := SqN (s.1.1, s.2)) (by omega)
  have f0 : (fstO s.2).isNone = false := by
    cases z : fstO s.2 with
    | none => exact absurd z h6
    | some _ => rfl
  rw [f0] at c3
  refine st_nx (Eq.trans (ifn c3) rfl) ?_
  have e5 : evX G_Lmakes (.tup (.cons (.call 4 (.cons (.ix (.nm 3) (.lit (.int 0))) .nil) .nil) (.cons (.nm 4) .nil))) [.dat (MT M), TH, .own acc, .dat (SqN (s.1.1, s.2)), .dat (RT s.2), v5] S = some (.d (sqD s), S) := by
    have e := call1 (G := G_Lmakes) (j := 4) (L := [.dat (MT M), TH, .own acc, .dat (SqN (s.1.1, s.2)), .dat (RT s.2), v5]) (e1 := .ix (.nm 3) (.lit (.int 0))) (x := F s.1.1) (S := S) rfl rfl rfl (ixT (i := 0) (ds := [F s.1.1, RN s.2]) rfl rfl rfl) (r_Lreal (x := s.1.1) (S := S))
    rw [evX_tup, evXs_cons, e]
    rw [← h1]
    rfl
  exact st_nx (appx e5 rfl hl) rfl
end
end W

set_option Elab.async false
set_option linter.all false
set_option autoImplicit false
set_option maxRecDepth 100000
set_option maxHeartbeats 2000000
namespace W
open PySem PySem.Spec PyProof.Rows L2 PD
section
variable {G : Gam} {L : PD.Loc} {Bs S S0 S1 S2 S3 : Store} {i j k l m n N c K t : Nat} {p q u z : Cq} {w x : Rat} {ps qs cs ds ms : List Cq} {M M2 CS left fin : List (List Cq)} {X Y d : D} {a b : Xp}
/-- what may stand in a tuple of squares -/
def Elm (k n : Nat) (d : D) : Prop := (∃ s, d = enS s ∧ GoodSq k n s) ∨ Bad n d
/-! ### by the law's own hand -/
theorem lm_good {TH : Lv} (hk : k ≤ 150) (hn : n ≤ 1000) (hM : M.length = n) : ∀ (ss : List (Cq × List Cq)) (acc : List D) (v3 v4 v5 : Lv), (∀ s ∈ ss, GoodSq k n s) → acc.length + ss.length ≤ 900 → ∃ v3' v4' v5', forL (fun d L S => bnd (evG G_Lmakes (.nm 3) d L S) fun L2 S2 => evSs G_Lmakes lmB L2 S2) (ss.map enS) [.dat (MT M), TH, .own acc, v3, v4, v5] S = some ((.nx, [.dat (MT M), TH, .own (acc ++ ss.map sqD), v3', v4', v5']), S)
  | [], acc, v3, v4, v5, _, _ => ⟨v3, v4, v5, by show some _ = some _; simp⟩
  | s :: ss, acc, v3, v4, v5, h, hl => by
    have l0 : (s :: ss).length = ss.length + 1 := rfl
    rw [l0] at hl
    have st := good_step (S := S) (TH := TH) (v4 := v4) (v5 := v5) (acc := acc) (h s (List.mem_cons_self ..)) hk hn hM (by omega)
    obtain ⟨a3, a4, a5, e⟩ := lm_good hk hn hM ss (acc ++ [sqD s]) (.dat (enS s)) (.dat (RT s.2)) v5 (fun z hz => h z (List.mem_cons_of_mem _ hz)) (by simp; omega)
    refine ⟨a3, a4, a5, ?_⟩
    rw [List.map_cons, forL_cons, evG_nm, bnd_some]
    show bnd (evSs G_Lmakes lmB [.dat (MT M), TH, .own acc, .dat (enS s), v4, v5] S) _ = _
    rw [st, bnd_some, List.map_cons, show acc ++ sqD s :: ss.map sqD = acc ++ [sqD s] ++ ss.map sqD by simp]
    exact e
theorem lm_bad {TH : Lv} (hk : k ≤ 150) (hn : n ≤ 1000) (hM : M.length = n) : ∀ (es : List D) (acc : List D) (v3 v4 v5 : Lv), (∀ e ∈ es, Elm k n e) → (∃ e ∈ es, Bad n e) → acc.length + es.length ≤ 900 → ∃ L', forL (fun d L S => bnd (evG G_Lmakes (.nm 3) d L S) fun L2 S2 => evSs G_Lmakes lmB L2 S2) es [.dat (MT M), TH, .own acc, v3, v4, v5] S = some ((.ret (.bl false), L'), S)
  | [], acc, v3, v4, v5, _, hb, _ => by
    obtain ⟨e, he, _⟩ := hb
    cases he
  | d :: es, acc, v3, v4, v5, h, hb, hl => by
    have l0 : (d :: es).length = es.length + 1 := rfl
    rw [l0] at hl
    have bad : Bad n d → ∃ L', forL (fun d L S => bnd (evG G_Lmakes (.nm 3) d L S) fun L2 S2 => evSs G_Lmakes lmB L2 S2) (d :: es) [.dat (MT M), TH, .own acc, v3, v4, v5] S = some ((.ret (.bl false), L'), S) := fun hd => by
      obtain ⟨L', e⟩ := hd.2 M TH v4 v5 acc S hM
      refine ⟨L', ?_⟩
      rw [forL_cons, evG_nm, bnd_some]
      show bnd (evSs G_Lmakes lmB [.dat (MT M), TH, .own acc, .dat d, v4, v5] S) _ = _
      rw [e]; rfl
    rcases h d (List.mem_cons_self ..) with ⟨s, rfl, hs⟩ | hd
    · obtain ⟨e, he, hbe⟩ := hb
      rcases List.mem_cons.mp he with rfl | he
      · exact bad hbe
      · have st := good_step (S := S) (TH := TH) (v4 := v4) (v5 := v5) (acc := acc) hs hk hn hM (by omega)
        obtain ⟨L', r⟩ := lm_bad hk hn hM es (acc ++ [sqD s]) (.dat (enS s)) (.dat (RT s.2)) v5 (fun z hz => h z (List.mem_cons_of_mem _ hz)) ⟨e, he, hbe⟩ (by simp; omega)
        refine ⟨L', ?_⟩
        rw [forL_cons, evG_nm, bnd_some]
        show bnd (evSs G_Lmakes lmB [.dat (MT M), TH, .own acc, .dat (enS s), v4, v5] S) _ = _
        rw [st, bnd_some]
        exact r
    · exact bad hd
theorem lm_head {es : List D} : b_Lmakes = .cons (.ife (.not (.isi (.nm 1) "tuple")) (.cons (.ret (.lit (.bl false))) .nil) .nil) (.cons (.own 2 (.disp .nil)) (.cons (.for_ (.nm 3) (.seq (.nm 1)) lmB) (.cons (.fz 2) (.cons (.ret (.cmp .eq (.call 5 (.cons (.bi .len (.cons (.nm 0) .nil)) (.cons (.nm 2) .nil)) .nil) (.nm 0))) .nil)))) := rfl
theorem r_Lmakes_not (hX : isiV (.d X) "tuple" = some false) : runF G_Lmakes 6 b_Lmakes [MT M, X] S = some (.bl false, S) := by
  generalize MT M = O
  rw [runF_eq]
  simp [b_Lmakes, hX]
theorem lm_first {es : List D} : evS G_Lmakes (.ife (.not (.isi (.nm 1) "tuple")) (.cons (.ret (.lit (.bl false))) .nil) .nil) [.dat (MT M), .dat (.tup es), .un, .un, .un, .un] S = some ((.nx, [.dat (MT M), .dat (.tup es), .un, .un, .un, .un]), S) := by
  generalize MT M = O
  simp [it_tup]
theorem r_Lmakes_bad {es : List D} (hk : k ≤ 150) (hn : n ≤ 1000) (hM : M.length = n) (h : ∀ e ∈ es, Elm k n e) (hb : ∃ e ∈ es, Bad n e) (hl : es.length ≤ 900) : runF G_Lmakes 6 b_Lmakes [MT M, .tup es] S = some (.bl false, S) := by
  obtain ⟨L', e⟩ := lm_bad (S := S) (TH := .dat (.tup es)) hk hn hM es [] .un .un .un h hb (by simpa using hl)
  refine run_en ?_
  rw [lm_head (es := es)]
  refine en_nx lm_first (en_nx (L2 := [.dat (MT M), .dat (.tup es), .own [], .un, .un, .un]) (S2 := S) rfl ?_)
  exact en_ret (ev_for rfl rfl e)
theorem callS2' {G G' : Gam} {j m : Nat} {nm : Str} {b : Sms} {e1 e2 : Xp} {L : PD.Loc} {S S1 S2 S3 : Store} {x y d : D} (hE : G.ents[j]? = some (sealE (mkEnt nm 2 [] [] [0, 1] G' m b))) (h1 : evX G e1 L S = some (.d x, S1)) (h2 : evX G e2 L S1 = some (.d y, S2)) (hs : sealR S2 (runF G' m b [x, y] S2) = some (d, S3)) : evX G (.call j (.cons e1 (.cons e2 .nil)) .nil) L S = some (.d d, S3) := by
  have hs : (sealE (mkEnt nm 2 [] [] [0, 1] G' m b)).sem [x, y] S2 = some (d, S3) := hs
  rw [evX_call, hE]
  simp [-mk_sem, -se_sem, h1, h2, hs]
theorem r_Lmakes_good {ss : List (Cq × List Cq)} (hk : k ≤ 150) (hn : n ≤ 6) (hM : M.length = n) (h : ∀ s ∈ ss, GoodSq k n s) (hl : ss.length ≤ 8) : runF G_Lmakes 6 b_Lmakes [MT M, .tup (ss.map enS)] S = some (.bl (decide (tabM n (fun a b => sqF a b 0 ss) = M)), S) := by
  obtain ⟨a3, a4, a5, e⟩ := lm_good (S := S) (TH := .dat (.tup (ss.map enS))) hk (by omega) hM ss [] .un .un .un h (by simp; omega)
  have md := r_LmadeH (S := S) (k := k) hn (fun s hs => (h s hs).2.2.1) (by omega) hl
  refine run_en ?_
  rw [lm_head (es := ss.map enS)]
  refine en_nx lm_first (en_nx (L2 := [.dat (MT M), .dat (.tup (ss.map enS)), .own [], .un, .un, .un]) (S2 := S) rfl ?_)
  refine en_nx (ev_for rfl rfl e) (en_nx (L2 := [.dat (MT M), .dat (.tup (ss.map enS)), .dat (.lst (ss.map sqD)), a3, a4, a5]) (S2 := S) rfl (en_ret (retx ?_)))
  have c := callS2' (G := G_Lmakes) (j := 5) (L := [.dat (MT M), .dat (.tup (ss.map enS)), .dat (.lst (ss.map sqD)), a3, a4, a5]) (e1 := .bi .len (.cons (.nm 0) .nil)) (e2 := .nm 2) (S := S) rfl (by rw [lenL (ds := M.map RT) rfl, List.length_map, hM]) rfl md
  rw [evX_cmp, c, bnd_some, nmx (d := MT M) rfl, bnd_some, cmp_MT]
  rfl
/-! ### by the program -/
theorem r_tables_plusH (hM : BdM k n M) (hN : BdM k n M2) (hk : k + k < 9000) (hn : n ≤ 1000) : runF G_tables_plus 4 b_tables_plus [MN M, MN M2] S = some (MN (addM M M2), S) := by
  have c := comp_zip (G := G_tables_plus) (L := [.dat (MN M), .dat (MN M2), .un, .un]) (S := S) (S1 := S) (as := M) (bs := M2) (g := RN) (h := RN) (f := fun p q => RN (addR p q)) (w := .zip (.nm 0) (.nm 1)) (elt := .call 0 (.cons (.nm 2) (.cons (.nm 3) .nil)) .nil) (ta := 2) (tb := 3) (own := [2, 3]) rfl (by rw [hM.1]; exact hn) fun p hp' q hq' =>
    call2 (x := RN p) (y := RN q) rfl rfl rfl rfl rfl (r_mix_sum (k := k) (hM.2 p hp').2 (hN.2 q hq').2 hk (by rw [(hM.2 p hp').1]; exact hn))
  rw [zw_mapR] at c
  exact run_ret (tupx c)
theorem add_sq {f : Nat → Nat → Cq} (hm : ms.length = n) : addM (tabM n f) (sqTab w ms) = tabM n fun a b => f a b + re w * (cf ms a * conN (cf ms b)) := by
  have im : IsM n (addM (tabM n f) (sqTab w ms)) := IsM_add IsM_tab (IsM_sqTab hm)
  refine (tab_ext im fun a b ha hb => ?_).symm
  refine Eq.trans ?_ (ent_zip (f := fun x y => x + y) (M := tabM n f) (N := sqTab w ms) IsM_tab (IsM_sqTab hm) ha hb).symm
  show _ = ent (tabM n f) a b + ent (sqTab w ms) a b
  rw [ent_tab ha hb, ent_sqTab hm ha hb]
  grind
def mkB : Sms := (b_makes_by.nth 3).body
theorem mk_loop {v0 v1 v2 v5 v6 : Lv} (hk : k ≤ 150) (hn : n ≤ 1000) : ∀ (ss : List (Cq × List Cq)) (f : Nat → Nat → Cq) (K : Nat) (v4 : Lv), (∀ s ∈ ss, GoodSq k n s) → BdM K n (tabM n f) → K + ss.length * (3 * k + 4) ≤ 4000 → ∃ v4', forL (fun d L S => bnd (evG G_makes_by (.nm 4) d L S) fun L2 S2 => evSs G_makes_by mkB L2 S2) (ss.map enS) [v0, v1, v2, .dat (MN (tabM n f)), v4, v5, v6] S = some ((.nx, [v0, v1, v2, .dat (MN (tabM n fun a b => sqF a b (f a b) ss)), v4', v5, v6]), S)
  | [], f, K, v4, _, _, _ => ⟨v4, rfl⟩
  | s :: ss, f, K, v4, h, hB, hl => by
    rw [List.length_cons, Nat.add_mul, Nat.one_mul] at hl
    obtain ⟨h1, h2, ⟨h3, h4⟩, h5⟩ := h s (List.mem_cons_self ..)
    have sw : Sz k s.1.1 := h3.szn.1
    have sq := r_square_table (S := S) (w := s.1.1) h4 sw (by omega) (by omega) hn
    have bs := BdM_sq h4 sw
    have bs' : BdM (K + 3 * k + 3) n (sqTab s.1.1 s.2) := ⟨bs.1, fun r hr => ⟨(bs.2 r hr).1, fun p hp => ((bs.2 r hr).2 p hp).mono (by omega)⟩⟩
    have bt' : BdM (K + 3 * k + 3) n (tabM n f) := ⟨hB.1, fun r hr => ⟨(hB.2 r hr).1, fun p hp => ((hB.2 r hr).2 p hp).mono (by omega)⟩⟩
    have tp := r_tables_plusH (S := S) bt' bs' (by omega) hn
    rw [add_sq h4.1, ← h1] at tp
    have bn : BdM (K + (3 * k + 4)) n (tabM n fun a b => f a b + s.1 * (cf s.2 a * conN (cf s.2 b))) := by
      refine ⟨IsM_tab.1, fun r hr => ⟨IsM_tab.2 r hr, fun p hp => ?_⟩⟩
      obtain ⟨a, ha, rfl⟩ := List.mem_map.mp hr
      obtain ⟨b, hb', rfl⟩ := List.mem_map.mp hp
      have ha := List.mem_range.mp ha
      have hb' := List.mem_range.mp hb'
      have e1 : hb K (f a b) := by
        have := hB.he ha hb'
        rwa [ent_tab ha hb'] at this
      exact (e1.add' (h3.mul' ((h4.hc ha).mul' (h4.hc hb').con))).mono (by omega)
    obtain ⟨v4', e⟩ := mk_loop hk hn ss _ (K + (3 * k + 4)) (.dat (enS s)) (fun z hz => h z (List.mem_cons_of_mem _ hz)) bn (by omega)
    refine ⟨v4', ?_⟩
    have st : evSs G_makes_by mkB [v0, v1, v2, .dat (MN (tabM n f)), .dat (enS s), v5, v6] S = some ((.nx, [v0, v1, v2, .dat (MN (tabM n fun a b => f a b + s.1 * (cf s.2 a * conN (cf s.2 b)))), .dat (enS s), v5, v6]), S) := by
      show evSs G_makes_by (.cons (.asg (.nm 3) (.call 2 (.cons (.nm 3) (.cons (.call 3 (.cons (.nm 4) .nil) .nil) .nil)) .nil)) .nil) _ S = _
      exact st_nx (asgx (call2 (x := MN (tabM n f)) (y := MN (sqTab s.1.1 s.2)) rfl rfl rfl rfl (call1 (x := enS s) rfl rfl rfl rfl sq) tp)) rfl
    rw [List.map_cons, forL_cons, evG_nm, bnd_some]
    show bnd (evSs G_makes_by mkB [v0, v1, v2, .dat (MN (tabM n f)), .dat (enS s), v5, v6] S) _ = _
    rw [st, bnd_some]
    exact e
theorem bools_of {α : Type} (as : List α) (P : α → Bool) : boolsOf (as.map fun a => D.bl (P a)) = some (as.map P) := by
  induction as with
  | nil => rfl
  | cons a as ih =>
    show (match boolsOf (as.map fun a => D.bl (P a)) with | some l => some (P a :: l) | none => none) = _
    rw [ih]; rfl
theorem allb {α : Type} {f : Fx} {as : List α} {P : α → Bool} (h : evF G f L S = some (as.map fun a => D.bl (P a), S1)) : evX G (.bi .all (.cons (.fr f) .nil)) L S = some (.d (.bl (as.all P)), S1) := by
  rw [evX_bi, evXs_cons, frx h]
  show lft (((boolsOf (as.map fun a => D.bl (P a))).map fun l => D.bl (l.all id)).map Va.d) S1 = _
  rw [bools_of]
  show some (Va.d (D.bl ((as.map P).all id)), S1) = _
  rw [List.all_map]; rfl
theorem mk_head : b_makes_by = .cons (.asg (.nm 2) (.bi .len (.cons (.nm 0) .nil))) (.cons (.ife (.or (.not (.isi (.nm 1) "tuple")) (.not (.bi .all (.cons (.fr (.comp (.call 0 (.cons (.nm 6) (.cons (.nm 2) .nil)) .nil) (.nm 6) (.seq (.nm 1)) .none [6])) .nil)))) (.cons (.ret (.lit (.bl false))) .nil) .nil) (.cons (.asg (.nm 3) (.bi .tuple (.cons (.fr (.comp (.call 1 (.cons (.nm 2) (.cons (.neg (.lit (.int 1))) .nil)) .nil) (.nm 5) (.range1 (.nm 2)) .none [5])) .nil))) (.cons (.for_ (.nm 4) (.seq (.nm 1)) mkB) (.cons (.ret (.cmp .eq (.nm 3) (.nm 0))) .nil)))) := rfl
theorem mk_len (hM : M.length = n) {v1 v2 v3 v4 v5 v6 : Lv} : evS G_makes_by (.asg (.nm 2) (.bi .len (.cons (.nm 0) .nil))) [.dat (MN M), v1, v2, v3, v4, v5, v6] S = some ((.nx, [.dat (MN M), v1, .dat (.int (n : Nat)), v3, v4, v5, v6]), S) := asgx (by rw [lenT (ds := M.map RN) rfl, List.length_map, hM])
theorem mk_cond {es : List D} {P : D → Bool} (hl : es.length ≤ 900) (h : ∀ e ∈ es, ∀ S, runF G_is_square 2 b_is_square [e, .int (n : Nat)] S = some (.bl (P e), S)) {v3 v4 v5 v6 : Lv} : evX G_makes_by (.or (.not (.isi (.nm 1) "tuple")) (.not (.bi .all (.cons (.fr (.comp (.call 0 (.cons (.nm 6) (.cons (.nm 2) .nil)) .nil) (.nm 6) (.seq (.nm 1)) .none [6])) .nil)))) [.dat (MN M), .dat (.tup es), .dat (.int (n : Nat)), v3, v4, v5, v6] S = some (.d (.bl (!es.all P)), S) := by
  have c : evF G_makes_by (.comp (.call 0 (.cons (.nm 6) (.cons (.nm 2) .nil)) .nil) (.nm 6) (.seq (.nm 1)) .none [6]) [.dat (MN M), .dat (.tup es), .dat (.int (n : Nat)), v3, v4, v5, v6] S = some (es.map fun e => D.bl (P e), S) :=
    comp_nm (g := fun e : D => e) (by rw [List.map_id']; rfl) (by omega) fun e he => call2 (x := e) (y := .int (n : Nat)) rfl rfl rfl rfl rfl (h e he S)
  rw [evX_or, evX_not]
  show bnd (some (Va.d (.bl false), S)) _ = _
  rw [bnd_some]
  show bnd (some (false, S)) _ = _
  rw [bnd_some, if_neg Bool.false_ne_true, evX_not, allb c]
  rfl
theorem r_makes_not (hX : isiV (.d X) "tuple" = some false) (hM : M.length = n) : runF G_makes_by 7 b_makes_by [MN M, X] S = some (.bl false, S) := by
  refine run_en ?_
  rw [mk_head]
  refine en_nx (mk_len hM) (en_ret (L2 := [.dat (MN M), .dat X, .dat (.int (n : Nat)), .un, .un, .un, .un]) (Eq.trans (ifx ?_) rfl))
  generalize ((n : Nat) : Int) = ni
  generalize MN M = O
  simp [hX]
theorem r_makes_bad {es : List D} (hk : k ≤ 150) (hn : n ≤ 1000) (hM : M.length = n) (h : ∀ e ∈ es, Elm k n e) (hb' : ∃ e ∈ es, Bad n e) (hl : es.length ≤ 900) : runF G_makes_by 7 b_makes_by [MN M, .tup es] S = some (.bl false, S) := by
  have hP : ∀ e ∈ es, ∃ bb : Bool, (∀ S, runF G_is_square 2 b_is_square [e, .int (n : Nat)] S = some (.bl bb, S)) ∧ (Bad n e → bb = false) := fun e he => by
    rcases h e he with ⟨s, rfl, hs⟩ | hd
    · refine ⟨(decide (s.1.1 ≠ 0) && (fstO s.2).isSome), fun S => r_is_square hs.2.2.1.2.1 hn, fun hbad => ?_⟩
      have e1 := hbad.1 []
      have e2 := r_is_square (w := s.1.1) (S := []) hs.2.2.1.2.1 hn
      rw [show enS s = SqN (s.1.1, s.2) from rfl, e2] at e1
      injection e1 with e1; injection e1 with e1 _; injection e1
    · exact ⟨false, hd.1, fun _ => rfl⟩
  have hQ : ∃ P : D → Bool, ∀ e ∈ es, (∀ S, runF G_is_square 2 b_is_square [e, .int (n : Nat)] S = some (.bl (P e), S)) ∧ (Bad n e → P e = false) := by
    classical
    refine ⟨fun e => if h : e ∈ es then Classical.choose (hP e h) else false, fun e he => ?_⟩
    have := Classical.choose_spec (hP e he)
    simp only [dif_pos he]
    exact this
  obtain ⟨P, hQ⟩ := hQ
  have ha : es.all P = false := by
    obtain ⟨e, he, hbe⟩ := hb'
    rw [List.all_eq_false]
    exact ⟨e, he, by rw [(hQ e he).2 hbe]; exact Bool.false_ne_true⟩
  have mc := mk_cond (S := S) (M := M) (v3 := .un) (v4 := .un) (v5 := .un) (v6 := .un) hl fun e he => (hQ e he).1
  rw [ha] at mc
  refine run_en ?_
  rw [mk_head]
  exact en_nx (mk_len hM) (en_ret (L2 := [.dat (MN M), .dat (.tup es), .dat (.int (n : Nat)), .un, .un, .un, .un]) (Eq.trans (ifx mc) rfl))
theorem unit_none : unitR n (-1) = (List.range n).map fun _ => (0 : Cq) := List.map_congr_left fun i _ => by rw [if_neg (by omega)]
theorem r_makes_good {ss : List (Cq × List Cq)} (hk : k ≤ 150) (hn : n ≤ 100) (hM : M.length = n) (h : ∀ s ∈ ss, GoodSq k n s) (hl : ss.length ≤ 8) : runF G_makes_by 7 b_makes_by [MN M, .tup (ss.map enS)] S = some (.bl (decide (tabM n (fun a b => sqF a b 0 ss) = M)), S) := by
  have mc := mk_cond (S := S) (M := M) (n := n) (es := ss.map enS) (P := fun _ => true) (v3 := .un) (v4 := .un) (v5 := .un) (v6 := .un) (by rw [List.length_map]; omega) fun e he S => by
    obtain ⟨s, hs, rfl⟩ := List.mem_map.mp he
    obtain ⟨h1, h2, ⟨h3, h4⟩, h5⟩ := h s hs
    rw [show enS s = SqN (s.1.1, s.2) from rfl, r_is_square h4.1 (by omega)]
    have : (decide (s.1.1 ≠ 0) && (fstO s.2).isSome) = true := by
      rw [decide_eq_true h2]
      cases z : fstO s.2 with
      | none => exact absurd z h5
      | some _ => rfl
    rw [this]
  rw [show (ss.map enS).all (fun _ => true) = true by simp] at mc
  have hB : ss.length * (3 * k + 4) ≤ 8 * 454 := Nat.mul_le_mul hl (by omega)
  obtain ⟨v4', e⟩ := mk_loop (S := S) (v0 := .dat (MN M)) (v1 := .dat (.tup (ss.map enS))) (v2 := .dat (.int (n : Nat))) (v5 := .un) (v6 := .un) hk (by omega : n ≤ 1000) ss (fun _ _ => 0) 1 .un h ⟨IsM_tab.1, fun r hr => ⟨IsM_tab.2 r hr, fun p hp => by
    obtain ⟨a, _, rfl⟩ := List.mem_map.mp hr
    obtain ⟨b, _, rfl⟩ := List.mem_map.mp hp
    exact hb_0⟩⟩ (by omega)
  have c : evF G_makes_by (.comp (.call 1 (.cons (.nm 2) (.cons (.neg (.lit (.int 1))) .nil)) .nil) (.nm 5) (.range1 (.nm 2)) .none [5]) [.dat (MN M), .dat (.tup (ss.map enS)), .dat (.int (n : Nat)), .un, .un, .un, .un] S = some ((tabM n fun _ _ => (0 : Cq)).map RN, S) := by
    unfold tabM
    rw [List.map_map]
    refine comp_nm (g := fun i : Nat => D.int (i : Nat)) (range1_nat rfl (by omega)) (by rw [List.length_range]; omega) fun i _ => ?_
    have um := r_unit_mix (S := S) (n := n) (t := -1) (by omega)
    rw [unit_none] at um
    exact call2d (x := .int (n : Nat)) (y := .int (-1)) rfl rfl rfl um
  refine run_en ?_
  rw [mk_head]
  refine en_nx (mk_len hM) (en_nx (L2 := [.dat (MN M), .dat (.tup (ss.map enS)), .dat (.int (n : Nat)), .un, .un, .un, .un]) (S2 := S) (Eq.trans (ifn mc) rfl) ?_)
  refine en_nx (asgx (tupx c)) (en_nx (ev_for rfl rfl e) (en_ret (retx ?_)))
  rw [evX_cmp, nmx (d := MN (tabM n fun a b => sqF a b 0 ss)) rfl, bnd_some, nmx (d := MN M) rfl, bnd_some, cmp_MN]
  rfl
theorem r_do_make {bb : Bool} (hM : IsM n M) (hh : Herm n M) (hn : n ≤ 6) (h : ∀ S, runF G_makes_by 7 b_makes_by [MN M, X] S = some (.bl bb, S)) : runF G_do_make 2 b_do_make [MN M, X] S = some (.bl bb, S) := by
  refine run_en ?_
  refine en_nx (exx (call1 (x := MN M) rfl rfl rfl rfl (r_check_table hM hh hn))) ?_
  exact en_ret (retx (call2 (x := MN M) (y := X) rfl rfl rfl rfl rfl (h S)))
end
end W

set_option Elab.async false
set_option linter.all false
set_option autoImplicit false
set_option maxRecDepth 100000
set_option maxHeartbeats 2000000
namespace W
open PySem PySem.Spec PyProof.Rows L2 PD
section
variable {G : Gam} {L : PD.Loc} {Bs S S0 S1 S2 S3 : Store} {i j k l m n nn N c K t : Nat} {p q u z : Cq} {w x : Rat} {ps qs cs ds ms : List Cq} {M M2 CS left fin : List (List Cq)} {X Y d : D} {a b : Xp}
/-! ### stepped squares, drawn -/
def lsB : Sms := (b_Lsteps.nth 1).body
theorem repx {e : Xp} {d : D} {f : Fx} (hf : evF G f L S = some ([d], S)) (h : evX G e L S = some (.d (.int (k : Nat)), S1)) (hk : k ≤ 1000) : evF G (.rep f e) L S = some (List.replicate k d, S1) := by
  rw [evF_rep, hf, bnd_some, h, bnd_some]
  show lft (if 0 ≤ ((k : Nat) : Int) ∧ ((k : Nat) : Int) < 2 ^ 63 ∧ [d].length * ((k : Nat) : Int).toNat ≤ line then some (List.replicate ((k : Nat) : Int).toNat [d]).flatten else none) S1 = _
  rw [if_pos ⟨by omega, by omega, by show 1 * k ≤ line; rw [Nat.one_mul]; exact Nat.le_of_lt (lt_line (by omega))⟩, List.flatten_replicate_singleton]
  rfl
theorem catx {e f : Xp} {xs ys : List D} (h : evX G e L S = some (.d (.lst xs), S1)) (h2 : evX G f L S1 = some (.d (.lst ys), S2)) (hl : xs.length + ys.length ≤ 1000) : evF G (.cat e f) L S = some (xs ++ ys, S2) := by
  rw [evF_cat, h, bnd_some, h2, bnd_some]
  show lft (if xs.length + ys.length ≤ line then some (xs ++ ys) else none) S2 = _
  rw [if_pos (Nat.le_of_lt (lt_line hl))]; rfl
theorem step_row {n k : Nat} {rest : List Cq} (hk : k < n) (hr : rest.length = n - 1 - k) : (List.replicate k (0 : Cq) ++ [1] ++ rest).length = n ∧ (∀ i, i < k → cf (List.replicate k (0 : Cq) ++ [1] ++ rest) i = 0) ∧ cf (List.replicate k (0 : Cq) ++ [1] ++ rest) k = 1 := by
  refine ⟨by simp [hr]; omega, fun i hi => ?_, ?_⟩
  · unfold cf
    rw [List.append_assoc, List.getElem?_append_left (by simpa using hi), List.getElem?_replicate, if_pos hi]; rfl
  · unfold cf
    rw [List.append_assoc, List.getElem?_append_right (by simp)]
    simp
theorem ls_loop (hn : n ≤ 6) {v5 : Lv} : ∀ (r k : Nat) (acc : List D) (S : Store) (N : Nat) (v3 v4 : Lv), k + r = n → Pl Bs N S nn → N + 60 * r ≤ 800000 → acc.length + r ≤ 900 → ∃ (ss : List Sq) (S' : Store) (v3' v4' : Lv), forL (fun d L S => bnd (evG G_Lsteps (.nm 3) d L S) fun L2 S2 => evSs G_Lsteps lsB L2 S2) ((List.range' k r).map fun i => D.int (i : Nat)) [.dat (.cell nn), .dat (.int (n : Nat)), .own acc, v3, v4, v5] S = some ((.nx, [.dat (.cell nn), .dat (.int (n : Nat)), .own (acc ++ ss.map sqD), v3', v4', v5]), S') ∧ Stp n k ss ∧ (∀ s ∈ ss, SqG n s) ∧ ss.length ≤ r ∧ Pl Bs (N + 60 * r) S' nn
  | 0, k, acc, S, N, v3, v4, _, h, _, _ => ⟨[], S, v3, v4, by show some _ = some _; simp, trivial, (fun s hs => by cases hs), Nat.le_refl _, h⟩
  | r + 1, k, acc, S, N, v3, v4, hk, h, hN, hl => by
    have hkn : k < n := by omega
    obtain ⟨v, S1, e1, v0, v1, h1⟩ := r_Ldraw (m := 4) h (by omega) (by decide) (by decide)
    have hB : lsB = .cons (.ife (.cmp .gt (.call 0 (.cons (.nm 0) (.cons (.lit (.int 4)) .nil)) .nil) (.lit (.int 0))) (.cons (.asg (.nm 4) (.fr (.comp (.call 1 (.cons (.nm 0) .nil) .nil) (.nm 5) (.range1 (.bin .sub (.bin .sub (.nm 1) (.lit (.int 1))) (.nm 3))) .none [5]))) (.cons (.app 2 (.tup (.cons (.call 2 (.cons (.nm 0) .nil) .nil) (.cons (.fr (.cat (.fr (.cat (.fr (.rep (.disp (.cons (.tup (.cons (.lit (.int 0)) (.cons (.lit (.int 0)) (.cons (.lit (.int 1)) .nil)))) .nil)) (.nm 3))) (.fr (.disp (.cons (.tup (.cons (.lit (.int 1)) (.cons (.lit (.int 0)) (.cons (.lit (.int 1)) .nil)))) .nil))))) (.nm 4))) .nil)))) .nil)) .nil) .nil := rfl
    have c0 := call2 (G := G_Lsteps) (j := 0) (L := [.dat (.cell nn), .dat (.int (n : Nat)), .own acc, .dat (.int (k : Nat)), v4, v5]) (e1 := .nm 0) (e2 := .lit (.int 4)) (x := .cell nn) (y := .int 4) (S := S) rfl rfl rfl rfl rfl e1
    have cond : evX G_Lsteps (.cmp .gt (.call 0 (.cons (.nm 0) (.cons (.lit (.int 4)) .nil)) .nil) (.lit (.int 0))) [.dat (.cell nn), .dat (.int (n : Nat)), .own acc, .dat (.int (k : Nat)), v4, v5] S = some (.d (.bl (decide (0 < v))), S1) := by
      rw [evX_cmp, c0]; rfl
    by_cases hv : 0 < v
    · rw [decide_eq_true hv] at cond
      have en : (n : Int) - 1 - (k : Int) = ((n - 1 - k : Nat) : Int) := by omega
      have hw : evW G_Lsteps (.range1 (.bin .sub (.bin .sub (.nm 1) (.lit (.int 1))) (.nm 3))) [.dat (.cell nn), .dat (.int (n : Nat)), .own acc, .dat (.int (k : Nat)), v4, v5] S1 = some ((List.range (n - 1 - k)).map fun i => D.int (i : Nat), S1) := by
        refine range1_nat ?_ (by omega)
        rw [← en]; rfl
      obtain ⟨rest, S2, e2, hr, lr, h2⟩ := comp_dr (G := G_Lsteps) (L := [.dat (.cell nn), .dat (.int (n : Nat)), .own acc, .dat (.int (k : Nat)), v4, v5]) (S := S1) (enc := T) (P := gq 1 15) (w := 5) (B := 850000) (t := 5) (own := [5]) (elt := .call 1 (.cons (.nm 0) .nil) .nil) hw (by rw [List.length_map, List.length_range]; omega) (fun d _ S N h hN => by
        obtain ⟨p, S3, e3, gp, h3⟩ := r_Lsmall h (by omega)
        exact ⟨p, S3, call1 (x := .cell nn) rfl rfl rfl rfl e3, gp, h3⟩) h1 (by rw [List.length_map, List.length_range]; omega)
      rw [List.length_map, List.length_range] at lr h2
      obtain ⟨w, S3, e3, ⟨cw, gw, rw', pw⟩, h3⟩ := r_Lpositive h2 (by omega)
      obtain ⟨l1, l2, l3⟩ := step_row hkn lr
      have gm : ∀ p ∈ List.replicate k (0 : Cq) ++ [1] ++ rest, gq 1 15 p := fun p hp => by
        rcases List.mem_append.mp hp with hp | hp
        · rcases List.mem_append.mp hp with hp | hp
          · rw [List.eq_of_mem_replicate hp]; exact (gq_zero 1).mono (by decide)
          · rw [List.mem_singleton.mp hp]; exact (gq_one 1).mono (by decide)
        · exact hr p hp
      have T0 : T (0 : Cq) = .tup [.int 0, .int 0, .int 1] := T_zero
      have T1 : T (1 : Cq) = .tup [.int 1, .int 0, .int 1] := T_c1
      have em : (List.replicate k (0 : Cq) ++ [1] ++ rest).map T = List.replicate k (.tup [.int 0, .int 0, .int 1]) ++ [.tup [.int 1, .int 0, .int 1]] ++ rest.map T := by
        rw [List.map_append, List.map_append, List.map_replicate, T0, List.map_cons, List.map_nil, T1]
      have e4 : evX G_Lsteps (.tup (.cons (.call 2 (.cons (.nm 0) .nil) .nil) (.cons (.fr (.cat (.fr (.cat (.fr (.rep (.disp (.cons (.tup (.cons (.lit (.int 0)) (.cons (.lit (.int 0)) (.cons (.lit (.int 1)) .nil)))) .nil)) (.nm 3))) (.fr (.disp (.cons (.tup (.cons (.lit (.int 1)) (.cons (.lit (.int 0)) (.cons (.lit (.int 1)) .nil)))) .nil))))) (.nm 4))) .nil))) [.dat (.cell nn), .dat (.int (n : Nat)), .own acc, .dat (.int (k : Nat)), .dat (.lst (rest.map T)), v5] S2 = some (.d (sqD (w, List.replicate k (0 : Cq) ++ [1] ++ rest)), S3) := by
        have y1 := call1 (G := G_Lsteps) (j := 2) (L := [.dat (.cell nn), .dat (.int (n : Nat)), .own acc, .dat (.int (k : Nat)), .dat (.lst (rest.map T)), v5]) (e1 := .nm 0) (x := .cell nn) (S := S2) rfl rfl rfl rfl e3
        have y2 : evF G_Lsteps (.cat (.fr (.cat (.fr (.rep (.disp (.cons (.tup (.cons (.lit (.int 0)) (.cons (.lit (.int 0)) (.cons (.lit (.int 1)) .nil)))) .nil)) (.nm 3))) (.fr (.disp (.cons (.tup (.cons (.lit (.int 1)) (.cons (.lit (.int 0)) (.cons (.lit (.int 1)) .nil)))) .nil))))) (.nm 4)) [.dat (.cell nn), .dat (.int (n : Nat)), .own acc, .dat (.int (k : Nat)), .dat (.lst (rest.map T)), v5] S3 = some (List.replicate k (.tup [.int 0, .int 0, .int 1]) ++ [.tup [.int 1, .int 0, .int 1]] ++ rest.map T, S3) :=
          catx (frx (catx (frx (repx rfl rfl (by omega))) rfl (by simp; omega))) rfl (by simp; omega)
        rw [evX_tup, evXs_cons, y1, bnd_some, evXs_cons, frx y2]
        show some (Va.d (.tup [T w, .lst _]), S3) = some (Va.d (.tup [T w, .lst _]), S3)
        rw [em]
      obtain ⟨ss, S', a3, a4, e, hs, hg, hl', hP⟩ := ls_loop hn r (k + 1) (acc ++ [sqD (w, List.replicate k (0 : Cq) ++ [1] ++ rest)]) S3 (N + 60) (.dat (.int (k : Nat))) (.dat (.lst (rest.map T))) (by omega) (h3.mono (by omega)) (by omega) (by simp; omega)
      refine ⟨(w, List.replicate k (0 : Cq) ++ [1] ++ rest) :: ss, S', a3, a4, ?_, ⟨k, Nat.le_refl _, hkn, l2, l3, pw, hs⟩, fun s hs' => ?_, by simp; omega, hP.mono (by omega)⟩
      · have st : evSs G_Lsteps lsB [.dat (.cell nn), .dat (.int (n : Nat)), .own acc, .dat (.int (k : Nat)), v4, v5] S = some ((.nx, [.dat (.cell nn), .dat (.int (n : Nat)), .own (acc ++ [sqD (w, List.replicate k (0 : Cq) ++ [1] ++ rest)]), .dat (.int (k : Nat)), .dat (.lst (rest.map T)), v5]), S3) := by
          rw [hB]
          exact st_nx (Eq.trans (ifx cond) (st_nx (asgx (frx e2)) (st_nx (appx e4 rfl (by omega)) rfl))) rfl
        rw [List.range'_succ, List.map_cons, forL_cons, evG_nm, bnd_some]
        show bnd (evSs G_Lsteps lsB [.dat (.cell nn), .dat (.int (n : Nat)), .own acc, .dat (.int (k : Nat)), v4, v5] S) _ = _
        rw [st, bnd_some]
        have ea : acc ++ ((w, List.replicate k (0 : Cq) ++ [1] ++ rest) :: ss).map sqD = acc ++ [sqD (w, List.replicate k (0 : Cq) ++ [1] ++ rest)] ++ ss.map sqD := by simp
        rw [ea]
        exact e
      · rcases List.mem_cons.mp hs' with rfl | hs'
        · exact ⟨gw, rw', l1, gm⟩
        · exact hg s hs'
    · rw [decide_eq_false hv] at cond
      obtain ⟨ss, S', a3, a4, e, hs, hg, hl', hP⟩ := ls_loop hn r (k + 1) acc S1 (N + 60) (.dat (.int (k : Nat))) v4 (by omega) (h1.mono (by omega)) (by omega) (by omega)
      refine ⟨ss, S', a3, a4, ?_, hs.down (by omega), hg, by omega, hP.mono (by omega)⟩
      have st : evSs G_Lsteps lsB [.dat (.cell nn), .dat (.int (n : Nat)), .own acc, .dat (.int (k : Nat)), v4, v5] S = some ((.nx, [.dat (.cell nn), .dat (.int (n : Nat)), .own acc, .dat (.int (k : Nat)), v4, v5]), S1) := by
        rw [hB]
        exact st_nx (Eq.trans (ifn cond) rfl) rfl
      rw [List.range'_succ, List.map_cons, forL_cons, evG_nm, bnd_some]
      show bnd (evSs G_Lsteps lsB [.dat (.cell nn), .dat (.int (n : Nat)), .own acc, .dat (.int (k : Nat)), v4, v5] S) _ = _
      rw [st, bnd_some]
      exact e
theorem r_Lsteps (h : Pl Bs N S nn) (hn : n ≤ 6) (hN : N ≤ 700000) : ∃ (ss : List Sq) (S' : Store), runF G_Lsteps 6 b_Lsteps [.cell nn, .int (n : Nat)] S = some (.lst (ss.map sqD), S') ∧ Stp n 0 ss ∧ (∀ s ∈ ss, SqG n s) ∧ ss.length ≤ n ∧ Pl Bs (N + 400) S' nn := by
  obtain ⟨ss, S', a3, a4, e, hs, hg, hl', hP⟩ := ls_loop (nn := nn) (v5 := .un) hn n 0 [] S N .un .un (by omega) h (by omega) (by simp; omega)
  rw [← List.range_eq_range', List.nil_append] at e
  have cw : evW G_Lsteps (.range1 (.nm 1)) [.dat (.cell nn), .dat (.int (n : Nat)), .own [], .un, .un, .un] S = some ((List.range n).map fun i => D.int (i : Nat), S) := range1_nat rfl (by omega)
  have hb : b_Lsteps = .cons (.own 2 (.disp .nil)) (.cons (.for_ (.nm 3) (.range1 (.nm 1)) lsB) (.cons (.fz 2) (.cons (.ret (.nm 2)) .nil))) := rfl
  refine ⟨ss, S', ?_, hs, hg, hl', hP.mono (by omega)⟩
  refine run_en ?_
  rw [hb]
  refine en_nx (L2 := [.dat (.cell nn), .dat (.int (n : Nat)), .own [], .un, .un, .un]) (S2 := S) rfl ?_
  exact en_nx (ev_for rfl cw e) (en_nx (L2 := [.dat (.cell nn), .dat (.int (n : Nat)), .dat (.lst (ss.map sqD)), a3, a4, .un]) (S2 := S') rfl (en_ret rfl))
theorem SqG.good {s : Sq} {n k : Nat} (h : SqG n s) (hp : 0 < s.1.1) (h1 : cf s.2 k = 1) : GoodSq 150 n s := by
  obtain ⟨g1, g2, g3, g4⟩ := h
  refine ⟨g2, fun z => by rw [z] at hp; exact Rat.lt_irrefl hp, ⟨g1.hb (by decide) (by decide), g3, fun p hp => (g4 p hp).hb (by decide) (by decide)⟩, fun z => ?_⟩
  have hk : cf s.2 k = 0 := by
    have f := (fst_flt s.2).mpr z
    unfold cf
    cases hh : s.2[k]? with
    | none => rfl
    | some p =>
      show p = 0
      have hm := List.mem_of_getElem? hh
      by_cases h0 : p = 0
      · exact h0
      · have : p ∈ s.2.filter fun p => !decide (p = 0) := List.mem_filter.mpr ⟨hm, by simp [h0]⟩
        rw [f] at this
        cases this
  rw [h1] at hk
  exact absurd hk (by decide +kernel)
theorem Stp.good {n k : Nat} : ∀ {ss : List Sq}, Stp n k ss → (∀ s ∈ ss, SqG n s) → ∀ s ∈ ss, GoodSq 150 n s
  | s :: ss, ⟨j, h1, h2, h3, h4, h5, h6⟩, hg, z, hz => by
    rcases List.mem_cons.mp hz with rfl | hz
    · exact (hg z (List.mem_cons_self ..)).good h5 h4
    · exact h6.good (fun y hy => hg y (List.mem_cons_of_mem _ hy)) z hz
theorem r_Lsquares {ss : List Sq} (h : ∀ s ∈ ss, hb k s.1 ∧ (∀ p ∈ s.2, hb k p) ∧ s.2.length ≤ 1000) (hk : k < 9000) (hl : ss.length ≤ 1000) : runF G_Lsquares 2 b_Lsquares [.lst (ss.map sqD)] S = some (.tup (ss.map enS), S) := by
  refine run_ret (tupx ?_)
  show evF _ _ [.dat (.lst (ss.map sqD)), .un] S = _
  refine comp_nm (g := sqD) rfl hl fun s hs => ?_
  obtain ⟨h1, h2, h3⟩ := h s hs
  show evX _ _ [.dat (.lst (ss.map sqD)), .dat (sqD s)] S = _
  have y1 := call1 (G := G_Lsquares) (j := 0) (L := [.dat (.lst (ss.map sqD)), .dat (sqD s)]) (e1 := .ix (.nm 1) (.lit (.int 0))) (x := T s.1) (S := S) rfl rfl rfl (ixT (i := 0) (ds := [T s.1, RT s.2]) rfl rfl rfl) (r_Lnumber h1 hk)
  have y2 := call1 (G := G_Lsquares) (j := 1) (L := [.dat (.lst (ss.map sqD)), .dat (sqD s)]) (e1 := .ix (.nm 1) (.lit (.int 1))) (x := RT s.2) (S := S) rfl rfl rfl (ixT (i := 1) (ds := [T s.1, RT s.2]) rfl rfl rfl) (r_Lline h2 hk h3)
  rw [evX_tup, evXs_cons, ixT (i := 0) (ds := [F s.1.1, F s.1.2]) y1 rfl rfl, bnd_some, evXs_cons, y2]
  rfl
end
end W

set_option Elab.async false
set_option linter.all false
set_option autoImplicit false
set_option maxRecDepth 100000
set_option maxHeartbeats 2000000
namespace W
open PySem PySem.Spec PyProof.Rows L2 PD
section
variable {G : Gam} {L : PD.Loc} {Bs S S0 S1 S2 S3 : Store} {i j k l m n nn N c K t : Nat} {p q u z : Cq} {w x : Rat} {ps qs cs ds ms : List Cq} {M M2 CS left fin : List (List Cq)} {X Y d : D} {a b : Xp} {ss : List Sq}
/-! ### things that may be squares -/
def Thing (n : Nat) (X : D) : Prop := isiV (.d X) "tuple" = some false ∨ ∃ es, X = .tup es ∧ (∀ e ∈ es, Elm 150 n e) ∧ es.length ≤ 8
theorem elmSq (hw : hb 150 (re w)) (hm : BdR 150 n ms) (hn : n ≤ 1000) : Elm 150 n (SqN (w, ms)) := by
  by_cases h : w = 0
  · subst h
    exact .inr (bad_zero hm.1 hn)
  · cases hf : fstO ms with
    | none =>
      have f := (fst_flt ms).mpr hf
      refine .inr (bad_void hm.1 hn fun p hp => ?_)
      by_cases h0 : p = 0
      · exact h0
      · have : p ∈ ms.filter fun p => !decide (p = 0) := List.mem_filter.mpr ⟨hp, by simp [h0]⟩
        rw [f] at this
        cases this
    | some v => exact .inl ⟨(re w, ms), rfl, rfl, h, ⟨hw, hm⟩, by rw [hf]; exact fun z => by cases z⟩
theorem T_int {v : Int} : T (q3 v 0 1) = .tup [.int v, .int 0, .int 1] := by
  unfold T
  rw [t3_of (by decide) (by simp)]
theorem r_Lother (h : Pl Bs N S nn) (hN : N ≤ 800000) : ∃ p S', runF G_Lother_than_nought 2 b_Lother_than_nought [.cell nn] S = some (T p, S') ∧ p ≠ 0 ∧ gq 1 15 p ∧ Pl Bs (N + 6) S' nn := by
  obtain ⟨p, S1, e1, g1, h1⟩ := r_Lsmall h (by omega)
  by_cases h0 : p = 0
  · obtain ⟨v, S2, e2, v0, v1, h2⟩ := r_Ldraw (m := 3) h1 (by omega) (by decide) (by decide)
    have isn : ∀ S, runF G_Lis_nought 1 b_Lis_nought [T p] S = some (.bl true, S) := fun S => by rw [r_Lis_nought, decide_eq_true h0]
    refine ⟨q3 (1 + v) 0 1, S2, ?_, fun z => ?_, gq_of (k := 3) (d := 1) (c := 2520) (by decide) (by unfold sz; omega) (by unfold sz; decide), h2⟩
    · rw [T_int, runF_eq]
      generalize T p = TP at *
      simp [b_Lother_than_nought, G_Lother_than_nought, e_Lsmall_1, e_Lis_nought_1, e_Ldraw_2, pick, e1, isn, e2]
    · have := congrArg T z
      rw [T_int, T_zero] at this
      injection this with this
      injection this with this _
      injection this with this
      omega
  · have isn : ∀ S, runF G_Lis_nought 1 b_Lis_nought [T p] S = some (.bl false, S) := fun S => by rw [r_Lis_nought, decide_eq_false h0]
    refine ⟨p, S1, ?_, h0, g1, h1.mono (by omega)⟩
    rw [runF_eq]
    generalize T p = TP at *
    simp [b_Lother_than_nought, G_Lother_than_nought, e_Lsmall_1, e_Lis_nought_1, e_Ldraw_2, pick, e1, isn]
theorem r_LpickL {xs : List D} (h : Pl Bs N S n) (hN : N ≤ 1000000) (h0 : 0 < xs.length) (h1 : xs.length < 1000) : ∃ x S', x ∈ xs ∧ runF G_Lpick 2 b_Lpick [.cell n, .lst xs] S = some (x, S') ∧ Pl Bs (N + 1) S' n := by
  obtain ⟨v, S', e, v0, v1, h'⟩ := r_Ldraw (m := (xs.length : Int)) h hN (by omega) (by omega)
  obtain ⟨x, hx, ex⟩ := atI_mem v0 v1
  refine ⟨x, S', hx, ?_, h'⟩
  rw [runF_eq]
  simp [b_Lpick, G_Lpick, e_Ldraw_2, pick, e, ex]
theorem cut_drop (xs : List D) (m : Nat) (h : m ≤ xs.length) : PD.cutD xs (some (m : Int)) none = xs.drop m := by
  unfold PD.cutD
  rw [HT.sIx_nat, HT.sIx_none, Nat.min_eq_left h, List.take_of_length_le (by simp)]
theorem eqOk_told (s : Sq) (ss : List Sq) : cmpV .eq (.d (.tup ((s :: ss).map enS))) (.d (.tup [])) = some false := by
  have h1 : ∀ s : Sq, D.pure (enS s) = true ∧ PyData.canLay0 (enS s).py = true ∧ PyData.depth (enS s).py ≤ 4 := fun s => by
    obtain ⟨a1, a2, a3⟩ := cmpok_Nm.tup.1 s.2
    have b1 : D.pure (F s.1.1) = true := rfl
    refine ⟨?_, ?_, ?_⟩
    · show (D.pure (F s.1.1) && (D.pure (RN s.2) && true)) = true
      rw [b1, show D.pure (RN s.2) = true from a1]; rfl
    · show (PyData.canLay0 (F s.1.1).py && (PyData.canLay0 (RN s.2).py && true)) = true
      rw [show PyData.canLay0 (RN s.2).py = true from a2]; rfl
    · show max (PyData.depth (F s.1.1).py) (max (PyData.depth (RN s.2).py) 0) + 1 ≤ 4
      have : PyData.depth (RN s.2).py ≤ 3 := a3
      have b2 : PyData.depth (F s.1.1).py ≤ 3 := Nat.le_of_ble_eq_true rfl
      omega
  have h2 : ∀ ss : List Sq, D.pures (ss.map enS) = true ∧ PyData.canLayAll0 (D.pys (ss.map enS)) = true ∧ PyData.depthAll (D.pys (ss.map enS)) ≤ 4 := fun ss => by
    induction ss with
    | nil => exact ⟨rfl, rfl, Nat.zero_le _⟩
    | cons x xs ih =>
      obtain ⟨h1, h2, h3⟩ := h1 x
      refine ⟨?_, ?_, ?_⟩
      · show (D.pure (enS x) && D.pures (xs.map enS)) = true
        rw [ih.1, h1]; rfl
      · show (PyData.canLay0 (D.py (enS x)) && PyData.canLayAll0 (D.pys (xs.map enS))) = true
        rw [ih.2.1, h2]; rfl
      · show max (PyData.depth (D.py (enS x))) (PyData.depthAll (D.pys (xs.map enS))) ≤ 4
        exact Nat.max_le.mpr ⟨h3, ih.2.2⟩
  obtain ⟨a1, a2, a3⟩ := h2 (s :: ss)
  have ok : eqOk (.tup ((s :: ss).map enS)) = true := by
    show (D.pures ((s :: ss).map enS) && (PyData.canLayAll0 (D.pys ((s :: ss).map enS)) && decide (PyData.depthAll (D.pys ((s :: ss).map enS)) + 1 ≤ 64))) = true
    rw [a1, a2, decide_eq_true (by omega)]; rfl
  rw [cmp_eq_of ok rfl fun s z => by cases z]
  rw [List.map_cons]
  simp [eqD, D.py, D.pys, PySem.PyData.eqv, PySem.PyData.eqvAll]
theorem addx {e f : Xp} {xs ys : List D} (h : evX G e L S = some (.d (.tup xs), S1)) (h2 : evX G f L S1 = some (.d (.tup ys), S2)) (hl : xs.length + ys.length ≤ 1000) : evX G (.bin .add e f) L S = some (.d (.tup (xs ++ ys)), S2) := by
  rw [evX_bin, h, bnd_some, h2, bnd_some]
  show lft ((if xs.length + ys.length ≤ line then some (D.tup (xs ++ ys)) else none).map Va.d) S2 = _
  rw [if_pos (Nat.le_of_lt (lt_line hl))]; rfl
theorem slc_take {e f : Xp} {xs : List D} (h : evX G e L S = some (.d (.tup xs), S1)) (h2 : evX G f L S1 = some (.d (.int (t : Nat)), S2)) (hl : t ≤ xs.length) : evX G (.slc e .none (.some f)) L S = some (.d (.tup (xs.take t)), S2) := by
  rw [evX_slc, h, bnd_some, evO_none, bnd_some, evO_some, h2, bnd_some]
  show lft (some (Va.d (.tup (PD.cutD xs none (some (t : Int)))))) S2 = _
  rw [cut_take _ _ hl]; rfl
theorem slc_drop {e f : Xp} {xs : List D} (h : evX G e L S = some (.d (.tup xs), S1)) (h2 : evX G f L S1 = some (.d (.int (t : Nat)), S2)) (hl : t ≤ xs.length) : evX G (.slc e (.some f) .none) L S = some (.d (.tup (xs.drop t)), S2) := by
  rw [evX_slc, h, bnd_some, evO_some, h2, bnd_some]
  show lft (some (Va.d (.tup (PD.cutD xs (some (t : Int)) none)))) S2 = _
  rw [cut_drop _ _ hl]; rfl
theorem slc_takeL {e f : Xp} {xs : List D} (h : evX G e L S = some (.d (.lst xs), S1)) (h2 : evX G f L S1 = some (.d (.int (t : Nat)), S2)) (hl : t ≤ xs.length) : evX G (.slc e .none (.some f)) L S = some (.d (.lst (xs.take t)), S2) := by
  rw [evX_slc, h, bnd_some, evO_none, bnd_some, evO_some, h2, bnd_some]
  show lft (some (Va.d (.lst (PD.cutD xs none (some (t : Int)))))) S2 = _
  rw [cut_take _ _ hl]; rfl
theorem succx {e : Xp} (h : evX G e L S = some (.d (.int (t : Nat)), S1)) : evX G (.bin .add e (.lit (.int 1))) L S = some (.d (.int ((t + 1 : Nat) : Int)), S1) := by
  rw [evX_bin, h, bnd_some]
  rfl
/-! ### changed ones -/
theorem ch_ret {v0 v2 v4 v5 v6 v7 v8 v10 v11 : Lv} {sm : List D} (hg : ∀ s ∈ ss, Elm 150 n (enS s)) (ht : t < ss.length) (hl : ss.length ≤ 6) (hs : ∀ e ∈ sm, Elm 150 n e) (hl2 : sm.length ≤ 2) : ∃ X, evX G_Lchanged (.bin .add (.bin .add (.slc (.nm 1) .none (.some (.nm 3))) (.nm 9)) (.slc (.nm 1) (.some (.bin .add (.nm 3) (.lit (.int 1)))) .none)) [v0, .dat (.tup (ss.map enS)), v2, .dat (.int (t : Nat)), v4, v5, v6, v7, v8, .dat (.tup sm), v10, v11] S = some (.d X, S) ∧ Thing n X := by
  have hl' : (ss.map enS).length ≤ 6 := by rw [List.length_map]; exact hl
  have ht' : t < (ss.map enS).length := by rw [List.length_map]; exact ht
  refine ⟨.tup ((ss.map enS).take t ++ sm ++ (ss.map enS).drop (t + 1)), ?_, .inr ⟨_, rfl, fun e he => ?_, ?_⟩⟩
  · exact addx (addx (slc_take rfl rfl (by omega)) rfl (by simp; omega)) (slc_drop rfl (succx rfl) (by omega)) (by simp; omega)
  · have hm : ∀ e ∈ ss.map enS, Elm 150 n e := fun e he => by
      obtain ⟨s, hs', rfl⟩ := List.mem_map.mp he
      exact hg s hs'
    rcases List.mem_append.mp he with he | he
    · rcases List.mem_append.mp he with he | he
      · exact hm e (List.mem_of_mem_take he)
      · exact hs e he
    · exact hm e (List.mem_of_mem_drop he)
  · simp only [List.length_append, List.length_take, List.length_drop]
    omega
theorem r_Lchanged (h : Pl Bs N S nn) (hn : n ≤ 6) (hg : ∀ s ∈ ss, SqG n s ∧ GoodSq 150 n s) (hl : ss.length ≤ 6) (hN : N ≤ 700000) : ∃ X S', runF G_Lchanged 12 b_Lchanged [.cell nn, .tup (ss.map enS), .int (n : Nat)] S = some (X, S') ∧ Thing n X ∧ Pl Bs (N + 40) S' nn := by
  cases hss : ss with
  | nil =>
    refine ⟨.non, S, ?_, .inl it_non, h.mono (by omega)⟩
    refine run_en ?_
    have cond : evX G_Lchanged (.cmp .eq (.nm 1) (.tup .nil)) [.dat (.cell nn), .dat (.tup []), .dat (.int (n : Nat)), .un, .un, .un, .un, .un, .un, .un, .un, .un] S = some (.d (.bl true), S) := rfl
    have hb : b_Lchanged = .cons (.ife (.cmp .eq (.nm 1) (.tup .nil)) (.cons (.ret (.lit (.non))) .nil) .nil) (.cons (b_Lchanged.nth 1) (.cons (b_Lchanged.nth 2) (.cons (b_Lchanged.nth 3) (.cons (b_Lchanged.nth 4) (.cons (b_Lchanged.nth 5) (.cons (b_Lchanged.nth 6) .nil)))))) := rfl
    rw [hb]
    exact en_ret (L2 := [.dat (.cell nn), .dat (.tup []), .dat (.int (n : Nat)), .un, .un, .un, .un, .un, .un, .un, .un, .un]) (Eq.trans (ifx cond) rfl)
  | cons s0 ss0 =>
    rw [← hss]
    have hpos : 0 < ss.length := by rw [hss]; simp
    obtain ⟨v, S1, e1, v0, v1, h1⟩ := r_Ldraw (m := ((ss.map enS).length : Int)) h (by omega) (by rw [List.length_map]; omega) (by rw [List.length_map]; omega)
    obtain ⟨t, rfl⟩ : ∃ t : Nat, v = (t : Nat) := ⟨v.toNat, by omega⟩
    rw [List.length_map] at v1
    have ht : t < ss.length := by omega
    obtain ⟨x, S2, e2, x0, gx, h2⟩ := r_Lother h1 (by omega)
    obtain ⟨way, S3, e3, w0, w1, h3⟩ := r_Ldraw (m := 6) h2 (by omega) (by decide) (by decide)
    obtain ⟨s, hs⟩ : ∃ s, ss[t]? = some s := ⟨ss[t], List.getElem?_eq_getElem ht⟩
    have hmem : s ∈ ss := List.mem_of_getElem? hs
    obtain ⟨⟨g1, g2, g3, g4⟩, gd⟩ := hg s hmem
    have he : (ss.map enS)[t]? = some (enS s) := by rw [List.getElem?_map, hs]; rfl
    have hel : ∀ s ∈ ss, Elm 150 n (enS s) := fun z hz => .inl ⟨z, rfl, (hg z hz).2⟩
    have hm15 : ∀ p ∈ s.2, hb 15 p := fun p hp => (g4 p hp).hb (by decide) (by decide)
    have hw15 : hb 15 s.1 := g1.hb (by decide) (by decide)
    have hx15 : hb 15 x := gx.hb (by decide) (by decide)
    have r0 : ∀ {L : PD.Loc} {S : Store}, L[1]? = some (.dat (.tup (ss.map enS))) → L[3]? = some (.dat (.int (t : Nat))) → evX G_Lchanged (.ix (.ix (.nm 1) (.nm 3)) (.lit (.int 0))) L S = some (.d (F s.1.1), S) := fun a1 a3 => ixT (i := 0) (ds := [F s.1.1, RN s.2]) (ixT (nmx a1) (nmx a3) he) rfl rfl
    have r1 : ∀ {L : PD.Loc} {S : Store}, L[1]? = some (.dat (.tup (ss.map enS))) → L[3]? = some (.dat (.int (t : Nat))) → evX G_Lchanged (.ix (.ix (.nm 1) (.nm 3)) (.lit (.int 1))) L S = some (.d (RN s.2), S) := fun a1 a3 => ixT (i := 1) (ds := [F s.1.1, RN s.2]) (ixT (nmx a1) (nmx a3) he) rfl rfl
    -- half of it
    have re2 : T (re 2) = .tup [.int 2, .int 0, .int 1] := by unfold T; rw [t3_re]; rfl
    have hb2 : hb 3 (re 2) := hb_real (k := 2) ⟨by unfold sz; decide +kernel, by unfold sz; decide +kernel⟩
    have ne2 : (re 2 : Cq) ≠ 0 := fun z => absurd (congrArg Prod.fst z) (by decide +kernel)
    have ov2 := r_Lover (S := S2) hw15 hb2 ne2 (by decide)
    have hh : hb 22 (s.1 / re 2) := (hw15.div' hb2 ne2).mono (by decide)
    have nb2 := r_Lnumber (S := S2) hh (by decide)
    have hre : ∀ {k : Nat} {p : Cq}, hb k p → hb (k + 1) (re p.1) := fun h => hb_real h.szn.1
    have half : Elm 150 n (SqN ((s.1 / re 2).1, s.2)) := elmSq ((hre hh).mono (by decide)) ⟨g3, fun p hp => (hm15 p hp).mono (by decide)⟩ (by omega)
    have c5 : evF G_Lchanged (.comp (.call 3 (.cons (.nm 11) .nil) .nil) (.nm 11) (.seq (.ix (.ix (.nm 1) (.nm 3)) (.lit (.int 1)))) .none [11]) [.dat (.cell nn), .dat (.tup (ss.map enS)), .dat (.int (n : Nat)), .dat (.int (t : Nat)), .dat (T x), .un, .un, .un, .un, .un, .un, .un] S2 = some (s.2.map T, S2) :=
      comp_nm (g := Nm) (by rw [evW_seq, r1 rfl rfl]; rfl) (by omega) fun p hp => call1 (x := Nm p) rfl rfl rfl rfl (r_Lread (hm15 p hp) (by decide))
    have cond : evX G_Lchanged (.cmp .eq (.nm 1) (.tup .nil)) [.dat (.cell nn), .dat (.tup (ss.map enS)), .dat (.int (n : Nat)), .un, .un, .un, .un, .un, .un, .un, .un, .un] S = some (.d (.bl false), S) := by
      rw [evX_cmp, nmx (d := .tup (ss.map enS)) rfl, bnd_some]
      show lft ((cmpV .eq (.d (.tup (ss.map enS))) (.d (.tup []))).map _) S = _
      rw [hss, eqOk_told]; rfl
    have st1 : evS G_Lchanged (.asg (.tup (.cons (.nm 3) (.cons (.nm 4) .nil))) (.tup (.cons (.call 0 (.cons (.nm 0) (.cons (.bi .len (.cons (.nm 1) .nil)) .nil)) .nil) (.cons (.call 1 (.cons (.nm 0) .nil) .nil) .nil)))) [.dat (.cell nn), .dat (.tup (ss.map enS)), .dat (.int (n : Nat)), .un, .un, .un, .un, .un, .un, .un, .un, .un] S = some ((.nx, [.dat (.cell nn), .dat (.tup (ss.map enS)), .dat (.int (n : Nat)), .dat (.int (t : Nat)), .dat (T x), .un, .un, .un, .un, .un, .un, .un]), S2) := by
      rw [evS_asg, evX_tup, evXs_cons, call2 (G := G_Lchanged) (j := 0) (e1 := .nm 0) (x := .cell nn) rfl rfl rfl rfl (lenT (ds := ss.map enS) rfl) e1, bnd_some, evXs_cons, call1 (G := G_Lchanged) (j := 1) (e1 := .nm 0) (x := .cell nn) rfl rfl rfl rfl e2]
      rfl
    have y7 : evX G_Lchanged (.tup (.cons (.ix (.call 4 (.cons (.call 5 (.cons (.nm 5) (.cons (.tup (.cons (.lit (.int 2)) (.cons (.lit (.int 0)) (.cons (.lit (.int 1)) .nil)))) .nil)) .nil) .nil) .nil) (.lit (.int 0))) (.cons (.ix (.ix (.nm 1) (.nm 3)) (.lit (.int 1))) .nil))) [.dat (.cell nn), .dat (.tup (ss.map enS)), .dat (.int (n : Nat)), .dat (.int (t : Nat)), .dat (T x), .dat (T s.1), .dat (RT s.2), .un, .un, .un, .un, .un] S2 = some (.d (SqN ((s.1 / re 2).1, s.2)), S2) := by
      rw [re2] at ov2
      have z := call1 (G := G_Lchanged) (j := 4) (x := T (s.1 / re 2)) rfl rfl rfl (call2 (G := G_Lchanged) (j := 5) (L := [.dat (.cell nn), .dat (.tup (ss.map enS)), .dat (.int (n : Nat)), .dat (.int (t : Nat)), .dat (T x), .dat (T s.1), .dat (RT s.2), .un, .un, .un, .un, .un]) (e1 := .nm 5) (e2 := .tup (.cons (.lit (.int 2)) (.cons (.lit (.int 0)) (.cons (.lit (.int 1)) .nil)))) (x := T s.1) rfl rfl rfl rfl rfl ov2) nb2
      rw [evX_tup, evXs_cons, ixT (i := 0) (ds := [F (s.1 / re 2).1, F (s.1 / re 2).2]) z rfl rfl, bnd_some, evXs_cons, r1 rfl rfl]
      rfl
    have cq : ∀ (c : Int) (S : Store) (L : PD.Loc), L[8]? = some (.dat (.int way)) → evX G_Lchanged (.cmp .eq (.nm 8) (.lit (.int c))) L S = some (.d (.bl (decide (way = c))), S) := fun c S L hL => by
      rw [evX_cmp, nmx hL, bnd_some, evX_lit, bnd_some, cmpV_eqI]; rfl
    have lfull : ∃ (sm : List D) (v10 v11 : Lv) (S4 : Store), evS G_Lchanged (b_Lchanged.nth 5) [.dat (.cell nn), .dat (.tup (ss.map enS)), .dat (.int (n : Nat)), .dat (.int (t : Nat)), .dat (T x), .dat (T s.1), .dat (RT s.2), .dat (SqN ((s.1 / re 2).1, s.2)), .dat (.int way), .dat (.tup []), .un, .un] S3 = some ((.nx, [.dat (.cell nn), .dat (.tup (ss.map enS)), .dat (.int (n : Nat)), .dat (.int (t : Nat)), .dat (T x), .dat (T s.1), .dat (RT s.2), .dat (SqN ((s.1 / re 2).1, s.2)), .dat (.int way), .dat (.tup sm), v10, v11]), S4) ∧ (∀ e ∈ sm, Elm 150 n e) ∧ sm.length ≤ 2 ∧ Pl Bs (N + 1 + 6 + 1 + 12) S4 nn := by
      have hB5 : b_Lchanged.nth 5 = .ife (.cmp .eq (.nm 8) (.lit (.int 1))) (.cons (.asg (.nm 9) (.tup (.cons (.tup (.cons (.ix (.call 4 (.cons (.call 5 (.cons (.nm 5) (.cons (.call 6 (.cons (.nm 4) .nil) .nil) .nil)) .nil) .nil) .nil) (.lit (.int 0))) (.cons (.call 7 (.cons (.fr (.comp (.call 8 (.cons (.nm 4) (.cons (.nm 11) .nil)) .nil) (.nm 11) (.seq (.nm 6)) .none [11])) .nil) .nil) .nil))) .nil))) .nil) (.cons (.ife (.cmp .eq (.nm 8) (.lit (.int 2))) (.cons (.asg (.nm 9) (.tup (.cons (.nm 7) (.cons (.nm 7) .nil)))) .nil) (.cons (.ife (.cmp .eq (.nm 8) (.lit (.int 3))) (.cons (.asg (.nm 9) (.tup (.cons (.tup (.cons (.ix (.call 4 (.cons (.call 9 (.cons (.nm 5) (.cons (.call 10 (.cons (.nm 0) .nil) .nil) .nil)) .nil) .nil) .nil) (.lit (.int 0))) (.cons (.ix (.ix (.nm 1) (.nm 3)) (.lit (.int 1))) .nil))) .nil))) .nil) (.cons (.ife (.cmp .eq (.nm 8) (.lit (.int 4))) (.cons (.asg (.nm 10) (.call 0 (.cons (.nm 0) (.cons (.nm 2) .nil)) .nil)) (.cons (.asg (.nm 9) (.tup (.cons (.tup (.cons (.ix (.ix (.nm 1) (.nm 3)) (.lit (.int 0))) (.cons (.bin .add (.bin .add (.slc (.ix (.ix (.nm 1) (.nm 3)) (.lit (.int 1))) .none (.some (.nm 10))) (.tup (.cons (.call 4 (.cons (.call 11 (.cons (.nm 0) .nil) .nil) .nil) .nil) .nil))) (.slc (.ix (.ix (.nm 1) (.nm 3)) (.lit (.int 1))) (.some (.bin .add (.nm 10) (.lit (.int 1)))) .none)) .nil))) .nil))) .nil)) (.cons (.ife (.cmp .eq (.nm 8) (.lit (.int 5))) (.cons (.asg (.nm 9) (.tup (.cons (.tup (.cons (.ix (.ix (.nm 1) (.nm 3)) (.lit (.int 0))) (.cons (.fr (.list (.ix (.ix (.nm 1) (.nm 3)) (.lit (.int 1))))) .nil))) .nil))) .nil) .nil) .nil)) .nil)) .nil)) .nil) := rfl
      rw [hB5]
      have yes : ∀ {c : Int}, way = c → evX G_Lchanged (.cmp .eq (.nm 8) (.lit (.int c))) [.dat (.cell nn), .dat (.tup (ss.map enS)), .dat (.int (n : Nat)), .dat (.int (t : Nat)), .dat (T x), .dat (T s.1), .dat (RT s.2), .dat (SqN ((s.1 / re 2).1, s.2)), .dat (.int way), .dat (.tup []), .un, .un] S3 = some (.d (.bl true), S3) := fun hc => by rw [cq _ _ _ rfl, decide_eq_true hc]
      have no : ∀ {c : Int}, way ≠ c → evX G_Lchanged (.cmp .eq (.nm 8) (.lit (.int c))) [.dat (.cell nn), .dat (.tup (ss.map enS)), .dat (.int (n : Nat)), .dat (.int (t : Nat)), .dat (T x), .dat (T s.1), .dat (RT s.2), .dat (SqN ((s.1 / re 2).1, s.2)), .dat (.int way), .dat (.tup []), .un, .un] S3 = some (.d (.bl false), S3) := fun hc => by rw [cq _ _ _ rfl, decide_eq_false hc]
      have m15 : BdR 150 n s.2 := ⟨g3, fun p hp => (hm15 p hp).mono (by decide)⟩
      by_cases c1 : way = 1
      · have sz0 : (re (sizN x) : Cq) ≠ 0 := re_ne (sizN_ne x0)
        have hsz : hb 32 (re (sizN x)) := hb_real hx15.siz
        have y1 := r_Lsize (S := S3) hx15 (by decide)
        have y2 := r_Lover (S := S3) hw15 hsz sz0 (by decide)
        have hq : hb 80 (s.1 / re (sizN x)) := (hw15.div' hsz sz0).mono (by decide)
        have y3 := r_Lnumber (S := S3) hq (by decide)
        have cm : evF G_Lchanged (.comp (.call 8 (.cons (.nm 4) (.cons (.nm 11) .nil)) .nil) (.nm 11) (.seq (.nm 6)) .none [11]) [.dat (.cell nn), .dat (.tup (ss.map enS)), .dat (.int (n : Nat)), .dat (.int (t : Nat)), .dat (T x), .dat (T s.1), .dat (RT s.2), .dat (SqN ((s.1 / re 2).1, s.2)), .dat (.int way), .dat (.tup []), .un, .un] S3 = some ((s.2.map (x * ·)).map T, S3) := by
          rw [List.map_map]
          exact comp_nm (g := T) rfl (by omega) fun p hp => call2 (x := T x) (y := T p) rfl rfl rfl rfl rfl (r_Ltimes hx15 (hm15 p hp) (by decide))
        have mh : ∀ p ∈ s.2.map (x * ·), hb 31 p := fun p hp => by
          obtain ⟨z, hz, rfl⟩ := List.mem_map.mp hp
          exact hx15.mul' (hm15 z hz)
        have y4 := r_Lline (S := S3) mh (by decide) (by rw [List.length_map]; omega)
        have z1 := call1 (G := G_Lchanged) (j := 4) (x := T (s.1 / re (sizN x))) rfl rfl rfl (call2 (G := G_Lchanged) (j := 5) (L := [.dat (.cell nn), .dat (.tup (ss.map enS)), .dat (.int (n : Nat)), .dat (.int (t : Nat)), .dat (T x), .dat (T s.1), .dat (RT s.2), .dat (SqN ((s.1 / re 2).1, s.2)), .dat (.int way), .dat (.tup []), .un, .un]) (e1 := .nm 5) (x := T s.1) rfl rfl rfl rfl (call1 (G := G_Lchanged) (j := 6) (e1 := .nm 4) (x := T x) rfl rfl rfl rfl y1) y2) y3
        have z2 := call1 (G := G_Lchanged) (j := 7) (L := [.dat (.cell nn), .dat (.tup (ss.map enS)), .dat (.int (n : Nat)), .dat (.int (t : Nat)), .dat (T x), .dat (T s.1), .dat (RT s.2), .dat (SqN ((s.1 / re 2).1, s.2)), .dat (.int way), .dat (.tup []), .un, .un]) (x := RT (s.2.map (x * ·))) rfl rfl rfl (frx cm) y4
        refine ⟨[SqN ((s.1 / re (sizN x)).1, s.2.map (x * ·))], .un, .un, S3, ?_, fun e he => ?_, by simp, h3.mono (by omega)⟩
        · refine Eq.trans (ifx (yes c1)) (st_nx (asgx (d := .tup [SqN ((s.1 / re (sizN x)).1, s.2.map (x * ·))]) ?_) rfl)
          rw [evX_tup, evXs_cons, evX_tup, evXs_cons, ixT (i := 0) (ds := [F (s.1 / re (sizN x)).1, F (s.1 / re (sizN x)).2]) z1 rfl rfl, bnd_some, evXs_cons, z2]
          rfl
        · rw [List.mem_singleton.mp he]
          exact elmSq ((hre hq).mono (by decide)) ⟨by rw [List.length_map]; exact g3, fun p hp => (mh p hp).mono (by decide)⟩ (by omega)
      by_cases c2 : way = 2
      · refine ⟨[SqN ((s.1 / re 2).1, s.2), SqN ((s.1 / re 2).1, s.2)], .un, .un, S3, Eq.trans (ifn (no c1)) (st_nx (Eq.trans (ifx (yes c2)) rfl) rfl), fun e he => ?_, by simp, h3.mono (by omega)⟩
        simp only [List.mem_cons, List.not_mem_nil, or_false, or_self] at he
        rw [he]; exact half
      by_cases c3 : way = 3
      · obtain ⟨p, S4, e4, ⟨cp, gp, rp, pp⟩, h4⟩ := r_Lpositive h3 (by omega)
        have hp15 : hb 15 p := gp.hb (by decide) (by decide)
        have y2 := r_Lplus (S := S4) hw15 hp15 (by decide)
        have y3 := r_Lnumber (S := S4) (hw15.add' hp15) (by decide)
        have z1 := call1 (G := G_Lchanged) (j := 4) (x := T (s.1 + p)) rfl rfl rfl (call2 (G := G_Lchanged) (j := 9) (L := [.dat (.cell nn), .dat (.tup (ss.map enS)), .dat (.int (n : Nat)), .dat (.int (t : Nat)), .dat (T x), .dat (T s.1), .dat (RT s.2), .dat (SqN ((s.1 / re 2).1, s.2)), .dat (.int way), .dat (.tup []), .un, .un]) (e1 := .nm 5) (S := S3) (x := T s.1) rfl rfl rfl rfl (call1 (G := G_Lchanged) (j := 10) (e1 := .nm 0) (x := .cell nn) rfl rfl rfl rfl e4) y2) y3
        refine ⟨[SqN ((s.1 + p).1, s.2)], .un, .un, S4, Eq.trans (ifn (no c1)) (st_nx (Eq.trans (ifn (no c2)) (st_nx (Eq.trans (ifx (yes c3)) (st_nx (asgx (d := .tup [SqN ((s.1 + p).1, s.2)]) ?_) rfl)) rfl)) rfl), fun e he => ?_, by simp, h4.mono (by omega)⟩
        · rw [evX_tup, evXs_cons, evX_tup, evXs_cons, ixT (i := 0) (ds := [F (s.1 + p).1, F (s.1 + p).2]) z1 rfl rfl, bnd_some, evXs_cons, r1 rfl rfl]
          rfl
        · rw [List.mem_singleton.mp he]
          exact elmSq ((hre (hw15.add' hp15)).mono (by decide)) m15 (by omega)
      by_cases c4 : way = 4
      · have n0 : 0 < n := by
          rcases Nat.eq_zero_or_pos n with hz | hz
          · have : s.2 = [] := List.eq_nil_of_length_eq_zero (by rw [g3, hz])
            have f := gd.2.2.2
            rw [this] at f
            exact absurd rfl f
          · exact hz
        obtain ⟨jv, S4, e4, j0, j1, h4⟩ := r_Ldraw (m := (n : Int)) h3 (by omega) (by omega) (by omega)
        obtain ⟨j, rfl⟩ : ∃ j : Nat, jv = (j : Nat) := ⟨jv.toNat, by omega⟩
        obtain ⟨z, S5, e5, gz, h5⟩ := r_Lsmall h4 (by omega)
        have hz15 : hb 15 z := gz.hb (by decide) (by decide)
        have y3 := r_Lnumber (S := S5) hz15 (by decide)
        have lm : (s.2.map Nm).length = n := by rw [List.length_map, g3]
        have zz := call1 (G := G_Lchanged) (j := 4) (x := T z) rfl rfl rfl (call1 (G := G_Lchanged) (j := 11) (L := [.dat (.cell nn), .dat (.tup (ss.map enS)), .dat (.int (n : Nat)), .dat (.int (t : Nat)), .dat (T x), .dat (T s.1), .dat (RT s.2), .dat (SqN ((s.1 / re 2).1, s.2)), .dat (.int way), .dat (.tup []), .dat (.int (j : Nat)), .un]) (S := S4) (e1 := .nm 0) (x := .cell nn) rfl rfl rfl rfl e5) y3
        have zt : evX G_Lchanged (.tup (.cons (.call 4 (.cons (.call 11 (.cons (.nm 0) .nil) .nil) .nil) .nil) .nil)) [.dat (.cell nn), .dat (.tup (ss.map enS)), .dat (.int (n : Nat)), .dat (.int (t : Nat)), .dat (T x), .dat (T s.1), .dat (RT s.2), .dat (SqN ((s.1 / re 2).1, s.2)), .dat (.int way), .dat (.tup []), .dat (.int (j : Nat)), .un] S4 = some (.d (.tup [Nm z]), S5) := by
          rw [evX_tup, evXs_cons, zz]; rfl
        have za := addx (addx (slc_take (e := .ix (.ix (.nm 1) (.nm 3)) (.lit (.int 1))) (f := .nm 10) (t := j) (xs := s.2.map Nm) (G := G_Lchanged) (L := [.dat (.cell nn), .dat (.tup (ss.map enS)), .dat (.int (n : Nat)), .dat (.int (t : Nat)), .dat (T x), .dat (T s.1), .dat (RT s.2), .dat (SqN ((s.1 / re 2).1, s.2)), .dat (.int way), .dat (.tup []), .dat (.int (j : Nat)), .un]) (S := S4) (r1 rfl rfl) rfl (by omega)) zt (by simp; omega)) (slc_drop (e := .ix (.ix (.nm 1) (.nm 3)) (.lit (.int 1))) (f := .bin .add (.nm 10) (.lit (.int 1))) (t := j + 1) (xs := s.2.map Nm) (r1 rfl rfl) (succx rfl) (by omega)) (by simp; omega)
        have em : (s.2.map Nm).take j ++ [Nm z] ++ (s.2.map Nm).drop (j + 1) = (s.2.take j ++ [z] ++ s.2.drop (j + 1)).map Nm := by
          rw [List.map_append, List.map_append, List.map_take, List.map_drop]; rfl
        rw [em] at za
        refine ⟨[SqN (s.1.1, s.2.take j ++ [z] ++ s.2.drop (j + 1))], .dat (.int (j : Nat)), .un, S5, Eq.trans (ifn (no c1)) (st_nx (Eq.trans (ifn (no c2)) (st_nx (Eq.trans (ifn (no c3)) (st_nx (Eq.trans (ifx (yes c4)) (st_nx (asgx (call2 (x := .cell nn) (y := .int (n : Nat)) rfl rfl rfl rfl rfl e4)) (st_nx (asgx (d := .tup [SqN (s.1.1, s.2.take j ++ [z] ++ s.2.drop (j + 1))]) ?_) rfl))) rfl)) rfl)) rfl), fun e he => ?_, by simp, h5.mono (by omega)⟩
        · rw [evX_tup, evXs_cons, evX_tup, evXs_cons, r0 rfl rfl, bnd_some, evXs_cons]
          show bnd (bnd (bnd (bnd (bnd (evX G_Lchanged _ [.dat (.cell nn), .dat (.tup (ss.map enS)), .dat (.int (n : Nat)), .dat (.int (t : Nat)), .dat (T x), .dat (T s.1), .dat (RT s.2), .dat (SqN ((s.1 / re 2).1, s.2)), .dat (.int way), .dat (.tup []), .dat (.int (j : Nat)), .un] S4) _) _) _) _) _ = _
          rw [za]; rfl
        · rw [List.mem_singleton.mp he]
          refine elmSq ((hre hw15).mono (by decide)) ⟨by simp only [List.length_append, List.length_take, List.length_drop, List.length_cons, List.length_nil]; omega, fun p hp => ?_⟩ (by omega)
          rcases List.mem_append.mp hp with hp | hp
          · rcases List.mem_append.mp hp with hp | hp
            · exact (hm15 p (List.mem_of_mem_take hp)).mono (by decide)
            · rw [List.mem_singleton.mp hp]; exact hz15.mono (by decide)
          · exact (hm15 p (List.mem_of_mem_drop hp)).mono (by decide)
      by_cases c5' : way = 5
      · refine ⟨[.tup [F s.1.1, .lst (s.2.map Nm)]], .un, .un, S3, Eq.trans (ifn (no c1)) (st_nx (Eq.trans (ifn (no c2)) (st_nx (Eq.trans (ifn (no c3)) (st_nx (Eq.trans (ifn (no c4)) (st_nx (Eq.trans (ifx (yes c5')) (st_nx (asgx (d := .tup [.tup [F s.1.1, .lst (s.2.map Nm)]]) ?_) rfl)) rfl)) rfl)) rfl)) rfl), fun e he => ?_, by simp, h3.mono (by omega)⟩
        · rw [evX_tup, evXs_cons, evX_tup, evXs_cons, r0 rfl rfl, bnd_some, evXs_cons, evX_fr, evF_list, r1 rfl rfl]
          rfl
        · rw [List.mem_singleton.mp he]
          exact .inr bad_list
      · exact ⟨[], .un, .un, S3, Eq.trans (ifn (no c1)) (st_nx (Eq.trans (ifn (no c2)) (st_nx (Eq.trans (ifn (no c3)) (st_nx (Eq.trans (ifn (no c4)) (st_nx (Eq.trans (ifn (no c5')) rfl) rfl)) rfl)) rfl)) rfl), (fun e he => by cases he), by simp, h3.mono (by omega)⟩
    obtain ⟨sm, v10, v11, S4, e6, hsm, lsm, h4⟩ := lfull
    obtain ⟨X, eX, hX⟩ := ch_ret (S := S4) (v0 := .dat (.cell nn)) (v2 := .dat (.int (n : Nat))) (v4 := .dat (T x)) (v5 := .dat (T s.1)) (v6 := .dat (RT s.2)) (v7 := .dat (SqN ((s.1 / re 2).1, s.2))) (v8 := .dat (.int way)) (v10 := v10) (v11 := v11) hel ht hl hsm lsm
    refine ⟨X, S4, ?_, hX, h4.mono (by omega)⟩
    refine run_en ?_
    have hb : b_Lchanged = .cons (.ife (.cmp .eq (.nm 1) (.tup .nil)) (.cons (.ret (.lit (.non))) .nil) .nil) (.cons (.asg (.tup (.cons (.nm 3) (.cons (.nm 4) .nil))) (.tup (.cons (.call 0 (.cons (.nm 0) (.cons (.bi .len (.cons (.nm 1) .nil)) .nil)) .nil) (.cons (.call 1 (.cons (.nm 0) .nil) .nil) .nil)))) (.cons (.par [5, 6] (.cons (.call 2 (.cons (.ix (.ix (.nm 1) (.nm 3)) (.lit (.int 0))) .nil) .nil) (.cons (.fr (.comp (.call 3 (.cons (.nm 11) .nil) .nil) (.nm 11) (.seq (.ix (.ix (.nm 1) (.nm 3)) (.lit (.int 1)))) .none [11])) .nil))) (.cons (.par [7, 8] (.cons (.tup (.cons (.ix (.call 4 (.cons (.call 5 (.cons (.nm 5) (.cons (.tup (.cons (.lit (.int 2)) (.cons (.lit (.int 0)) (.cons (.lit (.int 1)) .nil)))) .nil)) .nil) .nil) .nil) (.lit (.int 0))) (.cons (.ix (.ix (.nm 1) (.nm 3)) (.lit (.int 1))) .nil))) (.cons (.call 0 (.cons (.nm 0) (.cons (.lit (.int 6)) .nil)) .nil) .nil))) (.cons (.asg (.nm 9) (.tup .nil)) (.cons (b_Lchanged.nth 5) (.cons (.ret (.bin .add (.bin .add (.slc (.nm 1) .none (.some (.nm 3))) (.nm 9)) (.slc (.nm 1) (.some (.bin .add (.nm 3) (.lit (.int 1)))) .none))) .nil)))))) := rfl
    rw [hb]
    refine en_nx (Eq.trans (ifn cond) rfl) (en_nx st1 ?_)
    have lr := r_Lreal (x := s.1.1) (S := S2)
    rw [← g2] at lr
    refine en_nx (parx2 (call1 (x := F s.1.1) rfl rfl rfl (r0 rfl rfl) lr) (frx c5)) ?_
    refine en_nx (parx2 y7 (call2 (x := .cell nn) rfl rfl rfl rfl rfl e3)) ?_
    refine en_nx (L2 := [.dat (.cell nn), .dat (.tup (ss.map enS)), .dat (.int (n : Nat)), .dat (.int (t : Nat)), .dat (T x), .dat (T s.1), .dat (RT s.2), .dat (SqN ((s.1 / re 2).1, s.2)), .dat (.int way), .dat (.tup []), .un, .un]) (S2 := S3) rfl ?_
    exact en_nx e6 (en_ret (retx eX))
end
end W

set_option Elab.async false
set_option linter.all false
set_option autoImplicit false
set_option maxRecDepth 100000
set_option maxHeartbeats 2000000
namespace W
open PySem PySem.Spec PyProof.Rows L2 PD
section
variable {G : Gam} {L : PD.Loc} {Bs S S0 S1 S2 S3 : Store} {i j k l m n N c K nn : Nat} {p q u w z : Cq} {x : Rat} {ps qs cs ds ms : List Cq} {M M2 CS : List (List Cq)} {X Y d : D} {v0 v1 v2 v3 v4 v5 v6 v7 v8 v9 v10 v11 v12 v13 : Lv} {a b : Xp}
/-! ### what may be shown -/
def shw (c dep : Nat) (d : D) : Prop := d.okSh ∧ d.py.depth ≤ dep ∧ d.cnt ≤ c
theorem shw_all {dep : Nat} : ∀ (xs : List D), (∀ x ∈ xs, shw c dep x) → D.okShs xs ∧ PyData.depthAll (D.pys xs) ≤ dep ∧ D.cnts xs ≤ xs.length * c
  | [], _ => ⟨trivial, Nat.zero_le _, Nat.zero_le _⟩
  | x :: xs, h => by
    obtain ⟨h1, h2, h3⟩ := h x (List.mem_cons_self ..)
    obtain ⟨g1, g2, g3⟩ := shw_all xs fun z hz => h z (List.mem_cons_of_mem _ hz)
    refine ⟨⟨h1, g1⟩, ?_, ?_⟩
    · show max (PyData.depth (D.py x)) (PyData.depthAll (D.pys xs)) ≤ dep
      exact Nat.max_le.mpr ⟨h2, g2⟩
    · show x.cnt + D.cnts xs ≤ (xs.length + 1) * c
      rw [Nat.add_mul]; omega
theorem shw_tup {dep m : Nat} {xs : List D} (h : ∀ x ∈ xs, shw c dep x) (hl : xs.length ≤ m) : shw (m * c + 1) (dep + 1) (.tup xs) := by
  obtain ⟨h1, h2, h3⟩ := shw_all xs h
  have := Nat.mul_le_mul_right c hl
  exact ⟨h1, by show PyData.depthAll (D.pys xs) + 1 ≤ dep + 1; omega, by show D.cnts xs + 1 ≤ m * c + 1; omega⟩
theorem shw_lst {dep m : Nat} {xs : List D} (h : ∀ x ∈ xs, shw c dep x) (hl : xs.length ≤ m) : shw (m * c + 1) (dep + 1) (.lst xs) := by
  obtain ⟨h1, h2, h3⟩ := shw_all xs h
  have := Nat.mul_le_mul_right c hl
  exact ⟨h1, by show PyData.depthAll (D.pys xs) + 1 ≤ dep + 1; omega, by show D.cnts xs + 1 ≤ m * c + 1; omega⟩
theorem shw.mono {c c' dep dep' : Nat} {d : D} (h : shw c dep d) (hc : c ≤ c') (hd : dep ≤ dep') : shw c' dep' d := ⟨h.1, Nat.le_trans h.2.1 hd, Nat.le_trans h.2.2 hc⟩
theorem shw.ok {dep : Nat} {d : D} (h : shw c dep d) (hc : c ≤ 8000) (hd : dep ≤ 64) : shOk d = true := shOk_sz h.1 (Nat.le_trans h.2.1 hd) (Nat.le_trans h.2.2 hc)
theorem shw_N (h : hb k p) (hk : k ≤ 1900) : shw 19 2 (Nm p) := ⟨okSh_N h hk, Nat.le_of_ble_eq_true rfl, Nat.le_of_ble_eq_true rfl⟩
theorem shw_F (h : hb k p) (hk : k ≤ 1900) : shw 19 2 (F p.1) := ⟨okSh_F ((h.szn.1).mono hk), Nat.le_of_ble_eq_true rfl, Nat.le_of_ble_eq_true rfl⟩
theorem shw_R (h : ∀ p ∈ ps, hb k p) (hk : k ≤ 1900) (hl : ps.length ≤ 6) : shw 115 3 (RN ps) := shw_tup (fun d hd => by
  obtain ⟨p, hp, rfl⟩ := List.mem_map.mp hd
  exact shw_N (h p hp) hk) (by rw [List.length_map]; exact hl)
theorem shw_M (h : ∀ r ∈ M, ∀ p ∈ r, hb k p) (hk : k ≤ 1900) (hl : M.length ≤ 6) (hr : ∀ r ∈ M, r.length ≤ 6) : shw 691 4 (MN M) := shw_tup (fun d hd => by
  obtain ⟨r, hr', rfl⟩ := List.mem_map.mp hd
  exact shw_R (h r hr') hk (hr r hr')) (by rw [List.length_map]; exact hl)
theorem Mg.hb' (h : Mg j k M) (h1 : k ≤ l) (h2 : 12 * j + 1 ≤ l) : ∀ r ∈ M, ∀ p ∈ r, hb l p := fun r hr p hp => (h r hr p hp).hb h1 h2
/-! ### mixes -/
/-! ### tables -/
theorem ent_mul (hM : IsM n M) (hM2 : IsM n M2) {a b : Nat} (ha : a < n) (hb : b < n) : ent (mulM M M2) a b = ent M a b * ent M2 a b := ent_zip (f := (· * ·)) hM hM2 ha hb
theorem ent_add (hM : IsM n M) (hM2 : IsM n M2) {a b : Nat} (ha : a < n) (hb : b < n) : ent (addM M M2) a b = ent M a b + ent M2 a b := ent_zip (f := (· + ·)) hM hM2 ha hb
theorem addM_comm (hM : IsM n M) (hM2 : IsM n M2) : addM M2 M = addM M M2 := by
  have h := tab_ext (f := ent (addM M2 M)) (IsM_add hM2 hM) fun _ _ _ _ => rfl
  rw [← h]
  exact tab_ext (IsM_add hM hM2) fun i j hi hj => by rw [ent_add hM2 hM hi hj, ent_add hM hM2 hi hj]; grind
theorem mulM_comm (hM : IsM n M) (hM2 : IsM n M2) : mulM M2 M = mulM M M2 := by
  have h := tab_ext (f := ent (mulM M2 M)) (IsM_mul hM2 hM) fun _ _ _ _ => rfl
  rw [← h]
  exact tab_ext (IsM_mul hM hM2) fun i j hi hj => by rw [ent_mul hM2 hM hi hj, ent_mul hM hM2 hi hj]; grind
end
end W

set_option Elab.async false
set_option linter.all false
set_option autoImplicit false
set_option maxRecDepth 100000
set_option maxHeartbeats 2000000
namespace W
open PySem PySem.Spec PyProof.Rows L2 PD
section
variable {G : Gam} {L : PD.Loc} {Bs S S0 S1 S2 S3 : Store} {i j k l m n nn N c K t : Nat} {p q u z : Cq} {w x : Rat} {ps qs cs ds ms : List Cq} {M M2 CS left fin : List (List Cq)} {X Y d : D} {a b : Xp} {ss : List Sq}
theorem axs_nil : evXs G .nil L S = some (([] : List D).map Va.d, S) := rfl
theorem axs_cons {e : Xp} {es : Xps} {ds : List D} (h : evX G e L S = some (.d d, S1)) (t : evXs G es L S1 = some (ds.map Va.d, S2)) : evXs G (.cons e es) L S = some ((d :: ds).map Va.d, S2) := by
  rw [evXs_cons, h, bnd_some, t]; rfl
theorem unVs_map : ∀ ds : List D, unVs (ds.map Va.d) = some ds
  | [] => rfl
  | d :: ds => by
    rw [List.map_cons]
    simp [unVs, unV, unVs_map ds]
theorem disp_x {es : Xps} {ds : List D} (h : evXs G es L S = some (ds.map Va.d, S1)) : evF G (.disp es) L S = some (ds, S1) := by
  rw [evF_disp, h, bnd_some, unVs_map]; rfl
theorem range1_pred {e : Xp} (h : evX G e L S = some (.d (.int ((n : Int) - 1)), S1)) (hn : n ≤ 1000) : evW G (.range1 e) L S = some ((List.range (n - 1)).map fun i => D.int (i : Nat), S1) := by
  rw [evW_range1, h, bnd_some]
  show lft (if (n : Int) - 1 < 2 ^ 62 ∧ -(2 ^ 62) ≤ (n : Int) - 1 then some ((List.range ((n : Int) - 1).toNat).map fun i => D.int (i : Nat)) else none) S1 = _
  rw [if_pos (by omega), show ((n : Int) - 1).toNat = n - 1 by omega]; rfl
theorem F32 : F (3 / 2) = .tup [.int 3, .int 2] := by
  unfold F
  rw [show ((3 : Rat) / 2).num = 3 by decide +kernel, show ((3 : Rat) / 2).den = 2 by decide +kernel]; rfl
theorem Fm32 : F (-3 / 2) = .tup [.int (-3), .int 2] := by
  unfold F
  rw [show ((-3 : Rat) / 2).num = -3 by decide +kernel, show ((-3 : Rat) / 2).den = 2 by decide +kernel]; rfl
theorem F01 : F 0 = .tup [.int 0, .int 1] := rfl
theorem F11 : F 1 = .tup [.int 1, .int 1] := rfl
theorem Fm1 : F (-1) = .tup [.int (-1), .int 1] := rfl
def thingsA (TL : List D) (R : D) : List D := [D.tup TL.reverse, .tup (TL ++ [.tup [.tup [.int 3, .int 2], R], .tup [.tup [.int (-3), .int 2], R]]), .tup ([.tup [.tup [.int (-3), .int 2], R]] ++ TL ++ [.tup [.tup [.int 3, .int 2], R]]), .tup (TL ++ [.tup [.tup [.int (-3), .int 2], R]]), .tup (TL ++ [.tup [.tup [.int 3, .int 2], R]]), .lst TL, .tup (TL ++ [.non]), .non]
def thingsB (TL : List D) (R V : D) : List D := [.tup (TL ++ [.tup [.int 1, .int 1]]), .tup (TL ++ [.tup [.tup [.int 0, .int 1], R]]), .tup (TL ++ [.tup [.tup [.int 1, .int 1], V]]), .tup (TL ++ [.tup [.tup [.int 2, .int 2], R], .tup [.tup [.int (-1), .int 1], R]]), .tup (TL ++ [.tup [.tup [.bl true, .int 1], R], .tup [.tup [.int (-1), .int 1], R]])]
def thingsL (TL : List D) (R V : D) : List D := thingsA TL R ++ thingsB TL R V
/-! ### the things -/
theorem r_Lthings (h : Pl Bs N S nn) (hn : n ≤ 6) (hg : ∀ s ∈ ss, SqG n s ∧ GoodSq 150 n s) (hl : ss.length ≤ 6) (hN : N ≤ 600000) : ∃ xs S', runF G_Lthings 8 b_Lthings [.cell nn, .tup (ss.map enS), .int (n : Nat)] S = some (.lst xs, S') ∧ (∀ X ∈ xs, Thing n X) ∧ xs.length ≤ 10 ∧ Pl Bs (N + 200) S' nn := by
  obtain ⟨x, S1, e1, x0, gx, h1⟩ := r_Lother h (by omega)
  obtain ⟨sm, S2, e2, hsm, lsm, h2⟩ := comp_dr (G := G_Lthings) (L := [.dat (.cell nn), .dat (.tup (ss.map enS)), .dat (.int (n : Nat)), .un, .un, .un, .un, .un]) (S := S1) (enc := T) (P := gq 1 15) (w := 5) (B := 850000) (t := 7) (own := [7]) (wk := .range1 (.bin .sub (.nm 2) (.lit (.int 1)))) (elt := .call 1 (.cons (.nm 0) .nil) .nil) (range1_pred (n := n) rfl (by omega)) (by rw [List.length_map, List.length_range]; omega) (fun d _ S N h hN => by
    obtain ⟨p, S3, e3, gp, h3⟩ := r_Lsmall h (by omega)
    exact ⟨p, S3, call1 (x := .cell nn) rfl rfl rfl rfl e3, gp, h3⟩) h1 (by rw [List.length_map, List.length_range]; omega)
  rw [List.length_map, List.length_range] at lsm h2
  have hm' : ∀ p ∈ (x :: sm).take n, hb 15 p := fun p hp => by
    rcases List.mem_cons.mp (List.mem_of_mem_take hp) with rfl | hp
    · exact gx.hb (by decide) (by decide)
    · exact (hsm p hp).hb (by decide) (by decide)
  have lm' : ((x :: sm).take n).length = n := by rw [List.length_take, List.length_cons, lsm]; omega
  have bm : BdR 150 n ((x :: sm).take n) := ⟨lm', fun p hp => (hm' p hp).mono (by decide)⟩
  have ln := r_Lline (S := S2) hm' (by decide) (by omega)
  have hv : ∀ p ∈ List.replicate n (0 : Cq), hb 1 p := fun p hp => by rw [List.eq_of_mem_replicate hp]; exact hb_0
  have lv := r_Lline (S := S2) hv (by decide) (by rw [List.length_replicate]; omega)
  have bv : BdR 150 n (List.replicate n (0 : Cq)) := ⟨List.length_replicate .., fun p hp => (hv p hp).mono (by decide)⟩
  have er : RT (List.replicate n (0 : Cq)) = .lst (List.replicate n (.tup [.int 0, .int 0, .int 1])) := by
    unfold RT
    rw [List.map_replicate, T_zero]
  rw [er] at lv
  obtain ⟨X1, S3, e3, t1, h3⟩ := r_Lchanged h2 hn hg hl (by omega)
  obtain ⟨X2, S4, e4, t2, h4⟩ := r_Lchanged h3 hn hg hl (by omega)
  have hel : ∀ e ∈ ss.map enS, Elm 150 n e := fun e he => by
    obtain ⟨s, hs, rfl⟩ := List.mem_map.mp he
    exact .inl ⟨s, rfl, (hg s hs).2⟩
  have hlen : (ss.map enS).length ≤ 6 := by rw [List.length_map]; exact hl
  have rb : ∀ w : Rat, Sz 10 w → hb 150 (re w) := fun w h => (hb_real h).mono (by decide)
  have s10 : ∀ {w : Rat}, sz 10 w.num → sz 10 (w.den : Int) → Sz 10 w := fun a b => ⟨a, b⟩
  have eA : Elm 150 n (SqN (3 / 2, (x :: sm).take n)) := elmSq (rb _ ⟨by unfold sz; decide +kernel, by unfold sz; decide +kernel⟩) bm (by omega)
  have eB : Elm 150 n (SqN (-3 / 2, (x :: sm).take n)) := elmSq (rb _ ⟨by unfold sz; decide +kernel, by unfold sz; decide +kernel⟩) bm (by omega)
  have e0' : Elm 150 n (SqN (0, (x :: sm).take n)) := elmSq (rb _ ⟨by unfold sz; decide +kernel, by unfold sz; decide +kernel⟩) bm (by omega)
  have em1 : Elm 150 n (SqN (-1, (x :: sm).take n)) := elmSq (rb _ ⟨by unfold sz; decide +kernel, by unfold sz; decide +kernel⟩) bm (by omega)
  have ev' : Elm 150 n (SqN (1, List.replicate n (0 : Cq))) := elmSq (rb _ ⟨by unfold sz; decide +kernel, by unfold sz; decide +kernel⟩) bv (by omega)
  have dA : SqN (3 / 2, (x :: sm).take n) = .tup [.tup [.int 3, .int 2], RN ((x :: sm).take n)] := by unfold SqN; rw [F32]
  have dB : SqN (-3 / 2, (x :: sm).take n) = .tup [.tup [.int (-3), .int 2], RN ((x :: sm).take n)] := by unfold SqN; rw [Fm32]
  have d0 : SqN (0, (x :: sm).take n) = .tup [.tup [.int 0, .int 1], RN ((x :: sm).take n)] := rfl
  have dm1 : SqN (-1, (x :: sm).take n) = .tup [.tup [.int (-1), .int 1], RN ((x :: sm).take n)] := rfl
  have dv : SqN (1, List.replicate n (0 : Cq)) = .tup [.tup [.int 1, .int 1], RN (List.replicate n (0 : Cq))] := rfl
  rw [dA] at eA
  rw [dB] at eB
  rw [d0] at e0'
  rw [dm1] at em1
  rw [dv] at ev'
  have th : ∀ {es : List D}, (∀ e ∈ es, Elm 150 n e) → es.length ≤ 8 → Thing n (.tup es) := fun a b => .inr ⟨_, rfl, a, b⟩
  generalize hTL : ss.map enS = TL at *
  generalize hR : RN ((x :: sm).take n) = R at *
  generalize hV : RN (List.replicate n (0 : Cq)) = V at *
  have ap : ∀ {xs ys : List D}, (∀ e ∈ xs, Elm 150 n e) → (∀ e ∈ ys, Elm 150 n e) → ∀ e ∈ xs ++ ys, Elm 150 n e := fun a b e he => (List.mem_append.mp he).elim (a e) (b e)
  have one : ∀ {d : D}, Elm 150 n d → ∀ e ∈ [d], Elm 150 n e := fun h e he => by rw [List.mem_singleton.mp he]; exact h
  have two : ∀ {d d' : D}, Elm 150 n d → Elm 150 n d' → ∀ e ∈ [d, d'], Elm 150 n e := fun h h' e he => by
    simp only [List.mem_cons, List.not_mem_nil, or_false] at he
    rcases he with rfl | rfl
    · exact h
    · exact h'
  have lst1 : ∀ v : D, v ∈ thingsL TL R V → Thing n v := fun v hv => by
    unfold thingsL thingsA thingsB at hv
    simp only [List.mem_append, List.mem_cons, List.not_mem_nil, or_false] at hv
    rcases hv with (rfl | rfl | rfl | rfl | rfl | rfl | rfl | rfl) | (rfl | rfl | rfl | rfl | rfl)
    · exact th (fun e he => hel e (List.mem_reverse.mp he)) (by rw [List.length_reverse]; omega)
    · exact th (ap hel (two eA eB)) (by simp; omega)
    · exact th (ap (ap (one eB) hel) (one eA)) (by simp; omega)
    · exact th (ap hel (one eB)) (by simp; omega)
    · exact th (ap hel (one eA)) (by simp; omega)
    · exact .inl it_lst
    · exact th (ap hel (one (.inr bad_non))) (by simp; omega)
    · exact .inl it_non
    · exact th (ap hel (one (.inr bad_one))) (by simp; omega)
    · exact th (ap hel (one e0')) (by simp; omega)
    · exact th (ap hel (one ev')) (by simp; omega)
    · exact th (ap hel (two (.inr bad_two) em1)) (by simp; omega)
    · exact th (ap hel (two (.inr bad_true) em1)) (by simp; omega)
  obtain ⟨X3, S5, m3, e5, h5⟩ := r_LpickL (xs := thingsL TL R V) h4 (by omega) (by simp [thingsL, thingsA, thingsB]) (by simp [thingsL, thingsA, thingsB])
  obtain ⟨X4, S6, m4, e6, h6⟩ := r_LpickL (xs := thingsL TL R V) h5 (by omega) (by simp [thingsL, thingsA, thingsB]) (by simp [thingsL, thingsA, thingsB])
  obtain ⟨X5, S7, m5, e7, h7⟩ := r_LpickL (xs := thingsL TL R V) h6 (by omega) (by simp [thingsL, thingsA, thingsB]) (by simp [thingsL, thingsA, thingsB])
  refine ⟨[X1, X2, X3, X4, X5], S7, ?_, fun X hX => ?_, by simp, h7.mono (by omega)⟩
  · refine run_en ?_
    have hb : b_Lthings = .cons (.asg (.nm 3) (.fr (.cat (.fr (.disp (.cons (.call 0 (.cons (.nm 0) .nil) .nil) .nil))) (.fr (.comp (.call 1 (.cons (.nm 0) .nil) .nil) (.nm 7) (.range1 (.bin .sub (.nm 2) (.lit (.int 1)))) .none [7]))))) (.cons (.asg (.nm 3) (.call 2 (.cons (.slc (.nm 3) .none (.some (.nm 2))) .nil) .nil)) (.cons (.par [4, 5] (.cons (.tup (.cons (.tup (.cons (.tup (.cons (.lit (.int 3)) (.cons (.lit (.int 2)) .nil))) (.cons (.nm 3) .nil))) (.cons (.tup (.cons (.tup (.cons (.neg (.lit (.int 3))) (.cons (.lit (.int 2)) .nil))) (.cons (.nm 3) .nil))) .nil))) (.cons (.call 2 (.cons (.fr (.rep (.disp (.cons (.tup (.cons (.lit (.int 0)) (.cons (.lit (.int 0)) (.cons (.lit (.int 1)) .nil)))) .nil)) (.nm 2))) .nil) .nil) .nil))) (.cons (.asg (.nm 6) (.fr (.disp (.cons (.rev (.nm 1)) (.cons (.bin .add (.nm 1) (.nm 4)) (.cons (.bin .add (.bin .add (.slc (.nm 4) (.some (.lit (.int 1))) .none) (.nm 1)) (.slc (.nm 4) .none (.some (.lit (.int 1))))) (.cons (.bin .add (.nm 1) (.slc (.nm 4) (.some (.lit (.int 1))) .none)) (.cons (.bin .add (.nm 1) (.slc (.nm 4) .none (.some (.lit (.int 1))))) (.cons (.fr (.list (.nm 1))) (.cons (.bin .add (.nm 1) (.tup (.cons (.lit (.non)) .nil))) (.cons (.lit (.non)) .nil))))))))))) (.cons (.asg (.nm 6) (.fr (.cat (.nm 6) (.fr (.disp (.cons (.bin .add (.nm 1) (.tup (.cons (.tup (.cons (.lit (.int 1)) (.cons (.lit (.int 1)) .nil))) .nil))) (.cons (.bin .add (.nm 1) (.tup (.cons (.tup (.cons (.tup (.cons (.lit (.int 0)) (.cons (.lit (.int 1)) .nil))) (.cons (.nm 3) .nil))) .nil))) (.cons (.bin .add (.nm 1) (.tup (.cons (.tup (.cons (.tup (.cons (.lit (.int 1)) (.cons (.lit (.int 1)) .nil))) (.cons (.nm 5) .nil))) .nil))) (.cons (.bin .add (.nm 1) (.tup (.cons (.tup (.cons (.tup (.cons (.lit (.int 2)) (.cons (.lit (.int 2)) .nil))) (.cons (.nm 3) .nil))) (.cons (.tup (.cons (.tup (.cons (.neg (.lit (.int 1))) (.cons (.lit (.int 1)) .nil))) (.cons (.nm 3) .nil))) .nil)))) (.cons (.bin .add (.nm 1) (.tup (.cons (.tup (.cons (.tup (.cons (.lit (.bl true)) (.cons (.lit (.int 1)) .nil))) (.cons (.nm 3) .nil))) (.cons (.tup (.cons (.tup (.cons (.neg (.lit (.int 1))) (.cons (.lit (.int 1)) .nil))) (.cons (.nm 3) .nil))) .nil)))) .nil)))))))))) (.cons (.ret (.fr (.disp (.cons (.call 3 (.cons (.nm 0) (.cons (.nm 1) (.cons (.nm 2) .nil))) .nil) (.cons (.call 3 (.cons (.nm 0) (.cons (.nm 1) (.cons (.nm 2) .nil))) .nil) (.cons (.call 4 (.cons (.nm 0) (.cons (.nm 6) .nil)) .nil) (.cons (.call 4 (.cons (.nm 0) (.cons (.nm 6) .nil)) .nil) (.cons (.call 4 (.cons (.nm 0) (.cons (.nm 6) .nil)) .nil) .nil)))))))) .nil))))) := rfl
    rw [hb]
    refine en_nx (asgx (d := .lst ([T x] ++ sm.map T)) (frx (catx (frx (disp_x (axs_cons (call1 (x := .cell nn) rfl rfl rfl rfl e1) axs_nil))) (frx e2) (by simp; omega)))) ?_
    refine en_nx (asgx (call1 (x := RT ((x :: sm).take n)) rfl rfl rfl (Eq.trans (slc_takeL (xs := (x :: sm).map T) (t := n) rfl rfl (by simp; omega)) (by rw [← List.map_take]; rfl)) ln)) ?_
    refine en_nx (parx2 (x := .tup [.tup [.tup [.int 3, .int 2], R], .tup [.tup [.int (-3), .int 2], R]]) (y := V) rfl (call1 (x := .lst (List.replicate n (.tup [.int 0, .int 0, .int 1]))) rfl rfl rfl (frx (repx rfl rfl (by omega))) lv)) ?_
    refine en_nx (asgx (d := .lst (thingsA TL R)) (frx (disp_x (axs_cons (d := .tup TL.reverse) rfl (axs_cons (addx rfl rfl (by simp; omega)) (axs_cons (addx (addx (slc_drop (xs := [.tup [.tup [.int 3, .int 2], R], .tup [.tup [.int (-3), .int 2], R]]) (t := 1) rfl rfl (Nat.le_of_ble_eq_true rfl)) rfl (by simp; omega)) (slc_take (xs := [.tup [.tup [.int 3, .int 2], R], .tup [.tup [.int (-3), .int 2], R]]) (t := 1) rfl rfl (Nat.le_of_ble_eq_true rfl)) (by simp; omega)) (axs_cons (addx rfl (slc_drop (xs := [.tup [.tup [.int 3, .int 2], R], .tup [.tup [.int (-3), .int 2], R]]) (t := 1) rfl rfl (Nat.le_of_ble_eq_true rfl)) (by simp; omega)) (axs_cons (addx rfl (slc_take (xs := [.tup [.tup [.int 3, .int 2], R], .tup [.tup [.int (-3), .int 2], R]]) (t := 1) rfl rfl (Nat.le_of_ble_eq_true rfl)) (by simp; omega)) (axs_cons (frx (xs := TL) rfl) (axs_cons (addx rfl rfl (by simp; omega)) (axs_cons rfl axs_nil)))))))))))  ?_
    refine en_nx (asgx (d := .lst (thingsL TL R V)) (frx (catx (xs := thingsA TL R) (ys := thingsB TL R V) rfl (frx (disp_x (axs_cons (addx (ys := [.tup [.int 1, .int 1]]) rfl rfl (by simp; omega)) (axs_cons (addx (ys := [.tup [.tup [.int 0, .int 1], R]]) rfl rfl (by simp; omega)) (axs_cons (addx (ys := [.tup [.tup [.int 1, .int 1], V]]) rfl rfl (by simp; omega)) (axs_cons (addx (ys := [.tup [.tup [.int 2, .int 2], R], .tup [.tup [.int (-1), .int 1], R]]) rfl rfl (by simp; omega)) (axs_cons (addx (ys := [.tup [.tup [.bl true, .int 1], R], .tup [.tup [.int (-1), .int 1], R]]) rfl rfl (by simp; omega)) axs_nil))))))) (Nat.le_of_ble_eq_true rfl)))) ?_
    refine en_ret (retx (frx (disp_x ?_)))
    refine axs_cons (call3 (x := .cell nn) (y := .tup TL) (z := .int (n : Nat)) rfl rfl rfl rfl rfl rfl e3) (axs_cons (call3 (x := .cell nn) (y := .tup TL) (z := .int (n : Nat)) rfl rfl rfl rfl rfl rfl e4) ?_)
    exact axs_cons (call2 (x := .cell nn) rfl rfl rfl rfl rfl e5) (axs_cons (call2 (x := .cell nn) rfl rfl rfl rfl rfl e6) (axs_cons (call2 (x := .cell nn) rfl rfl rfl rfl rfl e7) axs_nil))
  · simp only [List.mem_cons, List.not_mem_nil, or_false] at hX
    rcases hX with rfl | rfl | rfl | rfl | rfl
    · exact t1
    · exact t2
    · exact lst1 _ m3
    · exact lst1 _ m4
    · exact lst1 _ m5
end
end W

set_option Elab.async false
set_option linter.all false
set_option autoImplicit false
set_option maxRecDepth 100000
set_option maxHeartbeats 2000000
namespace W
open PySem PySem.Spec PyProof.Rows L2 PD
section
variable {G : Gam} {L : PD.Loc} {Bs S S0 S1 S2 S3 : Store} {i j k l m n nn N c K t : Nat} {p q u z : Cq} {w x : Rat} {ps qs cs ds ms : List Cq} {M M2 CS left fin : List (List Cq)} {X Y d : D} {a b : Xp} {ss : List Sq}
theorem thing_agree (hX : Thing n X) (hM : IsM n M) (hh : Herm n M) (hn : n ≤ 6) : ∃ bb : Bool, (∀ S, runF G_do_make 2 b_do_make [MN M, X] S = some (.bl bb, S)) ∧ ∀ S, runF G_Lmakes 6 b_Lmakes [MT M, X] S = some (.bl bb, S) := by
  rcases hX with hX | ⟨es, rfl, he, hl⟩
  · exact ⟨false, fun S => r_do_make hM hh hn fun S => r_makes_not hX hM.1, fun S => r_Lmakes_not hX⟩
  · by_cases hb : ∃ e ∈ es, Bad n e
    · exact ⟨false, fun S => r_do_make hM hh hn fun S => r_makes_bad (k := 150) (by decide) (by omega) hM.1 he hb (by omega), fun S => r_Lmakes_bad (k := 150) (by decide) (by omega) hM.1 he hb (by omega)⟩
    · have : ∃ ss : List Sq, es = ss.map enS ∧ ∀ s ∈ ss, GoodSq 150 n s := by
        clear hl
        induction es with
        | nil => exact ⟨[], rfl, fun s hs => by cases hs⟩
        | cons e es ih =>
          obtain ⟨ss, hs, hg⟩ := ih (fun z hz => he z (List.mem_cons_of_mem _ hz)) fun ⟨z, hz, hbz⟩ => hb ⟨z, List.mem_cons_of_mem _ hz, hbz⟩
          rcases he e (List.mem_cons_self ..) with ⟨s, rfl, hs'⟩ | hbe
          · exact ⟨s :: ss, by rw [hs]; rfl, fun z hz => (List.mem_cons.mp hz).elim (fun q => by rw [q]; exact hs') (hg z)⟩
          · exact absurd ⟨e, List.mem_cons_self .., hbe⟩ hb
      obtain ⟨ss, rfl, hg⟩ := this
      rw [List.length_map] at hl
      exact ⟨_, fun S => r_do_make hM hh hn fun S => r_makes_good (k := 150) (by decide) (by omega) hM.1 hg hl, fun S => r_Lmakes_good (k := 150) (by decide) hn hM.1 hg hl⟩
def rtB : Sms := (b_Lright.nth 7).body
theorem rt_loop {v0 v1 v2 v4 : Lv} (hM : IsM n M) (hh : Herm n M) (hn : n ≤ 6) : ∀ (xs : List D) (v6 : Lv), (∀ X ∈ xs, Thing n X) → ∃ v6', forL (fun d L S => bnd (evG G_Lright (.nm 6) d L S) fun L2 S2 => evSs G_Lright rtB L2 S2) xs [v0, v1, v2, .dat (MT M), v4, .dat (MN M), v6] S = some ((.nx, [v0, v1, v2, .dat (MT M), v4, .dat (MN M), v6']), S)
  | [], v6, _ => ⟨v6, rfl⟩
  | X :: xs, v6, h => by
    obtain ⟨bb, e1, e2⟩ := thing_agree (h X (List.mem_cons_self ..)) hM hh hn
    have st : evSs G_Lright rtB [v0, v1, v2, .dat (MT M), v4, .dat (MN M), .dat X] S = some ((.nx, [v0, v1, v2, .dat (MT M), v4, .dat (MN M), .dat X]), S) := by
      generalize MT M = O at *
      generalize MN M = R at *
      simp [rtB, Sms.nth, Sm.body, b_Lright, G_Lright, e_do_make_2, e_Lmakes_2, pick, e1, e2]
    obtain ⟨v6', e⟩ := rt_loop hM hh hn xs (.dat X) fun z hz => h z (List.mem_cons_of_mem _ hz)
    refine ⟨v6', ?_⟩
    rw [forL_cons, evG_nm, bnd_some]
    show bnd (evSs G_Lright rtB [v0, v1, v2, .dat (MT M), v4, .dat (MN M), .dat X] S) _ = _
    rw [st, bnd_some]
    exact e
theorem shw_told (hg : ∀ s ∈ ss, SqG n s) (hl : ss.length ≤ 6) (hn : n ≤ 6) : shw 1387 5 (.tup (ss.map enS)) := by
  refine (shw_tup (c := 231) (dep := 4) (m := 6) (fun d hd => ?_) (by rw [List.length_map]; exact hl)).mono (by decide) (by decide)
  obtain ⟨s, hs, rfl⟩ := List.mem_map.mp hd
  obtain ⟨g1, g2, g3, g4⟩ := hg s hs
  have h1 : shw 115 3 (F s.1.1) := (shw_F (g1.hb (l := 15) (by decide) (by decide)) (by decide)).mono (by decide) (by decide)
  have h2 : shw 115 3 (RN s.2) := shw_R (k := 15) (fun p hp => (g4 p hp).hb (by decide) (by decide)) (by decide) (by rw [g3]; exact hn)
  refine (shw_tup (c := 115) (dep := 3) (m := 2) (xs := [F s.1.1, RN s.2]) (fun d hd => ?_) (by simp)).mono (by decide) (by decide)
  simp only [List.mem_cons, List.not_mem_nil, or_false] at hd
  rcases hd with rfl | rfl
  · exact h1
  · exact h2
theorem rt_end33 {v0 v1 O GR : D} {tl xs sl : List D} {S' : Store} {k : Nat} (hk : k ≤ 6) (hsl : sl.length = k)
    (q1 : ∀ S, runF G_squares_of 1 b_squares_of [GR] S = some (.tup tl, S)) (q2 : ∀ S, runF G_is_nonnegative 1 b_is_nonnegative [GR] S = some (.bl true, S)) (q3' : ∀ S, runF G_rank_of 1 b_rank_of [GR] S = some (.int (k : Nat), S))
    (q4 : ∀ S, runF G_do_make 2 b_do_make [GR, .tup tl] S = some (.bl true, S)) (q5 : runF G_Lthings 8 b_Lthings [v0, .tup tl, v1] S = some (.lst xs, S'))
    (q6 : ∀ v6, ∃ v6', forL (fun d L S => bnd (evG G_Lright (.nm 6) d L S) fun L2 S2 => evSs G_Lright rtB L2 S2) xs [.dat v0, .dat v1, .dat (.lst sl), .dat O, .dat (.tup tl), .dat GR, v6] S' = some ((.nx, [.dat v0, .dat v1, .dat (.lst sl), .dat O, .dat (.tup tl), .dat GR, v6']), S'))
    (s1 : shOk (.tup tl) = true) (s2 : shOk (.lst [.tup tl, .tup tl]) = true) :
    ∃ L', evSs G_Lright (.cons (b_Lright.nth 4) (.cons (b_Lright.nth 5) (.cons (b_Lright.nth 6) (.cons (b_Lright.nth 7) (.cons (b_Lright.nth 8) .nil))))) [.dat v0, .dat v1, .dat (.lst sl), .dat O, .dat (.tup tl), .dat GR, .un] S = some ((.ret (.bl true), L'), S') := by
  have r1 : biV .repr [.d (.tup tl)] = some (.str (D.tup tl).py.shown) := by rw [biV_reprT, if_pos s1]
  have r2 : biV .repr [.d (.lst [.tup tl, .tup tl])] = some (.str (D.lst [.tup tl, .tup tl]).py.shown) := by
    show (if shOk (.lst [.tup tl, .tup tl]) then some (D.str (D.lst [.tup tl, .tup tl]).py.shown) else none) = _
    rw [if_pos s2]
  have r3 : biV .repr [.d (.int (k : Nat))] = some (.str (toString ((k : Nat) : Int))) := by
    show (if ((k : Nat) : Int).natAbs.log2 < 1920 then some (D.str (toString ((k : Nat) : Int))) else none) = _
    rw [if_pos]
    have := Nat.log2_le_self ((k : Nat) : Int).natAbs
    omega
  have l1 : biV .len [.d (.lst sl)] = some (.int (k : Nat)) := by rw [biV_lenL, hsl]
  have hb7 : b_Lright.nth 7 = .for_ (.nm 6) (.seq (.call 11 (.cons (.nm 0) (.cons (.nm 4) (.cons (.nm 1) .nil))) .nil)) rtB := rfl
  obtain ⟨v6', f⟩ := q6 .un
  have st4 : evS G_Lright (b_Lright.nth 4) [.dat v0, .dat v1, .dat (.lst sl), .dat O, .dat (.tup tl), .dat GR, .un] S = some ((.nx, [.dat v0, .dat v1, .dat (.lst sl), .dat O, .dat (.tup tl), .dat GR, .un]), S) := by
    simp [b_Lright, Sms.nth, G_Lright, e_squares_of_1, e_squares_of_0_table, pick, q1, r2]
  have st5 : evS G_Lright (b_Lright.nth 5) [.dat v0, .dat v1, .dat (.lst sl), .dat O, .dat (.tup tl), .dat GR, .un] S = some ((.nx, [.dat v0, .dat v1, .dat (.lst sl), .dat O, .dat (.tup tl), .dat GR, .un]), S) := by
    clear hk hsl
    generalize ((k : Nat) : Int) = ki at *
    simp [b_Lright, Sms.nth, G_Lright, e_is_nonnegative_1, e_rank_of_1, pick, q2, q3', l1, r3, -biV_lenL]
  have st6 : evS G_Lright (b_Lright.nth 6) [.dat v0, .dat v1, .dat (.lst sl), .dat O, .dat (.tup tl), .dat GR, .un] S = some ((.nx, [.dat v0, .dat v1, .dat (.lst sl), .dat O, .dat (.tup tl), .dat GR, .un]), S) := by
    simp [b_Lright, Sms.nth, G_Lright, e_do_make_2, e_do_make_0_squares_table, pick, q4]
  refine en_nx st4 (en_nx st5 (en_nx st6 ?_))
  rw [hb7]
  have cw : evW G_Lright (.seq (.call 11 (.cons (.nm 0) (.cons (.nm 4) (.cons (.nm 1) .nil))) .nil)) [.dat v0, .dat v1, .dat (.lst sl), .dat O, .dat (.tup tl), .dat GR, .un] S = some (xs, S') := by
    rw [evW_seq, call3 (G := G_Lright) (j := 11) (x := v0) (y := .tup tl) (z := v1) rfl rfl rfl rfl rfl rfl q5]; rfl
  refine en_nx (ev_for rfl cw f) (en_ret (L2 := [.dat v0, .dat v1, .dat (.lst sl), .dat O, .dat (.tup tl), .dat GR, v6']) ?_)
  simp [b_Lright, Sms.nth, G_Lright, e_squares_of_1, pick, q1, r1]
theorem Herm_mk (hg : ∀ s ∈ ss, SqG n s) : Herm n (mkT n ss) := fun i j hi hj => by
  unfold mkT
  rw [ent_tab hi hj, ent_tab hj hi]
  have e := con_sqF (a := j) (b := i) ss 0 0 (fun s hs => by rw [(hg s hs).2.1, con_re]) con_zero
  rw [sqF_eq, sqF_eq] at e
  have z : ∀ p : Cq, 0 + p = p := fun p => by grind
  rw [z, z] at e
  exact e.symm
theorem r_Lright (h : Pl Bs N S nn) (hN : N ≤ 1000) : ∃ S', runF G_Lright 7 b_Lright [.cell nn] S = some (.bl true, S') := by
  obtain ⟨n, S1, e1, hn, p1⟩ := r_Lmany h (by omega)
  obtain ⟨ss, S2, e2, hs, hg, hl, p2⟩ := r_Lsteps p1 hn (by omega)
  have hl6 : ss.length ≤ 6 := by omega
  have gd := hs.good hg
  have hgg : ∀ s ∈ ss, SqG n s ∧ GoodSq 150 n s := fun s h => ⟨hg s h, gd s h⟩
  have eT : tabM n (fun a b => sqF a b 0 ss) = mkT n ss := by
    unfold mkT
    refine congrArg (tabM n) (funext fun a => funext fun b => ?_)
    rw [sqF_eq]; grind
  have md := r_LmadeH (S := S2) (k := 150) hn (fun s h => (gd s h).2.2.1) (by decide) (by omega : ss.length ≤ 8)
  rw [eT] at md
  have hM : IsM n (mkT n ss) := IsM_tab
  have hh : Herm n (mkT n ss) := Herm_mk hg
  have sq := r_Lsquares (S := S2) (ss := ss) (k := 15) (fun s h => ⟨(hg s h).1.hb (by decide) (by decide), fun p hp => ((hg s h).2.2.2 p hp).hb (by decide) (by decide), by rw [(hg s h).2.2.1]; omega⟩) (by decide) (by omega)
  have bm := BdM_mk hg hl6
  have tb := r_Ltab (S := S2) (M := mkT n ss) (k := 400) (fun r hr p hp => (bm.2 r hr).2 p hp) (by decide) (by rw [hM.1]; omega) (fun r hr => by rw [hM.2 r hr]; omega)
  have cl := cl_stp ss n 0 ss (by omega) hs hg hl6
  have q1 := fun S => r_squares_of (S := S) hn (by decide) hM hh cl
  have eS : SqO (ss.map fun s => (s.1.1, s.2)) none = .tup (ss.map enS) := by
    show D.tup ((ss.map fun s => (s.1.1, s.2)).map SqN) = _
    rw [List.map_map]; rfl
  simp only [eS] at q1
  have q2 := fun S => r_is_nonnegative (S := S) hn (by decide) hM hh cl
  obtain ⟨nk, nl⟩ := nul_stp n 0 [] ss ([], []) (by omega) hs trivial hg hl6
  have q3' := fun S => r_rank_of (S := S) hn (by decide) hM hh nk
  have er : (n : Int) - (((nulF (mkT n ss) n n 0 ([], [])).2.length : Nat) : Int) = ((ss.length : Nat) : Int) := by
    have : (nulF (mkT n ss) n n 0 ([], [])).2.length + ss.length = 0 + n := nl
    omega
  have q3'' : ∀ S, runF G_rank_of 1 b_rank_of [MN (mkT n ss)] S = some (.int ((ss.length : Nat) : Int), S) := fun S => by
    have := q3' S
    rw [er] at this
    exact this
  have q4 : ∀ S, runF G_do_make 2 b_do_make [MN (mkT n ss), .tup (ss.map enS)] S = some (.bl true, S) := fun S => r_do_make hM hh hn fun S => by
    have := r_makes_good (S := S) (k := 150) (by decide) (by omega : n ≤ 100) hM.1 gd (by omega)
    rw [eT, decide_eq_true rfl] at this
    exact this
  obtain ⟨xs, S3, q5, hxs, _, p3⟩ := r_Lthings p2 hn hgg hl6 (by omega)
  have st := shw_told hg hl6 hn
  have s1 := st.ok (by decide) (by decide)
  have s2 : shOk (.lst [.tup (ss.map enS), .tup (ss.map enS)]) = true := (shw_lst (c := 1387) (dep := 5) (m := 2) (fun d hd => by
    simp only [List.mem_cons, List.not_mem_nil, or_false, or_self] at hd
    rw [hd]; exact st) (by simp)).ok (by decide) (by decide)
  have fin := rt_end33 (S := S2) (S' := S3) (v0 := .cell nn) (v1 := .int (n : Nat)) (O := MT (mkT n ss)) (GR := MN (mkT n ss)) (sl := ss.map sqD) (k := ss.length) hl6 (by rw [List.length_map]) q1 q2 q3'' q4 q5 (fun v6 => rt_loop hM hh hn xs v6 hxs) s1 s2
  refine ⟨S3, ?_⟩
  have hb : b_Lright = .cons (.asg (.nm 1) (.call 0 (.cons (.nm 0) .nil) .nil)) (.cons (.asg (.nm 2) (.call 1 (.cons (.nm 0) (.cons (.nm 1) .nil)) .nil)) (.cons (.par [3, 4] (.cons (.call 2 (.cons (.nm 1) (.cons (.nm 2) .nil)) .nil) (.cons (.call 3 (.cons (.nm 2) .nil) .nil) .nil))) (.cons (.asg (.nm 5) (.call 4 (.cons (.nm 3) .nil) .nil)) (.cons (b_Lright.nth 4) (.cons (b_Lright.nth 5) (.cons (b_Lright.nth 6) (.cons (b_Lright.nth 7) (.cons (b_Lright.nth 8) .nil)))))))) := rfl
  refine run_en ?_
  rw [hb]
  refine en_nx (asgx (call1 (x := .cell nn) rfl rfl rfl rfl e1)) ?_
  refine en_nx (asgx (call2 (x := .cell nn) (y := .int (n : Nat)) rfl rfl rfl rfl rfl e2)) ?_
  refine en_nx (parx2 (callS2' (x := .int (n : Nat)) (y := .lst (ss.map sqD)) rfl rfl rfl md) (call1 (x := .lst (ss.map sqD)) rfl rfl rfl rfl sq)) ?_
  refine en_nx (asgx (call1 (x := MT (mkT n ss)) rfl rfl rfl rfl tb)) ?_
  exact fin
end
end W

set_option Elab.async false
set_option linter.all false
set_option autoImplicit false
set_option maxRecDepth 100000
set_option maxHeartbeats 2000000
namespace W
open PySem PySem.Spec PyProof.Rows L2 PD
section
def lawB : Sms := (b_law.nth 0).body
theorem law_loop {zs : List Int} (hz : ∀ z ∈ zs, Builtin.Int.intBits z ≤ 1048576) : ∀ (ts : List Int) (S : Store) (E : Lv), (∀ t ∈ ts, 0 ≤ t ∧ t < 100) → ∃ E' S', forL (fun d L S => bnd (evG G_law (.nm 1) d L S) fun L2 S2 => evSs G_law lawB L2 S2) (ts.map D.int) [.dat (.lst (zs.map D.int)), E] S = some ((.nx, [.dat (.lst (zs.map D.int)), E']), S')
  | [], S, E, _ => ⟨E, S, rfl⟩
  | t :: ts, S, E, h => by
    obtain ⟨t0, t1⟩ := h t (List.mem_cons_self ..)
    obtain ⟨S1, e1, p1⟩ := r_Lpot (S := S) (zs := zs) t0 t1 hz
    obtain ⟨S2, e2⟩ := r_Lright p1 (by decide)
    obtain ⟨E', S3, e3⟩ := law_loop hz ts S2 (.dat (.int t)) fun z hz => h z (List.mem_cons_of_mem _ hz)
    refine ⟨E', S3, ?_⟩
    rw [List.map_cons, forL_cons]
    have step : (bnd (evG G_law (.nm 1) (.int t) [.dat (.lst (zs.map D.int)), E] S) fun L2 S2 => evSs G_law lawB L2 S2) = some ((.nx, [.dat (.lst (zs.map D.int)), .dat (.int t)]), S2) := by
      simp [lawB, Sms.nth, Sm.body, b_law, G_law, e_Lright_1, e_Lpot_2, pick, e1, e2]
    rw [step, bnd_some]
    exact e3
theorem main (ns : List Int) (_ : ns.length ≤ 63) (hz : ∀ z ∈ ns, Builtin.Int.intBits z ≤ 1048576) : ∃ S, runF G_law 2 b_law [.lst (ns.map .int)] [] = some (.bl true, S) := by
  obtain ⟨k, hk, k4⟩ : ∃ k : Nat, (∀ S, runF G_Llaps 1 b_Llaps [.lst (ns.map D.int)] S = some (.int (k : Nat), S)) ∧ k ≤ 4 := by
    have hl : ∃ k : Nat, (if (2 : Int) < (if (3 : Int) < ((ns.map D.int).length : Int) then 3 else ((ns.map D.int).length : Int)) then (if (3 : Int) < ((ns.map D.int).length : Int) then 3 else ((ns.map D.int).length : Int)) else 2) = (k : Int) ∧ k ≤ 4 := by
      generalize (ns.map D.int).length = l
      by_cases h1 : (3 : Int) < (l : Int)
      · exact ⟨3, by rw [if_pos h1, if_pos (by decide)]; rfl, by decide⟩
      · by_cases h2 : (2 : Int) < (l : Int)
        · exact ⟨l, by rw [if_neg h1, if_pos h2], by omega⟩
        · exact ⟨2, by rw [if_neg h1, if_neg h2]; rfl, by decide⟩
    obtain ⟨k, hk, k4⟩ := hl
    refine ⟨k, fun S => run_ret ?_, k4⟩
    show evX G_Llaps _ [.dat (.lst (ns.map D.int))] S = _
    simp only [evX_bi, evXs_cons, evXs_nil, evX_lit, evX_nm, bnd_some, lft_some, List.getElem?_cons_zero, biV_lenL, Option.map_some, biV_min, biV_max, gt_iff_lt]
    rw [hk]
  obtain ⟨E, S, e⟩ := law_loop hz ((List.range k).map fun i => ((i : Nat) : Int)) [] .un fun t ht => by
    obtain ⟨i, hi, rfl⟩ := List.mem_map.mp ht
    have := List.mem_range.mp hi
    omega
  rw [List.map_map] at e
  have c1 : evW G_law (.range1 (.call 0 (.cons (.nm 0) .nil) .nil)) [.dat (.lst (ns.map D.int)), .un] [] = some ((List.range k).map fun i => D.int (i : Nat), []) :=
    range1_nat (call1 (x := .lst (ns.map D.int)) rfl rfl rfl rfl (hk [])) (by omega)
  have c2 := ev_for (G := G_law) (t := .nm 1) (b := lawB) (S1 := []) rfl c1 e
  refine ⟨S, ?_⟩
  show bnd (evSs G_law b_law [.dat (.lst (ns.map D.int)), .un] []) _ = _
  have go : evSs G_law b_law [.dat (.lst (ns.map D.int)), .un] [] = some ((.ret (.bl true), [.dat (.lst (ns.map D.int)), E]), S) := by
    simp only [b_law]
    refine st_nx c2 ?_
    simp
  rw [go]
  rfl
end
end W
theorem PySem.Challenge.cw_withinrim_k33_whole_stepped_squares_told_holds : PySem.Challenge.rw_withinrim_k33_whole_stepped_squares_told.Holds :=
  THELAW W.main

